import PyProof.Rows.All
import Wide.All
import OpenK.AllK
import Wide.FinOn
import HandS.ForMost
import HandS.ForExc
import HandS.Walk
import HandS.Sort
import HandS.SortRule
import HandS.SortInts
import HandS.Flow
import HandS.IsInst
import HandS.Gcd
import HandS.ExcInit
import HandS.ExcIs
import HandS.ExcField
import HandS.TryOnly
import HandS.Defaults
import HandS.TupAny
import HandS.Conv
import HandS.Style
import HandS.HeadHook4
import HandS.HeadEnd
import HandS.Head2
import HandS.Evl
import HandS.Wide
import HandS.Head3
import PyProof.StrOps2
import KE.GoesMore
import HandS.HotCalls
import HandS.DictComp
import HandS.RevRange
import PySem.Challenge.RW_stormdesk_k74_whole_naming
set_option Elab.async false
set_option linter.all false
set_option maxRecDepth 100000
set_option maxHeartbeats 4000000
namespace Sd
open PySem L2
/-! ### results -/
inductive Ec where
  | DeskError | TooMany | BadName | BadRatio | BadSpan | BadLine | BadWorld | BadArea | BadGauge | BadRun | BadTable | BadSignals | Unlike
  | BadPerson | BadCall | BadTree | BadRule | BadDeed | NoBulletin | BadPair | Unplayable
  deriving DecidableEq, Repr
inductive Res (α : Type) where
  | ok (a : α)
  | exc (c : Ec) (i : Int)
  | bad
namespace Res
variable {α β γ : Type}
def bind (m : Res α) (k : α → Res β) : Res β := match m with
  | .ok a => k a
  | .exc c i => .exc c i
  | .bad => .bad
@[simp] theorem bind_ok (a : α) (k : α → Res β) : (Res.ok a).bind k = k a := rfl
@[simp] theorem bind_exc (c : Ec) (i : Int) (k : α → Res β) : (Res.exc c i).bind k = .exc c i := rfl
@[simp] theorem bind_bad (k : α → Res β) : (Res.bad).bind k = .bad := rfl
@[simp] theorem bind_assoc (m : Res α) (k : α → Res β) (l : β → Res γ) : (m.bind k).bind l = m.bind fun a => (k a).bind l := by cases m <;> rfl
@[simp] theorem bind_id (m : Res α) : m.bind .ok = m := by cases m <;> rfl
end Res
/-- what is wanted of a result -/
def Post {α : Type} (m : Res α) (Q : α → Prop) (X : Ec → Int → Prop) : Prop := match m with
  | .ok a => Q a
  | .exc c i => X c i
  | .bad => False
section
variable {α β : Type} {m : Res α} {k : α → Res β} {Q Q' : α → Prop} {R : β → Prop} {X X' : Ec → Int → Prop}
theorem Post.bind (h : Post (m.bind k) R X) : Post m (fun a => Post (k a) R X) X := by
  cases m with
  | ok a => exact h
  | exc c i => exact h
  | bad => exact h
theorem Post.of_bind (h : Post m (fun a => Post (k a) R X) X) : Post (m.bind k) R X := by
  cases m with
  | ok a => exact h
  | exc c i => exact h
  | bad => exact h
theorem Post.mono (h : Post m Q X) (q : ∀ a, Q a → Q' a) (x : ∀ c i, X c i → X' c i) : Post m Q' X' := by
  cases m with
  | ok a => exact q a h
  | exc c i => exact x c i h
  | bad => exact h
theorem Post.and (h : Post m Q X) (h' : Post m Q' X) : Post m (fun a => Q a ∧ Q' a) X := by
  cases m with
  | ok a => exact ⟨h, h'⟩
  | exc c i => exact h
  | bad => exact h
end
/-! ### the heap: what is known for good (I), what may change (C) -/
abbrev Ex (H H' : Hp) : Prop := ∀ a o, H a = some o → H' a = some o
theorem Ex.refl (H : Hp) : Ex H H := fun _ _ h => h
theorem Ex.trans {H H1 H2 : Hp} (a : Ex H H1) (b : Ex H1 H2) : Ex H H2 := fun x o h => b x o (a x o h)
theorem Ex.new {H : Hp} {p : Addr} {o : HO} (h : H p = none) : Ex H (upd H p o) := fun a u e => by
  rw [upd_ne (ne_of_none e h)]
  exact e
structure St (I C H : Hp) : Prop where
  i : Ex I H
  c : Ex C H
  s : ∀ a, I a = none ∨ C a = none
theorem Ex.free {H H' : Hp} {p : Addr} (e : Ex H H') (h : H' p = none) : H p = none := by
  cases q : H p with
  | none => rfl
  | some o =>
    rw [e p o q] at h
    cases h
section
variable {I I' C C' H H' : Hp} {p : Addr} {o u : HO}
/-- a new object, known for good -/
theorem St.newI (s : St I C H) (h : H p = none) : St (upd I p o) C (upd H p o) := by
  refine ⟨fun a v e => ?_, fun a v e => ?_, fun a => ?_⟩
  · by_cases q : a = p
    · subst q
      rw [upd_same] at e ⊢
      exact e
    · rw [upd_ne q] at e ⊢
      exact s.i a v e
  · rw [upd_ne (ne_of_none (s.c a v e) h)]
    exact s.c a v e
  · by_cases q : a = p
    · subst q
      exact .inr (s.c.free h)
    · rw [upd_ne q]
      exact s.s a
/-- a new object that may change -/
theorem St.newC (s : St I C H) (h : H p = none) : St I (upd C p o) (upd H p o) := by
  refine ⟨fun a v e => ?_, fun a v e => ?_, fun a => ?_⟩
  · rw [upd_ne (ne_of_none (s.i a v e) h)]
    exact s.i a v e
  · by_cases q : a = p
    · subst q
      rw [upd_same] at e ⊢
      exact e
    · rw [upd_ne q] at e ⊢
      exact s.c a v e
  · by_cases q : a = p
    · subst q
      exact .inl (s.i.free h)
    · rw [upd_ne q]
      exact s.s a
/-- a cell changes -/
theorem St.set (s : St I C H) (h : C p = some u) : St I (upd C p o) (upd H p o) := by
  have hi : I p = none := (s.s p).elim id fun z => by
    rw [z] at h
    cases h
  refine ⟨fun a v e => ?_, fun a v e => ?_, fun a => ?_⟩
  · rw [upd_ne (ne_of_none e hi)]
    exact s.i a v e
  · by_cases q : a = p
    · subst q
      rw [upd_same] at e ⊢
      exact e
    · rw [upd_ne q] at e ⊢
      exact s.c a v e
  · by_cases q : a = p
    · subst q
      exact .inl hi
    · rw [upd_ne q]
      exact s.s a
/-- a cell is known for good from now on -/
theorem St.frz (s : St I C H) (h : C p = some o) : St (upd I p o) (fun a => if a = p then none else C a) H := by
  refine ⟨fun a v e => ?_, fun a v e => ?_, fun a => ?_⟩
  · by_cases q : a = p
    · subst q
      rw [upd_same] at e
      cases e
      exact s.c a o h
    · rw [upd_ne q] at e
      exact s.i a v e
  · by_cases q : a = p
    · rw [if_pos q] at e
      cases e
    · rw [if_neg q] at e
      exact s.c a v e
  · by_cases q : a = p
    · exact .inr (if_pos q)
    · rw [upd_ne q, if_neg q]
      exact s.s a
theorem St.less (s : St I C H) (e : Ex C' C) : St I C' H := ⟨s.i, e.trans s.c, fun a => (s.s a).imp id fun z => e.free z⟩
theorem St.freeI (s : St I C H) (h : C p = some u) : I p = none := (s.s p).elim id fun z => by
  rw [z] at h
  cases h
end
/-! ### representation -/
structure Rp (α : Type) where
  r : α → V → Hp → Hp → Prop
  mono : ∀ {a : α} {v : V} {I I' C C' : Hp}, Ex I I' → Ex C C' → r a v I C → r a v I' C'
/-- .. by what is known for good alone -/
class Im {α : Type} (R : Rp α) : Prop where
  im : ∀ {a : α} {v : V} {I C C' : Hp}, R.r a v I C → R.r a v I C'
theorem Rp.to {α : Type} (R : Rp α) [Im R] {a : α} {v : V} {I I' C C' : Hp} (e : Ex I I') (h : R.r a v I C) : R.r a v I' C' := Im.im (R.mono e (Ex.refl C) h)
/-- item by item -/
inductive A2 {α : Type} (f : α → V → Prop) : List α → List V → Prop where
  | nil : A2 f [] []
  | cons {x : α} {v : V} {xs : List α} {vs : List V} : f x v → A2 f xs vs → A2 f (x :: xs) (v :: vs)
section
variable {α β : Type} {f g : α → V → Prop} {xs ys : List α} {vs ws : List V}
theorem A2.imp (h : ∀ x v, f x v → g x v) : ∀ {xs : List α} {vs : List V}, A2 f xs vs → A2 g xs vs
  | _, _, .nil => .nil
  | _, _, .cons r t => .cons (h _ _ r) (A2.imp h t)
theorem A2.len : ∀ {xs : List α} {vs : List V}, A2 f xs vs → vs.length = xs.length
  | _, _, .nil => rfl
  | _, _, .cons _ t => by rw [List.length_cons, List.length_cons, A2.len t]
theorem A2.get : ∀ {xs : List α} {vs : List V} {i : Nat} {v : V}, A2 f xs vs → vs[i]? = some v → ∃ x, xs[i]? = some x ∧ f x v
  | _, _, _, _, .nil, e => by cases e
  | _, _, 0, _, .cons r _, e => ⟨_, rfl, by
    have e2 := Option.some.inj e
    rw [← e2]
    exact r⟩
  | _, _, i + 1, _, .cons _ t, e => A2.get (i := i) t e
theorem A2.get' : ∀ {xs : List α} {vs : List V} {i : Nat} {x : α}, A2 f xs vs → xs[i]? = some x → ∃ v, vs[i]? = some v ∧ f x v
  | _, _, _, _, .nil, e => by cases e
  | _, _, 0, _, .cons r _, e => ⟨_, rfl, by
    have e2 := Option.some.inj e
    rw [← e2]
    exact r⟩
  | _, _, i + 1, _, .cons _ t, e => A2.get' (i := i) t e
theorem A2.append : ∀ {xs : List α} {vs : List V} {ys : List α} {ws : List V}, A2 f xs vs → A2 f ys ws → A2 f (xs ++ ys) (vs ++ ws)
  | _, _, _, _, .nil, s => s
  | _, _, _, _, .cons r t, s => .cons r (A2.append t s)
theorem A2.take : ∀ {xs : List α} {vs : List V} (n : Nat), A2 f xs vs → A2 f (xs.take n) (vs.take n)
  | _, _, 0, _ => .nil
  | _, _, _ + 1, .nil => .nil
  | _, _, n + 1, .cons r t => .cons r (A2.take n t)
theorem A2.drop : ∀ {xs : List α} {vs : List V} (n : Nat), A2 f xs vs → A2 f (xs.drop n) (vs.drop n)
  | _, _, 0, r => r
  | _, _, _ + 1, .nil => .nil
  | _, _, n + 1, .cons _ t => A2.drop n t
theorem A2.set {x : α} {v : V} (r : f x v) : ∀ {xs : List α} {vs : List V} (i : Nat), A2 f xs vs → A2 f (xs.set i x) (vs.set i v)
  | _, _, _, .nil => .nil
  | _, _, 0, .cons _ t => .cons r t
  | _, _, i + 1, .cons q t => .cons q (A2.set r i t)
theorem A2.dropLast : ∀ {xs : List α} {vs : List V}, A2 f xs vs → A2 f xs.dropLast vs.dropLast
  | _, _, .nil => .nil
  | _, _, .cons _ .nil => .nil
  | _, _, .cons r (.cons q t) => .cons r (A2.dropLast (.cons q t))
theorem A2.one {x : α} {v : V} (h : f x v) : A2 f [x] [v] := .cons h .nil
/-- scalars: the values are a map -/
theorem A2.map_iff {h : α → V} (hf : ∀ x v, f x v → v = h x) : ∀ {xs : List α} {vs : List V}, A2 f xs vs → vs = xs.map h
  | _, _, .nil => rfl
  | _, _, .cons r t => by rw [List.map_cons, hf _ _ r, A2.map_iff hf t]
theorem A2.of_map {h : α → V} (hf : ∀ x, f x (h x)) : ∀ xs : List α, A2 f xs (xs.map h)
  | [] => .nil
  | x :: r => .cons (hf x) (A2.of_map hf r)
end
def pI : Rp Int := ⟨fun i v _ _ => v = .int i, fun _ _ h => h⟩
def pB : Rp Bool := ⟨fun b v _ _ => v = .bl b, fun _ _ h => h⟩
def pS : Rp Str := ⟨fun x v _ _ => v = .str x ∧ PyData.strOk x = true, fun _ _ h => h⟩
def pN : Rp Unit := ⟨fun _ v _ _ => v = .non, fun _ _ h => h⟩
instance : Im pI := ⟨fun h => h⟩
instance : Im pB := ⟨fun h => h⟩
instance : Im pS := ⟨fun h => h⟩
instance : Im pN := ⟨fun h => h⟩
def oR {α : Type} (R : Rp α) (I C : Hp) : Option α → V → Prop
  | none, v => v = .non
  | some a, v => R.r a v I C ∧ v ≠ .non
def pO {α : Type} (R : Rp α) : Rp (Option α) := ⟨fun o v I C => oR R I C o v, fun {a v I I' C C'} e e' h => by
  cases a with
  | none => exact h
  | some a => exact ⟨R.mono e e' h.1, h.2⟩⟩
instance {α : Type} {R : Rp α} [Im R] : Im (pO R) := ⟨fun {a v I C C'} h => by
  cases a with
  | none => exact h
  | some a => exact ⟨Im.im h.1, h.2⟩⟩
theorem ex_l {K : PySem.W.Frag} {H H' : Hp} {a : Addr} {xs : List V} (e : Ex H H') (h : SqL K H a xs) : SqL K H' a xs := by
  rcases h with (h | ⟨o, h⟩) | h
  · exact .inl (.inl (e a _ h))
  · exact .inl (.inr ⟨o, e a _ h⟩)
  · exact .inr h
theorem ex_t {K : PySem.W.Frag} {H H' : Hp} {a : Addr} {xs : List V} (e : Ex H H') (h : SqT K H a xs) : SqT K H' a xs := by
  rcases h with (h | ⟨o, h⟩) | h
  · exact .inl (.inl (e a _ h))
  · exact .inl (.inr ⟨o, e a _ h⟩)
  · exact .inr h
/-- the places of a row of values -/
structure Rt (α : Type) where
  r : α → List V → Hp → Hp → Prop
  mono : ∀ {a : α} {vs : List V} {I I' C C' : Hp}, Ex I I' → Ex C C' → r a vs I C → r a vs I' C'
  n : Nat
  len : ∀ {a : α} {vs : List V} {I C : Hp}, r a vs I C → vs.length = n
class It {α : Type} (T : Rt α) : Prop where
  im : ∀ {a : α} {vs : List V} {I C C' : Hp}, T.r a vs I C → T.r a vs I C'
def t1 {α : Type} (R : Rp α) : Rt α := ⟨fun a vs I C => ∃ v, vs = [v] ∧ R.r a v I C, fun e e' ⟨v, h1, h2⟩ => ⟨v, h1, R.mono e e' h2⟩, 1, fun ⟨_, h, _⟩ => by rw [h]; rfl⟩
def tc {α β : Type} (R : Rp α) (T : Rt β) : Rt (α × β) := ⟨fun p vs I C => ∃ v us, vs = v :: us ∧ R.r p.1 v I C ∧ T.r p.2 us I C, fun e e' ⟨v, us, h1, h2, h3⟩ => ⟨v, us, h1, R.mono e e' h2, T.mono e e' h3⟩, T.n + 1,
  fun ⟨_, _, h, _, h3⟩ => by rw [h, List.length_cons, T.len h3]⟩
instance {α : Type} {R : Rp α} [Im R] : It (t1 R) := ⟨fun ⟨v, h1, h2⟩ => ⟨v, h1, Im.im h2⟩⟩
instance {α β : Type} {R : Rp α} {T : Rt β} [Im R] [It T] : It (tc R T) := ⟨fun ⟨v, us, h1, h2, h3⟩ => ⟨v, us, h1, Im.im h2, It.im h3⟩⟩
section
variable (K : PySem.W.Frag) {α : Type}
/-- a list -/
def pL (R : Rp α) : Rp (List α) := ⟨fun xs v I C => ∃ a vs, v = .ref a ∧ I a = some (.lst vs) ∧ vs.length ≤ sizeLine ∧ A2 (fun x u => R.r x u I C) xs vs,
  fun e e' ⟨a, vs, h1, h2, h3, h4⟩ => ⟨a, vs, h1, e a _ h2, h3, h4.imp fun _ _ => R.mono e e'⟩⟩
/-- a tuple of any length -/
def pQ (R : Rp α) : Rp (List α) := ⟨fun xs v I C => ∃ a vs, v = .ref a ∧ SqT K I a vs ∧ vs.length ≤ sizeLine ∧ A2 (fun x u => R.r x u I C) xs vs,
  fun e e' ⟨a, vs, h1, h2, h3, h4⟩ => ⟨a, vs, h1, ex_t e h2, h3, h4.imp fun _ _ => R.mono e e'⟩⟩
/-- a list that is read: known for good, or a cell -/
def pV (R : Rp α) : Rp (List α) := ⟨fun xs v I C => ∃ a vs, v = .ref a ∧ (I a = some (.lst vs) ∨ C a = some (.lst vs)) ∧ vs.length ≤ sizeLine ∧ A2 (fun x u => R.r x u I C) xs vs,
  fun e e' ⟨a, vs, h1, h2, h3, h4⟩ => ⟨a, vs, h1, h2.imp (e a _) (e' a _), h3, h4.imp fun _ _ => R.mono e e'⟩⟩
/-- the script -/
def pW (R : Rp α) : Rp (List α) := ⟨fun xs v I C => ∃ a vs, v = .ref a ∧ SqL K I a vs ∧ vs.length ≤ sizeLine ∧ A2 (fun x u => R.r x u I C) xs vs,
  fun e e' ⟨a, vs, h1, h2, h3, h4⟩ => ⟨a, vs, h1, ex_l e h2, h3, h4.imp fun _ _ => R.mono e e'⟩⟩
/-- a tuple, a list, with fixed places -/
def pT (T : Rt α) : Rp α := ⟨fun x v I C => ∃ a vs, v = .ref a ∧ I a = some (.tup vs) ∧ T.r x vs I C, fun e e' ⟨a, vs, h1, h2, h3⟩ => ⟨a, vs, h1, e a _ h2, T.mono e e' h3⟩⟩
/-- a tuple that may stand in the written part -/
def pU (T : Rt α) : Rp α := ⟨fun x v I C => ∃ a vs, v = .ref a ∧ SqT K I a vs ∧ T.r x vs I C, fun e e' ⟨a, vs, h1, h2, h3⟩ => ⟨a, vs, h1, ex_t e h2, T.mono e e' h3⟩⟩
def pD (T : Rt α) : Rp α := ⟨fun x v I C => ∃ a vs, v = .ref a ∧ I a = some (.lst vs) ∧ T.r x vs I C, fun e e' ⟨a, vs, h1, h2, h3⟩ => ⟨a, vs, h1, e a _ h2, T.mono e e' h3⟩⟩
instance {T : Rt α} [It T] : Im (pU K T) := ⟨fun ⟨a, vs, h1, h2, h3⟩ => ⟨a, vs, h1, h2, It.im h3⟩⟩
instance {R : Rp α} [Im R] : Im (pW K R) := ⟨fun ⟨a, vs, h1, h2, h3, h4⟩ => ⟨a, vs, h1, h2, h3, h4.imp fun _ _ => Im.im⟩⟩
instance {R : Rp α} [Im R] : Im (pL R) := ⟨fun ⟨a, vs, h1, h2, h3, h4⟩ => ⟨a, vs, h1, h2, h3, h4.imp fun _ _ => Im.im⟩⟩
instance {R : Rp α} [Im R] : Im (pQ K R) := ⟨fun ⟨a, vs, h1, h2, h3, h4⟩ => ⟨a, vs, h1, h2, h3, h4.imp fun _ _ => Im.im⟩⟩
instance {T : Rt α} [It T] : Im (pT T) := ⟨fun ⟨a, vs, h1, h2, h3⟩ => ⟨a, vs, h1, h2, It.im h3⟩⟩
instance {T : Rt α} [It T] : Im (pD T) := ⟨fun ⟨a, vs, h1, h2, h3⟩ => ⟨a, vs, h1, h2, It.im h3⟩⟩
end
/-- the k-th place of such a row, its reading f -/
def Pj {α β : Type} (T : Rt α) (k : Nat) (f : α → β) (R : Rp β) : Prop := ∀ x vs I C, T.r x vs I C → ∃ w, vs[k]? = some w ∧ R.r (f x) w I C
theorem pj1 {α : Type} {R : Rp α} : Pj (t1 R) 0 (fun x => x) R := fun x vs I C ⟨v, h1, h2⟩ => ⟨v, by rw [h1]; rfl, h2⟩
theorem pj0 {α β : Type} {R : Rp α} {T : Rt β} : Pj (tc R T) 0 (fun x => x.1) R := fun x vs I C ⟨v, us, h1, h2, _⟩ => ⟨v, by rw [h1]; rfl, h2⟩
theorem pjs {α β γ : Type} {R : Rp α} {T : Rt β} {S : Rp γ} {k : Nat} {f : β → γ} (h : Pj T k f S) : Pj (tc R T) (k + 1) (fun x => f x.2) S := fun x vs I C ⟨v, us, h1, _, h3⟩ => by
  obtain ⟨w, e, r⟩ := h x.2 us I C h3
  exact ⟨w, by rw [h1]; exact e, r⟩
/-- the k-th place stored -/
def Pk {α β : Type} (T : Rt α) (k : Nat) (g : α → β → α) (R : Rp β) : Prop := ∀ x vs I C b w, T.r x vs I C → R.r b w I C → T.r (g x b) (vs.set k w) I C ∧ k < vs.length
theorem pk1 {α : Type} {R : Rp α} : Pk (t1 R) 0 (fun _ b => b) R := fun x vs I C b w ⟨v, h1, h2⟩ r => by
  subst h1
  exact ⟨⟨w, rfl, r⟩, Nat.zero_lt_one⟩
theorem pk0 {α β : Type} {R : Rp α} {T : Rt β} : Pk (tc R T) 0 (fun x b => (b, x.2)) R := fun x vs I C b w ⟨v, us, h1, h2, h3⟩ r => by
  subst h1
  exact ⟨⟨w, us, rfl, r, h3⟩, Nat.succ_pos _⟩
theorem pks {α β γ : Type} {R : Rp α} {T : Rt β} {S : Rp γ} {k : Nat} {g : β → γ → β} (h : Pk T k g S) : Pk (tc R T) (k + 1) (fun x b => (x.1, g x.2 b)) S := fun x vs I C b w ⟨v, us, h1, h2, h3⟩ r => by
  subst h1
  obtain ⟨q, l⟩ := h x.2 us I C b w h3 r
  exact ⟨⟨v, us.set k w, rfl, h2, q⟩, Nat.succ_lt_succ l⟩

/-! ### what an expression gives -/
def Ec.name : Ec → Str
  | .DeskError => "DeskError" | .TooMany => "TooMany" | .BadName => "BadName" | .BadRatio => "BadRatio" | .BadSpan => "BadSpan" | .BadLine => "BadLine"
  | .BadWorld => "BadWorld" | .BadArea => "BadArea" | .BadGauge => "BadGauge" | .BadRun => "BadRun" | .BadTable => "BadTable" | .BadSignals => "BadSignals"
  | .Unlike => "Unlike" | .BadPerson => "BadPerson" | .BadCall => "BadCall" | .BadTree => "BadTree" | .BadRule => "BadRule" | .BadDeed => "BadDeed"
  | .NoBulletin => "NoBulletin" | .BadPair => "BadPair" | .Unplayable => "Unplayable"
/-- what is wanted of an error that leaves: E, where all stands as it was -/
def PX (E : XK) (K : PySem.W.Frag) (I C : Hp) (c : Ec) (i : Int) : Prop := ∀ d I2 H2, Ex I I2 → St I2 C H2 → I2 d = some (.xd [(("at" : Str), .int i)]) → E (.ref (He.ga K c.name)) (some d) H2
theorem PX.mono {E : XK} {K : PySem.W.Frag} {I I' C C' : Hp} {c : Ec} {i : Int} (e : Ex I I') (e' : Ex C C') (h : PX E K I C c i) : PX E K I' C' c i := fun d I2 H2 a s q => h d I2 H2 (e.trans a) (s.less e') q
abbrev PQ {α : Type} (R : Rp α) (I C : Hp) (Q : VK) (a : α) : Prop := ∀ v I2 H2, Ex I I2 → St I2 C H2 → R.r a v I2 C → Q v H2
def EvX (E : XK) (K : PySem.W.Frag) (te : TE) (σ : L2.St) (I C : Hp) {α : Type} (m : Res α) (R : Rp α) : Prop :=
  ∀ I1 C1 H1, Ex I I1 → Ex C C1 → St I1 C1 H1 → ∀ Q : VK, Post m (PQ R I1 C1 Q) (PX E K I1 C1) → te σ H1 Q
def EvT (E : XK) (K : PySem.W.Frag) (tt : TT) (σ : L2.St) (I C : Hp) (m : Res Bool) : Prop :=
  ∀ I1 C1 H1, Ex I I1 → Ex C C1 → St I1 C1 H1 → ∀ Q : Bool → Hp → Prop, Post m (fun b => ∀ I2 H2, Ex I1 I2 → St I2 C1 H2 → Q b H2) (PX E K I1 C1) → tt σ H1 Q
def EvA (E : XK) (K : PySem.W.Frag) (ta : TA) (σ : L2.St) (I C : Hp) {α : Type} (m : Res α) (T : Rt α) : Prop :=
  ∀ I1 C1 H1, Ex I I1 → Ex C C1 → St I1 C1 H1 → ∀ Q : List V → Hp → Prop, Post m (fun a => ∀ vs I2 H2, Ex I1 I2 → St I2 C1 H2 → T.r a vs I2 C1 → Q vs H2) (PX E K I1 C1) → ta σ H1 Q
/-- a rule on values -/
def Op1 (E : XK) (K : PySem.W.Frag) (r : V → Hp → VK → Prop) {α γ : Type} (f : α → Res γ) (R : Rp α) (T : Rp γ) : Prop :=
  ∀ I C H a x, St I C H → R.r a x I C → ∀ Q : VK, Post (f a) (PQ T I C Q) (PX E K I C) → r x H Q
def Op2 (E : XK) (K : PySem.W.Frag) (r : R2) {α β γ : Type} (f : α → β → Res γ) (R : Rp α) (S : Rp β) (T : Rp γ) : Prop :=
  ∀ I C H a b x y, St I C H → R.r a x I C → S.r b y I C → ∀ Q : VK, Post (f a b) (PQ T I C Q) (PX E K I C) → r x y H Q
def OpL (E : XK) (K : PySem.W.Frag) (r : List V → Hp → VK → Prop) {α γ : Type} (f : α → Res γ) (R : Rt α) (T : Rp γ) : Prop :=
  ∀ I C H a vs, St I C H → R.r a vs I C → ∀ Q : VK, Post (f a) (PQ T I C Q) (PX E K I C) → r vs H Q
def un {α γ : Type} (f : α → Res γ) (m : Res α) : Res γ := m.bind f
def bin {α β γ : Type} (f : α → β → Res γ) (m : Res α) (n : Res β) : Res γ := m.bind fun a => n.bind fun b => f a b
def pair {α β : Type} (m : Res α) (n : Res β) : Res (α × β) := m.bind fun a => n.bind fun b => .ok (a, b)
@[simp] theorem un_ok {α γ : Type} (f : α → Res γ) (a : α) : un f (.ok a) = f a := rfl
@[simp] theorem bin_ok {α β γ : Type} (f : α → β → Res γ) (a : α) (b : β) : bin f (.ok a) (.ok b) = f a b := rfl
@[simp] theorem pair_ok {α β : Type} (a : α) (b : β) : pair (.ok a) (.ok b) = .ok (a, b) := rfl
section
variable {E : XK} {K : PySem.W.Frag} {σ : L2.St} {I I' C C' : Hp} {α β γ : Type} {m : Res α} {n : Res β} {R : Rp α} {S : Rp β} {T : Rp γ} {ta tb te : TE} {tt tu : TT}
theorem EvX.mono (e : Ex I I') (e' : Ex C C') (h : EvX E K te σ I C m R) : EvX E K te σ I' C' m R := fun I1 C1 H1 a b s Q q => h I1 C1 H1 (e.trans a) (e'.trans b) s Q q
theorem PQ.ret {I1 C1 H1 : Hp} {Q : VK} {a : α} {v : V} (q : PQ R I1 C1 Q a) (s : St I1 C1 H1) (r : R.r a v I1 C1) : Q v H1 := q v I1 H1 (Ex.refl _) s r
theorem x_var {i : Nat} {v : V} {a : α} (h : σ[i]? = some (some v)) (r : R.r a v I C) : EvX E K (tVar i) σ I C (.ok a) R := fun I1 C1 H1 e e' s Q q => ⟨v, h, PQ.ret (R := R) (a := a) q s (R.mono e e' r)⟩
theorem x_c {v : V} {a : α} (r : ∀ I C, R.r a v I C) : EvX E K (tC v) σ I C (.ok a) R := fun I1 C1 H1 e e' s Q q => PQ.ret (R := R) (a := a) q s (r _ _)
theorem x_int {i : Int} : EvX E K (tC (.int i)) σ I C (.ok i) pI := x_c fun _ _ => rfl
theorem x_bl {b : Bool} : EvX E K (tC (.bl b)) σ I C (.ok b) pB := x_c fun _ _ => rfl
theorem x_str {x : Str} (h : PyData.strOk x = true) : EvX E K (tC (.str x)) σ I C (.ok x) pS := x_c fun _ _ => ⟨rfl, h⟩
theorem x_non : EvX E K (tC .non) σ I C (.ok ()) pN := x_c fun _ _ => rfl
theorem x_un {r : V → Hp → VK → Prop} {f : α → Res γ} (hr : Op1 E K r f R T) (h : EvX E K ta σ I C m R) : EvX E K (tUn r ta) σ I C (un f m) T := fun I1 C1 H1 e e' s Q q =>
  h I1 C1 H1 e e' s _ ((Post.bind q).mono (fun a p v I2 H2 e2 s2 rv => hr I2 C1 H2 a v s2 rv Q (p.mono (fun c z w I3 H3 e3 s3 rw => z w I3 H3 (e2.trans e3) s3 rw) fun c i z => z.mono e2 (Ex.refl _))) fun _ _ z => z)
theorem x_op {r : R2} {f : α → β → Res γ} (hr : Op2 E K r f R S T) (h1 : EvX E K ta σ I C m R) (h2 : EvX E K tb σ I C n S) : EvX E K (tOp r ta tb) σ I C (bin f m n) T := fun I1 C1 H1 e e' s Q q =>
  h1 I1 C1 H1 e e' s _ ((Post.bind q).mono (fun a p x I2 H2 e2 s2 rx =>
    h2 I2 C1 H2 (e.trans e2) e' s2 _ ((Post.bind p).mono (fun b p2 y I3 H3 e3 s3 ry =>
      hr I3 C1 H3 a b x y s3 (R.mono e3 (Ex.refl _) rx) ry Q (p2.mono (fun c z w I4 H4 e4 s4 rw => z w I4 H4 (e2.trans (e3.trans e4)) s4 rw) fun c i z => z.mono (e2.trans e3) (Ex.refl _))) fun c i z => z.mono e2 (Ex.refl _)))
    fun _ _ z => z)
theorem a_nil : EvA E K tNil σ I C (.ok ()) (⟨fun _ vs _ _ => vs = [], fun _ _ h => h, 0, fun h => by rw [h]; rfl⟩ : Rt Unit) := fun I1 C1 H1 e e' s Q q => q [] I1 H1 (Ex.refl _) s rfl
theorem a_one (h : EvX E K ta σ I C m R) : EvA E K (tCons ta tNil) σ I C m (t1 R) := fun I1 C1 H1 e e' s Q q =>
  h I1 C1 H1 e e' s _ (q.mono (fun a p v I2 H2 e2 s2 rv => p [v] I2 H2 e2 s2 ⟨v, rfl, rv⟩) fun _ _ z => z)
theorem a_cons {tr : TA} {T : Rt β} (h1 : EvX E K ta σ I C m R) (h2 : EvA E K tr σ I C n T) : EvA E K (tCons ta tr) σ I C (pair m n) (tc R T) := fun I1 C1 H1 e e' s Q q =>
  h1 I1 C1 H1 e e' s _ ((Post.bind q).mono (fun a p x I2 H2 e2 s2 rx =>
    h2 I2 C1 H2 (e.trans e2) e' s2 _ ((Post.bind p).mono (fun b p2 ys I3 H3 e3 s3 ry => p2 (x :: ys) I3 H3 (e2.trans e3) s3 ⟨x, ys, rfl, R.mono e3 (Ex.refl _) rx, ry⟩) fun c i z => z.mono e2 (Ex.refl _)))
    fun _ _ z => z)
theorem x_cb {r : List V → Hp → VK → Prop} {f : α → Res γ} {A : Rt α} {tr : TA} (hr : OpL E K r f A T) (h : EvA E K tr σ I C m A) : EvX E K (tCB r tr) σ I C (un f m) T := fun I1 C1 H1 e e' s Q q =>
  h I1 C1 H1 e e' s _ ((Post.bind q).mono (fun a p vs I2 H2 e2 s2 rv => hr I2 C1 H2 a vs s2 rv Q (p.mono (fun c z w I3 H3 e3 s3 rw => z w I3 H3 (e2.trans e3) s3 rw) fun c i z => z.mono e2 (Ex.refl _))) fun _ _ z => z)
/-- tuples, lists with fixed places -/
theorem x_tup {A : Rt α} {tr : TA} (h : EvA E K tr σ I C m A) (hn : A.n ≤ 100) : EvX E K (tTup tr) σ I C m (pT A) := fun I1 C1 H1 e e' s Q q =>
  h I1 C1 H1 e e' s _ (q.mono (fun a p vs I2 H2 e2 s2 rv => ⟨by rw [A.len rv]; exact Nat.le_trans hn (by decide), fun t ht => p _ (upd I2 t (.tup vs)) _ (e2.trans (Ex.new (s2.i.free ht))) (s2.newI ht) ⟨t, vs, rfl, upd_same, A.mono (Ex.new (s2.i.free ht)) (Ex.refl _) rv⟩⟩) fun _ _ z => z)
theorem x_lstD {A : Rt α} {tr : TA} (h : EvA E K tr σ I C m A) (hn : A.n ≤ 100) : EvX E K (tLst tr) σ I C m (pD A) := fun I1 C1 H1 e e' s Q q =>
  h I1 C1 H1 e e' s _ (q.mono (fun a p vs I2 H2 e2 s2 rv => ⟨by rw [A.len rv]; exact Nat.le_trans hn (by decide), fun t ht => p _ (upd I2 t (.lst vs)) _ (e2.trans (Ex.new (s2.i.free ht))) (s2.newI ht) ⟨t, vs, rfl, upd_same, A.mono (Ex.new (s2.i.free ht)) (Ex.refl _) rv⟩⟩) fun _ _ z => z)
/-- a row of things of one kind -/
def tL (R : Rp α) (n : Nat) : Rt (List α) := ⟨fun xs vs I C => vs.length = n ∧ A2 (fun x u => R.r x u I C) xs vs, fun e e' ⟨h1, h2⟩ => ⟨h1, h2.imp fun _ _ => R.mono e e'⟩, n, fun h => h.1⟩
def consR (m : Res α) (n : Res (List α)) : Res (List α) := m.bind fun a => n.bind fun b => .ok (a :: b)
theorem al_nil : EvA E K tNil σ I C (.ok []) (tL R 0) := fun I1 C1 H1 e e' s Q q => q [] I1 H1 (Ex.refl _) s ⟨rfl, .nil⟩
theorem al_cons {tr : TA} {k : Nat} {n : Res (List α)} (h1 : EvX E K ta σ I C m R) (h2 : EvA E K tr σ I C n (tL R k)) : EvA E K (tCons ta tr) σ I C (consR m n) (tL R (k + 1)) := fun I1 C1 H1 e e' s Q q =>
  h1 I1 C1 H1 e e' s _ ((Post.bind q).mono (fun a p x I2 H2 e2 s2 rx =>
    h2 I2 C1 H2 (e.trans e2) e' s2 _ ((Post.bind p).mono (fun b p2 ys I3 H3 e3 s3 ry => p2 (x :: ys) I3 H3 (e2.trans e3) s3 ⟨by rw [List.length_cons, ry.1], .cons (R.mono e3 (Ex.refl _) rx) ry.2⟩) fun c i z => z.mono e2 (Ex.refl _)))
    fun _ _ z => z)
theorem x_lst {k : Nat} {m : Res (List α)} {tr : TA} (h : EvA E K tr σ I C m (tL R k)) (hn : k ≤ 100) : EvX E K (tLst tr) σ I C m (pL R) := fun I1 C1 H1 e e' s Q q =>
  h I1 C1 H1 e e' s _ (q.mono (fun a p vs I2 H2 e2 s2 rv => by
    have hl : vs.length ≤ sizeLine := by
      rw [rv.1]
      exact Nat.le_trans hn (by decide)
    exact ⟨hl, fun t ht => p _ (upd I2 t (.lst vs)) _ (e2.trans (Ex.new (s2.i.free ht))) (s2.newI ht) ⟨t, vs, rfl, upd_same, hl, rv.2.imp fun _ _ => R.mono (Ex.new (s2.i.free ht)) (Ex.refl _)⟩⟩) fun _ _ z => z)
/-- a list as one that is read -/
theorem x_v {m : Res (List α)} (h : EvX E K te σ I C m (pL R)) : EvX E K te σ I C m (pV R) := fun I1 C1 H1 e e' s Q q =>
  h I1 C1 H1 e e' s Q (q.mono (fun a p v I2 H2 e2 s2 ⟨a, vs, h1, h2, h3, h4⟩ => p v I2 H2 e2 s2 ⟨a, vs, h1, .inl h2, h3, h4⟩) fun _ _ z => z)
theorem x_is' {β : Type} {T : Rt β} {tr : TA} {m m' : Res β} (h : EvA E K tr σ I C m T) (e : m = m') : EvA E K tr σ I C m' T := e ▸ h
theorem x_is {m' : Res α} (h : EvX E K te σ I C m R) (e : m = m') : EvX E K te σ I C m' R := e ▸ h
/-! tests -/
theorem t_test {m : Res Bool} (h : EvX E K te σ I C m pB) : EvT E K (tTest te) σ I C m := fun I1 C1 H1 e e' s Q q => h I1 C1 H1 e e' s _ (q.mono (fun b p v I2 H2 e2 s2 rv => ⟨b, rv, p I2 H2 e2 s2⟩) fun _ _ z => z)
theorem t_B {m : Res Bool} (h : EvX E K te σ I C m pB) : EvT E K (tB te) σ I C m := fun I1 C1 H1 e e' s Q q => h I1 C1 H1 e e' s _ (q.mono (fun b p v I2 H2 e2 s2 rv => ⟨b, rv, p I2 H2 e2 s2⟩) fun _ _ z => z)
def andR (m n : Res Bool) : Res Bool := m.bind fun b => if b = true then n else .ok false
def orR (m n : Res Bool) : Res Bool := m.bind fun b => if b = true then .ok true else n
def notR (b : Bool) : Res Bool := .ok (!b)
@[simp] theorem andR_ok (a b : Bool) : andR (.ok a) (.ok b) = .ok (a && b) := by cases a <;> rfl
@[simp] theorem orR_ok (a b : Bool) : orR (.ok a) (.ok b) = .ok (a || b) := by cases a <;> rfl
@[simp] theorem andR_true (m : Res Bool) : andR (.ok true) m = m := rfl
@[simp] theorem andR_false (m : Res Bool) : andR (.ok false) m = .ok false := rfl
@[simp] theorem orR_true (m : Res Bool) : orR (.ok true) m = .ok true := rfl
@[simp] theorem orR_false (m : Res Bool) : orR (.ok false) m = m := rfl
@[simp] theorem notR_eq (b : Bool) : notR b = .ok (!b) := rfl
theorem t_and {m n : Res Bool} (h1 : EvT E K tt σ I C m) (h2 : EvT E K tu σ I C n) : EvT E K (tAnd tt tu) σ I C (andR m n) := fun I1 C1 H1 e e' s Q q =>
  h1 I1 C1 H1 e e' s _ ((Post.bind q).mono (fun b p I2 H2 e2 s2 => by
    cases b with
    | true => exact h2 I2 C1 H2 (e.trans e2) e' s2 Q (Post.mono (m := n) p (fun b z I3 H3 e3 s3 => z I3 H3 (e2.trans e3) s3) fun c i z => z.mono e2 (Ex.refl _))
    | false => exact p I2 H2 e2 s2) fun _ _ z => z)
theorem t_or {m n : Res Bool} (h1 : EvT E K tt σ I C m) (h2 : EvT E K tu σ I C n) : EvT E K (tOr tt tu) σ I C (orR m n) := fun I1 C1 H1 e e' s Q q =>
  h1 I1 C1 H1 e e' s _ ((Post.bind q).mono (fun b p I2 H2 e2 s2 => by
    cases b with
    | false => exact h2 I2 C1 H2 (e.trans e2) e' s2 Q (Post.mono (m := n) p (fun b z I3 H3 e3 s3 => z I3 H3 (e2.trans e3) s3) fun c i z => z.mono e2 (Ex.refl _))
    | true => exact p I2 H2 e2 s2) fun _ _ z => z)
theorem t_not {m : Res Bool} (h : EvT E K tt σ I C m) : EvT E K (tNot tt) σ I C (un notR m) := fun I1 C1 H1 e e' s Q q =>
  h I1 C1 H1 e e' s _ ((Post.bind q).mono (fun b p I2 H2 e2 s2 => p I2 H2 e2 s2) fun _ _ z => z)
theorem x_andV {m n : Res Bool} (h1 : EvX E K ta σ I C m pB) (h2 : EvX E K tb σ I C n pB) : EvX E K (tAndV ta tb) σ I C (andR m n) pB := fun I1 C1 H1 e e' s Q q =>
  h1 I1 C1 H1 e e' s _ ((Post.bind q).mono (fun b p v I2 H2 e2 s2 rv => ⟨b, rv, by
    cases b with
    | true => exact h2 I2 C1 H2 (e.trans e2) e' s2 Q (Post.mono (m := n) p (fun b z v I3 H3 e3 s3 => z v I3 H3 (e2.trans e3) s3) fun c i z => z.mono e2 (Ex.refl _))
    | false => exact p (.bl false) I2 H2 e2 s2 rfl⟩) fun _ _ z => z)
theorem x_orV {m n : Res Bool} (h1 : EvX E K ta σ I C m pB) (h2 : EvX E K tb σ I C n pB) : EvX E K (tOrV ta tb) σ I C (orR m n) pB := fun I1 C1 H1 e e' s Q q =>
  h1 I1 C1 H1 e e' s _ ((Post.bind q).mono (fun b p v I2 H2 e2 s2 rv => ⟨b, rv, by
    cases b with
    | false => exact h2 I2 C1 H2 (e.trans e2) e' s2 Q (Post.mono (m := n) p (fun b z v I3 H3 e3 s3 => z v I3 H3 (e2.trans e3) s3) fun c i z => z.mono e2 (Ex.refl _))
    | true => exact p (.bl true) I2 H2 e2 s2 rfl⟩) fun _ _ z => z)
theorem x_notV {m : Res Bool} (h : EvX E K te σ I C m pB) : EvX E K (tNotV te) σ I C (un notR m) pB := fun I1 C1 H1 e e' s Q q =>
  h I1 C1 H1 e e' s _ ((Post.bind q).mono (fun b p v I2 H2 e2 s2 rv => ⟨b, rv, p _ I2 H2 e2 s2 rfl⟩) fun _ _ z => z)
def ifR {α : Type} (c : Res Bool) (m n : Res α) : Res α := c.bind fun b => if b = true then m else n
@[simp] theorem ifR_ok {α : Type} (b : Bool) (m n : Res α) : ifR (.ok b) m n = if b = true then m else n := rfl
theorem x_if {c : Res Bool} {m n : Res α} (h : EvT E K tt σ I C c) (h1 : EvX E K ta σ I C m R) (h2 : EvX E K tb σ I C n R) : EvX E K (tIf tt ta tb) σ I C (ifR c m n) R := fun I1 C1 H1 e e' s Q q =>
  h I1 C1 H1 e e' s _ ((Post.bind q).mono (fun b p I2 H2 e2 s2 => by
    cases b with
    | true => exact h1 I2 C1 H2 (e.trans e2) e' s2 Q (Post.mono (m := m) p (fun b z v I3 H3 e3 s3 => z v I3 H3 (e2.trans e3) s3) fun c i z => z.mono e2 (Ex.refl _))
    | false => exact h2 I2 C1 H2 (e.trans e2) e' s2 Q (Post.mono (m := n) p (fun b z v I3 H3 e3 s3 => z v I3 H3 (e2.trans e3) s3) fun c i z => z.mono e2 (Ex.refl _))) fun _ _ z => z)
end
end Sd

namespace Sd
open PySem L2
/-! ### rules on values -/
section
variable {E : XK} {K : PySem.W.Frag} {α β γ : Type} {R : Rp α}
theorem PQ.now {I C H : Hp} {Q : VK} {a : α} {v : V} (q : PQ R I C Q a) (s : St I C H) (r : R.r a v I C) : Q v H := q v I H (Ex.refl _) s r
def rAdd (a b : Int) : Res Int := .ok (a + b)
def rSub (a b : Int) : Res Int := .ok (a - b)
@[irreducible] def rMul (a b : Int) : Res Int := if a.natAbs < 18446744073709551616 ∨ b.natAbs < 18446744073709551616 then .ok (a * b) else .bad
@[irreducible] def rMod (a b : Int) : Res Int := if 0 < b then .ok (a % b) else .bad
@[irreducible] def rDiv (a b : Int) : Res Int := if 0 < b ∧ b.natAbs < 1073741824 then .ok (a / b) else .bad
@[irreducible] def rPow (a b : Int) : Res Int := if 0 ≤ b ∧ b.natAbs ≤ 1000000 ∧ a.natAbs < 2 ^ 64 then .ok (a ^ b.toNat) else .bad
def rNeg (a : Int) : Res Int := .ok (-a)
@[simp] theorem rAdd_eq (a b : Int) : rAdd a b = .ok (a + b) := rfl
@[simp] theorem rSub_eq (a b : Int) : rSub a b = .ok (a - b) := rfl
@[simp] theorem rNeg_eq (a : Int) : rNeg a = .ok (-a) := rfl
theorem rMul_ok {a b : Int} (h : (-(2 ^ 64) < a ∧ a < 2 ^ 64) ∨ (-(2 ^ 64) < b ∧ b < 2 ^ 64)) : rMul a b = .ok (a * b) := by
  unfold rMul
  exact if_pos (by omega)
theorem rMod_ok {a b : Int} (h : 0 < b) : rMod a b = .ok (a % b) := by
  unfold rMod
  exact if_pos h
theorem rDiv_ok {a b : Int} (h : 0 < b ∧ b < 1073741824) : rDiv a b = .ok (a / b) := by
  unfold rDiv
  exact if_pos (by omega)
theorem rPow_ok {a b : Int} (h : 0 ≤ b ∧ b ≤ 1000000 ∧ a.natAbs < 2 ^ 64) : rPow a b = .ok (a ^ b.toNat) := by
  unfold rPow
  exact if_pos ⟨h.1, by omega, h.2.2⟩
theorem o_add : Op2 E K (rI0 fun i j => .int (i + j)) rAdd pI pI pI := fun I C H a b x y s hx hy Q q => ⟨a, b, hx, hy, PQ.now q s rfl⟩
theorem o_sub : Op2 E K (rI0 fun i j => .int (i - j)) rSub pI pI pI := fun I C H a b x y s hx hy Q q => ⟨a, b, hx, hy, PQ.now q s rfl⟩
theorem o_mul : Op2 E K (rI CMul fun i j => .int (i * j)) rMul pI pI pI := fun I C H a b x y s hx hy Q q => by
  unfold rMul at q
  split at q
  · rename_i h
    exact ⟨a, b, hx, hy, (show (-(2 ^ 64) < a ∧ a < 2 ^ 64) ∨ (-(2 ^ 64) < b ∧ b < 2 ^ 64) from by omega), PQ.now q s rfl⟩
  · exact q.elim
theorem o_mod : Op2 E K (rI (fun _ j => 0 < j) fun i j => .int (i % j)) rMod pI pI pI := fun I C H a b x y s hx hy Q q => by
  unfold rMod at q
  split at q
  · rename_i h
    exact ⟨a, b, hx, hy, h, PQ.now q s rfl⟩
  · exact q.elim
theorem o_fdiv : Op2 E K (rI CDiv fun i j => .int (i / j)) rDiv pI pI pI := fun I C H a b x y s hx hy Q q => by
  unfold rDiv at q
  split at q
  · rename_i h
    exact ⟨a, b, hx, hy, ⟨h.1, by omega⟩, PQ.now q s rfl⟩
  · exact q.elim
theorem o_pow : Op2 E K (rI CPow fun i j => .int (i ^ j.toNat)) rPow pI pI pI := fun I C H a b x y s hx hy Q q => by
  unfold rPow at q
  split at q
  · rename_i h
    exact ⟨a, b, hx, hy, ⟨h.1, by omega, h.2.2⟩, PQ.now q s rfl⟩
  · exact q.elim
theorem o_neg : Op1 E K (rU fun i => .int (-i)) rNeg pI pI := fun I C H a x s hx Q q => ⟨a, hx, PQ.now q s rfl⟩
/-! comparisons -/
def rLt (a b : Int) : Res Bool := .ok (decide (a < b))
def rLe (a b : Int) : Res Bool := .ok (decide (a ≤ b))
def rGt (a b : Int) : Res Bool := .ok (decide (b < a))
def rGe (a b : Int) : Res Bool := .ok (decide (b ≤ a))
@[simp] theorem rLt_eq (a b : Int) : rLt a b = .ok (decide (a < b)) := rfl
@[simp] theorem rLe_eq (a b : Int) : rLe a b = .ok (decide (a ≤ b)) := rfl
@[simp] theorem rGt_eq (a b : Int) : rGt a b = .ok (decide (b < a)) := rfl
@[simp] theorem rGe_eq (a b : Int) : rGe a b = .ok (decide (b ≤ a)) := rfl
theorem o_lt : Op2 E K (rI0 fun i j => .bl (decide (i < j))) rLt pI pI pB := fun I C H a b x y s hx hy Q q => ⟨a, b, hx, hy, PQ.now q s rfl⟩
theorem o_le : Op2 E K (rI0 fun i j => .bl (decide (i ≤ j))) rLe pI pI pB := fun I C H a b x y s hx hy Q q => ⟨a, b, hx, hy, PQ.now q s rfl⟩
theorem o_gt : Op2 E K (rI0 fun i j => .bl (decide (j < i))) rGt pI pI pB := fun I C H a b x y s hx hy Q q => ⟨a, b, hx, hy, PQ.now q s rfl⟩
theorem o_ge : Op2 E K (rI0 fun i j => .bl (decide (j ≤ i))) rGe pI pI pB := fun I C H a b x y s hx hy Q q => ⟨a, b, hx, hy, PQ.now q s rfl⟩
def eqR {α : Type} [DecidableEq α] (a b : α) : Res Bool := .ok (decide (a = b))
def neR {α : Type} [DecidableEq α] (a b : α) : Res Bool := .ok (!decide (a = b))
@[simp] theorem eqR_eq {α : Type} [DecidableEq α] (a b : α) : eqR a b = .ok (decide (a = b)) := rfl
@[simp] theorem neR_eq {α : Type} [DecidableEq α] (a b : α) : neR a b = .ok (!decide (a = b)) := rfl
theorem dec_congr {p q : Prop} [Decidable p] [Decidable q] (h : p ↔ q) : decide p = decide q := by
  by_cases hp : p
  · rw [decide_eq_true hp, decide_eq_true (h.mp hp)]
  · rw [decide_eq_false hp, decide_eq_false fun z => hp (h.mpr z)]
theorem o_eqI : Op2 E K rEq eqR pI pI pB := fun I C H a b x y s hx hy Q q => by
  subst hx hy
  exact ⟨rfl, PQ.now q s (congrArg V.bl (dec_congr ⟨fun h => V.int.inj h, fun h => by rw [h]⟩))⟩
theorem o_neI : Op2 E K rNe neR pI pI pB := fun I C H a b x y s hx hy Q q => by
  subst hx hy
  exact ⟨rfl, PQ.now q s (congrArg (fun z => V.bl (!z)) (dec_congr ⟨fun h => V.int.inj h, fun h => by rw [h]⟩))⟩
theorem o_eqB : Op2 E K rEq eqR pB pB pB := fun I C H a b x y s hx hy Q q => by
  subst hx hy
  exact ⟨rfl, PQ.now q s (congrArg V.bl (dec_congr ⟨fun h => V.bl.inj h, fun h => by rw [h]⟩))⟩
theorem o_neB : Op2 E K rNe neR pB pB pB := fun I C H a b x y s hx hy Q q => by
  subst hx hy
  exact ⟨rfl, PQ.now q s (congrArg (fun z => V.bl (!z)) (dec_congr ⟨fun h => V.bl.inj h, fun h => by rw [h]⟩))⟩
theorem o_eqS : Op2 E K rEq eqR pS pS pB := fun I C H a b x y s hx hy Q q => by
  obtain ⟨rfl, _⟩ := hx
  obtain ⟨rfl, _⟩ := hy
  exact ⟨rfl, PQ.now q s (congrArg V.bl (dec_congr ⟨fun h => V.str.inj h, fun h => by rw [h]⟩))⟩
theorem o_neS : Op2 E K rNe neR pS pS pB := fun I C H a b x y s hx hy Q q => by
  obtain ⟨rfl, _⟩ := hx
  obtain ⟨rfl, _⟩ := hy
  exact ⟨rfl, PQ.now q s (congrArg (fun z => V.bl (!z)) (dec_congr ⟨fun h => V.str.inj h, fun h => by rw [h]⟩))⟩
def isNone {α : Type} (o : Option α) (_ : Unit) : Res Bool := .ok o.isNone
def notNone {α : Type} (o : Option α) (_ : Unit) : Res Bool := .ok o.isSome
@[simp] theorem isNone_eq {α : Type} (o : Option α) : isNone o () = .ok o.isNone := rfl
@[simp] theorem notNone_eq {α : Type} (o : Option α) : notNone o () = .ok o.isSome := rfl
theorem o_isN : Op2 E K (fun x y H Q => y = .non ∧ Q (.bl (decide (x = .non))) H) isNone (pO R) pN pB := fun I C H a b x y s hx hy Q q => by
  refine ⟨hy, PQ.now q s (congrArg V.bl ?_)⟩
  cases a with
  | none => exact decide_eq_true hx
  | some a => exact decide_eq_false hx.2
theorem o_notN : Op2 E K (fun x y H Q => y = .non ∧ Q (.bl (!decide (x = .non))) H) notNone (pO R) pN pB := fun I C H a b x y s hx hy Q q => by
  refine ⟨hy, PQ.now q s (congrArg V.bl ?_)⟩
  cases a with
  | none =>
    have e : decide (x = V.non) = true := decide_eq_true hx
    rw [e]
    rfl
  | some a =>
    have e : decide (x = V.non) = false := decide_eq_false hx.2
    rw [e]
    rfl
/-! lists that are read -/
theorem pV.at {xs : List α} {v : V} {I C H : Hp} (s : St I C H) (h : (pV R).r xs v I C) : ∃ a vs, v = .ref a ∧ H a = some (.lst vs) ∧ vs.length ≤ sizeLine ∧ A2 (fun x u => R.r x u I C) xs vs := by
  obtain ⟨a, vs, h1, h2, h3, h4⟩ := h
  exact ⟨a, vs, h1, h2.elim (s.i a _) (s.c a _), h3, h4⟩
def rLen (xs : List α) : Res Int := .ok (xs.length : Int)
@[simp] theorem rLen_eq (xs : List α) : rLen xs = .ok (xs.length : Int) := rfl
theorem o_len : OpL E K (fun xs H Q => ∃ p ys, xs = [.ref p] ∧ (SqL K H p ys ∨ SqT K H p ys) ∧ Q (.int ys.length) H) rLen (t1 (pV R)) pI := fun I C H a vs s hv Q q => by
  obtain ⟨v, rfl, h⟩ := hv
  obtain ⟨p, us, rfl, h2, h3, h4⟩ := pV.at s h
  exact ⟨p, us, rfl, .inl (.inl (.inl h2)), PQ.now q s (by rw [h4.len]; rfl)⟩
theorem o_lenQ : OpL E K (fun xs H Q => ∃ p ys, xs = [.ref p] ∧ (SqL K H p ys ∨ SqT K H p ys) ∧ Q (.int ys.length) H) rLen (t1 (pQ K R)) pI := fun I C H a vs s hv Q q => by
  obtain ⟨v, rfl, p, us, rfl, h2, h3, h4⟩ := hv
  exact ⟨p, us, rfl, .inr (ex_t s.i h2), PQ.now q s (by rw [h4.len]; rfl)⟩
/-- xs[i] -/
def ix (xs : List α) (i : Int) : Res α := if 0 ≤ i then (match xs[i.toNat]? with
    | some x => .ok x
    | none => .bad) else if -(xs.length : Int) ≤ i then (match xs[(i + xs.length).toNat]? with
    | some x => .ok x
    | none => .bad) else .bad
theorem ix_atI {f : α → V → Prop} {xs : List α} {vs : List V} {i : Int} {x : α} (h : A2 f xs vs) (e : ix xs i = .ok x) : ∃ v, atI vs i = some v ∧ f x v := by
  have hl := h.len
  unfold ix at e
  unfold atI ixN
  by_cases h0 : 0 ≤ i
  · rw [if_pos h0] at e ⊢
    cases q : xs[i.toNat]? with
    | none =>
      rw [q] at e
      cases e
    | some y =>
      rw [q] at e
      cases e
      have hlt := (List.getElem?_eq_some_iff.mp q).1
      obtain ⟨v, hv, r⟩ := h.get' q
      rw [if_pos (by omega)]
      exact ⟨v, hv, r⟩
  · rw [if_neg h0] at e ⊢
    by_cases h1 : -(xs.length : Int) ≤ i
    · rw [if_pos h1] at e
      rw [if_pos (by omega)]
      cases q : xs[(i + xs.length).toNat]? with
      | none =>
        rw [q] at e
        cases e
      | some y =>
        rw [q] at e
        cases e
        obtain ⟨v, hv, r⟩ := h.get' q
        exact ⟨v, by rw [hl]; exact hv, r⟩
    · rw [if_neg h1] at e
      cases e
theorem o_ix : Op2 E K (rIxL K) ix (pV R) pI R := fun I C H a b x y s hx hy Q q => by
  obtain ⟨p, us, rfl, h2, h3, h4⟩ := pV.at s hx
  subst hy
  cases e : ix a b with
  | ok z =>
    rw [e] at q
    obtain ⟨v, e1, r⟩ := ix_atI h4 e
    exact ⟨p, us, b, v, rfl, rfl, .inl (.inl h2), e1, PQ.now q s r⟩
  | exc c i =>
    unfold ix at e
    split at e <;> (try split at e) <;> (try split at e) <;> cases e
  | bad =>
    rw [e] at q
    exact q.elim
theorem o_ixQ : Op2 E K (rIxT K) ix (pQ K R) pI R := fun I C H a b x y s hx hy Q q => by
  obtain ⟨p, us, rfl, h2, h3, h4⟩ := hx
  subst hy
  cases e : ix a b with
  | ok z =>
    rw [e] at q
    obtain ⟨v, e1, r⟩ := ix_atI h4 e
    exact ⟨p, us, b, v, rfl, rfl, ex_t s.i h2, e1, PQ.now q s r⟩
  | exc c i =>
    unfold ix at e
    split at e <;> (try split at e) <;> (try split at e) <;> cases e
  | bad =>
    rw [e] at q
    exact q.elim
/-- a place of a tuple, of a list with fixed places; k written -/
theorem o_pj {T : Rt α} {k : Nat} {f : α → β} {S : Rp β} (j : Pj T k f S) : Op1 E K (fun x H Q => rIxT K x (.int (k : Int)) H Q) (fun x => .ok (f x)) (pT T) S := fun I C H a x s hx Q q => by
  obtain ⟨p, vs, rfl, h2, h3⟩ := hx
  obtain ⟨w, e, r⟩ := j a vs I C h3
  exact ⟨p, vs, _, w, rfl, rfl, .inl (.inl (s.i p _ h2)), atI_nat e, PQ.now q s r⟩
theorem o_pjU {T : Rt α} {k : Nat} {f : α → β} {S : Rp β} (j : Pj T k f S) : Op1 E K (fun x H Q => rIxT K x (.int (k : Int)) H Q) (fun x => .ok (f x)) (pU K T) S := fun I C H a x s hx Q q => by
  obtain ⟨p, vs, rfl, h2, h3⟩ := hx
  obtain ⟨w, e, r⟩ := j a vs I C h3
  exact ⟨p, vs, _, w, rfl, rfl, ex_t s.i h2, atI_nat e, PQ.now q s r⟩
theorem o_pjD {T : Rt α} {k : Nat} {f : α → β} {S : Rp β} (j : Pj T k f S) : Op1 E K (fun x H Q => rIxL K x (.int (k : Int)) H Q) (fun x => .ok (f x)) (pD T) S := fun I C H a x s hx Q q => by
  obtain ⟨p, vs, rfl, h2, h3⟩ := hx
  obtain ⟨w, e, r⟩ := j a vs I C h3
  exact ⟨p, vs, _, w, rfl, rfl, .inl (.inl (s.i p _ h2)), atI_nat e, PQ.now q s r⟩
/-- e[k], k written, by a rule for this k -/
theorem x_k {r : R2} {te : TE} {σ : L2.St} {I C : Hp} {m : Res α} {f : α → Res γ} {T : Rp γ} {k : Int} (hr : Op1 E K (fun x H Q => r x (.int k) H Q) f R T) (h : EvX E K te σ I C m R) : EvX E K (tOp r te (tC (.int k))) σ I C (un f m) T :=
  fun I1 C1 H1 e e' s Q q => x_un (r := fun x H Q => r x (.int k) H Q) hr h I1 C1 H1 e e' s Q q
end
end Sd

namespace Sd
open PySem L2
/-! ### == of data -/
/-- data of this kind, as == sees them: enc; at most n deep -/
structure De (K : PySem.W.Frag) {α : Type} (R : Rp α) (enc : α → PyData) (n : Nat) : Prop where
  dp : ∀ {a v I C H}, St I C H → R.r a v I C → Dp K H v (enc a)
  ly : ∀ {a v I C}, R.r a v I C → (enc a).canLay0 = true
  de : ∀ {a v I C}, R.r a v I C → (enc a).depth ≤ n
  eq : ∀ a b, PyData.eqv (enc a) (enc b) = true ↔ a = b
section
variable {E : XK} {K : PySem.W.Frag} {α β γ : Type} {R : Rp α} {S : Rp β} {enc : α → PyData} {enb : β → PyData} {n m : Nat}
theorem de_int : De K pI PyData.int 0 := ⟨fun _ h => by cases h; exact .int _, fun _ => by simp only [PyData.canLay0], fun _ => by simp only [PyData.depth]; exact Nat.le_refl _, fun a b => by
  simp only [PyData.eqv, beq_iff_eq]⟩
theorem de_bl : De K pB PyData.bool 0 := ⟨fun _ h => by cases h; exact .bl _, fun _ => by simp only [PyData.canLay0], fun _ => by simp only [PyData.depth]; exact Nat.le_refl _, fun a b => by
  simp only [PyData.eqv, beq_iff_eq]⟩
theorem de_str : De K pS PyData.str 0 := ⟨fun _ h => by obtain ⟨rfl, _⟩ := h; exact .str _, fun h => by simp only [PyData.canLay0]; exact h.2, fun _ => by simp only [PyData.depth]; exact Nat.le_refl _, fun a b => by
  simp only [PyData.eqv, beq_iff_eq]⟩
theorem de_all (d : De K R enc n) : ∀ {xs : List α} {vs : List V} {I C H : Hp}, St I C H → A2 (fun x u => R.r x u I C) xs vs → DpAll K H vs (xs.map enc)
  | _, _, _, _, _, _, .nil => .nil
  | _, _, _, _, _, s, .cons r t => .cons (d.dp s r) (de_all d s t)
theorem ly_all (d : De K R enc n) : ∀ {xs : List α} {vs : List V} {I C : Hp}, A2 (fun x u => R.r x u I C) xs vs → PyData.canLayAll0 (xs.map enc) = true
  | _, _, _, _, .nil => by simp only [List.map_nil, PyData.canLayAll0]
  | _, _, _, _, .cons r t => by
    simp only [List.map_cons, PyData.canLayAll0, Bool.and_eq_true]
    exact ⟨d.ly r, ly_all d t⟩
theorem dp_all (d : De K R enc n) : ∀ {xs : List α} {vs : List V} {I C : Hp}, A2 (fun x u => R.r x u I C) xs vs → PyData.depthAll (xs.map enc) ≤ n
  | _, _, _, _, .nil => by
    simp only [List.map_nil, PyData.depthAll]
    exact Nat.zero_le _
  | _, _, _, _, .cons r t => by
    simp only [List.map_cons, PyData.depthAll]
    exact Nat.max_le.mpr ⟨d.de r, dp_all d t⟩
theorem eq_all (h : ∀ a b, PyData.eqv (enc a) (enc b) = true ↔ a = b) : ∀ xs ys : List α, PyData.eqvAll (xs.map enc) (ys.map enc) = true ↔ xs = ys
  | [], [] => by simp only [List.map_nil, PyData.eqvAll]
  | [], y :: ys => by
    simp only [List.map_nil, List.map_cons, PyData.eqvAll]
    exact ⟨fun q => (nomatch q), fun q => (nomatch q)⟩
  | x :: xs, [] => by
    simp only [List.map_nil, List.map_cons, PyData.eqvAll]
    exact ⟨fun q => (nomatch q), fun q => (nomatch q)⟩
  | x :: xs, y :: ys => by
    simp only [List.map_cons, PyData.eqvAll, Bool.and_eq_true, List.cons.injEq]
    rw [h x y, eq_all h xs ys]
theorem de_lst (d : De K R enc n) : De K (pL R) (fun xs => PyData.list (xs.map enc)) (n + 1) :=
  ⟨fun s ⟨a, vs, h1, h2, h3, h4⟩ => by
    subst h1
    exact .lst (.inl (.inl (s.i _ _ h2))) (de_all d s h4),
  fun ⟨a, vs, h1, h2, h3, h4⟩ => by
    simp only [PyData.canLay0]
    exact ly_all d h4,
  fun ⟨a, vs, h1, h2, h3, h4⟩ => by
    simp only [PyData.depth]
    exact Nat.succ_le_succ (dp_all d h4),
  fun a b => by
    simp only [PyData.eqv]
    exact eq_all d.eq a b⟩
theorem de_vw (d : De K R enc n) : De K (pV R) (fun xs => PyData.list (xs.map enc)) (n + 1) :=
  ⟨fun s h => by
    obtain ⟨a, vs, rfl, h2, h3, h4⟩ := pV.at s h
    exact .lst (.inl (.inl h2)) (de_all d s h4),
  fun ⟨a, vs, h1, h2, h3, h4⟩ => by
    simp only [PyData.canLay0]
    exact ly_all d h4,
  fun ⟨a, vs, h1, h2, h3, h4⟩ => by
    simp only [PyData.depth]
    exact Nat.succ_le_succ (dp_all d h4),
  fun a b => by
    simp only [PyData.eqv]
    exact eq_all d.eq a b⟩
theorem de_seq (d : De K R enc n) : De K (pQ K R) (fun xs => PyData.tuple (xs.map enc)) (n + 1) :=
  ⟨fun s ⟨a, vs, h1, h2, h3, h4⟩ => by
    subst h1
    exact .tup (ex_t s.i h2) (de_all d s h4),
  fun ⟨a, vs, h1, h2, h3, h4⟩ => by
    simp only [PyData.canLay0]
    exact ly_all d h4,
  fun ⟨a, vs, h1, h2, h3, h4⟩ => by
    simp only [PyData.depth]
    exact Nat.succ_le_succ (dp_all d h4),
  fun a b => by
    simp only [PyData.eqv]
    exact eq_all d.eq a b⟩
/-- places -/
structure Dt (K : PySem.W.Frag) {α : Type} (T : Rt α) (enc : α → List PyData) (n : Nat) : Prop where
  dp : ∀ {a vs I C H}, St I C H → T.r a vs I C → DpAll K H vs (enc a)
  ly : ∀ {a vs I C}, T.r a vs I C → PyData.canLayAll0 (enc a) = true
  de : ∀ {a vs I C}, T.r a vs I C → PyData.depthAll (enc a) ≤ n
  eq : ∀ a b, PyData.eqvAll (enc a) (enc b) = true ↔ a = b
theorem dt_one (d : De K R enc n) : Dt K (t1 R) (fun x => [enc x]) n :=
  ⟨fun s ⟨v, h1, h2⟩ => by
    subst h1
    exact .cons (d.dp s h2) .nil,
  fun ⟨v, h1, h2⟩ => by
    simp only [PyData.canLayAll0, Bool.and_true]
    exact d.ly h2,
  fun ⟨v, h1, h2⟩ => by
    simp only [PyData.depthAll]
    exact Nat.max_le.mpr ⟨d.de h2, Nat.zero_le _⟩,
  fun a b => by
    simp only [PyData.eqvAll, Bool.and_true]
    exact d.eq a b⟩
theorem dt_cons {T : Rt β} {ens : β → List PyData} (d : De K R enc n) (t : Dt K T ens m) : Dt K (tc R T) (fun x => enc x.1 :: ens x.2) (max n m) :=
  ⟨fun s ⟨v, us, h1, h2, h3⟩ => by
    subst h1
    exact .cons (d.dp s h2) (t.dp s h3),
  fun ⟨v, us, h1, h2, h3⟩ => by
    simp only [PyData.canLayAll0, Bool.and_eq_true]
    exact ⟨d.ly h2, t.ly h3⟩,
  fun ⟨v, us, h1, h2, h3⟩ => by
    simp only [PyData.depthAll]
    exact Nat.max_le.mpr ⟨Nat.le_trans (d.de h2) (Nat.le_max_left _ _), Nat.le_trans (t.de h3) (Nat.le_max_right _ _)⟩,
  fun a b => by
    simp only [PyData.eqvAll, Bool.and_eq_true]
    rw [d.eq, t.eq]
    exact ⟨fun ⟨h1, h2⟩ => Prod.ext h1 h2, fun h => by
      subst h
      exact ⟨rfl, rfl⟩⟩⟩
theorem de_tup {T : Rt α} {ens : α → List PyData} (t : Dt K T ens n) : De K (pT T) (fun x => PyData.tuple (ens x)) (n + 1) :=
  ⟨fun s ⟨a, vs, h1, h2, h3⟩ => by
    subst h1
    exact .tup (.inl (.inl (s.i _ _ h2))) (t.dp s h3),
  fun ⟨a, vs, h1, h2, h3⟩ => by
    simp only [PyData.canLay0]
    exact t.ly h3,
  fun ⟨a, vs, h1, h2, h3⟩ => by
    simp only [PyData.depth]
    exact Nat.succ_le_succ (t.de h3),
  fun a b => by
    simp only [PyData.eqv]
    exact t.eq a b⟩
theorem de_tupU {T : Rt α} {ens : α → List PyData} (t : Dt K T ens n) : De K (pU K T) (fun x => PyData.tuple (ens x)) (n + 1) :=
  ⟨fun s ⟨a, vs, h1, h2, h3⟩ => by
    subst h1
    exact .tup (ex_t s.i h2) (t.dp s h3),
  fun ⟨a, vs, h1, h2, h3⟩ => by
    simp only [PyData.canLay0]
    exact t.ly h3,
  fun ⟨a, vs, h1, h2, h3⟩ => by
    simp only [PyData.depth]
    exact Nat.succ_le_succ (t.de h3),
  fun a b => by
    simp only [PyData.eqv]
    exact t.eq a b⟩
theorem de_lstD {T : Rt α} {ens : α → List PyData} (t : Dt K T ens n) : De K (pD T) (fun x => PyData.list (ens x)) (n + 1) :=
  ⟨fun s ⟨a, vs, h1, h2, h3⟩ => by
    subst h1
    exact .lst (.inl (.inl (s.i _ _ h2))) (t.dp s h3),
  fun ⟨a, vs, h1, h2, h3⟩ => by
    simp only [PyData.canLay0]
    exact t.ly h3,
  fun ⟨a, vs, h1, h2, h3⟩ => by
    simp only [PyData.depth]
    exact Nat.succ_le_succ (t.de h3),
  fun a b => by
    simp only [PyData.eqv]
    exact t.eq a b⟩
def oEnc (enc : α → PyData) : Option α → PyData
  | none => .none
  | some a => enc a
/-- None or such a thing (that is not None itself) -/
theorem de_opt (d : De K R enc n) (hn : ∀ a, PyData.eqv (enc a) .none = false ∧ PyData.eqv .none (enc a) = false) : De K (pO R) (oEnc enc) n :=
  ⟨fun {a v I C H} s h => by
    cases a with
    | none =>
      have h' : v = .non := h
      subst h'
      exact .non
    | some a => exact d.dp s h.1,
  fun {a v I C} h => by
    cases a with
    | none => simp only [oEnc, PyData.canLay0]
    | some a => exact d.ly h.1,
  fun {a v I C} h => by
    cases a with
    | none =>
      simp only [oEnc, PyData.depth]
      exact Nat.zero_le _
    | some a => exact d.de h.1,
  fun a b => by
    cases a with
    | none =>
      cases b with
      | none => simp only [oEnc, PyData.eqv]
      | some b =>
        simp only [oEnc]
        rw [(hn b).2]
        exact ⟨fun q => (nomatch q), fun q => (nomatch q)⟩
    | some a =>
      cases b with
      | none =>
        simp only [oEnc]
        rw [(hn a).1]
        exact ⟨fun q => (nomatch q), fun q => (nomatch q)⟩
      | some b =>
        simp only [oEnc]
        rw [d.eq, Option.some.injEq]⟩
theorem o_eqD [DecidableEq α] {R' : Rp α} (d : De K R enc n) (d' : De K R' enc n) (hn : n ≤ 64) : Op2 E K (rEqD K) eqR R R' pB := fun I C H a b x y s hx hy Q q =>
  ⟨enc a, enc b, d.dp s hx, d'.dp s hy, Bool.and_eq_true_iff.mpr ⟨d.ly hx, decide_eq_true (Nat.le_trans (d.de hx) hn)⟩, Bool.and_eq_true_iff.mpr ⟨d'.ly hy, decide_eq_true (Nat.le_trans (d'.de hy) hn)⟩,
    PQ.now q s (congrArg V.bl (by
      by_cases e : a = b
      · rw [(d.eq a b).mpr e, decide_eq_true e]
      · rw [decide_eq_false e]
        exact Bool.eq_false_iff.mpr fun z => e ((d.eq a b).mp z)))⟩
theorem o_neD [DecidableEq α] {R' : Rp α} (d : De K R enc n) (d' : De K R' enc n) (hn : n ≤ 64) : Op2 E K (rNeD K) neR R R' pB := fun I C H a b x y s hx hy Q q =>
  ⟨enc a, enc b, d.dp s hx, d'.dp s hy, Bool.and_eq_true_iff.mpr ⟨d.ly hx, decide_eq_true (Nat.le_trans (d.de hx) hn)⟩, Bool.and_eq_true_iff.mpr ⟨d'.ly hy, decide_eq_true (Nat.le_trans (d'.de hy) hn)⟩,
    PQ.now q s (congrArg (fun z => V.bl (!z)) (by
      by_cases e : a = b
      · rw [(d.eq a b).mpr e, decide_eq_true e]
      · rw [decide_eq_false e]
        exact Bool.eq_false_iff.mpr fun z => e ((d.eq a b).mp z)))⟩
/-! ### in -/
def inR {α : Type} [DecidableEq α] (x : α) (xs : List α) : Res Bool := .ok (decide (x ∈ xs))
def ninR {α : Type} [DecidableEq α] (x : α) (xs : List α) : Res Bool := .ok (!decide (x ∈ xs))
@[simp] theorem inR_eq {α : Type} [DecidableEq α] (x : α) (xs : List α) : inR x xs = .ok (decide (x ∈ xs)) := rfl
@[simp] theorem ninR_eq {α : Type} [DecidableEq α] (x : α) (xs : List α) : ninR x xs = .ok (!decide (x ∈ xs)) := rfl
/-- flat things -/
structure Fl {α : Type} (R : Rp α) (f : α → V) : Prop where
  is : ∀ {a v I C}, R.r a v I C → v = f a
  flat : ∀ a, flatV (f a) = true
  eq : ∀ a b, eqV (f a) (f b) = true ↔ a = b
theorem fl_int : Fl pI V.int := ⟨fun h => h, fun _ => rfl, fun a b => by simp only [eqV, beq_iff_eq]⟩
theorem fl_str : Fl pS V.str := ⟨fun h => h.1, fun _ => rfl, fun a b => by simp only [eqV, beq_iff_eq]⟩
theorem inV_iff [DecidableEq α] {f : α → V} (F : Fl R f) (x : α) : ∀ xs : List α, inV (f x) (xs.map f) = decide (x ∈ xs)
  | [] => rfl
  | y :: ys => by
    have ih := inV_iff F x ys
    unfold inV at ih ⊢
    rw [List.map_cons, List.any_cons, ih]
    by_cases e : y = x
    · rw [(F.eq y x).mpr e, Bool.true_or, decide_eq_true (show x ∈ y :: ys by rw [e]; exact List.mem_cons_self)]
    · rw [Bool.eq_false_iff.mpr fun z => e ((F.eq y x).mp z), Bool.false_or]
      exact dec_congr ⟨fun h => List.mem_cons_of_mem _ h, fun h => (List.mem_cons.mp h).resolve_left fun q => e q.symm⟩
theorem allFlat {f : α → V} (F : Fl R f) : ∀ xs : List α, (xs.map f).all flatV = true
  | [] => rfl
  | x :: xs => by rw [List.map_cons, List.all_cons, F.flat, allFlat F xs]; rfl
theorem o_in [DecidableEq α] {f : α → V} (F : Fl R f) : Op2 E K (rIn K false) inR R (pV R) pB := fun I C H a b x y s hx hy Q q => by
  obtain ⟨p, us, rfl, h2, h3, h4⟩ := pV.at s hy
  have ex := F.is hx
  have eu := A2.map_iff (fun _ _ h => F.is h) h4
  subst ex eu
  exact ⟨p, _, rfl, .inl (.inl (.inl h2)), F.flat a, allFlat F b, PQ.now q s (congrArg V.bl (inV_iff F a b))⟩
theorem o_nin [DecidableEq α] {f : α → V} (F : Fl R f) : Op2 E K (rIn K true) ninR R (pV R) pB := fun I C H a b x y s hx hy Q q => by
  obtain ⟨p, us, rfl, h2, h3, h4⟩ := pV.at s hy
  have ex := F.is hx
  have eu := A2.map_iff (fun _ _ h => F.is h) h4
  subst ex eu
  exact ⟨p, _, rfl, .inl (.inl (.inl h2)), F.flat a, allFlat F b, PQ.now q s (congrArg (fun z => V.bl (!z)) (inV_iff F a b))⟩
theorem o_inQ [DecidableEq α] {f : α → V} (F : Fl R f) : Op2 E K (rIn K false) inR R (pQ K R) pB := fun I C H a b x y s hx hy Q q => by
  obtain ⟨p, us, rfl, h2, h3, h4⟩ := hy
  have ex := F.is hx
  have eu := A2.map_iff (fun _ _ h => F.is h) h4
  subst ex eu
  exact ⟨p, _, rfl, .inr (ex_t s.i h2), F.flat a, allFlat F b, PQ.now q s (congrArg V.bl (inV_iff F a b))⟩
theorem o_ninQ [DecidableEq α] {f : α → V} (F : Fl R f) : Op2 E K (rIn K true) ninR R (pQ K R) pB := fun I C H a b x y s hx hy Q q => by
  obtain ⟨p, us, rfl, h2, h3, h4⟩ := hy
  have ex := F.is hx
  have eu := A2.map_iff (fun _ _ h => F.is h) h4
  subst ex eu
  exact ⟨p, _, rfl, .inr (ex_t s.i h2), F.flat a, allFlat F b, PQ.now q s (congrArg (fun z => V.bl (!z)) (inV_iff F a b))⟩
/-! ### slices -/
def cut (xs : List α) (lo hi : Option Int) : List α := (xs.drop (HT.sIx xs.length 0 lo)).take (HT.sIx xs.length xs.length hi - HT.sIx xs.length 0 lo)
theorem A2.cut {f : α → V → Prop} {xs : List α} {vs : List V} (h : A2 f xs vs) (lo hi : Option Int) : A2 f (Sd.cut xs lo hi) (cutV vs lo hi) := by
  unfold Sd.cut cutV
  rw [h.len]
  exact (h.drop _).take _
def EvO (E : XK) (K : PySem.W.Frag) (to : TO) (σ : L2.St) (I C : Hp) (m : Res (Option Int)) : Prop :=
  ∀ I1 C1 H1, Ex I I1 → Ex C C1 → St I1 C1 H1 → ∀ Q : Option Int → Hp → Prop, Post m (fun o => ∀ I2 H2, Ex I1 I2 → St I2 C1 H2 → Q o H2) (PX E K I1 C1) → to σ H1 Q
def someR (m : Res Int) : Res (Option Int) := m.bind fun i => .ok (some i)
@[simp] theorem someR_ok (i : Int) : someR (.ok i) = .ok (some i) := rfl
variable {σ : L2.St} {I C : Hp} {te : TE}
theorem p_none : EvO E K tNoPart σ I C (.ok none) := fun I1 C1 H1 e e' s Q q => q I1 H1 (Ex.refl _) s
theorem p_some {m : Res Int} (h : EvX E K te σ I C m pI) : EvO E K (tPart te) σ I C (someR m) := fun I1 C1 H1 e e' s Q q =>
  h I1 C1 H1 e e' s _ ((Post.bind q).mono (fun i p v I2 H2 e2 s2 rv => ⟨i, rv, p I2 H2 e2 s2⟩) fun _ _ z => z)
def slR (m : Res (List α)) (lo hi : Res (Option Int)) : Res (List α) := m.bind fun xs => lo.bind fun a => hi.bind fun b => .ok (cut xs a b)
@[simp] theorem slR_ok (xs : List α) (a b : Option Int) : slR (.ok xs) (.ok a) (.ok b) = .ok (cut xs a b) := rfl
theorem new_list {xs : List α} {vs : List V} {I C H : Hp} {Q : VK} (q : PQ (pL R) I C Q xs) (s : St I C H) (h : A2 (fun x u => R.r x u I C) xs vs) (hl : vs.length ≤ sizeLine) : ∀ p, H p = none → Q (.ref p) (upd H p (.lst vs)) := fun p hp =>
  q (.ref p) (upd I p (.lst vs)) _ (Ex.new (s.i.free hp)) (s.newI hp) ⟨p, vs, rfl, upd_same, hl, h.imp fun _ _ => R.mono (Ex.new (s.i.free hp)) (Ex.refl _)⟩
theorem x_slW (r0 : V → Option Int → Option Int → Hp → VK → Prop) {V0 : Rp (List α)}
    (hr : ∀ I C H xs x lo hi, St I C H → V0.r xs x I C → ∀ Q, PQ (pL R) I C Q (cut xs lo hi) → r0 x lo hi H Q)
    {tl th : TO} {m : Res (List α)} {lo hi : Res (Option Int)} (h : EvX E K te σ I C m V0) (hl : EvO E K tl σ I C lo) (hh : EvO E K th σ I C hi) : EvX E K (tSl r0 te tl th) σ I C (slR m lo hi) (pL R) := fun I1 C1 H1 e e' s Q q =>
  h I1 C1 H1 e e' s _ ((Post.bind q).mono (fun a p x I2 H2 e2 s2 rx =>
    hl I2 C1 H2 (e.trans e2) e' s2 _ ((Post.bind p).mono (fun o p2 I3 H3 e3 s3 =>
      hh I3 C1 H3 (e.trans (e2.trans e3)) e' s3 _ ((Post.bind p2).mono (fun o2 p3 I4 H4 e4 s4 =>
        hr I4 C1 H4 a x o o2 s4 (V0.mono (e3.trans e4) (Ex.refl _) rx) Q fun v I5 H5 e5 s5 rv => p3 v I5 H5 (e2.trans (e3.trans (e4.trans e5))) s5 rv) fun c i z => z.mono (e2.trans e3) (Ex.refl _))) fun c i z => z.mono e2 (Ex.refl _)))
    fun _ _ z => z)
theorem x_sl {tl th : TO} {m : Res (List α)} {lo hi : Res (Option Int)} (h : EvX E K te σ I C m (pV R)) (hl : EvO E K tl σ I C lo) (hh : EvO E K th σ I C hi) : EvX E K (tSl (rSlL K) te tl th) σ I C (slR m lo hi) (pL R) :=
  x_slW (rSlL K) (fun I C H xs x lo hi s hx Q q => by
    obtain ⟨p, us, rfl, h2, h3, h4⟩ := pV.at s hx
    exact ⟨p, us, rfl, .inl (.inl h2), new_list q s (h4.cut lo hi) (Nat.le_trans (cutV_length _ _ _) h3)⟩) h hl hh
theorem x_slS {tl th : TO} {m : Res (List α)} {lo hi : Res (Option Int)} (h : EvX E K te σ I C m (pW K R)) (hl : EvO E K tl σ I C lo) (hh : EvO E K th σ I C hi) : EvX E K (tSl (rSlL K) te tl th) σ I C (slR m lo hi) (pL R) :=
  x_slW (rSlL K) (fun I C H xs x lo hi s hx Q q => by
    obtain ⟨p, us, rfl, h2, h3, h4⟩ := hx
    exact ⟨p, us, rfl, ex_l s.i h2, new_list q s (h4.cut lo hi) (Nat.le_trans (cutV_length _ _ _) h3)⟩) h hl hh
/-! ### + of lists, list(xs), tuple(xs), [x] * n -/
@[irreducible] def rCatR (xs ys : List α) : Res (List α) := if xs.length + ys.length ≤ 1000000 then .ok (xs ++ ys) else .bad
theorem rCatR_ok {xs ys : List α} (h : xs.length + ys.length ≤ 1000000) : rCatR xs ys = .ok (xs ++ ys) := by
  unfold rCatR
  exact if_pos h
theorem o_cat : Op2 E K rCat rCatR (pV R) (pV R) (pL R) := fun I C H a b x y s hx hy Q q => by
  unfold rCatR at q
  split at q
  · rename_i h
    obtain ⟨p, us, rfl, h2, h3, h4⟩ := pV.at s hx
    obtain ⟨p', us', rfl, h2', h3', h4'⟩ := pV.at s hy
    have hl : us.length + us'.length ≤ sizeLine := by
      rw [h4.len, h4'.len]
      exact Nat.le_trans h (by decide)
    exact ⟨p, p', us, us', rfl, rfl, h2, h2', hl, new_list q s (h4.append h4') (by rw [List.length_append]; exact hl)⟩
  · exact q.elim
@[irreducible] def rRepR (xs : List α) (k : Int) : Res (List α) := if k.natAbs < 1000000 ∧ xs.length * k.toNat ≤ 1000000 then .ok (List.replicate k.toNat xs).flatten else .bad
theorem rRepR_ok {xs : List α} {k : Int} (h : k < 1000000 ∧ -1000000 < k ∧ xs.length * k.toNat ≤ 1000000) : rRepR xs k = .ok (List.replicate k.toNat xs).flatten := by
  unfold rRepR
  exact if_pos ⟨by omega, h.2.2⟩
theorem A2.rep {f : α → V → Prop} {xs : List α} {vs : List V} (h : A2 f xs vs) : ∀ n : Nat, A2 f (List.replicate n xs).flatten (List.replicate n vs).flatten
  | 0 => .nil
  | n + 1 => by
    rw [List.replicate_succ, List.replicate_succ, List.flatten_cons, List.flatten_cons]
    exact h.append (A2.rep h n)
theorem flat_len {vs : List V} : ∀ n : Nat, (List.replicate n vs).flatten.length = vs.length * n
  | 0 => by simp
  | n + 1 => by
    rw [List.replicate_succ, List.flatten_cons, List.length_append, flat_len n, Nat.mul_succ, Nat.add_comm]
theorem o_rep : Op2 E K rRep rRepR (pV R) pI (pL R) := fun I C H a b x y s hx hy Q q => by
  unfold rRepR at q
  split at q
  · rename_i h
    obtain ⟨p, us, rfl, h2, h3, h4⟩ := pV.at s hx
    subst hy
    have hl : us.length * b.toNat ≤ sizeLine := by
      rw [h4.len]
      exact Nat.le_trans h.2 (by decide)
    exact ⟨p, b, us, rfl, rfl, h2, by omega, by omega, hl, new_list q s (h4.rep _) (by rw [flat_len]; exact hl)⟩
  · exact q.elim
def idR (xs : α) : Res α := .ok xs
@[simp] theorem idR_eq (xs : α) : idR xs = .ok xs := rfl
theorem o_list : OpL E K (fun xs H Q => ∃ p ys, xs = [.ref p] ∧ (SqL K H p ys ∨ SqT K H p ys) ∧ ∀ l, H l = none → Q (.ref l) (upd H l (.lst ys))) idR (t1 (pV R)) (pL R) := fun I C H a vs s hv Q q => by
  obtain ⟨v, rfl, h⟩ := hv
  obtain ⟨p, us, rfl, h2, h3, h4⟩ := pV.at s h
  exact ⟨p, us, rfl, .inl (.inl (.inl h2)), new_list q s h4 h3⟩
theorem o_listW : OpL E K (fun xs H Q => ∃ p ys, xs = [.ref p] ∧ (SqL K H p ys ∨ SqT K H p ys) ∧ ∀ l, H l = none → Q (.ref l) (upd H l (.lst ys))) idR (t1 (pW K R)) (pL R) := fun I C H a vs s hv Q q => by
  obtain ⟨v, rfl, p, us, rfl, h2, h3, h4⟩ := hv
  exact ⟨p, us, rfl, .inl (ex_l s.i h2), new_list q s h4 h3⟩
theorem o_listQ : OpL E K (fun xs H Q => ∃ p ys, xs = [.ref p] ∧ (SqL K H p ys ∨ SqT K H p ys) ∧ ∀ l, H l = none → Q (.ref l) (upd H l (.lst ys))) idR (t1 (pQ K R)) (pL R) := fun I C H a vs s hv Q q => by
  obtain ⟨v, rfl, p, us, rfl, h2, h3, h4⟩ := hv
  exact ⟨p, us, rfl, .inr (ex_t s.i h2), new_list q s h4 h3⟩
theorem new_tup {xs : List α} {vs : List V} {I C H : Hp} {Q : VK} (q : PQ (pQ K R) I C Q xs) (s : St I C H) (h : A2 (fun x u => R.r x u I C) xs vs) (hl : vs.length ≤ sizeLine) : ∀ p, H p = none → Q (.ref p) (upd H p (.tup vs)) := fun p hp =>
  q (.ref p) (upd I p (.tup vs)) _ (Ex.new (s.i.free hp)) (s.newI hp) ⟨p, vs, rfl, .inl (.inl upd_same), hl, h.imp fun _ _ => R.mono (Ex.new (s.i.free hp)) (Ex.refl _)⟩
theorem o_tuple : OpL E K (fun xs H Q => ∃ p ys, xs = [.ref p] ∧ ((SqL K H p ys ∧ ∀ l, H l = none → Q (.ref l) (upd H l (.tup ys))) ∨ (SqT K H p ys ∧ Q (.ref p) H))) idR (t1 (pV R)) (pQ K R) := fun I C H a vs s hv Q q => by
  obtain ⟨v, rfl, h⟩ := hv
  obtain ⟨p, us, rfl, h2, h3, h4⟩ := pV.at s h
  exact ⟨p, us, rfl, .inl ⟨.inl (.inl h2), new_tup q s h4 h3⟩⟩
theorem o_tupleQ : OpL E K (fun xs H Q => ∃ p ys, xs = [.ref p] ∧ ((SqL K H p ys ∧ ∀ l, H l = none → Q (.ref l) (upd H l (.tup ys))) ∨ (SqT K H p ys ∧ Q (.ref p) H))) idR (t1 (pQ K R)) (pQ K R) := fun I C H a vs s hv Q q => by
  obtain ⟨v, rfl, p, us, rfl, h2, h3, h4⟩ := hv
  exact ⟨p, us, rfl, .inr ⟨ex_t s.i h2, PQ.now q s ⟨p, us, rfl, h2, h3, h4⟩⟩⟩
/-! ### int, max, min, sum, gcd -/
theorem o_int : OpL E K (fun xs H Q => (∃ i, xs = [.int i] ∧ Q (.int i) H) ∨ ∃ k, xs = [.bl k] ∧ Q (.int (if k then 1 else 0)) H) idR (t1 pI) pI := fun I C H a vs s hv Q q => by
  obtain ⟨v, rfl, rfl⟩ := hv
  exact .inl ⟨a, rfl, PQ.now q s rfl⟩
def max2 (p : Int × Int) : Res Int := .ok (if p.2 > p.1 then p.2 else p.1)
def min2 (p : Int × Int) : Res Int := .ok (if p.2 < p.1 then p.2 else p.1)
@[simp] theorem max2_eq (a b : Int) : max2 (a, b) = .ok (max a b) := by
  unfold max2
  congr 1
  show (if b > a then b else a) = max a b
  split <;> omega
@[simp] theorem min2_eq (a b : Int) : min2 (a, b) = .ok (min a b) := by
  unfold min2
  congr 1
  show (if b < a then b else a) = min a b
  split <;> omega
theorem o_max2 : OpL E K (fun xs H Q => ∃ i j, xs = [.int i, .int j] ∧ Q (.int (if j > i then j else i)) H) max2 (tc pI (t1 pI)) pI := fun I C H a vs s hv Q q => by
  obtain ⟨v, us, rfl, rfl, w, rfl, rfl⟩ := hv
  exact ⟨_, _, rfl, PQ.now q s rfl⟩
theorem o_min2 : OpL E K (fun xs H Q => ∃ i j, xs = [.int i, .int j] ∧ Q (.int (if j < i then j else i)) H) min2 (tc pI (t1 pI)) pI := fun I C H a vs s hv Q q => by
  obtain ⟨v, us, rfl, rfl, w, rfl, rfl⟩ := hv
  exact ⟨_, _, rfl, PQ.now q s rfl⟩
def sumR (xs : List Int) : Res Int := .ok xs.sum
@[simp] theorem sumR_eq (xs : List Int) : sumR xs = .ok xs.sum := rfl
theorem o_sum : OpL E K (rSum K) sumR (t1 (pV pI)) pI := fun I C H a vs s hv Q q => by
  obtain ⟨v, rfl, h⟩ := hv
  obtain ⟨p, us, rfl, h2, h3, h4⟩ := pV.at s h
  have eu := A2.map_iff (h := V.int) (fun _ _ h => h) h4
  subst eu
  exact ⟨p, a, rfl, .inl (.inl h2), PQ.now q s rfl⟩
def gcdR (p : Int × Int) : Res Int := .ok ((Nat.gcd p.1.natAbs p.2.natAbs : Nat) : Int)
@[simp] theorem gcdR_eq (a b : Int) : gcdR (a, b) = .ok ((Nat.gcd a.natAbs b.natAbs : Nat) : Int) := rfl
theorem o_gcd : OpL E K rGcd gcdR (tc pI (t1 pI)) pI := fun I C H a vs s hv Q q => by
  obtain ⟨v, us, rfl, rfl, w, rfl, rfl⟩ := hv
  exact ⟨_, _, rfl, PQ.now q s rfl⟩
/-! ### truth of a list -/
def neR' (xs : List α) : Res Bool := .ok (!xs.isEmpty)
@[simp] theorem neR'_eq (xs : List α) : neR' xs = .ok (!xs.isEmpty) := rfl
theorem t_lst {m : Res (List α)} (h : EvX E K te σ I C m (pV R)) : EvT E K (fun σ H Q => te σ H fun x H' => ∃ k, TruV K x H' k ∧ Q k H') σ I C (un neR' m) := fun I1 C1 H1 e e' s Q q =>
  h I1 C1 H1 e e' s _ ((Post.bind q).mono (fun a p v I2 H2 e2 s2 rv => by
    obtain ⟨b, us, rfl, h2, h3, h4⟩ := pV.at s2 rv
    have hb : (!us.isEmpty) = !a.isEmpty := by
      cases h4 <;> rfl
    refine ⟨!a.isEmpty, .inl ⟨us, .inl (.inl h2), hb.symm⟩, p I2 H2 e2 s2⟩) fun _ _ z => z)
/-! ### isinstance, where the kind is known -/
def pY (n : String) : Rp Unit := ⟨fun _ v _ _ => v = .ty n, fun _ _ h => h⟩
instance {n : String} : Im (pY n) := ⟨fun h => h⟩
end
end Sd

namespace Sd
open PySem L2
/-! ### what a for walks -/
def EvI (E : XK) (K : PySem.W.Frag) (wi : TI) (σ : L2.St) (I C : Hp) (kp : Hp → Prop) {α : Type} (m : Res (List α)) (R : Rp α) : Prop :=
  ∀ I1 C1 H1, Ex I I1 → Ex C C1 → St I1 C1 H1 → ∀ Kt : L2.It → Hp → Prop, Post m (fun xs => ∀ J G Y I2 H2, Ex I1 I2 → St I2 C1 H2 → xs.length ≤ sizeLine → Walk J xs.length G Y →
    (∀ I3 C3 H3, Ex I2 I3 → kp C3 → St I3 C3 H3 → G H3) →
    (∀ i x v I3 C3 H3 H4, xs[i]? = some x → Ex I2 I3 → kp C3 → St I3 C3 H3 → Y i H3 v H4 → ∃ I4, Ex I3 I4 ∧ St I4 C3 H4 ∧ R.r x v I4 C3) → Kt J H2) (PX E K I1 C1) → wi σ H1 Kt
abbrev kpT : Hp → Prop := fun _ => True
def rangeL (lo hi : Int) : List Int := (List.range (hi - lo).toNat).map fun i : Nat => lo + ((i : Nat) : Int)
@[irreducible] def rng1 (n : Int) : Res (List Int) := if n.natAbs ≤ 1000000 then .ok (rangeL 0 n) else .bad
@[irreducible] def rng2 (p : Int × Int) : Res (List Int) := if p.1.natAbs ≤ 1000000 ∧ p.2.natAbs ≤ 1000000 then .ok (rangeL p.1 p.2) else .bad
theorem rng1_ok {n : Int} (h : n ≤ 1000000 ∧ -1000000 ≤ n) : rng1 n = .ok (rangeL 0 n) := by
  unfold rng1
  exact if_pos (by omega)
theorem rng2_ok {a b : Int} (h : a ≤ 1000000 ∧ -1000000 ≤ a ∧ b ≤ 1000000 ∧ -1000000 ≤ b) : rng2 (a, b) = .ok (rangeL a b) := by
  unfold rng2
  exact if_pos (by dsimp only; omega)
@[simp] theorem rangeL_length (lo hi : Int) : (rangeL lo hi).length = (hi - lo).toNat := by unfold rangeL; rw [List.length_map, List.length_range]
theorem rangeL_get {lo hi : Int} {i : Nat} {x : Int} (h : (rangeL lo hi)[i]? = some x) : x = lo + (i : Int) := by
  unfold rangeL at h
  rw [List.getElem?_map] at h
  cases q : (List.range (hi - lo).toNat)[i]? with
  | none =>
    rw [q] at h
    cases h
  | some j =>
    rw [q] at h
    have hj : j = i := by
      obtain ⟨_, e⟩ := List.getElem?_eq_some_iff.mp q
      rw [List.getElem_range] at e
      exact e.symm
    rw [← hj]
    exact (Option.some.inj h).symm
theorem mem_rangeL {lo hi x : Int} : x ∈ rangeL lo hi ↔ lo ≤ x ∧ x < hi := by
  unfold rangeL
  rw [List.mem_map]
  constructor
  · rintro ⟨i, h, rfl⟩
    rw [List.mem_range] at h
    omega
  · intro h
    exact ⟨(x - lo).toNat, List.mem_range.mpr (by omega), by show lo + (((x - lo).toNat : Nat) : Int) = x; omega⟩
def enumF {α : Type} (k : Int) : List α → List (Int × α)
  | [] => []
  | x :: xs => (k, x) :: enumF (k + 1) xs
def enumR {α : Type} (xs : List α) : Res (List (Int × α)) := .ok (enumF 0 xs)
@[simp] theorem enumR_eq {α : Type} (xs : List α) : enumR xs = .ok (enumF 0 xs) := rfl
@[simp] theorem enumF_length {α : Type} : ∀ (xs : List α) (k : Int), (enumF k xs).length = xs.length
  | [], _ => rfl
  | _ :: xs, k => by rw [enumF, List.length_cons, List.length_cons, enumF_length xs]
theorem enumF_get {α : Type} : ∀ (xs : List α) (k : Int) (i : Nat), (enumF k xs)[i]? = xs[i]?.map fun x => (k + (i : Int), x)
  | [], _, _ => by simp [enumF]
  | x :: xs, k, 0 => by simp [enumF]
  | x :: xs, k, i + 1 => by
    rw [enumF, List.getElem?_cons_succ, List.getElem?_cons_succ, enumF_get xs (k + 1) i]
    cases xs[i]? with
    | none => rfl
    | some y =>
      simp only [Option.map_some, Option.some.injEq, Prod.mk.injEq, and_true]
      omega
def zipR {α β : Type} (p : List α × List β) : Res (List (α × β)) := .ok (p.1.zip p.2)
@[simp] theorem zipR_eq {α β : Type} (a : List α) (b : List β) : zipR (a, b) = .ok (a.zip b) := rfl
section
variable {E : XK} {K : PySem.W.Frag} {σ : L2.St} {I C : Hp} {α β γ : Type} {R : Rp α} {S : Rp β} {T : Rp γ} {te : TE} {ta : TA} {m : Res (List α)}
theorem i_list [Im R] (h : EvX E K te σ I C m (pL R)) : EvI E K (iList K te) σ I C kpT m R := fun I1 C1 H1 e e' s Kt q =>
  h I1 C1 H1 e e' s _ (q.mono (fun xs p v I2 H2 e2 s2 ⟨a, vs, h1, h2, h3, h4⟩ => ⟨a, h1, ⟨vs, .inl (.inl (s2.i a _ h2))⟩, by
    have hl := h4.len
    refine p (Itl K a) (fun H => SqL K H a vs) (YAt vs) I2 H2 e2 s2 (by omega) (by rw [← hl]; exact walk_list) (fun I3 C3 H3 e3 _ s3 => .inl (.inl (s3.i a _ (e3 a _ h2)))) (fun i x v' I3 C3 H3 H4 hx e3 _ s3 y => ?_)
    obtain ⟨rfl, y⟩ := y
    obtain ⟨w, hw, r⟩ := h4.get' hx
    rw [hw] at y
    cases y
    exact ⟨I3, Ex.refl _, s3, R.to e3 r⟩⟩) fun _ _ z => z)
/-- over a list that is a cell: the turns leave it as it is -/
theorem i_cell [Im R] {i : Nat} {a : Addr} {vs : List V} {xs : List α} (h : σ[i]? = some (some (.ref a))) (hc : C a = some (.lst vs)) (hl : vs.length ≤ sizeLine) (hr : A2 (fun x u => R.r x u I C) xs vs) :
    EvI E K (iList K (tVar i)) σ I C (fun C3 => C3 a = some (.lst vs)) (.ok xs) R := fun I1 C1 H1 e e' s Kt q =>
  ⟨.ref a, h, a, rfl, ⟨vs, .inl (.inl (s.c a _ (e' a _ hc)))⟩, by
    have hn := hr.len
    refine q (Itl K a) (fun H => SqL K H a vs) (YAt vs) I1 H1 (Ex.refl _) s (by omega) (by rw [← hn]; exact walk_list) (fun I3 C3 H3 e3 k3 s3 => .inl (.inl (s3.c a _ k3))) (fun i x v' I3 C3 H3 H4 hx e3 _ s3 y => ?_)
    obtain ⟨rfl, y⟩ := y
    obtain ⟨w, hw, r⟩ := hr.get' hx
    rw [hw] at y
    cases y
    exact ⟨I3, Ex.refl _, s3, R.to (e.trans e3) r⟩⟩
theorem i_script [Im R] (h : EvX E K te σ I C m (pW K R)) : EvI E K (iList K te) σ I C kpT m R := fun I1 C1 H1 e e' s Kt q =>
  h I1 C1 H1 e e' s _ (q.mono (fun xs p v I2 H2 e2 s2 ⟨a, vs, h1, h2, h3, h4⟩ => ⟨a, h1, ⟨vs, ex_l s2.i h2⟩, by
    have hl := h4.len
    refine p (Itl K a) (fun H => SqL K H a vs) (YAt vs) I2 H2 e2 s2 (by omega) (by rw [← hl]; exact walk_list) (fun I3 C3 H3 e3 _ s3 => ex_l (e3.trans s3.i) h2) (fun i x v' I3 C3 H3 H4 hx e3 _ s3 y => ?_)
    obtain ⟨rfl, y⟩ := y
    obtain ⟨w, hw, r⟩ := h4.get' hx
    rw [hw] at y
    cases y
    exact ⟨I3, Ex.refl _, s3, R.to e3 r⟩⟩) fun _ _ z => z)
theorem i_tup [Im R] (h : EvX E K te σ I C m (pQ K R)) : EvI E K (iTup K te) σ I C kpT m R := fun I1 C1 H1 e e' s Kt q =>
  h I1 C1 H1 e e' s _ (q.mono (fun xs p v I2 H2 e2 s2 ⟨a, vs, h1, h2, h3, h4⟩ => ⟨a, h1, ⟨vs, ex_t s2.i h2⟩, by
    have hl := h4.len
    refine p (Itt K a) (fun H => SqT K H a vs) (YAt vs) I2 H2 e2 s2 (by omega) (by rw [← hl]; exact walk_tup) (fun I3 C3 H3 e3 _ s3 => ex_t (e3.trans s3.i) h2) (fun i x v' I3 C3 H3 H4 hx e3 _ s3 y => ?_)
    obtain ⟨rfl, y⟩ := y
    obtain ⟨w, hw, r⟩ := h4.get' hx
    rw [hw] at y
    cases y
    exact ⟨I3, Ex.refl _, s3, R.to e3 r⟩⟩) fun _ _ z => z)
theorem i_rng1 {m : Res Int} (h : EvA E K ta σ I C m (t1 pI)) : EvI E K (iRng1 ta) σ I C kpT (un rng1 m) pI := fun I1 C1 H1 e e' s Kt q =>
  h I1 C1 H1 e e' s _ ((Post.bind q).mono (fun n p vs I2 H2 e2 s2 ⟨v, hv, rv⟩ => by
    unfold rng1 at p
    split at p
    · rename_i hn
      have hv1 : v = .int n := rv
      subst hv hv1
      refine ⟨n, rfl, by omega, by omega, p (Itr 0 n.toNat) (fun _ => True) (YFn fun i => .int (0 + i)) I2 H2 e2 s2 (by rw [rangeL_length]; exact Nat.le_trans (show (n - 0).toNat ≤ 1000000 by omega) (by decide)) (by rw [rangeL_length, Int.sub_zero]; exact walk_range) (fun _ _ _ _ _ _ => trivial) (fun i x v' I3 C3 H3 H4 hx e3 _ s3 y => ?_)⟩
      obtain ⟨rfl, rfl⟩ := y
      rw [rangeL_get hx]
      exact ⟨I3, Ex.refl _, s3, rfl⟩
    · exact p.elim) fun _ _ z => z)
theorem i_rng2 {m : Res (Int × Int)} (h : EvA E K ta σ I C m (tc pI (t1 pI))) : EvI E K (iRng2 ta) σ I C kpT (un rng2 m) pI := fun I1 C1 H1 e e' s Kt q =>
  h I1 C1 H1 e e' s _ ((Post.bind q).mono (fun n p vs I2 H2 e2 s2 ⟨v, us, hv, rv, w, hw, rw⟩ => by
    unfold rng2 at p
    split at p
    · rename_i hn
      have hv1 : v = .int n.1 := rv
      have hw1 : w = .int n.2 := rw
      subst hv hw hv1 hw1
      refine ⟨n.1, n.2, rfl, by omega, p (Itr n.1 (n.2 - n.1).toNat) (fun _ => True) (YFn fun i => .int (n.1 + i)) I2 H2 e2 s2 (by rw [rangeL_length]; exact Nat.le_trans (show (n.2 - n.1).toNat ≤ 2000000 by omega) (by decide)) (by rw [rangeL_length]; exact walk_range) (fun _ _ _ _ _ _ => trivial) (fun i x v' I3 C3 H3 H4 hx e3 _ s3 y => ?_)⟩
      obtain ⟨rfl, rfl⟩ := y
      rw [rangeL_get hx]
      exact ⟨I3, Ex.refl _, s3, rfl⟩
    · exact p.elim) fun _ _ z => z)
theorem new_pair {I C H : Hp} {T : Addr} {x y : V} {a : α} {b : β} (s : St I C H) (ht : H T = none) (hx : R.r a x I C) (hy : S.r b y I C) :
    ∃ I4, Ex I I4 ∧ St I4 C (upd H T (.tup [x, y])) ∧ (pT (tc R (t1 S))).r (a, b) (.ref T) I4 C :=
  ⟨upd I T (.tup [x, y]), Ex.new (s.i.free ht), s.newI ht, T, _, rfl, upd_same, x, [y], rfl, R.mono (Ex.new (s.i.free ht)) (Ex.refl _) hx, y, rfl, S.mono (Ex.new (s.i.free ht)) (Ex.refl _) hy⟩
theorem i_enum [Im R] (h : EvA E K ta σ I C m (t1 (pL R))) : EvI E K (iEnum K ta) σ I C kpT (un enumR m) (pT (tc pI (t1 R))) := fun I1 C1 H1 e e' s Kt q =>
  h I1 C1 H1 e e' s _ ((Post.bind q).mono (fun xs p vs I2 H2 e2 s2 ⟨v, hv, a, us, h1, h2, h3, h4⟩ => by
    subst hv h1
    have hl := h4.len
    refine ⟨a, us, rfl, .inl (.inl (s2.i a _ h2)), p (Ite K a) (fun H => SqL K H a us) (YPair (fun i => some (.int (i : Nat))) (fun i => us[i]?)) I2 H2 e2 s2 (by rw [enumF_length]; omega) (by rw [enumF_length, ← hl]; exact walk_enum) (fun I3 C3 H3 e3 _ s3 => .inl (.inl (s3.i a _ (e3 a _ h2)))) (fun i x v' I3 C3 H3 H4 hx e3 _ s3 y => ?_)⟩
    obtain ⟨T, u, w, rfl, hT, rfl, hu, hw⟩ := y
    rw [enumF_get] at hx
    cases hz : xs[i]? with
    | none =>
      rw [hz] at hx
      cases hx
    | some z =>
      rw [hz] at hx
      cases hx
      obtain ⟨w', hw', r⟩ := h4.get' hz
      have hw2 : us[i]? = some w := hw
      rw [hw'] at hw2
      cases hw2
      cases hu
      exact new_pair s3 hT (show V.int (i : Nat) = V.int (0 + (i : Int)) by rw [Int.zero_add]) (R.to e3 r)) fun _ _ z => z)
theorem i_zip [Im R] [Im S] {m : Res (List α × List β)} (h : EvA E K ta σ I C m (tc (pL R) (t1 (pL S)))) : EvI E K (iZip K ta) σ I C kpT (un zipR m) (pT (tc R (t1 S))) := fun I1 C1 H1 e e' s Kt q =>
  h I1 C1 H1 e e' s _ ((Post.bind q).mono (fun xs p vs I2 H2 e2 s2 ⟨v, us0, hv, ⟨a, us, h1, h2, h3, h4⟩, v', hv', a', us', h1', h2', h3', h4'⟩ => by
    subst hv hv' h1 h1'
    have hl := h4.len
    have hl' := h4'.len
    refine ⟨a, a', us, us', rfl, .inl (.inl (s2.i a _ h2)), .inl (.inl (s2.i a' _ h2')), p (Itz K a a') (fun H => SqL K H a us ∧ SqL K H a' us') (YPair (fun i => us[i]?) (fun i => us'[i]?)) I2 H2 e2 s2 (by rw [List.length_zip]; omega) (walk_zip (by rw [List.length_zip, hl, hl']))
      (fun I3 C3 H3 e3 _ s3 => ⟨.inl (.inl (s3.i a _ (e3 a _ h2))), .inl (.inl (s3.i a' _ (e3 a' _ h2')))⟩) (fun i x v' I3 C3 H3 H4 hx e3 _ s3 y => ?_)⟩
    obtain ⟨T, u, w, rfl, hT, rfl, hu, hw⟩ := y
    obtain ⟨x1, x2⟩ := x
    obtain ⟨hx1, hx2⟩ := List.getElem?_zip_eq_some.mp hx
    obtain ⟨w1, hw1, r1⟩ := h4.get' hx1
    obtain ⟨w2, hw2, r2⟩ := h4'.get' hx2
    have hu2 : us[i]? = some u := hu
    have hw3 : us'[i]? = some w := hw
    rw [hw1] at hu2
    cases hu2
    rw [hw2] at hw3
    cases hw3
    exact new_pair s3 hT (R.to e3 r1) (S.to e3 r2)) fun _ _ z => z)
/-! ### targets -/
def Tg (K : PySem.W.Frag) {α : Type} (g : TG) (R : Rp α) (σ : L2.St) (P : α → L2.St → Hp → Hp → Prop) : Prop := ∀ x v I C H Q, St I C H → R.r x v I C → (∀ σ2, P x σ2 I C → Q σ2 H) → g v σ H Q
theorem g_name {i : Nat} : Tg K (gName i) R σ (fun x σ2 I C => ∃ v, σ2 = σ.set i (some v) ∧ R.r x v I C) := fun x v I C H Q s r k => k _ ⟨v, rfl, r⟩
theorem g_two {i j : Nat} : Tg K (gTup K 2 (gCons (gName i) (gCons (gName j) gNil))) (pT (tc R (t1 S))) σ (fun x σ2 I C => ∃ u w, σ2 = (σ.set i (some u)).set j (some w) ∧ R.r x.1 u I C ∧ S.r x.2 w I C) := fun x v I C H Q s r k => by
  obtain ⟨a, vs, rfl, h2, u, us, rfl, h3, w, rfl, h4⟩ := r
  exact ⟨a, _, rfl, .inl (.inl (s.i _ _ h2)), rfl, u, _, rfl, w, _, rfl, rfl, k _ ⟨u, w, rfl, h3, h4⟩⟩
theorem g_three {i j l : Nat} : Tg K (gTup K 3 (gCons (gName i) (gCons (gName j) (gCons (gName l) gNil)))) (pT (tc R (tc S (t1 T)))) σ
    (fun x σ2 I C => ∃ u w z, σ2 = ((σ.set i (some u)).set j (some w)).set l (some z) ∧ R.r x.1 u I C ∧ S.r x.2.1 w I C ∧ T.r x.2.2 z I C) := fun x v I C H Q s r k => by
  obtain ⟨a, vs, rfl, h2, u, us, rfl, h3, w, us', rfl, h4, z, rfl, h5⟩ := r
  exact ⟨a, _, rfl, .inl (.inl (s.i _ _ h2)), rfl, u, _, rfl, w, _, rfl, z, _, rfl, rfl, k _ ⟨u, w, z, rfl, h3, h4, h5⟩⟩
/-! ### comprehensions (an element that raises is not served) -/
def mapR (f : α → Res β) : List α → Res (List β)
  | [] => .ok []
  | x :: xs => match f x with
    | .ok y => (mapR f xs).bind fun ys => .ok (y :: ys)
    | _ => .bad
def filR (p : α → Res Bool) (f : α → Res β) : List α → Res (List β)
  | [] => .ok []
  | x :: xs => match p x with
    | .ok true => (match f x with
      | .ok y => (filR p f xs).bind fun ys => .ok (y :: ys)
      | _ => .bad)
    | .ok false => filR p f xs
    | _ => .bad
theorem mapR_ok {f : α → Res β} {g : α → β} : ∀ {xs : List α}, (∀ x, x ∈ xs → f x = .ok (g x)) → mapR f xs = .ok (xs.map g)
  | [], _ => rfl
  | x :: xs, h => by
    unfold mapR
    rw [h x List.mem_cons_self]
    show (mapR f xs).bind _ = _
    rw [mapR_ok (xs := xs) fun y hy => h y (List.mem_cons_of_mem _ hy)]
    rfl
theorem filR_ok {p : α → Res Bool} {f : α → Res β} {q : α → Bool} {g : α → β} : ∀ {xs : List α}, (∀ x, x ∈ xs → p x = .ok (q x)) → (∀ x, x ∈ xs → q x = true → f x = .ok (g x)) → filR p f xs = .ok ((xs.filter q).map g)
  | [], _, _ => rfl
  | x :: xs, h, h' => by
    have ih := filR_ok (xs := xs) (fun y hy => h y (List.mem_cons_of_mem _ hy)) (fun y hy => h' y (List.mem_cons_of_mem _ hy))
    unfold filR
    rw [h x List.mem_cons_self]
    cases hq : q x with
    | true =>
      show (match f x with
        | .ok y => (filR p f xs).bind fun ys => .ok (y :: ys)
        | _ => .bad) = _
      rw [h' x List.mem_cons_self hq, List.filter_cons, hq]
      show (filR p f xs).bind _ = _
      rw [ih]
      rfl
    | false =>
      show filR p f xs = _
      rw [ih, List.filter_cons, hq]
      rfl
@[simp] theorem mapR_okf (g : α → β) (xs : List α) : mapR (fun x => .ok (g x)) xs = .ok (xs.map g) := mapR_ok fun _ _ => rfl
@[simp] theorem filR_okf (q : α → Bool) (g : α → β) (xs : List α) : filR (fun x => .ok (q x)) (fun x => .ok (g x)) xs = .ok ((xs.filter q).map g) := filR_ok (fun _ _ => rfl) (fun _ _ _ => rfl)
abbrev EZ : XK := fun _ _ _ => False
theorem drop_cons {xs : List α} {i : Nat} {x : α} (h : xs[i]? = some x) : xs.drop i = x :: xs.drop (i + 1) := by
  obtain ⟨hi, e⟩ := List.getElem?_eq_some_iff.mp h
  rw [← e]
  exact List.drop_eq_getElem_cons hi
/-- what stands between two turns: ys made so far, the rest gives what is wanted -/
def Lc (S : Rp β) (I C : Hp) (D : Addr) (rest : Res (List β)) (W : List β → Prop) (n : Nat) (H : Hp) : Prop :=
  ∃ (ys : List β) (vs : List V) (I' : Hp), Ex I I' ∧ St I' (upd C D (.lst vs)) H ∧ vs.length ≤ n ∧ A2 (fun x u => S.r x u I' C) ys vs ∧ Post rest (fun zs => W (ys ++ zs)) (fun _ _ => False)
theorem PX.no {K : PySem.W.Frag} {I C : Hp} {c : Ec} {i : Int} (h : False) : PX EZ K I C c i := h.elim
theorem x_lcgK [Im S] {wi : TI} {g : TG} {tt : TT} {vs : List Nat} {p : α → Res Bool} {f : α → Res β} {P : α → L2.St → Hp → Hp → Prop} {kp : Hp → Prop} (hi : EvI E K wi σ I C kp m R) (hkp : ∀ C3, Ex C C3 → kp C3) (hg : Tg K g R (wipe σ vs) P)
    (hw : ∀ x σ2 I' C', P x σ2 I' C' → wipe σ2 vs = wipe σ vs)
    (hp : ∀ x σ2 I' C', Ex I I' → Ex C C' → P x σ2 I' C' → EvT EZ K tt σ2 I' C' (p x))
    (hf : ∀ x σ2 I' C', Ex I I' → Ex C C' → P x σ2 I' C' → EvX EZ K te σ2 I' C' (f x) S)
    (hm : ∀ x σ2 I' I2 C', Ex I' I2 → P x σ2 I' C' → P x σ2 I2 C') : EvX E K (tLc wi g tt te vs) σ I C (m.bind (filR p f)) (pL S) := fun I1 C1 H1 e e' s Q q =>
  hi I1 C1 H1 e e' s _ ((Post.bind q).mono (fun xs q2 J G Y I2 H2 e2 s2 hz w hG hY D hD => by
    have cD : C1 D = none := s2.c.free hD
    refine lc_it w (fun i H => Lc S I2 C1 D (filR p f (xs.drop i)) (PQ (pL S) I1 C1 Q) i H) ⟨[], [], I2, Ex.refl _, s2.newC hD, Nat.le_refl _, .nil, ?_⟩ (fun i H hi ⟨_, vs', I', e3, s3, _⟩ => hG I' _ H e3 (hkp _ (e'.trans (Ex.new cD))) s3) (fun i x H H' hi ⟨ys, us, I', e3, s3, hn, r3, po⟩ y => ?_) (fun H ⟨ys, us, I', e3, s3, hn, r3, po⟩ => ?_)
    · cases hfil : filR p f xs with
      | ok zs =>
        rw [hfil] at q2
        show Post (filR p f (xs.drop 0)) _ _
        rw [List.drop_zero, hfil]
        exact q2
      | exc c i =>
        exfalso
        revert hfil
        clear q2 hG hY w hz
        induction xs with
        | nil =>
          intro z
          cases z
        | cons x xs ih =>
          unfold filR
          cases p x with
          | ok b =>
            cases b with
            | true =>
              cases f x with
              | ok y =>
                intro z
                cases hh : filR p f xs with
                | ok zs =>
                  simp only [hh] at z
                  cases z
                | exc c' i' =>
                  simp only [hh] at z
                  have z2 : (Res.exc c' i' : Res (List β)) = .exc c i := z
                  cases z2
                  exact ih hh
                | bad =>
                  simp only [hh] at z
                  cases z
              | exc _ _ => intro z; cases z
              | bad => intro z; cases z
            | false => exact ih
          | exc _ _ => intro z; cases z
          | bad => intro z; cases z
      | bad =>
        rw [hfil] at q2
        exact q2.elim
    · obtain ⟨a, ha⟩ : ∃ a, xs[i]? = some a := ⟨xs[i], by simp [hi]⟩
      rw [drop_cons ha] at po
      obtain ⟨I4, e4, s4, ra⟩ := hY i a x I' _ H H' ha e3 (hkp _ (e'.trans (Ex.new cD))) s3 y
      refine hg a x I4 _ H' _ s4 ra fun σ2 pa => ⟨hw _ _ _ _ pa, ?_⟩
      have eI : Ex I I4 := e.trans (e2.trans (e3.trans e4))
      have eC : Ex C (upd C1 D (.lst us)) := e'.trans (Ex.new cD)
      unfold filR at po
      refine hp a σ2 I4 _ eI eC pa I4 _ H' (Ex.refl _) (Ex.refl _) s4 _ ?_
      cases hpa : p a with
      | ok b =>
        rw [hpa] at po
        cases b with
        | true =>
          show ∀ I5 H5, Ex I4 I5 → St I5 (upd C1 D (.lst us)) H5 → te σ2 H5 _
          intro I5 H5 e5 s5
          refine hf a σ2 I5 _ (eI.trans e5) eC (hm _ _ _ _ _ e5 pa) I5 _ H5 (Ex.refl _) (Ex.refl _) s5 _ ?_
          cases hfa : f a with
          | ok b =>
            have po2 : Post ((filR p f (xs.drop (i + 1))).bind fun ys => .ok (b :: ys)) (fun zs => PQ (pL S) I1 C1 Q (ys ++ zs)) (fun _ _ => False) := by
              have z := po
              simp only [hfa] at z
              exact z
            intro v I6 H6 e6 s6 rv
            have hsz : us.length < sizeLine := Nat.lt_of_le_of_lt hn (Nat.lt_of_lt_of_le hi hz)
            refine ⟨us, s6.c D _ upd_same, hsz, ⟨ys ++ [b], us ++ [v], I6, e3.trans (e4.trans (e5.trans e6)), ?_, by rw [List.length_append]; exact Nat.succ_le_succ hn, ?_, ?_⟩⟩
            · have z := s6.set (o := .lst (us ++ [v])) (p := D) upd_same
              rw [upd_upd] at z
              exact z
            · exact (r3.imp fun _ _ => S.mono (e4.trans (e5.trans e6)) (Ex.refl _)).append (.one (Im.im rv))
            · refine (Post.bind po2).mono (fun zs z => ?_) fun _ _ z => z
              rw [List.append_assoc]
              exact z
          | exc c j =>
            have z := po
            simp only [hfa] at z
            exact z.elim
          | bad =>
            have z := po
            simp only [hfa] at z
            exact z.elim
        | false =>
          show ∀ I5 H5, Ex I4 I5 → St I5 (upd C1 D (.lst us)) H5 → Lc S I2 C1 D (filR p f (xs.drop (i + 1))) (PQ (pL S) I1 C1 Q) (i + 1) H5
          intro I5 H5 e5 s5
          exact ⟨ys, us, I5, e3.trans (e4.trans e5), s5, Nat.le_succ_of_le hn, r3.imp fun _ _ => S.mono (e4.trans e5) (Ex.refl _), po⟩
      | exc c j =>
        rw [hpa] at po
        exact po.elim
      | bad =>
        rw [hpa] at po
        exact po.elim
    · rw [List.drop_length] at po
      have po2 : PQ (pL S) I1 C1 Q (ys ++ []) := po
      rw [List.append_nil] at po2
      have sf := s3.frz (p := D) upd_same
      have iD : I' D = none := s3.freeI upd_same
      refine po2 (.ref D) (upd I' D (.lst us)) H (e2.trans (e3.trans (Ex.new iD))) (sf.less fun a o ha => ?_) ⟨D, us, rfl, upd_same, Nat.le_trans hn hz, r3.imp fun _ _ => S.mono (Ex.new iD) (Ex.refl _)⟩
      have hne : a ≠ D := fun z => by
        rw [z, cD] at ha
        cases ha
      show (if a = D then none else upd C1 D (.lst us) a) = some o
      rw [if_neg hne, upd_ne hne]
      exact ha) fun _ _ z => z)
theorem x_lcg [Im S] {wi : TI} {g : TG} {tt : TT} {vs : List Nat} {p : α → Res Bool} {f : α → Res β} {P : α → L2.St → Hp → Hp → Prop} (hi : EvI E K wi σ I C kpT m R) (hg : Tg K g R (wipe σ vs) P)
    (hw : ∀ x σ2 I' C', P x σ2 I' C' → wipe σ2 vs = wipe σ vs)
    (hp : ∀ x σ2 I' C', Ex I I' → Ex C C' → P x σ2 I' C' → EvT EZ K tt σ2 I' C' (p x))
    (hf : ∀ x σ2 I' C', Ex I I' → Ex C C' → P x σ2 I' C' → EvX EZ K te σ2 I' C' (f x) S)
    (hm : ∀ x σ2 I' I2 C', Ex I' I2 → P x σ2 I' C' → P x σ2 I2 C') : EvX E K (tLc wi g tt te vs) σ I C (m.bind (filR p f)) (pL S) := x_lcgK hi (fun _ _ => trivial) hg hw hp hf hm
theorem filR_yes (f : α → Res β) : ∀ xs : List α, filR (fun _ => .ok true) f xs = mapR f xs
  | [] => rfl
  | x :: xs => by
    unfold filR mapR
    rw [filR_yes f xs]
theorem t_yes : EvT E K tYes σ I C (.ok true) := fun I1 C1 H1 e e' s Q q => q I1 H1 (Ex.refl _) s
theorem x_lc [Im S] {wi : TI} {g : TG} {vs : List Nat} {f : α → Res β} {P : α → L2.St → Hp → Hp → Prop} (hi : EvI E K wi σ I C kpT m R) (hg : Tg K g R (wipe σ vs) P)
    (hw : ∀ x σ2 I' C', P x σ2 I' C' → wipe σ2 vs = wipe σ vs)
    (hf : ∀ x σ2 I' C', Ex I I' → Ex C C' → P x σ2 I' C' → EvX EZ K te σ2 I' C' (f x) S)
    (hm : ∀ x σ2 I' I2 C', Ex I' I2 → P x σ2 I' C' → P x σ2 I2 C') : EvX E K (tLc wi g tYes te vs) σ I C (m.bind (mapR f)) (pL S) := by
  have z := x_lcg (p := fun _ => .ok true) hi hg hw (fun x σ2 I' C' _ _ _ => t_yes) hf hm
  have e : filR (fun _ => Res.ok true) f = mapR f := funext (filR_yes f)
  rw [e] at z
  exact z
theorem x_lcK [Im S] {wi : TI} {g : TG} {vs : List Nat} {f : α → Res β} {P : α → L2.St → Hp → Hp → Prop} {kp : Hp → Prop} (hi : EvI E K wi σ I C kp m R) (hkp : ∀ C3, Ex C C3 → kp C3) (hg : Tg K g R (wipe σ vs) P)
    (hw : ∀ x σ2 I' C', P x σ2 I' C' → wipe σ2 vs = wipe σ vs)
    (hf : ∀ x σ2 I' C', Ex I I' → Ex C C' → P x σ2 I' C' → EvX EZ K te σ2 I' C' (f x) S)
    (hm : ∀ x σ2 I' I2 C', Ex I' I2 → P x σ2 I' C' → P x σ2 I2 C') : EvX E K (tLc wi g tYes te vs) σ I C (m.bind (mapR f)) (pL S) := by
  have z := x_lcgK (p := fun _ => .ok true) hi hkp hg hw (fun x σ2 I' C' _ _ _ => t_yes) hf hm
  have e : filR (fun _ => Res.ok true) f = mapR f := funext (filR_yes f)
  rw [e] at z
  exact z
end
end Sd

namespace Sd
open PySem L2
/-! ### promises -/
/-- f(a ..) hands back what the mirror m tells; nothing changes -/
def spP (K : PySem.W.Frag) {α β : Type} (T : Rt α) (m : α → Res β) (R : Rp β) : Sp := fun vs H Q E => ∃ (I C : Hp) (a : α), St I C H ∧ T.r a vs I C ∧ Post (m a) (PQ R I C Q) (PX E K I C)
/-- f(pool, a ..): the list at the first place changes; nothing is raised -/
def spM {α β μ : Type} (M : Rt μ) (T : Rt α) (m : α → μ → Res (β × μ)) (R : Rp β) : Sp := fun vs H Q _ => ∃ (I C : Hp) (p : Addr) (ws us : List V) (x : μ) (a : α), vs = .ref p :: us ∧ St I C H ∧ C p = some (.lst ws) ∧ M.r x ws I C ∧ T.r a us I C ∧
  Post (m a x) (fun b => ∀ v ws' I2 H2, Ex I I2 → St I2 (upd C p (.lst ws')) H2 → M.r b.2 ws' I2 (upd C p (.lst ws')) → R.r b.1 v I2 (upd C p (.lst ws')) → Q v H2) (fun _ _ => False)
inductive Out (S ρ : Type) where
  | nx (s : S)
  | br (s : S)
  | rt (r : ρ)
section
variable {α β S ρ : Type}
def loopN (f : α → S → Res S) : List α → S → Res S
  | [], s => .ok s
  | x :: xs, s => (f x s).bind fun s' => loopN f xs s'
def loopR (f : α → S → Res (Out S ρ)) : List α → S → Res (Out S ρ)
  | [], s => .ok (.nx s)
  | x :: xs, s => (f x s).bind fun o => match o with
    | .nx s' => loopR f xs s'
    | .br s' => .ok (.nx s')
    | .rt r => .ok (.rt r)
def whileF (c : S → Res Bool) (f : S → Res (Out S ρ)) : Nat → S → Res (Out S ρ)
  | 0, _ => .bad
  | n + 1, s => (c s).bind fun b => if b = true then (f s).bind fun o => match o with
    | .nx s' => whileF c f n s'
    | .br s' => .ok (.nx s')
    | .rt r => .ok (.rt r) else .ok (.nx s)
def whileN (c : S → Res Bool) (f : S → Res S) : Nat → S → Res S
  | 0, _ => .bad
  | n + 1, s => (c s).bind fun b => if b = true then (f s).bind fun s' => whileN c f n s' else .ok s
theorem loopN_ok {f : α → S → Res S} {g : S → α → S} : ∀ {xs : List α} {s : S}, (∀ x, x ∈ xs → ∀ s, f x s = .ok (g s x)) → loopN f xs s = .ok (xs.foldl g s)
  | [], s, _ => rfl
  | x :: xs, s, h => by
    unfold loopN
    rw [h x List.mem_cons_self]
    exact loopN_ok (xs := xs) fun y hy => h y (List.mem_cons_of_mem _ hy)
theorem loopN_cons (f : α → S → Res S) (x : α) (xs : List α) (s : S) : loopN f (x :: xs) s = (f x s).bind fun s' => loopN f xs s' := rfl
theorem loopR_cons (f : α → S → Res (Out S ρ)) (x : α) (xs : List α) (s : S) : loopR f (x :: xs) s = (f x s).bind fun o => match o with
    | .nx s' => loopR f xs s'
    | .br s' => .ok (.nx s')
    | .rt r => .ok (.rt r) := rfl
end
abbrev XH (X : Ec → Int → Prop) (E : XK) (K : PySem.W.Frag) (I C : Hp) : Prop := ∀ c i, X c i → PX E K I C c i
section
variable {E : XK} {K : PySem.W.Frag} {σ : L2.St} {I C H : Hp} {α β γ ω S ρ μ : Type} {R : Rp α} {te : TE} {ta : TA} {tt : TT} {tz tu tw : TS} {D : Ends} {m : Res α} {Q : ω → Prop} {X : Ec → Int → Prop}
/-! ### calls of defs -/
theorem x_call {T : Rt α} {f : α → Res β} {R : Rp β} (h : EvA E K ta σ I C m T) : EvX E K (tCall (spP K T f R) [] E ta) σ I C (un f m) R := fun I1 C1 H1 e e' s Q q =>
  h I1 C1 H1 e e' s _ ((Post.bind q).mono (fun a p vs I2 H2 e2 s2 rv => by
    refine ⟨I2, C1, a, s2, by rw [List.append_nil]; exact rv, Post.mono (m := f a) p (fun b z v I3 H3 e3 s3 rw => z v I3 H3 (e2.trans e3) s3 rw) fun c i z => z.mono e2 (Ex.refl _)⟩) fun _ _ z => z)
/-! ### statements -/
theorem s_asg {i : Nat} {k : α → Res ω} (h : EvX E K te σ I C m R) (s : St I C H) (hX : XH X E K I C) (hm : Post (m.bind k) Q X)
    (next : ∀ a v I2 H2, Ex I I2 → St I2 C H2 → R.r a v I2 C → Post (k a) Q X → tz D (σ.set i (some v)) H2) : tSeq (tAsg te (gName i)) tz D σ H :=
  h I C H (Ex.refl _) (Ex.refl _) s _ ((Post.bind hm).mono (fun a p v I2 H2 e2 s2 rv => next a v I2 H2 e2 s2 rv p) hX)
theorem s_asgG {g : TG} {P : α → L2.St → Hp → Hp → Prop} {k : α → Res ω} (hg : Tg K g R σ P) (h : EvX E K te σ I C m R) (s : St I C H) (hX : XH X E K I C) (hm : Post (m.bind k) Q X)
    (next : ∀ a σ2 I2 H2, Ex I I2 → St I2 C H2 → P a σ2 I2 C → Post (k a) Q X → tz D σ2 H2) : tSeq (tAsg te g) tz D σ H :=
  h I C H (Ex.refl _) (Ex.refl _) s _ ((Post.bind hm).mono (fun a p v I2 H2 e2 s2 rv => hg a v I2 C H2 _ s2 rv fun σ2 pa => next a σ2 I2 H2 e2 s2 pa p) hX)
theorem s_ret {k : α → Res ω} (h : EvX E K te σ I C m R) (s : St I C H) (hX : XH X E K I C) (hm : Post (m.bind k) Q X)
    (next : ∀ a v I2 H2, Ex I I2 → St I2 C H2 → R.r a v I2 C → Post (k a) Q X → D.rt v H2) : tSeq (tRet te) tz D σ H :=
  h I C H (Ex.refl _) (Ex.refl _) s _ ((Post.bind hm).mono (fun a p v I2 H2 e2 s2 rv => next a v I2 H2 e2 s2 rv p) hX)
theorem s_expr {k : α → Res ω} (h : EvX E K te σ I C m R) (s : St I C H) (hX : XH X E K I C) (hm : Post (m.bind k) Q X)
    (next : ∀ a I2 H2, Ex I I2 → St I2 C H2 → Post (k a) Q X → tz D σ H2) : tSeq (tDrop te) tz D σ H :=
  h I C H (Ex.refl _) (Ex.refl _) s _ ((Post.bind hm).mono (fun a p v I2 H2 e2 s2 rv => next a I2 H2 e2 s2 p) hX)
theorem s_if {c : Res Bool} {m1 m2 : Res ω} (h : EvT E K tt σ I C c) (s : St I C H) (hX : XH X E K I C) (hm : Post (ifR c m1 m2) Q X)
    (h1 : ∀ I2 H2, Ex I I2 → St I2 C H2 → Post m1 Q X → tu { D with nx := tz D } σ H2) (h2 : ∀ I2 H2, Ex I I2 → St I2 C H2 → Post m2 Q X → tw { D with nx := tz D } σ H2) : tSeq (tIfS tt tu tw) tz D σ H :=
  h I C H (Ex.refl _) (Ex.refl _) s _ ((Post.bind hm).mono (fun b p I2 H2 e2 s2 => by
    cases b with
    | true => exact h1 I2 H2 e2 s2 p
    | false => exact h2 I2 H2 e2 s2 p) hX)
/-- an if whose ways meet: the word P of what stands behind it -/
theorem s_ifj (P : S → L2.St → Hp → Hp → Prop) {c : Res Bool} {m1 m2 : Res S} {k : S → Res ω} (h : EvT E K tt σ I C c) (s : St I C H) (hX : XH X E K I C) (hm : Post ((ifR c m1 m2).bind k) Q X)
    (h1 : ∀ (N : L2.St → Hp → Prop) I2 H2, Ex I I2 → St I2 C H2 → Post m1 (fun s' => ∀ σ2 I3 C3 H3, Ex I I3 → St I3 C3 H3 → P s' σ2 I3 C3 → N σ2 H3) X → tu { D with nx := N } σ H2)
    (h2 : ∀ (N : L2.St → Hp → Prop) I2 H2, Ex I I2 → St I2 C H2 → Post m2 (fun s' => ∀ σ2 I3 C3 H3, Ex I I3 → St I3 C3 H3 → P s' σ2 I3 C3 → N σ2 H3) X → tw { D with nx := N } σ H2)
    (next : ∀ s' σ2 I3 C3 H3, Ex I I3 → St I3 C3 H3 → P s' σ2 I3 C3 → Post (k s') Q X → tz D σ2 H3) : Evl.tCut (tIfS tt tu tw) tz D σ H := by
  refine ⟨fun σ2 H3 => ∃ s' I3 C3, Ex I I3 ∧ St I3 C3 H3 ∧ P s' σ2 I3 C3 ∧ Post (k s') Q X, ?_, fun σ2 H3 ⟨s', I3, C3, e3, s3, p, q⟩ => next s' σ2 I3 C3 H3 e3 s3 p q⟩
  refine h I C H (Ex.refl _) (Ex.refl _) s _ ((Post.bind (Post.bind hm)).mono (fun b p I2 H2 e2 s2 => ?_) hX)
  cases b with
  | true => exact h1 _ I2 H2 e2 s2 (Post.mono (m := m1) p (fun s' z σ2 I3 C3 H3 e3 s3 pp => ⟨s', I3, C3, e3, s3, pp, z⟩) fun _ _ z => z)
  | false => exact h2 _ I2 H2 e2 s2 (Post.mono (m := m2) p (fun s' z σ2 I3 C3 H3 e3 s3 pp => ⟨s', I3, C3, e3, s3, pp, z⟩) fun _ _ z => z)
/-- the same, a way may return -/
theorem s_ifr (P : S → L2.St → Hp → Hp → Prop) {c : Res Bool} {m1 m2 : Res (Out S ρ)} {k : Out S ρ → Res ω} (h : EvT E K tt σ I C c) (s : St I C H) (hX : XH X E K I C) (hm : Post ((ifR c m1 m2).bind k) Q X)
    (h1 : ∀ (N : L2.St → Hp → Prop) I2 H2, Ex I I2 → St I2 C H2 → Post m1 (fun o => match o with
      | .nx s' => ∀ σ2 I3 C3 H3, Ex I I3 → St I3 C3 H3 → P s' σ2 I3 C3 → N σ2 H3
      | o => Post (k o) Q X) X → tu { D with nx := N } σ H2)
    (h2 : ∀ (N : L2.St → Hp → Prop) I2 H2, Ex I I2 → St I2 C H2 → Post m2 (fun o => match o with
      | .nx s' => ∀ σ2 I3 C3 H3, Ex I I3 → St I3 C3 H3 → P s' σ2 I3 C3 → N σ2 H3
      | o => Post (k o) Q X) X → tw { D with nx := N } σ H2)
    (next : ∀ s' σ2 I3 C3 H3, Ex I I3 → St I3 C3 H3 → P s' σ2 I3 C3 → Post (k (.nx s')) Q X → tz D σ2 H3) : Evl.tCut (tIfS tt tu tw) tz D σ H := by
  refine ⟨fun σ2 H3 => ∃ s' I3 C3, Ex I I3 ∧ St I3 C3 H3 ∧ P s' σ2 I3 C3 ∧ Post (k (.nx s')) Q X, ?_, fun σ2 H3 ⟨s', I3, C3, e3, s3, p, q⟩ => next s' σ2 I3 C3 H3 e3 s3 p q⟩
  refine h I C H (Ex.refl _) (Ex.refl _) s _ ((Post.bind (Post.bind hm)).mono (fun b p I2 H2 e2 s2 => ?_) hX)
  cases b with
  | true => exact h1 _ I2 H2 e2 s2 (Post.mono (m := m1) p (fun o z => by
      cases o with
      | nx s' => exact fun σ2 I3 C3 H3 e3 s3 pp => ⟨s', I3, C3, e3, s3, pp, z⟩
      | br s' => exact z
      | rt r => exact z) fun _ _ z => z)
  | false => exact h2 _ I2 H2 e2 s2 (Post.mono (m := m2) p (fun o z => by
      cases o with
      | nx s' => exact fun σ2 I3 C3 H3 e3 s3 pp => ⟨s', I3, C3, e3, s3, pp, z⟩
      | br s' => exact z
      | rt r => exact z) fun _ _ z => z)
/-! ### loops -/
theorem s_forN (P : S → L2.St → Hp → Hp → Prop) {wi : TI} {g : TG} {kp : Hp → Prop} {m : Res (List α)} {f : α → S → Res S} {s0 : S} {k : S → Res ω} (hi : EvI E K wi σ I C kp m R) (s : St I C H) (hX : XH X E K I C) (hm : Post ((m.bind fun xs => loopN f xs s0).bind k) Q X)
    (h0 : ∀ I2, Ex I I2 → P s0 σ I2 C) (hk : ∀ s' σ' I' C', P s' σ' I' C' → kp C') (hP : ∀ s' σ' I' I2 C', Ex I' I2 → P s' σ' I' C' → P s' σ' I2 C')
    (body : ∀ (N : L2.St → Hp → Prop) x v s' σ' I' C' H', Ex I I' → St I' C' H' → P s' σ' I' C' → R.r x v I' C' → Post (f x s') (fun s2 => ∀ σ2 I3 C3 H3, Ex I' I3 → St I3 C3 H3 → P s2 σ2 I3 C3 → N σ2 H3) X →
      g v σ' H' fun σ2 H2 => tu { D with nx := N, ct := N, bk := tz D } σ2 H2)
    (next : ∀ s' σ' I' C' H', Ex I I' → St I' C' H' → P s' σ' I' C' → Post (k s') Q X → tz D σ' H') : tSeq (tFor wi g tu) tz D σ H :=
  hi I C H (Ex.refl _) (Ex.refl _) s _ ((Post.bind (Post.bind hm)).mono (fun xs q2 J G Y I2 H2 e2 s2 hz w hG hY => by
    refine for_it w (fun i σ' H' => ∃ s' I' C', Ex I2 I' ∧ St I' C' H' ∧ P s' σ' I' C' ∧ Post ((loopN f (xs.drop i) s').bind k) Q X) ⟨s0, I2, C, Ex.refl _, s2, h0 I2 e2, by rw [List.drop_zero]; exact Post.of_bind q2⟩
      (fun i σ' H' hi ⟨s', I', C', e3, s3, p, _⟩ => hG I' C' H' e3 (hk _ _ _ _ p) s3) (fun i x σ' H1 H' hi ⟨s', I', C', e3, s3, p, po⟩ y => ?_) (fun σ' H' ⟨s', I', C', e3, s3, p, po⟩ => ?_)
    · obtain ⟨a, ha⟩ : ∃ a, xs[i]? = some a := ⟨xs[i], by simp [hi]⟩
      rw [drop_cons ha] at po
      obtain ⟨I4, e4, s4, ra⟩ := hY i a x I' C' H1 H' ha e3 (hk _ _ _ _ p) s3 y
      exact body _ a x s' σ' I4 C' H' (e2.trans (e3.trans e4)) s4 (hP _ _ _ _ _ e4 p) ra ((Post.bind (Post.bind po)).mono (fun s3 z σ2 I5 C5 H5 e5 s5 p5 => ⟨s3, I5, C5, e3.trans (e4.trans e5), s5, p5, Post.of_bind z⟩) fun _ _ z => z)
    · rw [List.drop_length] at po
      exact next s' σ' I' C' H' (e2.trans e3) s3 p po) hX)
/-- .. a turn may break or return -/
theorem s_forR (P : S → L2.St → Hp → Hp → Prop) {wi : TI} {g : TG} {kp : Hp → Prop} {m : Res (List α)} {f : α → S → Res (Out S ρ)} {s0 : S} {k : Out S ρ → Res ω} (hi : EvI E K wi σ I C kp m R) (s : St I C H) (hX : XH X E K I C) (hm : Post ((m.bind fun xs => loopR f xs s0).bind k) Q X)
    (h0 : ∀ I2, Ex I I2 → P s0 σ I2 C) (hk : ∀ s' σ' I' C', P s' σ' I' C' → kp C') (hP : ∀ s' σ' I' I2 C', Ex I' I2 → P s' σ' I' C' → P s' σ' I2 C')
    (body : ∀ (N : L2.St → Hp → Prop) x v s' σ' I' C' H', Ex I I' → St I' C' H' → P s' σ' I' C' → R.r x v I' C' → Post (f x s') (fun o => match o with
        | .nx s2 => ∀ σ2 I3 C3 H3, Ex I' I3 → St I3 C3 H3 → P s2 σ2 I3 C3 → N σ2 H3
        | .br s2 => ∀ σ2 I3 C3 H3, Ex I' I3 → St I3 C3 H3 → P s2 σ2 I3 C3 → tz D σ2 H3
        | .rt r => Post (k (.rt r)) Q X) X →
      g v σ' H' fun σ2 H2 => tu { D with nx := N, ct := N, bk := tz D } σ2 H2)
    (next : ∀ s' σ' I' C' H', Ex I I' → St I' C' H' → P s' σ' I' C' → Post (k (.nx s')) Q X → tz D σ' H') : tSeq (tFor wi g tu) tz D σ H :=
  hi I C H (Ex.refl _) (Ex.refl _) s _ ((Post.bind (Post.bind hm)).mono (fun xs q2 J G Y I2 H2 e2 s2 hz w hG hY => by
    refine for_it w (fun i σ' H' => ∃ s' I' C', Ex I2 I' ∧ St I' C' H' ∧ P s' σ' I' C' ∧ Post ((loopR f (xs.drop i) s').bind k) Q X) ⟨s0, I2, C, Ex.refl _, s2, h0 I2 e2, by rw [List.drop_zero]; exact Post.of_bind q2⟩
      (fun i σ' H' hi ⟨s', I', C', e3, s3, p, _⟩ => hG I' C' H' e3 (hk _ _ _ _ p) s3) (fun i x σ' H1 H' hi ⟨s', I', C', e3, s3, p, po⟩ y => ?_) (fun σ' H' ⟨s', I', C', e3, s3, p, po⟩ => ?_)
    · obtain ⟨a, ha⟩ : ∃ a, xs[i]? = some a := ⟨xs[i], by simp [hi]⟩
      rw [drop_cons ha] at po
      obtain ⟨I4, e4, s4, ra⟩ := hY i a x I' C' H1 H' ha e3 (hk _ _ _ _ p) s3 y
      refine body _ a x s' σ' I4 C' H' (e2.trans (e3.trans e4)) s4 (hP _ _ _ _ _ e4 p) ra ((Post.bind (Post.bind po)).mono (fun o z => ?_) fun _ _ z => z)
      cases o with
      | nx s3 => exact fun σ2 I5 C5 H5 e5 s5 p5 => ⟨s3, I5, C5, e3.trans (e4.trans e5), s5, p5, Post.of_bind z⟩
      | br s3 => exact fun σ2 I5 C5 H5 e5 s5 p5 => next s3 σ2 I5 C5 H5 (e2.trans (e3.trans (e4.trans e5))) s5 p5 z
      | rt r => exact z
    · rw [List.drop_length] at po
      exact next s' σ' I' C' H' (e2.trans e3) s3 p po) hX)
theorem s_while (P : S → L2.St → Hp → Hp → Prop) {n : Nat} {c : S → Res Bool} {f : S → Res (Out S ρ)} {s0 : S} {k : Out S ρ → Res ω} (s : St I C H) (hm : Post ((whileF c f n s0).bind k) Q X)
    (h0 : P s0 σ I C)
    (cond : ∀ s' σ' I' C', Ex I I' → P s' σ' I' C' → EvT E K tt σ' I' C' (c s') ∧ XH X E K I' C') (hP : ∀ s' σ' I' I2 C', Ex I' I2 → P s' σ' I' C' → P s' σ' I2 C')
    (body : ∀ (N : L2.St → Hp → Prop) s' σ' I' C' H', Ex I I' → St I' C' H' → P s' σ' I' C' → Post (f s') (fun o => match o with
        | .nx s2 => ∀ σ2 I3 C3 H3, Ex I' I3 → St I3 C3 H3 → P s2 σ2 I3 C3 → N σ2 H3
        | .br s2 => ∀ σ2 I3 C3 H3, Ex I' I3 → St I3 C3 H3 → P s2 σ2 I3 C3 → tz D σ2 H3
        | .rt r => Post (k (.rt r)) Q X) X → tu { D with nx := N, ct := N, bk := tz D } σ' H')
    (next : ∀ s' σ' I' C' H', Ex I I' → St I' C' H' → P s' σ' I' C' → Post (k (.nx s')) Q X → tz D σ' H') : tSeq (tWhile tt tu) tz D σ H := by
  refine ⟨fun n σ' H' => ∃ s' I' C', Ex I I' ∧ St I' C' H' ∧ P s' σ' I' C' ∧ Post ((whileF c f n s').bind k) Q X, ⟨n, s0, I, C, Ex.refl _, s, h0, hm⟩, ?_⟩
  rintro n σ' H' ⟨s', I', C', e1, s1, p, po⟩
  cases n with
  | zero => exact po.elim
  | succ n =>
    obtain ⟨hc, hx⟩ := cond s' σ' I' C' e1 p
    refine hc I' C' H' (Ex.refl _) (Ex.refl _) s1 _ ((Post.bind (Post.bind po)).mono (fun b q I2 H2 e2 s2 => ?_) hx)
    cases b with
    | true =>
      refine ⟨fun σ2 H3 => ∃ s' I' C', Ex I I' ∧ St I' C' H3 ∧ P s' σ2 I' C' ∧ Post ((whileF c f n s').bind k) Q X, fun σ2 H3 z => ⟨n, Nat.lt_succ_self _, z⟩, ?_⟩
      refine body _ s' σ' I2 C' H2 (e1.trans e2) s2 (hP _ _ _ _ _ e2 p) ((Post.bind q).mono (fun o z => ?_) fun _ _ z => z)
      cases o with
      | nx s3 => exact fun σ2 I5 C5 H5 e5 s5 p5 => ⟨s3, I5, C5, e1.trans (e2.trans e5), s5, p5, Post.of_bind z⟩
      | br s3 => exact fun σ2 I5 C5 H5 e5 s5 p5 => next s3 σ2 I5 C5 H5 (e1.trans (e2.trans e5)) s5 p5 z
      | rt r => exact z
    | false => exact next s' σ' I2 C' H2 (e1.trans e2) s2 (hP _ _ _ _ _ e2 p) q
/-! ### cells -/
/-- xs = []  (xs will change) -/
theorem s_newL {i : Nat} (s : St I C H) (next : ∀ p H2, C p = none → H p = none → St I (upd C p (.lst [])) H2 → tz D (σ.set i (some (.ref p))) H2) : tSeq (tAsg (tLst tNil) (gName i)) tz D σ H :=
  ⟨Nat.zero_le _, fun p hp => next p _ (s.c.free hp) hp (s.newC hp)⟩
/-- xs = e, a new list of e's (xs will change) -/
theorem s_asgC {i : Nat} {k : List α → Res ω} {m : Res (List α)} {te : TE} (h : EvX E K te σ I C m (pL R)) (s : St I C H) (hX : XH X E K I C) (hm : Post (m.bind k) Q X)
    (fresh : True) (next : ∀ a v I2 H2, Ex I I2 → St I2 C H2 → (pL R).r a v I2 C → Post (k a) Q X → tz D (σ.set i (some v)) H2) : tSeq (tAsg te (gName i)) tz D σ H :=
  s_asg h s hX hm next
/-- xs.append(e) -/
@[irreducible] def push (xs : List α) (x : α) : Res (List α) := if xs.length < 1000000 then .ok (xs ++ [x]) else .bad
theorem push_ok {xs : List α} {x : α} (h : xs.length < 1000000) : push xs x = .ok (xs ++ [x]) := by
  unfold push
  exact if_pos h
theorem s_app {i : Nat} {p : Addr} {xs : List α} {vs : List V} {k : List α → Res ω} [Im R] {m : Res α} (hv : σ[i]? = some (some (.ref p))) (hc : C p = some (.lst vs)) (hr : A2 (fun x u => R.r x u I C) xs vs) (h : EvX E K te σ I C m R) (s : St I C H) (hX : XH X E K I C)
    (hm : Post ((m.bind fun x => push xs x).bind k) Q X)
    (next : ∀ ys vs' I2 H2, Ex I I2 → St I2 (upd C p (.lst vs')) H2 → vs'.length ≤ sizeLine → A2 (fun x u => R.r x u I2 (upd C p (.lst vs'))) ys vs' → Post (k ys) Q X → tz D σ H2) :
    tSeq (tDrop (tBM K "list" rAppend (tVar i) (tCons te tNil))) tz D σ H :=
  ⟨.ref p, hv, .inl ⟨rfl, vs, .inl (.inl (s.c p _ hc))⟩, h I C H (Ex.refl _) (Ex.refl _) s _ ((Post.bind (Post.bind hm)).mono (fun a po v I2 H2 e2 s2 rv => by
    unfold push at po
    split at po
    · rename_i hl
      have hn := hr.len
      have hl2 : vs.length < sizeLine := by
        rw [hn]
        exact Nat.lt_of_lt_of_le hl (by decide)
      refine ⟨p, vs, v, rfl, rfl, s2.c p _ hc, hl2, next (xs ++ [a]) (vs ++ [v]) I2 _ e2 (s2.set hc) (by rw [List.length_append]; exact hl2) ?_ po⟩
      exact (hr.imp fun _ _ h => R.to e2 h).append (.one (Im.im rv))
    · exact po.elim) hX)⟩
/-- xs[e1] = e2 -/
def setR (xs : List α) (i : Int) (x : α) : Res (List α) := match ixN xs.length i with
  | some j => .ok (xs.set j x)
  | none => .bad
theorem s_setL {i : Nat} {p : Addr} {xs : List α} {vs : List V} {k : List α → Res ω} [Im R] {ti : TE} {m : Res α} {mi : Res Int} (hv : σ[i]? = some (some (.ref p))) (hc : C p = some (.lst vs)) (hl : vs.length ≤ sizeLine) (hr : A2 (fun x u => R.r x u I C) xs vs)
    (h : EvX E K te σ I C m R) (hi : EvX E K ti σ I C mi pI) (s : St I C H) (hX : XH X E K I C) (hm : Post ((m.bind fun x => mi.bind fun j => setR xs j x).bind k) Q X)
    (next : ∀ ys vs' I2 H2, Ex I I2 → St I2 (upd C p (.lst vs')) H2 → vs'.length ≤ sizeLine → A2 (fun x u => R.r x u I2 (upd C p (.lst vs'))) ys vs' → Post (k ys) Q X → tz D σ H2) :
    tSeq (tAsg te (gSub (tVar i) ti rSetL)) tz D σ H :=
  h I C H (Ex.refl _) (Ex.refl _) s _ ((Post.bind (Post.bind hm)).mono (fun a po v I2 H2 e2 s2 rv => by
    refine ⟨.ref p, hv, hi I2 C H2 e2 (Ex.refl _) s2 _ ((Post.bind po).mono (fun j po2 w I3 H3 e3 s3 rw => ?_) fun c i z => (hX c i z).mono e2 (Ex.refl _))⟩
    have hw : w = .int j := rw
    subst hw
    unfold setR at po2
    have hn := hr.len
    cases hj : ixN xs.length j with
    | none =>
      rw [hj] at po2
      exact po2.elim
    | some l =>
      rw [hj] at po2
      refine ⟨p, vs, j, l, rfl, rfl, s3.c p _ hc, by rw [hn]; exact hj, next (xs.set l a) (vs.set l v) I3 _ (e2.trans e3) (s3.set hc) (by rw [List.length_set]; exact hl) ?_ po2⟩
      exact A2.set (Im.im (R.mono e3 (Ex.refl _) rv)) l (hr.imp fun _ _ h => R.to (e2.trans e3) h)) hX)
end
end Sd

namespace Sd
open PySem L2
/-! ### what draws from the pool (the list at p, its places M) -/
def off (C : Hp) (p : Addr) : Hp := fun a => if a = p then none else C a
theorem off_same {C : Hp} {p : Addr} : off C p p = none := if_pos rfl
theorem off_ne {C : Hp} {p q : Addr} (h : q ≠ p) : off C p q = C q := if_neg h
theorem off_ex {C : Hp} {p : Addr} : Ex (off C p) C := fun a o h => by
  unfold off at h
  split at h
  · cases h
  · exact h
theorem off_upd {C : Hp} {p : Addr} {o : HO} : Ex (off C p) (upd C p o) := fun a u h => by
  unfold off at h
  split at h
  · cases h
  · rename_i hne
    rw [upd_ne hne]
    exact h
theorem Ex.over {C C1 : Hp} {p : Addr} {o : HO} (h : Ex C C1) (hp : C p = none) : Ex C (upd C1 p o) := fun a u e => by
  rw [upd_ne (ne_of_none e hp)]
  exact h a u e
theorem upd_id {C : Hp} {p : Addr} {o : HO} (h : C p = some o) : upd C p o = C := by
  funext a
  by_cases q : a = p
  · rw [q, upd_same, h]
  · exact upd_ne q
def EvM (E : XK) (K : PySem.W.Frag) (p : Addr) {μ : Type} (M : Rt μ) (te : TE) (σ : L2.St) (I Cp : Hp) {β : Type} (m : μ → Res (β × μ)) (R : Rp β) : Prop :=
  ∀ x ws I1 C1 H1, Ex I I1 → Ex Cp C1 → St I1 C1 H1 → C1 p = some (.lst ws) → M.r x ws I1 C1 → ∀ Q : VK, Post (m x) (fun b => ∀ v ws' I2 H2, Ex I1 I2 → St I2 (upd C1 p (.lst ws')) H2 → M.r b.2 ws' I2 (upd C1 p (.lst ws')) → R.r b.1 v I2 (upd C1 p (.lst ws')) → Q v H2) (fun _ _ => False) → te σ H1 Q
def EvTM (E : XK) (K : PySem.W.Frag) (p : Addr) {μ : Type} (M : Rt μ) (tt : TT) (σ : L2.St) (I Cp : Hp) (m : μ → Res (Bool × μ)) : Prop :=
  ∀ x ws I1 C1 H1, Ex I I1 → Ex Cp C1 → St I1 C1 H1 → C1 p = some (.lst ws) → M.r x ws I1 C1 → ∀ Q : Bool → Hp → Prop, Post (m x) (fun b => ∀ ws' I2 H2, Ex I1 I2 → St I2 (upd C1 p (.lst ws')) H2 → M.r b.2 ws' I2 (upd C1 p (.lst ws')) → Q b.1 H2) (fun _ _ => False) → tt σ H1 Q
def EvAM (E : XK) (K : PySem.W.Frag) (p : Addr) {μ : Type} (M : Rt μ) (ta : TA) (σ : L2.St) (I Cp : Hp) {α : Type} (m : μ → Res (α × μ)) (T : Rt α) : Prop :=
  ∀ x ws I1 C1 H1, Ex I I1 → Ex Cp C1 → St I1 C1 H1 → C1 p = some (.lst ws) → M.r x ws I1 C1 → ∀ Q : List V → Hp → Prop, Post (m x) (fun b => ∀ vs ws' I2 H2, Ex I1 I2 → St I2 (upd C1 p (.lst ws')) H2 → M.r b.2 ws' I2 (upd C1 p (.lst ws')) → T.r b.1 vs I2 (upd C1 p (.lst ws')) → Q vs H2) (fun _ _ => False) → ta σ H1 Q
def EvIM (E : XK) (K : PySem.W.Frag) (p : Addr) {μ : Type} (M : Rt μ) (wi : TI) (σ : L2.St) (I Cp : Hp) {α : Type} (m : μ → Res (List α × μ)) (R : Rp α) : Prop :=
  ∀ x ws I1 C1 H1, Ex I I1 → Ex Cp C1 → St I1 C1 H1 → C1 p = some (.lst ws) → M.r x ws I1 C1 → ∀ Kt : L2.It → Hp → Prop, Post (m x) (fun b => ∀ ws' J G Y I2 H2, Ex I1 I2 → St I2 (upd C1 p (.lst ws')) H2 → M.r b.2 ws' I2 (upd C1 p (.lst ws')) → b.1.length ≤ sizeLine → Walk J b.1.length G Y →
    (∀ I3 C3 H3, Ex I2 I3 → St I3 C3 H3 → G H3) →
    (∀ i x v I3 C3 H3 H4, b.1[i]? = some x → Ex I2 I3 → St I3 C3 H3 → Y i H3 v H4 → ∃ I4, Ex I3 I4 ∧ St I4 C3 H4 ∧ R.r x v I4 C3) → Kt J H2) (fun _ _ => False) → wi σ H1 Kt
section
variable {μ α β γ : Type}
def liftM (m : Res α) : μ → Res (α × μ) := fun x => m.bind fun a => .ok (a, x)
def unM (f : α → Res γ) (m : μ → Res (α × μ)) : μ → Res (γ × μ) := fun x => (m x).bind fun b => (f b.1).bind fun c => .ok (c, b.2)
def binM (f : α → β → Res γ) (m : μ → Res (α × μ)) (n : μ → Res (β × μ)) : μ → Res (γ × μ) := fun x => (m x).bind fun b => (n b.2).bind fun d => (f b.1 d.1).bind fun c => .ok (c, d.2)
def pairM (m : μ → Res (α × μ)) (n : μ → Res (β × μ)) : μ → Res ((α × β) × μ) := fun x => (m x).bind fun b => (n b.2).bind fun d => .ok ((b.1, d.1), d.2)
def consM (m : μ → Res (α × μ)) (n : μ → Res (List α × μ)) : μ → Res (List α × μ) := fun x => (m x).bind fun b => (n b.2).bind fun d => .ok (b.1 :: d.1, d.2)
def callM (f : α → μ → Res (β × μ)) (m : μ → Res (α × μ)) : μ → Res (β × μ) := fun x => (m x).bind fun b => f b.1 b.2
def andM (m n : μ → Res (Bool × μ)) : μ → Res (Bool × μ) := fun x => (m x).bind fun b => if b.1 = true then n b.2 else .ok (false, b.2)
def orM (m n : μ → Res (Bool × μ)) : μ → Res (Bool × μ) := fun x => (m x).bind fun b => if b.1 = true then .ok (true, b.2) else n b.2
def ifM (c : μ → Res (Bool × μ)) (m n : μ → Res (α × μ)) : μ → Res (α × μ) := fun x => (c x).bind fun b => if b.1 = true then m b.2 else n b.2
@[simp] theorem liftM_ok (a : α) (x : μ) : liftM (.ok a) x = .ok (a, x) := rfl
theorem liftM_eq (m : Res α) (x : μ) : liftM m x = m.bind fun a => .ok (a, x) := rfl
end
section
variable {E : XK} {K : PySem.W.Frag} {p : Addr} {μ : Type} {M : Rt μ} {σ : L2.St} {I Cp : Hp} {α β γ : Type} {R : Rp α} {S : Rp β} {T : Rp γ} {te ta tb : TE} {tt tu : TT} {m : μ → Res (α × μ)} {n : μ → Res (β × μ)}
theorem m_pure {m : Res α} (h : EvX E K te σ I Cp m R) : EvM E K p M te σ I Cp (liftM m) R := fun x ws I1 C1 H1 e e' s hc hx Q q =>
  h I1 C1 H1 e e' s Q ((Post.bind q).mono (fun a z v I2 H2 e2 s2 rv => by
    have z2 := z v ws I2 H2 e2
    rw [upd_id hc] at z2
    exact z2 s2 (M.mono e2 (Ex.refl _) hx) rv) fun _ _ z => z.elim)
theorem m_un [It M] {r : V → Hp → VK → Prop} {f : α → Res γ} (hr : ∀ E, Op1 E K r f R T) (hp : Cp p = none) (h : EvM E K p M ta σ I Cp m R) : EvM E K p M (tUn r ta) σ I Cp (unM f m) T := fun x ws I1 C1 H1 e e' s hc hx Q q =>
  h x ws I1 C1 H1 e e' s hc hx _ ((Post.bind q).mono (fun b z v ws' I2 H2 e2 s2 hx2 rv => hr E I2 _ H2 b.1 v s2 rv Q ((Post.bind z).mono (fun c z w I3 H3 e3 s3 rw => z w ws' I3 H3 (e2.trans e3) s3 (M.mono e3 (Ex.refl _) hx2) rw) fun _ _ z => z.elim)) fun _ _ z => z)
theorem m_op [It M] [Im R] {r : R2} {f : α → β → Res γ} (hr : ∀ E, Op2 E K r f R S T) (hp : Cp p = none) (h1 : EvM E K p M ta σ I Cp m R) (h2 : EvM E K p M tb σ I Cp n S) : EvM E K p M (tOp r ta tb) σ I Cp (binM f m n) T := fun x ws I1 C1 H1 e e' s hc hx Q q =>
  h1 x ws I1 C1 H1 e e' s hc hx _ ((Post.bind q).mono (fun b z v ws' I2 H2 e2 s2 hx2 rv =>
    h2 b.2 ws' I2 _ H2 (e.trans e2) (e'.over hp) s2 upd_same hx2 _ ((Post.bind z).mono (fun d z2 w ws2 I3 H3 e3 s3 hx3 rw => by
      rw [upd_upd] at s3 hx3 rw
      exact hr E I3 _ H3 b.1 d.1 v w s3 (R.to e3 rv) rw Q ((Post.bind z2).mono (fun c z3 w I4 H4 e4 s4 rw => z3 w ws2 I4 H4 (e2.trans (e3.trans e4)) s4 (M.mono e4 (Ex.refl _) hx3) rw) fun _ _ z => z.elim)) fun _ _ z => z)) fun _ _ z => z)
theorem m_k [It M] {r : R2} {f : α → Res γ} {k : Int} (hr : ∀ E, Op1 E K (fun x H Q => r x (.int k) H Q) f R T) (hp : Cp p = none) (h : EvM E K p M te σ I Cp m R) : EvM E K p M (tOp r te (tC (.int k))) σ I Cp (unM f m) T :=
  fun x ws I1 C1 H1 e e' s hc hx Q q => m_un (r := fun x H Q => r x (.int k) H Q) hr hp h x ws I1 C1 H1 e e' s hc hx Q q
theorem am_one (h : EvM E K p M te σ I Cp m R) : EvAM E K p M (tCons te tNil) σ I Cp m (t1 R) := fun x ws I1 C1 H1 e e' s hc hx Q q =>
  h x ws I1 C1 H1 e e' s hc hx _ (q.mono (fun b z v ws' I2 H2 e2 s2 hx2 rv => z [v] ws' I2 H2 e2 s2 hx2 ⟨v, rfl, rv⟩) fun _ _ z => z)
theorem am_cons [Im R] {tr : TA} {A : Rt β} (hp : Cp p = none) (h1 : EvM E K p M te σ I Cp m R) (h2 : EvAM E K p M tr σ I Cp n A) : EvAM E K p M (tCons te tr) σ I Cp (pairM m n) (tc R A) := fun x ws I1 C1 H1 e e' s hc hx Q q =>
  h1 x ws I1 C1 H1 e e' s hc hx _ ((Post.bind q).mono (fun b z v ws' I2 H2 e2 s2 hx2 rv =>
    h2 b.2 ws' I2 _ H2 (e.trans e2) (e'.over hp) s2 upd_same hx2 _ ((Post.bind z).mono (fun d z2 vs ws2 I3 H3 e3 s3 hx3 rw => by
      rw [upd_upd] at s3 hx3 rw
      exact z2 (v :: vs) ws2 I3 H3 (e2.trans e3) s3 hx3 ⟨v, vs, rfl, R.to e3 rv, rw⟩) fun _ _ z => z)) fun _ _ z => z)
/-- a name's value, whatever the draws change -/
theorem am_var {tr : TA} {A : Rt β} {i : Nat} {v : V} {a : α} (hv : σ[i]? = some (some v)) (r : R.r a v I Cp) (hp : Cp p = none) (h2 : EvAM E K p M tr σ I Cp n A) : EvAM E K p M (tCons (tVar i) tr) σ I Cp (pairM (liftM (.ok a)) n) (tc R A) := fun x ws I1 C1 H1 e e' s hc hx Q q =>
  ⟨v, hv, h2 x ws I1 C1 H1 e e' s hc hx _ ((Post.bind (m := n x) (k := fun d => .ok ((a, d.1), d.2)) q).mono (fun d z2 vs ws2 I3 H3 e3 s3 hx3 rw => z2 (v :: vs) ws2 I3 H3 e3 s3 hx3 ⟨v, vs, rfl, R.mono (e.trans e3) (e'.over hp) r, rw⟩) fun _ _ z => z)⟩
theorem am_var1 {i : Nat} {v : V} {a : α} (hv : σ[i]? = some (some v)) (r : R.r a v I Cp) : EvAM E K p M (tCons (tVar i) tNil) σ I Cp (liftM (.ok a) : μ → Res (α × μ)) (t1 R) := am_one (m_pure (x_var hv r))
theorem am_pure {tr : TA} {A : Rt α} {m : Res α} (h : EvA E K tr σ I Cp m A) : EvAM E K p M tr σ I Cp (liftM m) A := fun x ws I1 C1 H1 e e' s hc hx Q q =>
  h I1 C1 H1 e e' s Q ((Post.bind q).mono (fun a z v I2 H2 e2 s2 rv => by
    have z2 := z v ws I2 H2 e2
    rw [upd_id hc] at z2
    exact z2 s2 (M.mono e2 (Ex.refl _) hx) rv) fun _ _ z => z.elim)
theorem alm_nil : EvAM E K p M tNil σ I Cp (liftM (.ok ([] : List α)) : μ → Res (List α × μ)) (tL R 0) := am_pure al_nil
theorem alm_cons [Im R] {tr : TA} {k : Nat} {n : μ → Res (List α × μ)} (hp : Cp p = none) (h1 : EvM E K p M te σ I Cp m R) (h2 : EvAM E K p M tr σ I Cp n (tL R k)) : EvAM E K p M (tCons te tr) σ I Cp (consM m n) (tL R (k + 1)) := fun x ws I1 C1 H1 e e' s hc hx Q q =>
  h1 x ws I1 C1 H1 e e' s hc hx _ ((Post.bind q).mono (fun b z v ws' I2 H2 e2 s2 hx2 rv =>
    h2 b.2 ws' I2 _ H2 (e.trans e2) (e'.over hp) s2 upd_same hx2 _ ((Post.bind z).mono (fun d z2 vs ws2 I3 H3 e3 s3 hx3 rw => by
      rw [upd_upd] at s3 hx3 rw
      exact z2 (v :: vs) ws2 I3 H3 (e2.trans e3) s3 hx3 ⟨by rw [List.length_cons, rw.1], .cons (R.to e3 rv) rw.2⟩) fun _ _ z => z)) fun _ _ z => z)
theorem m_lst [It M] {tr : TA} {k : Nat} {m : μ → Res (List α × μ)} (h : EvAM E K p M tr σ I Cp m (tL R k)) (hn : k ≤ 100) : EvM E K p M (tLst tr) σ I Cp m (pL R) := fun x ws I1 C1 H1 e e' s hc hx Q q =>
  h x ws I1 C1 H1 e e' s hc hx _ (q.mono (fun b z vs ws' I2 H2 e2 s2 hx2 rv => by
    have hl : vs.length ≤ sizeLine := by
      rw [rv.1]
      exact Nat.le_trans hn (by decide)
    refine ⟨hl, fun t ht => z (.ref t) ws' (upd I2 t (.lst vs)) _ (e2.trans (Ex.new (s2.i.free ht))) (s2.newI ht) (M.mono (Ex.new (s2.i.free ht)) (Ex.refl _) hx2) ⟨t, vs, rfl, upd_same, hl, rv.2.imp fun _ _ => R.mono (Ex.new (s2.i.free ht)) (Ex.refl _)⟩⟩) fun _ _ z => z)
theorem m_tup [It M] {tr : TA} {A : Rt α} (h : EvAM E K p M tr σ I Cp m A) (hn : A.n ≤ 100) : EvM E K p M (tTup tr) σ I Cp m (pT A) := fun x ws I1 C1 H1 e e' s hc hx Q q =>
  h x ws I1 C1 H1 e e' s hc hx _ (q.mono (fun b z vs ws' I2 H2 e2 s2 hx2 rv => ⟨by rw [A.len rv]; exact Nat.le_trans hn (by decide), fun t ht => z (.ref t) ws' (upd I2 t (.tup vs)) _ (e2.trans (Ex.new (s2.i.free ht))) (s2.newI ht) (M.mono (Ex.new (s2.i.free ht)) (Ex.refl _) hx2) ⟨t, vs, rfl, upd_same, A.mono (Ex.new (s2.i.free ht)) (Ex.refl _) rv⟩⟩) fun _ _ z => z)
theorem m_lstD [It M] {tr : TA} {A : Rt α} (h : EvAM E K p M tr σ I Cp m A) (hn : A.n ≤ 100) : EvM E K p M (tLst tr) σ I Cp m (pD A) := fun x ws I1 C1 H1 e e' s hc hx Q q =>
  h x ws I1 C1 H1 e e' s hc hx _ (q.mono (fun b z vs ws' I2 H2 e2 s2 hx2 rv => ⟨by rw [A.len rv]; exact Nat.le_trans hn (by decide), fun t ht => z (.ref t) ws' (upd I2 t (.lst vs)) _ (e2.trans (Ex.new (s2.i.free ht))) (s2.newI ht) (M.mono (Ex.new (s2.i.free ht)) (Ex.refl _) hx2) ⟨t, vs, rfl, upd_same, A.mono (Ex.new (s2.i.free ht)) (Ex.refl _) rv⟩⟩) fun _ _ z => z)
theorem m_cb [It M] {r : List V → Hp → VK → Prop} {f : α → Res γ} {A : Rt α} {tr : TA} (hr : ∀ E, OpL E K r f A T) (h : EvAM E K p M tr σ I Cp m A) : EvM E K p M (tCB r tr) σ I Cp (unM f m) T := fun x ws I1 C1 H1 e e' s hc hx Q q =>
  h x ws I1 C1 H1 e e' s hc hx _ ((Post.bind q).mono (fun b z vs ws' I2 H2 e2 s2 hx2 rv => hr E I2 _ H2 b.1 vs s2 rv Q ((Post.bind z).mono (fun c z w I3 H3 e3 s3 rw => z w ws' I3 H3 (e2.trans e3) s3 (M.mono e3 (Ex.refl _) hx2) rw) fun _ _ z => z.elim)) fun _ _ z => z)
/-- f(a ..), f a def that draws nothing -/
theorem m_callP [It M] {A : Rt α} {f : α → Res γ} {tr : TA} (h : EvAM E K p M tr σ I Cp m A) : EvM E K p M (tCall (spP K A f T) [] E tr) σ I Cp (unM f m) T := fun x ws I1 C1 H1 e e' s hc hx Q q =>
  h x ws I1 C1 H1 e e' s hc hx _ ((Post.bind q).mono (fun b z vs ws' I2 H2 e2 s2 hx2 rv => by
    refine ⟨I2, _, b.1, s2, by rw [List.append_nil]; exact rv, (Post.bind z).mono (fun c z w I3 H3 e3 s3 rw => z w ws' I3 H3 (e2.trans e3) s3 (M.mono e3 (Ex.refl _) hx2) rw) fun _ _ z => z.elim⟩) fun _ _ z => z)
/-- f(pool, a ..) -/
theorem m_callM {A : Rt α} {f : α → μ → Res (β × μ)} {tr : TA} {i : Nat} (hv : σ[i]? = some (some (.ref p))) (h : EvAM E K p M tr σ I Cp m A) : EvM E K p M (tCall (spM M A f S) [] E (tCons (tVar i) tr)) σ I Cp (callM f m) S := fun x ws I1 C1 H1 e e' s hc hx Q q =>
  ⟨.ref p, hv, h x ws I1 C1 H1 e e' s hc hx _ ((Post.bind q).mono (fun b z vs ws' I2 H2 e2 s2 hx2 rv => by
    refine ⟨I2, _, p, ws', vs, b.2, b.1, by rw [List.append_nil], s2, upd_same, hx2, rv, Post.mono (m := f b.1 b.2) z (fun c z w ws2 I3 H3 e3 s3 hx3 rw => ?_) fun _ _ z => z⟩
    rw [upd_upd] at s3 hx3 rw
    exact z w ws2 I3 H3 (e2.trans e3) s3 hx3 rw) fun _ _ z => z)⟩
theorem m_callM0 {f : Unit → μ → Res (β × μ)} {i : Nat} (hv : σ[i]? = some (some (.ref p))) : EvM E K p M (tCall (spM M (⟨fun _ vs _ _ => vs = [], fun _ _ h => h, 0, fun h => by rw [h]; rfl⟩ : Rt Unit) f S) [] E (tCons (tVar i) tNil)) σ I Cp (fun x => f () x) S := fun x ws I1 C1 H1 e e' s hc hx Q q =>
  ⟨.ref p, hv, I1, C1, p, ws, [], x, (), rfl, s, hc, hx, rfl, q⟩
theorem tm_pure {m : Res Bool} (h : EvT E K tt σ I Cp m) : EvTM E K p M tt σ I Cp (liftM m) := fun x ws I1 C1 H1 e e' s hc hx Q q =>
  h I1 C1 H1 e e' s Q ((Post.bind q).mono (fun a z I2 H2 e2 s2 => by
    have z2 := z ws I2 H2 e2
    rw [upd_id hc] at z2
    exact z2 s2 (M.mono e2 (Ex.refl _) hx)) fun _ _ z => z.elim)
theorem tm_test {m : μ → Res (Bool × μ)} (h : EvM E K p M te σ I Cp m pB) : EvTM E K p M (tTest te) σ I Cp m := fun x ws I1 C1 H1 e e' s hc hx Q q => h x ws I1 C1 H1 e e' s hc hx _ (q.mono (fun b z v ws' I2 H2 e2 s2 hx2 rv => ⟨b.1, rv, z ws' I2 H2 e2 s2 hx2⟩) fun _ _ z => z)
theorem tm_B {m : μ → Res (Bool × μ)} (h : EvM E K p M te σ I Cp m pB) : EvTM E K p M (tB te) σ I Cp m := fun x ws I1 C1 H1 e e' s hc hx Q q => h x ws I1 C1 H1 e e' s hc hx _ (q.mono (fun b z v ws' I2 H2 e2 s2 hx2 rv => ⟨b.1, rv, z ws' I2 H2 e2 s2 hx2⟩) fun _ _ z => z)
theorem tm_and {m n : μ → Res (Bool × μ)} (hp : Cp p = none) (h1 : EvTM E K p M tt σ I Cp m) (h2 : EvTM E K p M tu σ I Cp n) : EvTM E K p M (tAnd tt tu) σ I Cp (andM m n) := fun x ws I1 C1 H1 e e' s hc hx Q q =>
  h1 x ws I1 C1 H1 e e' s hc hx _ ((Post.bind q).mono (fun b z ws' I2 H2 e2 s2 hx2 => by
    obtain ⟨c, y⟩ := b
    cases c with
    | true => exact h2 y ws' I2 _ H2 (e.trans e2) (e'.over hp) s2 upd_same hx2 Q (Post.mono (m := n y) z (fun b z ws2 I3 H3 e3 s3 hx3 => by
        rw [upd_upd] at s3 hx3
        exact z ws2 I3 H3 (e2.trans e3) s3 hx3) fun _ _ z => z)
    | false => exact z ws' I2 H2 e2 s2 hx2) fun _ _ z => z)
theorem tm_or {m n : μ → Res (Bool × μ)} (hp : Cp p = none) (h1 : EvTM E K p M tt σ I Cp m) (h2 : EvTM E K p M tu σ I Cp n) : EvTM E K p M (tOr tt tu) σ I Cp (orM m n) := fun x ws I1 C1 H1 e e' s hc hx Q q =>
  h1 x ws I1 C1 H1 e e' s hc hx _ ((Post.bind q).mono (fun b z ws' I2 H2 e2 s2 hx2 => by
    obtain ⟨c, y⟩ := b
    cases c with
    | false => exact h2 y ws' I2 _ H2 (e.trans e2) (e'.over hp) s2 upd_same hx2 Q (Post.mono (m := n y) z (fun b z ws2 I3 H3 e3 s3 hx3 => by
        rw [upd_upd] at s3 hx3
        exact z ws2 I3 H3 (e2.trans e3) s3 hx3) fun _ _ z => z)
    | true => exact z ws' I2 H2 e2 s2 hx2) fun _ _ z => z)
theorem tm_not {m : μ → Res (Bool × μ)} (h : EvTM E K p M tt σ I Cp m) : EvTM E K p M (tNot tt) σ I Cp (unM notR m) := fun x ws I1 C1 H1 e e' s hc hx Q q =>
  h x ws I1 C1 H1 e e' s hc hx _ ((Post.bind q).mono (fun b z ws' I2 H2 e2 s2 hx2 => z ws' I2 H2 e2 s2 hx2) fun _ _ z => z)
/-! sources -/
theorem im_pure {wi : TI} {m : Res (List α)} (h : EvI E K wi σ I Cp kpT m R) : EvIM E K p M wi σ I Cp (liftM m) R := fun x ws I1 C1 H1 e e' s hc hx Q q =>
  h I1 C1 H1 e e' s Q ((Post.bind q).mono (fun a z J G Y I2 H2 e2 s2 hz w hG hY => by
    have z2 := z ws J G Y I2 H2 e2
    rw [upd_id hc] at z2
    exact z2 s2 (M.mono e2 (Ex.refl _) hx) hz w (fun I3 C3 H3 e3 s3 => hG I3 C3 H3 e3 trivial s3) (fun i x v I3 C3 H3 H4 hx e3 s3 y => hY i x v I3 C3 H3 H4 hx e3 trivial s3 y)) fun _ _ z => z.elim)
theorem im_rng1 [It M] {tr : TA} {m : μ → Res (Int × μ)} (h : EvAM E K p M tr σ I Cp m (t1 pI)) : EvIM E K p M (iRng1 tr) σ I Cp (unM rng1 m) pI := fun x ws I1 C1 H1 e e' s hc hx Q q =>
  h x ws I1 C1 H1 e e' s hc hx _ ((Post.bind q).mono (fun b z vs ws' I2 H2 e2 s2 hx2 ⟨v, hv, rv⟩ => by
    have z := Post.bind z
    unfold rng1 at z
    split at z
    · rename_i hn
      have hv1 : v = .int b.1 := rv
      subst hv hv1
      refine ⟨b.1, rfl, by omega, by omega, z ws' (Itr 0 b.1.toNat) (fun _ => True) (YFn fun i => .int (0 + i)) I2 H2 e2 s2 hx2 (by rw [rangeL_length]; exact Nat.le_trans (show (b.1 - 0).toNat ≤ 1000000 by omega) (by decide)) (by rw [rangeL_length, Int.sub_zero]; exact walk_range) (fun _ _ _ _ _ => trivial) (fun i x v' I3 C3 H3 H4 hx e3 s3 y => ?_)⟩
      obtain ⟨rfl, rfl⟩ := y
      rw [rangeL_get hx]
      exact ⟨I3, Ex.refl _, s3, rfl⟩
    · exact z.elim) fun _ _ z => z)
/-! ### comprehensions that draw -/
def mapM (f : α → μ → Res (β × μ)) : List α → μ → Res (List β × μ)
  | [], x => .ok ([], x)
  | a :: as, x => (f a x).bind fun b => (mapM f as b.2).bind fun c => .ok (b.1 :: c.1, c.2)
def LcM (p : Addr) (M : Rt μ) (S : Rp β) (I C : Hp) (D : Addr) (rest : μ → Res (List β × μ)) (W : List β × μ → Prop) (n : Nat) (H : Hp) : Prop :=
  ∃ (ys : List β) (vs ws : List V) (x : μ) (I' : Hp), Ex I I' ∧ St I' (upd (upd C p (.lst ws)) D (.lst vs)) H ∧ M.r x ws I' C ∧ vs.length ≤ n ∧ A2 (fun x u => S.r x u I' C) ys vs ∧ Post (rest x) (fun zs => W (ys ++ zs.1, zs.2)) (fun _ _ => False)
theorem m_lc [It M] [Im S] {wi : TI} {g : TG} {vs : List Nat} {m : μ → Res (List α × μ)} {f : α → μ → Res (β × μ)} {P : α → L2.St → Hp → Hp → Prop} (hp : Cp p = none) (hi : EvIM E K p M wi σ I Cp m R) (hg : Tg K g R (wipe σ vs) P)
    (hw : ∀ x σ2 I' C', P x σ2 I' C' → wipe σ2 vs = wipe σ vs)
    (hf : ∀ x σ2 I' C', Ex I I' → Ex Cp C' → P x σ2 I' C' → EvM EZ K p M te σ2 I' (off C' p) (f x) S) : EvM E K p M (tLc wi g tYes te vs) σ I Cp (fun x => (m x).bind fun b => mapM f b.1 b.2) (pL S) := fun x ws I1 C1 H1 e e' s hc hx Q q =>
  hi x ws I1 C1 H1 e e' s hc hx _ ((Post.bind q).mono (fun b q2 ws2 J G Y I2 H2 e2 s2 hx2 hz w hG hY D hD => by
    have cD2 : upd C1 p (.lst ws2) D = none := s2.c.free hD
    have hDp : D ≠ p := fun z => by
      rw [z, upd_same] at cD2
      cases cD2
    have cD : C1 D = none := by
      rw [upd_ne hDp] at cD2
      exact cD2
    refine lc_it w (fun i H => LcM p M S I2 C1 D (mapM f (b.1.drop i)) (fun c => ∀ v ws' I2 H2, Ex I1 I2 → St I2 (upd C1 p (.lst ws')) H2 → M.r c.2 ws' I2 (upd C1 p (.lst ws')) → (pL S).r c.1 v I2 (upd C1 p (.lst ws')) → Q v H2) i H) ⟨[], [], ws2, b.2, I2, Ex.refl _, s2.newC hD, It.im hx2, Nat.le_refl _, .nil, ?_⟩
      (fun i H hi ⟨_, _, _, _, I', e3, s3, _⟩ => hG I' _ H e3 s3) (fun i v H H' hi ⟨ys, us, ws3, x3, I', e3, s3, hx3, hn, r3, po⟩ y => ?_) (fun H ⟨ys, us, ws3, x3, I', e3, s3, hx3, hn, r3, po⟩ => ?_)
    · rw [List.drop_zero]
      exact q2
    · obtain ⟨a, ha⟩ : ∃ a, b.1[i]? = some a := ⟨b.1[i], by simp [hi]⟩
      rw [drop_cons ha] at po
      obtain ⟨I4, e4, s4, ra⟩ := hY i a v I' _ H H' ha e3 s3 y
      refine hg a v I4 _ H' _ s4 ra fun σ2 pa => ⟨hw _ _ _ _ pa, ?_⟩
      have eI : Ex I I4 := e.trans (e2.trans (e3.trans e4))
      have eC : Ex Cp (upd (upd C1 p (.lst ws3)) D (.lst us)) := (e'.over hp).trans (Ex.new (by rw [upd_ne hDp]; exact cD))
      have hcp : upd (upd C1 p (.lst ws3)) D (.lst us) p = some (.lst ws3) := by rw [upd_ne hDp.symm, upd_same]
      show te σ2 H' _
      refine hf a σ2 I4 _ eI eC pa x3 ws3 I4 _ H' (Ex.refl _) off_ex s4 hcp (It.im (M.mono e4 (Ex.refl _) hx3)) _ ((Post.bind po).mono (fun c po2 v2 ws4 I6 H6 e6 s6 hx6 rv => ?_) fun _ _ z => z)
      have hswap : upd (upd (upd C1 p (.lst ws3)) D (.lst us)) p (.lst ws4) = upd (upd C1 p (.lst ws4)) D (.lst us) := by
        funext a
        by_cases h1 : a = p
        · rw [h1, upd_same, upd_ne hDp.symm, upd_same]
        · rw [upd_ne h1]
          by_cases h2 : a = D
          · rw [h2, upd_same, upd_same]
          · rw [upd_ne h2, upd_ne h2, upd_ne h1, upd_ne h1]
      rw [hswap] at s6 hx6 rv
      have hsz : us.length < sizeLine := Nat.lt_of_le_of_lt hn (Nat.lt_of_lt_of_le hi hz)
      refine ⟨us, s6.c D _ upd_same, hsz, ⟨ys ++ [c.1], us ++ [v2], ws4, c.2, I6, e3.trans (e4.trans e6), ?_, It.im hx6, by rw [List.length_append]; exact Nat.succ_le_succ hn, ?_, ?_⟩⟩
      · have z := s6.set (o := .lst (us ++ [v2])) (p := D) upd_same
        rw [upd_upd] at z
        exact z
      · exact (r3.imp fun _ _ => S.mono (e4.trans e6) (Ex.refl _)).append (.one (Im.im rv))
      · refine (Post.bind po2).mono (fun zs z => ?_) fun _ _ z => z
        show ∀ v ws' I2 H2, Ex I1 I2 → St I2 (upd C1 p (.lst ws')) H2 → M.r zs.2 ws' I2 (upd C1 p (.lst ws')) → (pL S).r (ys ++ [c.1] ++ zs.1) v I2 (upd C1 p (.lst ws')) → Q v H2
        rw [List.append_assoc]
        exact z
    · rw [List.drop_length] at po
      have po2 : ∀ v ws' I2 H2, Ex I1 I2 → St I2 (upd C1 p (.lst ws')) H2 → M.r x3 ws' I2 (upd C1 p (.lst ws')) → (pL S).r (ys ++ []) v I2 (upd C1 p (.lst ws')) → Q v H2 := po
      rw [List.append_nil] at po2
      have sf := s3.frz (p := D) upd_same
      have iD : I' D = none := s3.freeI upd_same
      refine po2 (.ref D) ws3 (upd I' D (.lst us)) H (e2.trans (e3.trans (Ex.new iD))) (sf.less fun a o ha => ?_) (It.im (M.mono (Ex.new iD) (Ex.refl _) hx3)) ⟨D, us, rfl, upd_same, Nat.le_trans hn hz, r3.imp fun _ _ h => Im.im (S.mono (Ex.new iD) (Ex.refl _) h)⟩
      have hne : a ≠ D := fun z => by
        rw [z, upd_ne hDp, cD] at ha
        cases ha
      show (if a = D then none else upd (upd C1 p (.lst ws3)) D (.lst us) a) = some o
      rw [if_neg hne, upd_ne hne]
      exact ha) fun _ _ z => z)
end
section
variable {E : XK} {K : PySem.W.Frag} {p : Addr} {μ : Type} {M : Rt μ} {σ : L2.St} {I C H : Hp} {α β ω S ρ : Type} {R : Rp α} {te : TE} {tt : TT} {tz tu tw : TS} {D : Ends} {m : μ → Res (α × μ)} {Q : ω → Prop} {x : μ} {ws : List V}
abbrev XF : Ec → Int → Prop := fun _ _ => False
theorem sm_asg {i : Nat} {k : α × μ → Res ω} (h : EvM E K p M te σ I (off C p) m R) (s : St I C H) (hc : C p = some (.lst ws)) (hx : M.r x ws I C) (hm : Post ((m x).bind k) Q XF)
    (next : ∀ b v ws' I2 H2, Ex I I2 → St I2 (upd C p (.lst ws')) H2 → M.r b.2 ws' I2 (upd C p (.lst ws')) → R.r b.1 v I2 (upd C p (.lst ws')) → Post (k b) Q XF → tz D (σ.set i (some v)) H2) : tSeq (tAsg te (gName i)) tz D σ H :=
  h x ws I C H (Ex.refl _) off_ex s hc hx _ ((Post.bind hm).mono (fun b z v ws' I2 H2 e2 s2 hx2 rv => next b v ws' I2 H2 e2 s2 hx2 rv z) fun _ _ z => z)
theorem sm_ret {k : α × μ → Res ω} (h : EvM E K p M te σ I (off C p) m R) (s : St I C H) (hc : C p = some (.lst ws)) (hx : M.r x ws I C) (hm : Post ((m x).bind k) Q XF)
    (next : ∀ b v ws' I2 H2, Ex I I2 → St I2 (upd C p (.lst ws')) H2 → M.r b.2 ws' I2 (upd C p (.lst ws')) → R.r b.1 v I2 (upd C p (.lst ws')) → Post (k b) Q XF → D.rt v H2) : tSeq (tRet te) tz D σ H :=
  h x ws I C H (Ex.refl _) off_ex s hc hx _ ((Post.bind hm).mono (fun b z v ws' I2 H2 e2 s2 hx2 rv => next b v ws' I2 H2 e2 s2 hx2 rv z) fun _ _ z => z)
theorem sm_expr {k : α × μ → Res ω} (h : EvM E K p M te σ I (off C p) m R) (s : St I C H) (hc : C p = some (.lst ws)) (hx : M.r x ws I C) (hm : Post ((m x).bind k) Q XF)
    (next : ∀ b ws' I2 H2, Ex I I2 → St I2 (upd C p (.lst ws')) H2 → M.r b.2 ws' I2 (upd C p (.lst ws')) → Post (k b) Q XF → tz D σ H2) : tSeq (tDrop te) tz D σ H :=
  h x ws I C H (Ex.refl _) off_ex s hc hx _ ((Post.bind hm).mono (fun b z v ws' I2 H2 e2 s2 hx2 rv => next b ws' I2 H2 e2 s2 hx2 z) fun _ _ z => z)
def ifMR (c : μ → Res (Bool × μ)) (x : μ) (m n : μ → Res α) : Res α := (c x).bind fun b => if b.1 = true then m b.2 else n b.2
theorem sm_if {c : μ → Res (Bool × μ)} {m1 m2 : μ → Res ω} (h : EvTM E K p M tt σ I (off C p) c) (s : St I C H) (hc : C p = some (.lst ws)) (hx : M.r x ws I C) (hm : Post (ifMR c x m1 m2) Q XF)
    (h1 : ∀ y ws' I2 H2, Ex I I2 → St I2 (upd C p (.lst ws')) H2 → M.r y ws' I2 (upd C p (.lst ws')) → Post (m1 y) Q XF → tu { D with nx := tz D } σ H2)
    (h2 : ∀ y ws' I2 H2, Ex I I2 → St I2 (upd C p (.lst ws')) H2 → M.r y ws' I2 (upd C p (.lst ws')) → Post (m2 y) Q XF → tw { D with nx := tz D } σ H2) : tSeq (tIfS tt tu tw) tz D σ H :=
  h x ws I C H (Ex.refl _) off_ex s hc hx _ ((Post.bind hm).mono (fun b z ws' I2 H2 e2 s2 hx2 => by
    obtain ⟨c, y⟩ := b
    cases c with
    | true => exact h1 y ws' I2 H2 e2 s2 hx2 z
    | false => exact h2 y ws' I2 H2 e2 s2 hx2 z) fun _ _ z => z)
theorem sm_ifj (P : S → L2.St → Hp → Hp → Prop) {c : μ → Res (Bool × μ)} {m1 m2 : μ → Res S} {k : S → Res ω} (h : EvTM E K p M tt σ I (off C p) c) (s : St I C H) (hc : C p = some (.lst ws)) (hx : M.r x ws I C) (hm : Post ((ifMR c x m1 m2).bind k) Q XF)
    (h1 : ∀ (N : L2.St → Hp → Prop) y ws' I2 H2, Ex I I2 → St I2 (upd C p (.lst ws')) H2 → M.r y ws' I2 (upd C p (.lst ws')) → Post (m1 y) (fun s' => ∀ σ2 I3 C3 H3, Ex I I3 → St I3 C3 H3 → P s' σ2 I3 C3 → N σ2 H3) XF → tu { D with nx := N } σ H2)
    (h2 : ∀ (N : L2.St → Hp → Prop) y ws' I2 H2, Ex I I2 → St I2 (upd C p (.lst ws')) H2 → M.r y ws' I2 (upd C p (.lst ws')) → Post (m2 y) (fun s' => ∀ σ2 I3 C3 H3, Ex I I3 → St I3 C3 H3 → P s' σ2 I3 C3 → N σ2 H3) XF → tw { D with nx := N } σ H2)
    (next : ∀ s' σ2 I3 C3 H3, Ex I I3 → St I3 C3 H3 → P s' σ2 I3 C3 → Post (k s') Q XF → tz D σ2 H3) : Evl.tCut (tIfS tt tu tw) tz D σ H := by
  refine ⟨fun σ2 H3 => ∃ s' I3 C3, Ex I I3 ∧ St I3 C3 H3 ∧ P s' σ2 I3 C3 ∧ Post (k s') Q XF, ?_, fun σ2 H3 ⟨s', I3, C3, e3, s3, p, q⟩ => next s' σ2 I3 C3 H3 e3 s3 p q⟩
  refine h x ws I C H (Ex.refl _) off_ex s hc hx _ ((Post.bind (Post.bind hm)).mono (fun b z ws' I2 H2 e2 s2 hx2 => ?_) fun _ _ z => z)
  obtain ⟨c, y⟩ := b
  cases c with
  | true => exact h1 _ y ws' I2 H2 e2 s2 hx2 (Post.mono (m := m1 y) z (fun s' z σ2 I3 C3 H3 e3 s3 pp => ⟨s', I3, C3, e3, s3, pp, z⟩) fun _ _ z => z)
  | false => exact h2 _ y ws' I2 H2 e2 s2 hx2 (Post.mono (m := m2 y) z (fun s' z σ2 I3 C3 H3 e3 s3 pp => ⟨s', I3, C3, e3, s3, pp, z⟩) fun _ _ z => z)
/-- a for whose source draws -/
theorem sm_forN (P : S → L2.St → Hp → Hp → Prop) {wi : TI} {g : TG} {m : μ → Res (List α × μ)} {f : α → S → Res S} {s0 : μ → S} {k : S → Res ω} (hi : EvIM E K p M wi σ I (off C p) m R) (s : St I C H) (hc : C p = some (.lst ws)) (hx : M.r x ws I C) (hm : Post (((m x).bind fun b => loopN f b.1 (s0 b.2)).bind k) Q XF)
    (h0 : ∀ y ws' I2, Ex I I2 → M.r y ws' I2 (upd C p (.lst ws')) → P (s0 y) σ I2 (upd C p (.lst ws'))) (hP : ∀ s' σ' I' I2 C', Ex I' I2 → P s' σ' I' C' → P s' σ' I2 C')
    (body : ∀ (N : L2.St → Hp → Prop) x v s' σ' I' C' H', Ex I I' → St I' C' H' → P s' σ' I' C' → R.r x v I' C' → Post (f x s') (fun s2 => ∀ σ2 I3 C3 H3, Ex I' I3 → St I3 C3 H3 → P s2 σ2 I3 C3 → N σ2 H3) XF →
      g v σ' H' fun σ2 H2 => tu { D with nx := N, ct := N, bk := tz D } σ2 H2)
    (next : ∀ s' σ' I' C' H', Ex I I' → St I' C' H' → P s' σ' I' C' → Post (k s') Q XF → tz D σ' H') : tSeq (tFor wi g tu) tz D σ H :=
  hi x ws I C H (Ex.refl _) off_ex s hc hx _ ((Post.bind (Post.bind hm)).mono (fun b q2 ws2 J G Y I2 H2 e2 s2 hx2 hz w hG hY => by
    refine for_it w (fun i σ' H' => ∃ s' I' C', Ex I2 I' ∧ St I' C' H' ∧ P s' σ' I' C' ∧ Post ((loopN f (b.1.drop i) s').bind k) Q XF) ⟨s0 b.2, I2, _, Ex.refl _, s2, h0 _ _ I2 e2 hx2, by rw [List.drop_zero]; exact Post.of_bind q2⟩
      (fun i σ' H' hi ⟨s', I', C', e3, s3, p, _⟩ => hG I' C' H' e3 s3) (fun i x σ' H1 H' hi ⟨s', I', C', e3, s3, p, po⟩ y => ?_) (fun σ' H' ⟨s', I', C', e3, s3, p, po⟩ => ?_)
    · obtain ⟨a, ha⟩ : ∃ a, b.1[i]? = some a := ⟨b.1[i], by simp [hi]⟩
      rw [drop_cons ha] at po
      obtain ⟨I4, e4, s4, ra⟩ := hY i a x I' C' H1 H' ha e3 s3 y
      exact body _ a x s' σ' I4 C' H' (e2.trans (e3.trans e4)) s4 (hP _ _ _ _ _ e4 p) ra ((Post.bind (Post.bind po)).mono (fun s3 z σ2 I5 C5 H5 e5 s5 p5 => ⟨s3, I5, C5, e3.trans (e4.trans e5), s5, p5, Post.of_bind z⟩) fun _ _ z => z)
    · rw [List.drop_length] at po
      exact next s' σ' I' C' H' (e2.trans e3) s3 p po) fun _ _ z => z)
/-- pool[k] = e, k written -/
theorem sm_set [It M] {i k : Nat} {g : μ → α → μ} {kk : μ → Res ω} {m : Res α} (hv : σ[i]? = some (some (.ref p))) (h : EvX E K te σ I C m R) (j : Pk M k g R) (s : St I C H) (hc : C p = some (.lst ws)) (hx : M.r x ws I C) (hm : Post (m.bind fun a => kk (g x a)) Q XF)
    (next : ∀ y ws' I2 H2, Ex I I2 → St I2 (upd C p (.lst ws')) H2 → M.r y ws' I2 (upd C p (.lst ws')) → Post (kk y) Q XF → tz D σ H2) : tSeq (tAsg te (gSub (tVar i) (tC (.int (k : Int))) rSetL)) tz D σ H :=
  h I C H (Ex.refl _) (Ex.refl _) s _ ((Post.bind hm).mono (fun a z v I2 H2 e2 s2 rv => by
    obtain ⟨q, hl⟩ := j x ws I2 C a v (M.mono e2 (Ex.refl _) hx) rv
    refine ⟨.ref p, hv, p, ws, k, k, rfl, rfl, s2.c p _ hc, ?_, next (g x a) (ws.set k v) I2 _ e2 (s2.set hc) (It.im q) z⟩
    unfold ixN
    rw [if_pos (by omega), if_pos (by omega)]
    rfl) fun _ _ z => z.elim)
/-- pool[k], k written -/
theorem x_pool {i k : Nat} {f : μ → β} {S : Rp β} (hv : σ[i]? = some (some (.ref p))) (hc : C p = some (.lst ws)) (hx : M.r x ws I C) (j : Pj M k f S) : EvX E K (tOp (rIxL K) (tVar i) (tC (.int (k : Int)))) σ I C (.ok (f x)) S := fun I1 C1 H1 e e' s Q q => by
  obtain ⟨w, hw, r⟩ := j x ws I1 C1 (M.mono e e' hx)
  exact ⟨.ref p, hv, p, ws, k, w, rfl, rfl, .inl (.inl (s.c p _ (e' p _ hc))), atI_nat hw, PQ.now (R := S) (a := f x) q s r⟩
end
end Sd

namespace Sd
open PySem L2
/-! ### forms for the printed proofs -/
abbrev Z : Hp := fun _ => none
theorem exz {C : Hp} : Ex Z C := fun _ _ h => nomatch h
theorem Im.z {α : Type} {R : Rp α} [Im R] {a : α} {v : V} {I C : Hp} (h : R.r a v I C) : R.r a v I Z := Im.im h
/-- a new list of one's own -/
abbrev PN {α : Type} (R : Rp α) (I C : Hp) (Q : VK) (xs : List α) : Prop := ∀ p vs I2 H2, Ex I I2 → C p = none → St I2 (upd C p (.lst vs)) H2 → vs.length ≤ sizeLine → A2 (fun x u => R.r x u I2 C) xs vs → Q (.ref p) H2
def EvN (E : XK) (K : PySem.W.Frag) (te : TE) (σ : L2.St) (I C : Hp) {α : Type} (m : Res (List α)) (R : Rp α) : Prop :=
  ∀ I1 C1 H1, Ex I I1 → Ex C C1 → St I1 C1 H1 → ∀ Q : VK, Post m (PN R I1 C1 Q) (PX E K I1 C1) → te σ H1 Q
def Op2N (E : XK) (K : PySem.W.Frag) (r : R2) {α β γ : Type} (f : α → β → Res (List γ)) (R : Rp α) (S : Rp β) (T : Rp γ) : Prop :=
  ∀ I C H a b x y, St I C H → R.r a x I C → S.r b y I C → ∀ Q : VK, Post (f a b) (PN T I C Q) (PX E K I C) → r x y H Q
def OpLN (E : XK) (K : PySem.W.Frag) (r : List V → Hp → VK → Prop) {α γ : Type} (f : α → Res (List γ)) (R : Rt α) (T : Rp γ) : Prop :=
  ∀ I C H a vs, St I C H → R.r a vs I C → ∀ Q : VK, Post (f a) (PN T I C Q) (PX E K I C) → r vs H Q
/-- f(a ..) hands back a new list of its own -/
def spO (K : PySem.W.Frag) {α β : Type} (T : Rt α) (m : α → Res (List β)) (R : Rp β) : Sp := fun vs H Q E => ∃ (I C : Hp) (a : α), St I C H ∧ T.r a vs I C ∧ Post (m a) (PN R I C Q) (PX E K I C)
section
variable {E : XK} {K : PySem.W.Frag} {σ : L2.St} {I I' C C' H : Hp} {α β γ : Type} {R : Rp α} {S : Rp β} {T : Rp γ} {te ta tb : TE} {tt : TT}
theorem PN.of {I1 C1 : Hp} {Q : VK} {xs : List α} [Im R] (q : PQ (pL R) I1 C1 Q xs) : PN R I1 C1 Q xs := fun p vs I2 H2 e hp s hl hr => by
  have sf := s.frz (p := p) upd_same
  have iD : I2 p = none := s.freeI upd_same
  refine q (.ref p) (upd I2 p (.lst vs)) H2 (e.trans (Ex.new iD)) (sf.less fun a o ha => ?_) ⟨p, vs, rfl, upd_same, hl, hr.imp fun _ _ => R.mono (Ex.new iD) (Ex.refl _)⟩
  have hne : a ≠ p := fun z => by
    rw [z, hp] at ha
    cases ha
  show (if a = p then none else upd C1 p (.lst vs) a) = some o
  rw [if_neg hne, upd_ne hne]
  exact ha
theorem x_own [Im R] {m : Res (List α)} (h : EvN E K te σ I C m R) : EvX E K te σ I C m (pL R) := fun I1 C1 H1 e e' s Q q => h I1 C1 H1 e e' s Q (q.mono (fun xs z => PN.of z) fun _ _ z => z)
theorem PN.new {I1 C1 H1 : Hp} {Q : VK} {xs : List α} {vs : List V} (q : PN R I1 C1 Q xs) (s : St I1 C1 H1) (h : A2 (fun x u => R.r x u I1 C1) xs vs) (hl : vs.length ≤ sizeLine) : ∀ p, H1 p = none → Q (.ref p) (upd H1 p (.lst vs)) := fun p hp =>
  q p vs I1 _ (Ex.refl _) (s.c.free hp) (s.newC hp) hl h
theorem PN.up {I1 I2 C1 : Hp} {Q : VK} {xs : List α} (e : Ex I1 I2) (q : PN R I1 C1 Q xs) : PN R I2 C1 Q xs := fun p vs I3 H3 e3 hp s hl hr => q p vs I3 H3 (e.trans e3) hp s hl hr
theorem n_op {r : R2} {f : α → β → Res (List γ)} {m : Res α} {n : Res β} (hr : Op2N E K r f R S T) (h1 : EvX E K ta σ I C m R) (h2 : EvX E K tb σ I C n S) : EvN E K (tOp r ta tb) σ I C (bin f m n) T := fun I1 C1 H1 e e' s Q q =>
  h1 I1 C1 H1 e e' s _ ((Post.bind q).mono (fun a p x I2 H2 e2 s2 rx =>
    h2 I2 C1 H2 (e.trans e2) e' s2 _ ((Post.bind p).mono (fun b p2 y I3 H3 e3 s3 ry =>
      hr I3 C1 H3 a b x y s3 (R.mono e3 (Ex.refl _) rx) ry Q (p2.mono (fun c z => z.up (e2.trans e3)) fun c i z => z.mono (e2.trans e3) (Ex.refl _))) fun c i z => z.mono e2 (Ex.refl _)))
    fun _ _ z => z)
theorem n_cb {r : List V → Hp → VK → Prop} {f : α → Res (List γ)} {A : Rt α} {tr : TA} {m : Res α} (hr : OpLN E K r f A T) (h : EvA E K tr σ I C m A) : EvN E K (tCB r tr) σ I C (un f m) T := fun I1 C1 H1 e e' s Q q =>
  h I1 C1 H1 e e' s _ ((Post.bind q).mono (fun a p vs I2 H2 e2 s2 rv => hr I2 C1 H2 a vs s2 rv Q (p.mono (fun c z => z.up e2) fun c i z => z.mono e2 (Ex.refl _))) fun _ _ z => z)
theorem n_call {A : Rt α} {f : α → Res (List β)} {m : Res α} {tr : TA} (h : EvA E K tr σ I C m A) : EvN E K (tCall (spO K A f S) [] E tr) σ I C (un f m) S := fun I1 C1 H1 e e' s Q q =>
  h I1 C1 H1 e e' s _ ((Post.bind q).mono (fun a p vs I2 H2 e2 s2 rv => ⟨I2, C1, a, s2, by rw [List.append_nil]; exact rv, Post.mono (m := f a) p (fun b z => z.up e2) fun c i z => z.mono e2 (Ex.refl _)⟩) fun _ _ z => z)
theorem n_lst {k : Nat} {m : Res (List α)} {tr : TA} (h : EvA E K tr σ I C m (tL R k)) (hn : k ≤ 100) : EvN E K (tLst tr) σ I C m R := fun I1 C1 H1 e e' s Q q =>
  h I1 C1 H1 e e' s _ (q.mono (fun a p vs I2 H2 e2 s2 rv => by
    have hl : vs.length ≤ sizeLine := by
      rw [rv.1]
      exact Nat.le_trans hn (by decide)
    exact ⟨hl, PN.new (PN.up e2 p) s2 rv.2 hl⟩) fun _ _ z => z)
theorem n_list : OpLN E K (fun xs H Q => ∃ p ys, xs = [.ref p] ∧ (SqL K H p ys ∨ SqT K H p ys) ∧ ∀ l, H l = none → Q (.ref l) (upd H l (.lst ys))) idR (t1 (pV R)) R := fun I C H a vs s hv Q q => by
  obtain ⟨v, rfl, h⟩ := hv
  obtain ⟨p, us, rfl, h2, h3, h4⟩ := pV.at s h
  exact ⟨p, us, rfl, .inl (.inl (.inl h2)), PN.new q s h4 h3⟩
theorem n_listQ : OpLN E K (fun xs H Q => ∃ p ys, xs = [.ref p] ∧ (SqL K H p ys ∨ SqT K H p ys) ∧ ∀ l, H l = none → Q (.ref l) (upd H l (.lst ys))) idR (t1 (pQ K R)) R := fun I C H a vs s hv Q q => by
  obtain ⟨v, rfl, p, us, rfl, h2, h3, h4⟩ := hv
  exact ⟨p, us, rfl, .inr (ex_t s.i h2), PN.new q s h4 h3⟩
theorem n_cat : Op2N E K rCat rCatR (pV R) (pV R) R := fun I C H a b x y s hx hy Q q => by
  unfold rCatR at q
  split at q
  · rename_i h
    obtain ⟨p, us, rfl, h2, h3, h4⟩ := pV.at s hx
    obtain ⟨p', us', rfl, h2', h3', h4'⟩ := pV.at s hy
    have hl : us.length + us'.length ≤ sizeLine := by
      rw [h4.len, h4'.len]
      exact Nat.le_trans h (by decide)
    exact ⟨p, p', us, us', rfl, rfl, h2, h2', hl, PN.new q s (h4.append h4') (by rw [List.length_append]; exact hl)⟩
  · exact q.elim
theorem n_rep : Op2N E K rRep rRepR (pV R) pI R := fun I C H a b x y s hx hy Q q => by
  unfold rRepR at q
  split at q
  · rename_i h
    obtain ⟨p, us, rfl, h2, h3, h4⟩ := pV.at s hx
    subst hy
    have hl : us.length * b.toNat ≤ sizeLine := by
      rw [h4.len]
      exact Nat.le_trans h.2 (by decide)
    exact ⟨p, b, us, rfl, rfl, h2, by omega, by omega, hl, PN.new q s (h4.rep _) (by rw [flat_len]; exact hl)⟩
  · exact q.elim
theorem n_sl {tl th : TO} {m : Res (List α)} {lo hi : Res (Option Int)} (h : EvX E K te σ I C m (pV R)) (hl : EvO E K tl σ I C lo) (hh : EvO E K th σ I C hi) : EvN E K (tSl (rSlL K) te tl th) σ I C (slR m lo hi) R := fun I1 C1 H1 e e' s Q q =>
  h I1 C1 H1 e e' s _ ((Post.bind q).mono (fun a p x I2 H2 e2 s2 rx =>
    hl I2 C1 H2 (e.trans e2) e' s2 _ ((Post.bind p).mono (fun o p2 I3 H3 e3 s3 =>
      hh I3 C1 H3 (e.trans (e2.trans e3)) e' s3 _ ((Post.bind p2).mono (fun o2 p3 I4 H4 e4 s4 => by
        obtain ⟨b, us, rfl, h2, h3, h4⟩ := pV.at s4 ((pV R).mono (e3.trans e4) (Ex.refl _) rx)
        exact ⟨b, us, rfl, .inl (.inl h2), PN.new (PN.up (e2.trans (e3.trans e4)) p3) s4 (h4.cut o o2) (Nat.le_trans (cutV_length _ _ _) h3)⟩) fun c i z => z.mono (e2.trans e3) (Ex.refl _))) fun c i z => z.mono e2 (Ex.refl _)))
    fun _ _ z => z)
theorem n_lcgK [Im S] {wi : TI} {g : TG} {tt : TT} {vs : List Nat} {p : α → Res Bool} {f : α → Res β} {P : α → L2.St → Hp → Hp → Prop} {kp : Hp → Prop} (hi : EvI E K wi σ I C kp m R) (hkp : ∀ C3, Ex C C3 → kp C3) (hg : Tg K g R (wipe σ vs) P)
    (hw : ∀ x σ2 I' C', P x σ2 I' C' → wipe σ2 vs = wipe σ vs)
    (hp : ∀ x σ2 I' C', Ex I I' → Ex C C' → P x σ2 I' C' → EvT EZ K tt σ2 I' C' (p x))
    (hf : ∀ x σ2 I' C', Ex I I' → Ex C C' → P x σ2 I' C' → EvX EZ K te σ2 I' C' (f x) S)
    (hm : ∀ x σ2 I' I2 C', Ex I' I2 → P x σ2 I' C' → P x σ2 I2 C') : EvN E K (tLc wi g tt te vs) σ I C (m.bind (filR p f)) S := fun I1 C1 H1 e e' s Q q =>
  hi I1 C1 H1 e e' s _ ((Post.bind q).mono (fun xs q2 J G Y I2 H2 e2 s2 hz w hG hY D hD => by
    have cD : C1 D = none := s2.c.free hD
    refine lc_it w (fun i H => Lc S I2 C1 D (filR p f (xs.drop i)) (PN S I1 C1 Q) i H) ⟨[], [], I2, Ex.refl _, s2.newC hD, Nat.le_refl _, .nil, ?_⟩ (fun i H hi ⟨_, vs', I', e3, s3, _⟩ => hG I' _ H e3 (hkp _ (e'.trans (Ex.new cD))) s3) (fun i x H H' hi ⟨ys, us, I', e3, s3, hn, r3, po⟩ y => ?_) (fun H ⟨ys, us, I', e3, s3, hn, r3, po⟩ => ?_)
    · cases hfil : filR p f xs with
      | ok zs =>
        rw [hfil] at q2
        show Post (filR p f (xs.drop 0)) _ _
        rw [List.drop_zero, hfil]
        exact q2
      | exc c i =>
        exfalso
        revert hfil
        clear q2 hG hY w hz
        induction xs with
        | nil =>
          intro z
          cases z
        | cons x xs ih =>
          unfold filR
          cases p x with
          | ok b =>
            cases b with
            | true =>
              cases f x with
              | ok y =>
                intro z
                cases hh : filR p f xs with
                | ok zs =>
                  simp only [hh] at z
                  cases z
                | exc c' i' =>
                  simp only [hh] at z
                  have z2 : (Res.exc c' i' : Res (List β)) = .exc c i := z
                  cases z2
                  exact ih hh
                | bad =>
                  simp only [hh] at z
                  cases z
              | exc _ _ => intro z; cases z
              | bad => intro z; cases z
            | false => exact ih
          | exc _ _ => intro z; cases z
          | bad => intro z; cases z
      | bad =>
        rw [hfil] at q2
        exact q2.elim
    · obtain ⟨a, ha⟩ : ∃ a, xs[i]? = some a := ⟨xs[i], by simp [hi]⟩
      rw [drop_cons ha] at po
      obtain ⟨I4, e4, s4, ra⟩ := hY i a x I' _ H H' ha e3 (hkp _ (e'.trans (Ex.new cD))) s3 y
      refine hg a x I4 _ H' _ s4 ra fun σ2 pa => ⟨hw _ _ _ _ pa, ?_⟩
      have eI : Ex I I4 := e.trans (e2.trans (e3.trans e4))
      have eC : Ex C (upd C1 D (.lst us)) := e'.trans (Ex.new cD)
      unfold filR at po
      refine hp a σ2 I4 _ eI eC pa I4 _ H' (Ex.refl _) (Ex.refl _) s4 _ ?_
      cases hpa : p a with
      | ok b =>
        rw [hpa] at po
        cases b with
        | true =>
          show ∀ I5 H5, Ex I4 I5 → St I5 (upd C1 D (.lst us)) H5 → te σ2 H5 _
          intro I5 H5 e5 s5
          refine hf a σ2 I5 _ (eI.trans e5) eC (hm _ _ _ _ _ e5 pa) I5 _ H5 (Ex.refl _) (Ex.refl _) s5 _ ?_
          cases hfa : f a with
          | ok b =>
            have po2 : Post ((filR p f (xs.drop (i + 1))).bind fun ys => .ok (b :: ys)) (fun zs => PN S I1 C1 Q (ys ++ zs)) (fun _ _ => False) := by
              have z := po
              simp only [hfa] at z
              exact z
            intro v I6 H6 e6 s6 rv
            have hsz : us.length < sizeLine := Nat.lt_of_le_of_lt hn (Nat.lt_of_lt_of_le hi hz)
            refine ⟨us, s6.c D _ upd_same, hsz, ⟨ys ++ [b], us ++ [v], I6, e3.trans (e4.trans (e5.trans e6)), ?_, by rw [List.length_append]; exact Nat.succ_le_succ hn, ?_, ?_⟩⟩
            · have z := s6.set (o := .lst (us ++ [v])) (p := D) upd_same
              rw [upd_upd] at z
              exact z
            · exact (r3.imp fun _ _ => S.mono (e4.trans (e5.trans e6)) (Ex.refl _)).append (.one (Im.im rv))
            · refine (Post.bind po2).mono (fun zs z => ?_) fun _ _ z => z
              rw [List.append_assoc]
              exact z
          | exc c j =>
            have z := po
            simp only [hfa] at z
            exact z.elim
          | bad =>
            have z := po
            simp only [hfa] at z
            exact z.elim
        | false =>
          show ∀ I5 H5, Ex I4 I5 → St I5 (upd C1 D (.lst us)) H5 → Lc S I2 C1 D (filR p f (xs.drop (i + 1))) (PN S I1 C1 Q) (i + 1) H5
          intro I5 H5 e5 s5
          exact ⟨ys, us, I5, e3.trans (e4.trans e5), s5, Nat.le_succ_of_le hn, r3.imp fun _ _ => S.mono (e4.trans e5) (Ex.refl _), po⟩
      | exc c j =>
        rw [hpa] at po
        exact po.elim
      | bad =>
        rw [hpa] at po
        exact po.elim
    · rw [List.drop_length] at po
      have po2 : PN S I1 C1 Q (ys ++ []) := po
      rw [List.append_nil] at po2
      exact po2 D us I' H (e2.trans e3) cD s3 (Nat.le_trans hn hz) r3) fun _ _ z => z)

theorem n_lcg [Im S] {wi : TI} {g : TG} {tt : TT} {vs : List Nat} {p : α → Res Bool} {f : α → Res β} {P : α → L2.St → Hp → Hp → Prop} (hi : EvI E K wi σ I C kpT m R) (hg : Tg K g R (wipe σ vs) P)
    (hw : ∀ x σ2 I' C', P x σ2 I' C' → wipe σ2 vs = wipe σ vs)
    (hp : ∀ x σ2 I' C', Ex I I' → Ex C C' → P x σ2 I' C' → EvT EZ K tt σ2 I' C' (p x))
    (hf : ∀ x σ2 I' C', Ex I I' → Ex C C' → P x σ2 I' C' → EvX EZ K te σ2 I' C' (f x) S)
    (hm : ∀ x σ2 I' I2 C', Ex I' I2 → P x σ2 I' C' → P x σ2 I2 C') : EvN E K (tLc wi g tt te vs) σ I C (m.bind (filR p f)) S := n_lcgK hi (fun _ _ => trivial) hg hw hp hf hm
theorem n_lc [Im S] {wi : TI} {g : TG} {vs : List Nat} {m : Res (List α)} {f : α → Res β} {P : α → L2.St → Hp → Hp → Prop} (hi : EvI E K wi σ I C kpT m R) (hg : Tg K g R (wipe σ vs) P)
    (hw : ∀ x σ2 I' C', P x σ2 I' C' → wipe σ2 vs = wipe σ vs)
    (hf : ∀ x σ2 I' C', Ex I I' → Ex C C' → P x σ2 I' C' → EvX EZ K te σ2 I' C' (f x) S)
    (hm : ∀ x σ2 I' I2 C', Ex I' I2 → P x σ2 I' C' → P x σ2 I2 C') : EvN E K (tLc wi g tYes te vs) σ I C (m.bind (mapR f)) S := by
  have z := n_lcg (p := fun _ => .ok true) hi hg hw (fun x σ2 I' C' _ _ _ => t_yes) hf hm
  have e : filR (fun _ => Res.ok true) f = mapR f := funext (filR_yes f)
  rw [e] at z
  exact z
theorem n_lcK [Im S] {wi : TI} {g : TG} {vs : List Nat} {m : Res (List α)} {f : α → Res β} {P : α → L2.St → Hp → Hp → Prop} {kp : Hp → Prop} (hi : EvI E K wi σ I C kp m R) (hkp : ∀ C3, Ex C C3 → kp C3) (hg : Tg K g R (wipe σ vs) P)
    (hw : ∀ x σ2 I' C', P x σ2 I' C' → wipe σ2 vs = wipe σ vs)
    (hf : ∀ x σ2 I' C', Ex I I' → Ex C C' → P x σ2 I' C' → EvX EZ K te σ2 I' C' (f x) S)
    (hm : ∀ x σ2 I' I2 C', Ex I' I2 → P x σ2 I' C' → P x σ2 I2 C') : EvN E K (tLc wi g tYes te vs) σ I C (m.bind (mapR f)) S := by
  have z := n_lcgK (p := fun _ => .ok true) hi hkp hg hw (fun x σ2 I' C' _ _ _ => t_yes) hf hm
  have e : filR (fun _ => Res.ok true) f = mapR f := funext (filR_yes f)
  rw [e] at z
  exact z
/-- sorted(pairs of ints) -/
def leP (a b : Int × Int) : Bool := decide (a.1 < b.1) || (decide (a.1 = b.1) && decide (a.2 ≤ b.2))
def insP (x : Int × Int) : List (Int × Int) → List (Int × Int)
  | [] => [x]
  | y :: ys => if leP x y = true then x :: y :: ys else y :: insP x ys
def isortP : List (Int × Int) → List (Int × Int)
  | [] => []
  | x :: xs => insP x (isortP xs)
def sortP (xs : List (Int × Int)) : Res (List (Int × Int)) := .ok (isortP xs)
@[simp] theorem sortP_eq (xs : List (Int × Int)) : sortP xs = .ok (isortP xs) := rfl
theorem leP_iff {a b : Int × Int} : leP a b = true ↔ a.1 < b.1 ∨ (a.1 = b.1 ∧ a.2 ≤ b.2) := by
  unfold leP
  simp only [Bool.or_eq_true, Bool.and_eq_true, decide_eq_true_eq]
theorem insP_perm (x : Int × Int) : ∀ ys, (insP x ys).Perm (x :: ys)
  | [] => .refl _
  | y :: ys => by
    unfold insP
    split
    · exact .refl _
    · exact ((insP_perm x ys).cons y).trans (.swap x y ys)
theorem isortP_perm : ∀ xs, (isortP xs).Perm xs
  | [] => .refl _
  | x :: xs => (insP_perm x _).trans ((isortP_perm xs).cons x)
theorem leP_total (a b : Int × Int) : leP a b = true ∨ leP b a = true := by
  rw [leP_iff, leP_iff]
  omega
theorem leP_trans {a b c : Int × Int} (h : leP a b = true) (h' : leP b c = true) : leP a c = true := by
  rw [leP_iff] at *
  omega
theorem leP_anti {a b : Int × Int} (h : leP a b = true) (h' : leP b a = true) : a = b := by
  rw [leP_iff] at *
  exact Prod.ext (by omega) (by omega)
theorem insP_sorted (x : Int × Int) : ∀ {ys : List (Int × Int)}, ys.Pairwise (fun a b => leP a b = true) → (insP x ys).Pairwise (fun a b => leP a b = true)
  | [], _ => List.pairwise_singleton _ _
  | y :: ys, h => by
    obtain ⟨h1, h2⟩ := List.pairwise_cons.mp h
    unfold insP
    split
    · rename_i hx
      exact List.pairwise_cons.mpr ⟨fun z hz => by
        rcases List.mem_cons.mp hz with e | hz
        · rw [e]
          exact hx
        · exact leP_trans hx (h1 z hz), h⟩
    · rename_i hx
      refine List.pairwise_cons.mpr ⟨fun z hz => ?_, insP_sorted x h2⟩
      rcases List.mem_cons.mp ((insP_perm x ys).mem_iff.mp hz) with e | hz
      · rw [e]
        exact (leP_total y x).resolve_right hx
      · exact h1 z hz
theorem isortP_sorted : ∀ xs, (isortP xs).Pairwise (fun a b => leP a b = true)
  | [] => .nil
  | x :: xs => insP_sorted x (isortP_sorted xs)
theorem sorted_unique : ∀ {xs ys : List (Int × Int)}, xs.Perm ys → xs.Pairwise (fun a b => leP a b = true) → ys.Pairwise (fun a b => leP a b = true) → xs = ys
  | [], ys, p, _, _ => by rw [List.nil_perm.mp p]
  | x :: xs, [], p, _, _ => by cases List.perm_nil.mp p
  | x :: xs, y :: ys, p, h, h' => by
    obtain ⟨h1, h2⟩ := List.pairwise_cons.mp h
    obtain ⟨h1', h2'⟩ := List.pairwise_cons.mp h'
    have e : x = y := by
      by_cases e : x = y
      · exact e
      · have hy : y ∈ xs := (List.mem_cons.mp (p.mem_iff.mpr List.mem_cons_self)).resolve_left fun z => e z.symm
        have hx : x ∈ ys := (List.mem_cons.mp (p.mem_iff.mp List.mem_cons_self)).resolve_left e
        exact leP_anti (h1 y hy) (h1' x hx)
    subst e
    rw [sorted_unique (List.Perm.cons_inv p) h2 h2']
end
end Sd

namespace Sd
open PySem L2
section
variable {E : XK} {K : PySem.W.Frag} {σ : L2.St} {I I' C C' H : Hp} {α β γ μ ω S ρ : Type} {R : Rp α} {S1 : Rp β} {te ta tb : TE} {tt : TT} {tz tu tw : TS} {D : Ends} {Q : ω → Prop} {X : Ec → Int → Prop}
/-! ### sorted -/
def kP (H : Hp) (v : V) : Int × Int := match v with
  | .ref t => (match H t with
    | some (.tup [.int i, .int j]) => (i, j)
    | _ => (0, 0))
  | _ => (0, 0)
theorem kP_of {a : Int × Int} {v : V} (s : St I C H) (h : (pT (tc pI (t1 pI))).r a v I C) : (∃ t, v = .ref t ∧ H t = some (.tup [.int a.1, .int a.2])) ∧ kP H v = a := by
  obtain ⟨t, vs, rfl, h2, u, us, rfl, h3, w, rfl, h4⟩ := h
  have e1 : u = .int a.1 := h3
  have e2 : w = .int a.2 := h4
  subst e1 e2
  have ht := s.i _ _ h2
  refine ⟨⟨t, rfl, ht⟩, ?_⟩
  show (match H t with
    | some (.tup [.int i, .int j]) => (i, j)
    | _ => (0, 0)) = a
  rw [ht]
theorem kP_map (s : St I C H) : ∀ {xs : List (Int × Int)} {vs : List V}, A2 (fun x u => (pT (tc pI (t1 pI))).r x u I C) xs vs → vs.map (kP H) = xs
  | _, _, .nil => rfl
  | _, _, .cons r t => by rw [List.map_cons, (kP_of s r).2, kP_map s t]
theorem a2_mem {f : α → V → Prop} : ∀ {xs : List α} {vs : List V} {v : V}, A2 f xs vs → v ∈ vs → ∃ x, x ∈ xs ∧ f x v
  | _, _, _, .nil, h => by cases h
  | _, _, _, .cons r t, h => by
    rcases List.mem_cons.mp h with e | h
    · exact ⟨_, List.mem_cons_self, by rw [e]; exact r⟩
    · obtain ⟨x, hx, r⟩ := a2_mem t h
      exact ⟨x, List.mem_cons_of_mem _ hx, r⟩
theorem a2_of_k {f : β → V → Prop} {k : V → β} : ∀ {ys : List V}, (∀ v, v ∈ ys → f (k v) v) → A2 f (ys.map k) ys
  | [], _ => .nil
  | y :: ys, h => .cons (h y List.mem_cons_self) (a2_of_k fun v hv => h v (List.mem_cons_of_mem _ hv))
theorem n_sortP : OpLN E K (rSortedPO K) sortP (t1 (pV (pT (tc pI (t1 pI))))) (pT (tc pI (t1 pI))) := fun I C H a vs s hv Q q => by
  obtain ⟨v, rfl, h⟩ := hv
  obtain ⟨p, us, rfl, h2, h3, h4⟩ := pV.at s h
  refine ⟨p, us, kP H, rfl, .inl (.inl h2), fun x hx => ?_, fun ys l hs hb hl => ?_⟩
  · obtain ⟨z, _, r⟩ := a2_mem h4 hx
    obtain ⟨⟨t, e, ht⟩, ek⟩ := kP_of s r
    exact ⟨t, e, by rw [ek]; exact ht⟩
  · have ep : (ys.map (kP H)).Perm a := by
      have z := hb.perm.map (kP H)
      rw [kP_map s h4] at z
      exact z
    have es : (ys.map (kP H)).Pairwise (fun a b => leP a b = true) := by
      refine List.pairwise_map.mpr (hs.imp fun {x y} z => ?_)
      rw [leP_iff]
      have z2 : ¬ SrtO.lexB (kP H y) (kP H x) = true := by
        intro z3
        have z4 : SrtO.lexB (kP H y) (kP H x) = false := z
        rw [z3] at z4
        cases z4
      rw [SrtO.lexB_iff] at z2
      omega
    have e := sorted_unique (ep.trans (isortP_perm a).symm) es (isortP_sorted a)
    have q2 : PN (pT (tc pI (t1 pI))) I C Q (isortP a) := q
    rw [← e] at q2
    refine PN.new q2 s (a2_of_k fun v hv => ?_) (by rw [hb.perm.length_eq]; exact h3) l hl
    obtain ⟨z, _, r⟩ := a2_mem h4 (hb.perm.mem_iff.mp hv)
    rw [(kP_of s r).2]
    exact r
def insI (x : Int) : List Int → List Int
  | [] => [x]
  | y :: ys => if x ≤ y then x :: y :: ys else y :: insI x ys
def isortI : List Int → List Int
  | [] => []
  | x :: xs => insI x (isortI xs)
def sortI (xs : List Int) : Res (List Int) := .ok (isortI xs)
@[simp] theorem sortI_eq (xs : List Int) : sortI xs = .ok (isortI xs) := rfl
theorem insI_perm (x : Int) : ∀ ys, (insI x ys).Perm (x :: ys)
  | [] => .refl _
  | y :: ys => by
    unfold insI
    split
    · exact .refl _
    · exact ((insI_perm x ys).cons y).trans (.swap x y ys)
theorem isortI_perm : ∀ xs, (isortI xs).Perm xs
  | [] => .refl _
  | x :: xs => (insI_perm x _).trans ((isortI_perm xs).cons x)
theorem insI_sorted (x : Int) : ∀ {ys : List Int}, ys.Pairwise (· ≤ ·) → (insI x ys).Pairwise (· ≤ ·)
  | [], _ => List.pairwise_singleton _ _
  | y :: ys, h => by
    obtain ⟨h1, h2⟩ := List.pairwise_cons.mp h
    unfold insI
    split
    · rename_i hx
      exact List.pairwise_cons.mpr ⟨fun z hz => by
        rcases List.mem_cons.mp hz with e | hz
        · rw [e]
          exact hx
        · exact Int.le_trans hx (h1 z hz), h⟩
    · rename_i hx
      refine List.pairwise_cons.mpr ⟨fun z hz => ?_, insI_sorted x h2⟩
      rcases List.mem_cons.mp ((insI_perm x ys).mem_iff.mp hz) with e | hz
      · rw [e]
        omega
      · exact h1 z hz
theorem isortI_sorted : ∀ xs, (isortI xs).Pairwise (· ≤ ·)
  | [] => .nil
  | x :: xs => insI_sorted x (isortI_sorted xs)
theorem sortedI_unique : ∀ {xs ys : List Int}, xs.Perm ys → xs.Pairwise (· ≤ ·) → ys.Pairwise (· ≤ ·) → xs = ys
  | [], ys, p, _, _ => by rw [List.nil_perm.mp p]
  | x :: xs, [], p, _, _ => by cases List.perm_nil.mp p
  | x :: xs, y :: ys, p, h, h' => by
    obtain ⟨h1, h2⟩ := List.pairwise_cons.mp h
    obtain ⟨h1', h2'⟩ := List.pairwise_cons.mp h'
    have e : x = y := by
      by_cases e : x = y
      · exact e
      · have hy : y ∈ xs := (List.mem_cons.mp (p.mem_iff.mpr List.mem_cons_self)).resolve_left fun z => e z.symm
        have hx : x ∈ ys := (List.mem_cons.mp (p.mem_iff.mp List.mem_cons_self)).resolve_left e
        exact Int.le_antisymm (h1 y hy) (h1' x hx)
    subst e
    rw [sortedI_unique (List.Perm.cons_inv p) h2 h2']
theorem n_sortI : OpLN E K (rSortedI K) sortI (t1 (pV pI)) pI := fun I C H a vs s hv Q q => by
  obtain ⟨v, rfl, h⟩ := hv
  obtain ⟨p, us, rfl, h2, h3, h4⟩ := pV.at s h
  have eu := A2.map_iff (h := V.int) (fun _ _ h => h) h4
  subst eu
  refine ⟨p, a, rfl, .inl (.inl h2), fun ns l hp hs hl => ?_⟩
  have e := sortedI_unique (hp.trans (isortI_perm a).symm) hs (isortI_sorted a)
  have q2 : PN pI I C Q (isortI a) := q
  rw [← e] at q2
  refine PN.new q2 s (A2.of_map (f := fun x u => pI.r x u I C) (h := V.int) (fun _ => rfl) ns) (by rw [List.length_map, hp.length_eq, ← List.length_map (f := V.int)]; exact h3) l hl
/-! ### chains, is of bools -/
theorem x_chain {r r' : R2} {f : α → β → Res Bool} {g : β → γ → Res Bool} {T : Rp γ} {tc : TE} {m : Res α} {n : Res β} {l : Res γ} (hr : Op2 E K r f R S1 pB) (hr' : Op2 E K r' g S1 T pB) (h1 : EvX E K ta σ I C m R) (h2 : EvX E K tb σ I C n S1) (h3 : EvX E K tc σ I C l T) :
    EvX E K (tChain r r' ta tb tc) σ I C (m.bind fun a => n.bind fun b => (f a b).bind fun k => if k = true then l.bind fun c => g b c else .ok false) pB := fun I1 C1 H1 e e' s Q q =>
  h1 I1 C1 H1 e e' s _ ((Post.bind q).mono (fun a p x I2 H2 e2 s2 rx =>
    h2 I2 C1 H2 (e.trans e2) e' s2 _ ((Post.bind p).mono (fun b p2 y I3 H3 e3 s3 ry =>
      hr I3 C1 H3 a b x y s3 (R.mono e3 (Ex.refl _) rx) ry _ ((Post.bind p2).mono (fun k p3 z I4 H4 e4 s4 rz => ⟨k, rz, by
        cases k with
        | true =>
          exact h3 I4 C1 H4 (e.trans (e2.trans (e3.trans e4))) e' s4 _ ((Post.bind p3).mono (fun c p4 w I5 H5 e5 s5 rw => hr' I5 C1 H5 b c y w s5 (S1.mono (e4.trans e5) (Ex.refl _) ry) rw Q
            (p4.mono (fun d z v I6 H6 e6 s6 rv => z v I6 H6 (e2.trans (e3.trans (e4.trans (e5.trans e6)))) s6 rv) fun c i z => z.mono (e2.trans (e3.trans (e4.trans e5))) (Ex.refl _))) fun c i z => z.mono (e2.trans (e3.trans e4)) (Ex.refl _))
        | false => exact p3 (.bl false) I4 H4 (e2.trans (e3.trans e4)) s4 rfl⟩) fun c i z => z.mono (e2.trans e3) (Ex.refl _))) fun c i z => z.mono e2 (Ex.refl _)))
    fun _ _ z => z)
theorem o_isB : Op2 E K rIsB eqR pB pB pB := fun I C H a b x y s hx hy Q q => ⟨a, b, hx, hy, PQ.now q s rfl⟩
theorem o_notB : Op2 E K rNotB neR pB pB pB := fun I C H a b x y s hx hy Q q => ⟨a, b, hx, hy, PQ.now q s rfl⟩
/-! ### a cell as a list that is read -/
theorem x_cell [Im R] {i : Nat} {a : Addr} {xs : List α} {vs : List V} (h : σ[i]? = some (some (.ref a))) (hc : C a = some (.lst vs)) (hl : vs.length ≤ sizeLine) (hr : A2 (fun x u => R.r x u I Z) xs vs) : EvX E K (tVar i) σ I C (.ok xs) (pV R) :=
  x_var h ⟨a, vs, rfl, .inr hc, hl, hr.imp fun _ _ h => Im.im h⟩
/-! ### keeping -/
theorem fr_keep {B C C2 : Hp} {p : Addr} (h : Ex B C) (hp : B p = none) (k : ∀ q, q ≠ p → C2 q = C q) : Ex B C2 := fun a o e => by
  rw [k a (ne_of_none e hp)]
  exact h a o e
theorem fr_pool {C0 C C2 : Hp} {p : Addr} (h : Ex (off C0 p) C) (k : ∀ q, q ≠ p → C2 q = C q) : Ex (off C0 p) C2 := fr_keep h off_same k
theorem ex_pool {C0 C : Hp} {p : Addr} {o : HO} (h : Ex (off C0 p) C) (hc : C p = some o) : Ex (upd C0 p o) C := fun a u e => by
  by_cases q : a = p
  · rw [q, upd_same] at e
    rw [q, hc]
    exact e
  · rw [upd_ne q] at e
    exact h a u ((off_ne q).trans e)
theorem freeze {a : Addr} {o : HO} (s : St I C H) (hc : C a = some o) : ∃ I2 C2, Ex I I2 ∧ St I2 C2 H ∧ I2 a = some o ∧ ∀ q, q ≠ a → C2 q = C q :=
  ⟨_, _, Ex.new (s.freeI hc), s.frz hc, upd_same, fun q h => if_neg h⟩
theorem frz_list [Im R] {I2 : Hp} {a : Addr} {xs : List α} {vs : List V} (e : Ex I I2) (h : I2 a = some (.lst vs)) (hl : vs.length ≤ sizeLine) (hr : A2 (fun x u => R.r x u I Z) xs vs) : (pL R).r xs (.ref a) I2 Z := ⟨a, vs, rfl, h, hl, hr.imp fun _ _ => R.mono e (Ex.refl _)⟩
theorem ne_new {p q : Addr} {o : HO} (h : C p = some o) (h' : C q = none) : p ≠ q := ne_of_none h h'
/-! ### statements, as they are printed -/
theorem q_asg [Im R] {i : Nat} {m : Res α} {k : α → Res ω} (h : EvX E K te σ I C m R) (s : St I C H) (hX : XH X E K I C) (hm : Post (m.bind k) Q X)
    (next : ∀ a v I2 H2, Ex I I2 → St I2 C H2 → R.r a v I2 Z → Post (k a) Q X → tz D (σ.set i (some v)) H2) : tSeq (tAsg te (gName i)) tz D σ H :=
  s_asg h s hX hm fun a v I2 H2 e2 s2 rv hm => next a v I2 H2 e2 s2 (Im.im rv) hm
theorem q_ret [Im R] {m : Res α} {k : α → Res ω} (h : EvX E K te σ I C m R) (s : St I C H) (hX : XH X E K I C) (hm : Post (m.bind k) Q X)
    (next : ∀ a v I2 H2, Ex I I2 → St I2 C H2 → R.r a v I2 Z → Post (k a) Q X → D.rt v H2) : tSeq (tRet te) tz D σ H :=
  s_ret h s hX hm fun a v I2 H2 e2 s2 rv hm => next a v I2 H2 e2 s2 (Im.im rv) hm
theorem q_retN {m : Res (List α)} {k : List α → Res ω} (h : EvN E K te σ I C m R) (s : St I C H) (hX : XH X E K I C) (hm : Post (m.bind k) Q X)
    (next : ∀ xs p vs I2 H2, Ex I I2 → C p = none → St I2 (upd C p (.lst vs)) H2 → vs.length ≤ sizeLine → A2 (fun x u => R.r x u I2 C) xs vs → Post (k xs) Q X → D.rt (.ref p) H2) : tSeq (tRet te) tz D σ H :=
  h I C H (Ex.refl _) (Ex.refl _) s _ ((Post.bind hm).mono (fun a z p vs I2 H2 e2 hp s2 hl hr => next a p vs I2 H2 e2 hp s2 hl hr z) hX)
/-- xs = e, a new list that will change -/
theorem q_asgN [Im R] {i : Nat} {m : Res (List α)} {k : List α → Res ω} (h : EvN E K te σ I C m R) (s : St I C H) (hX : XH X E K I C) (hm : Post (m.bind k) Q X)
    (next : ∀ xs p vs I2 C2 H2, Ex I I2 → C p = none → St I2 C2 H2 → C2 p = some (.lst vs) → (∀ q, q ≠ p → C2 q = C q) → vs.length ≤ sizeLine → A2 (fun x u => R.r x u I2 Z) xs vs → Post (k xs) Q X → tz D (σ.set i (some (.ref p))) H2) : tSeq (tAsg te (gName i)) tz D σ H :=
  h I C H (Ex.refl _) (Ex.refl _) s _ ((Post.bind hm).mono (fun a z p vs I2 H2 e2 hp s2 hl hr => next a p vs I2 _ H2 e2 hp s2 upd_same (fun q h => upd_ne h) hl (hr.imp fun _ _ h => Im.im h) z) hX)
theorem q_nil {i : Nat} (s : St I C H) (next : ∀ p C2 H2, C p = none → St I C2 H2 → C2 p = some (.lst []) → (∀ q, q ≠ p → C2 q = C q) → tz D (σ.set i (some (.ref p))) H2) : tSeq (tAsg (tLst tNil) (gName i)) tz D σ H :=
  s_newL s fun p H2 hp _ s2 => next p _ H2 hp s2 upd_same fun q h => upd_ne h
theorem q_app [Im R] {i : Nat} {p : Addr} {xs : List α} {vs : List V} {k : List α → Res ω} {m : Res α} (hv : σ[i]? = some (some (.ref p))) (hc : C p = some (.lst vs)) (hr : A2 (fun x u => R.r x u I Z) xs vs) (h : EvX E K te σ I C m R) (s : St I C H) (hX : XH X E K I C)
    (hm : Post ((m.bind fun x => push xs x).bind k) Q X)
    (next : ∀ ys vs' I2 C2 H2, Ex I I2 → St I2 C2 H2 → C2 p = some (.lst vs') → (∀ q, q ≠ p → C2 q = C q) → vs'.length ≤ sizeLine → A2 (fun x u => R.r x u I2 Z) ys vs' → Post (k ys) Q X → tz D σ H2) :
    tSeq (tDrop (tBM K "list" rAppend (tVar i) (tCons te tNil))) tz D σ H :=
  s_app hv hc (hr.imp fun _ _ h => Im.im h) h s hX hm fun ys vs' I2 H2 e2 s2 hl hr hm => next ys vs' I2 _ H2 e2 s2 upd_same (fun q h => upd_ne h) hl (hr.imp fun _ _ h => Im.im h) hm
theorem q_setL [Im R] {i : Nat} {p : Addr} {xs : List α} {vs : List V} {k : List α → Res ω} {ti : TE} {m : Res α} {mi : Res Int} (hv : σ[i]? = some (some (.ref p))) (hc : C p = some (.lst vs)) (hl : vs.length ≤ sizeLine) (hr : A2 (fun x u => R.r x u I Z) xs vs)
    (h : EvX E K te σ I C m R) (hi : EvX E K ti σ I C mi pI) (s : St I C H) (hX : XH X E K I C) (hm : Post ((m.bind fun x => mi.bind fun j => setR xs j x).bind k) Q X)
    (next : ∀ ys vs' I2 C2 H2, Ex I I2 → St I2 C2 H2 → C2 p = some (.lst vs') → (∀ q, q ≠ p → C2 q = C q) → vs'.length ≤ sizeLine → A2 (fun x u => R.r x u I2 Z) ys vs' → Post (k ys) Q X → tz D σ H2) :
    tSeq (tAsg te (gSub (tVar i) ti rSetL)) tz D σ H :=
  s_setL hv hc hl (hr.imp fun _ _ h => Im.im h) h hi s hX hm fun ys vs' I2 H2 e2 s2 hl hr hm => next ys vs' I2 _ H2 e2 s2 upd_same (fun q h => upd_ne h) hl (hr.imp fun _ _ h => Im.im h) hm
/-- xs.extend(e) -/
theorem q_ext [Im R] {i : Nat} {p : Addr} {xs : List α} {vs : List V} {k : List α → Res ω} {m : Res (List α)} (hv : σ[i]? = some (some (.ref p))) (hc : C p = some (.lst vs)) (hr : A2 (fun x u => R.r x u I Z) xs vs) (h : EvX E K te σ I C m (pL R)) (s : St I C H) (hX : XH X E K I C)
    (hm : Post ((m.bind fun x => rCatR xs x).bind k) Q X)
    (next : ∀ ys vs' I2 C2 H2, Ex I I2 → St I2 C2 H2 → C2 p = some (.lst vs') → (∀ q, q ≠ p → C2 q = C q) → vs'.length ≤ sizeLine → A2 (fun x u => R.r x u I2 Z) ys vs' → Post (k ys) Q X → tz D σ H2) :
    tSeq (tDrop (tBM K "list" rExtend (tVar i) (tCons te tNil))) tz D σ H :=
  ⟨.ref p, hv, .inl ⟨rfl, vs, .inl (.inl (s.c p _ hc))⟩, h I C H (Ex.refl _) (Ex.refl _) s _ ((Post.bind (Post.bind hm)).mono (fun a po v I2 H2 e2 s2 rv => by
    obtain ⟨b, us, rfl, h2, h3, h4⟩ := rv
    unfold rCatR at po
    split at po
    · rename_i hl
      have hn := hr.len
      have hl2 : vs.length + us.length ≤ sizeLine := by
        rw [hn, h4.len]
        exact Nat.le_trans hl (by decide)
      exact ⟨p, b, vs, us, rfl, rfl, s2.c p _ hc, s2.i b _ h2, hl2, next (xs ++ a) (vs ++ us) I2 _ _ e2 (s2.set hc) upd_same (fun q h => upd_ne h) (by rw [List.length_append]; exact hl2) ((hr.imp fun _ _ h => R.to e2 h).append (h4.imp fun _ _ h => Im.im h)) po⟩
    · exact po.elim) hX)⟩
/-- xs.pop(): the last item and the rest -/
def popR (xs : List α) : Res (α × List α) := match xs.getLast? with
  | some x => .ok (x, xs.dropLast)
  | none => .bad
theorem e_pop [Im R] {i : Nat} {p : Addr} {xs : List α} {vs : List V} {k : α × List α → Res ω} {Q2 : VK} (hv : σ[i]? = some (some (.ref p))) (hc : C p = some (.lst vs)) (hl : vs.length ≤ sizeLine) (hr : A2 (fun x u => R.r x u I Z) xs vs) (s : St I C H) (hm : Post ((popR xs).bind k) Q X)
    (next : ∀ a v C2 H2, St I C2 H2 → C2 p = some (.lst vs.dropLast) → (∀ q, q ≠ p → C2 q = C q) → vs.dropLast.length ≤ sizeLine → A2 (fun x u => R.r x u I Z) a.2 vs.dropLast → R.r a.1 v I Z → Post (k a) Q X → Q2 v H2) : tBM0 K "list" rPop (tVar i) σ H Q2 := by
  have po := Post.bind hm
  unfold popR at po
  cases hx : xs.getLast? with
  | none =>
    rw [hx] at po
    exact po.elim
  | some x =>
    rw [hx] at po
    have hn := hr.len
    have hx2 : xs[xs.length - 1]? = some x := by
      rw [← List.getLast?_eq_getElem?]
      exact hx
    obtain ⟨v, hv2, r⟩ := hr.get' hx2
    rw [← hn] at hv2
    exact ⟨.ref p, hv, .inl ⟨rfl, vs, .inl (.inl (s.c p _ hc))⟩, p, vs, v, rfl, rfl, s.c p _ hc, hv2, next (x, xs.dropLast) v _ _ (s.set hc) upd_same (fun q h => upd_ne h) (by rw [List.length_dropLast]; omega) hr.dropLast r po⟩
/-! the pool -/
variable {p : Addr} {M : Rt μ} {x : μ} {ws : List V}
theorem qm_asg [It M] [Im R] {i : Nat} {m : μ → Res (α × μ)} {k : α × μ → Res ω} (h : EvM E K p M te σ I (off C p) m R) (s : St I C H) (hc : C p = some (.lst ws)) (hx : M.r x ws I Z) (hm : Post ((m x).bind k) Q XF)
    (next : ∀ b v ws' I2 C2 H2, Ex I I2 → St I2 C2 H2 → C2 p = some (.lst ws') → (∀ q, q ≠ p → C2 q = C q) → M.r b.2 ws' I2 Z → R.r b.1 v I2 Z → Post (k b) Q XF → tz D (σ.set i (some v)) H2) : tSeq (tAsg te (gName i)) tz D σ H :=
  sm_asg h s hc (It.im hx) hm fun b v ws' I2 H2 e2 s2 hx2 rv hm => next b v ws' I2 _ H2 e2 s2 upd_same (fun q h => upd_ne h) (It.im hx2) (Im.im rv) hm
theorem qm_ret [It M] [Im R] {m : μ → Res (α × μ)} {k : α × μ → Res ω} (h : EvM E K p M te σ I (off C p) m R) (s : St I C H) (hc : C p = some (.lst ws)) (hx : M.r x ws I Z) (hm : Post ((m x).bind k) Q XF)
    (next : ∀ b v ws' I2 C2 H2, Ex I I2 → St I2 C2 H2 → C2 p = some (.lst ws') → (∀ q, q ≠ p → C2 q = C q) → M.r b.2 ws' I2 Z → R.r b.1 v I2 Z → Post (k b) Q XF → D.rt v H2) : tSeq (tRet te) tz D σ H :=
  sm_ret h s hc (It.im hx) hm fun b v ws' I2 H2 e2 s2 hx2 rv hm => next b v ws' I2 _ H2 e2 s2 upd_same (fun q h => upd_ne h) (It.im hx2) (Im.im rv) hm
theorem qm_expr [It M] [Im R] {m : μ → Res (α × μ)} {k : α × μ → Res ω} (h : EvM E K p M te σ I (off C p) m R) (s : St I C H) (hc : C p = some (.lst ws)) (hx : M.r x ws I Z) (hm : Post ((m x).bind k) Q XF)
    (next : ∀ b ws' I2 C2 H2, Ex I I2 → St I2 C2 H2 → C2 p = some (.lst ws') → (∀ q, q ≠ p → C2 q = C q) → M.r b.2 ws' I2 Z → Post (k b) Q XF → tz D σ H2) : tSeq (tDrop te) tz D σ H :=
  sm_expr h s hc (It.im hx) hm fun b ws' I2 H2 e2 s2 hx2 hm => next b ws' I2 _ H2 e2 s2 upd_same (fun q h => upd_ne h) (It.im hx2) hm
theorem qm_if [It M] {c : μ → Res (Bool × μ)} {m1 m2 : μ → Res ω} (h : EvTM E K p M tt σ I (off C p) c) (s : St I C H) (hc : C p = some (.lst ws)) (hx : M.r x ws I Z) (hm : Post (ifMR c x m1 m2) Q XF)
    (h1 : ∀ y ws' I2 C2 H2, Ex I I2 → St I2 C2 H2 → C2 p = some (.lst ws') → (∀ q, q ≠ p → C2 q = C q) → M.r y ws' I2 Z → Post (m1 y) Q XF → tu { D with nx := tz D } σ H2)
    (h2 : ∀ y ws' I2 C2 H2, Ex I I2 → St I2 C2 H2 → C2 p = some (.lst ws') → (∀ q, q ≠ p → C2 q = C q) → M.r y ws' I2 Z → Post (m2 y) Q XF → tw { D with nx := tz D } σ H2) : tSeq (tIfS tt tu tw) tz D σ H :=
  sm_if h s hc (It.im hx) hm (fun y ws' I2 H2 e2 s2 hx2 hm => h1 y ws' I2 _ H2 e2 s2 upd_same (fun q h => upd_ne h) (It.im hx2) hm) (fun y ws' I2 H2 e2 s2 hx2 hm => h2 y ws' I2 _ H2 e2 s2 upd_same (fun q h => upd_ne h) (It.im hx2) hm)
theorem qm_ifj [It M] (P : S → L2.St → Hp → Hp → Prop) {c : μ → Res (Bool × μ)} {m1 m2 : μ → Res S} {k : S → Res ω} (h : EvTM E K p M tt σ I (off C p) c) (s : St I C H) (hc : C p = some (.lst ws)) (hx : M.r x ws I Z) (hm : Post ((ifMR c x m1 m2).bind k) Q XF)
    (h1 : ∀ (N : L2.St → Hp → Prop) y ws' I2 C2 H2, Ex I I2 → St I2 C2 H2 → C2 p = some (.lst ws') → (∀ q, q ≠ p → C2 q = C q) → M.r y ws' I2 Z → Post (m1 y) (fun s' => ∀ σ2 I3 C3 H3, Ex I I3 → St I3 C3 H3 → P s' σ2 I3 C3 → N σ2 H3) XF → tu { D with nx := N } σ H2)
    (h2 : ∀ (N : L2.St → Hp → Prop) y ws' I2 C2 H2, Ex I I2 → St I2 C2 H2 → C2 p = some (.lst ws') → (∀ q, q ≠ p → C2 q = C q) → M.r y ws' I2 Z → Post (m2 y) (fun s' => ∀ σ2 I3 C3 H3, Ex I I3 → St I3 C3 H3 → P s' σ2 I3 C3 → N σ2 H3) XF → tw { D with nx := N } σ H2)
    (next : ∀ s' σ2 I3 C3 H3, Ex I I3 → St I3 C3 H3 → P s' σ2 I3 C3 → Post (k s') Q XF → tz D σ2 H3) : Evl.tCut (tIfS tt tu tw) tz D σ H :=
  sm_ifj P h s hc (It.im hx) hm (fun N y ws' I2 H2 e2 s2 hx2 hm => h1 N y ws' I2 _ H2 e2 s2 upd_same (fun q h => upd_ne h) (It.im hx2) hm) (fun N y ws' I2 H2 e2 s2 hx2 hm => h2 N y ws' I2 _ H2 e2 s2 upd_same (fun q h => upd_ne h) (It.im hx2) hm) next
theorem qm_forN [It M] (P : S → L2.St → Hp → Hp → Prop) {wi : TI} {g : TG} {m : μ → Res (List α × μ)} {f : α → S → Res S} {s0 : μ → S} {k : S → Res ω} (hi : EvIM E K p M wi σ I (off C p) m R) (s : St I C H) (hc : C p = some (.lst ws)) (hx : M.r x ws I Z) (hm : Post (((m x).bind fun b => loopN f b.1 (s0 b.2)).bind k) Q XF)
    (h0 : ∀ y ws' I2 C2, Ex I I2 → C2 p = some (.lst ws') → (∀ q, q ≠ p → C2 q = C q) → M.r y ws' I2 Z → P (s0 y) σ I2 C2) (hP : ∀ s' σ' I' I2 C', Ex I' I2 → P s' σ' I' C' → P s' σ' I2 C')
    (body : ∀ (N : L2.St → Hp → Prop) x v s' σ' I' C' H', Ex I I' → St I' C' H' → P s' σ' I' C' → R.r x v I' C' → Post (f x s') (fun s2 => ∀ σ2 I3 C3 H3, Ex I' I3 → St I3 C3 H3 → P s2 σ2 I3 C3 → N σ2 H3) XF →
      g v σ' H' fun σ2 H2 => tu { D with nx := N, ct := N, bk := tz D } σ2 H2)
    (next : ∀ s' σ' I' C' H', Ex I I' → St I' C' H' → P s' σ' I' C' → Post (k s') Q XF → tz D σ' H') : tSeq (tFor wi g tu) tz D σ H :=
  sm_forN P hi s hc (It.im hx) hm (fun y ws' I2 e2 hx2 => h0 y ws' I2 _ e2 upd_same (fun q h => upd_ne h) (It.im hx2)) hP body next
theorem q_set [It M] [Im S1] {i k : Nat} {g : μ → β → μ} {kk : μ → Res ω} {m : Res β} (hv : σ[i]? = some (some (.ref p))) (h : EvX E K te σ I C m S1) (j : Pk M k g S1) (s : St I C H) (hc : C p = some (.lst ws)) (hx : M.r x ws I Z) (hm : Post (m.bind fun a => kk (g x a)) Q XF)
    (next : ∀ y ws' I2 C2 H2, Ex I I2 → St I2 C2 H2 → C2 p = some (.lst ws') → (∀ q, q ≠ p → C2 q = C q) → M.r y ws' I2 Z → Post (kk y) Q XF → tz D σ H2) : tSeq (tAsg te (gSub (tVar i) (tC (.int (k : Int))) rSetL)) tz D σ H :=
  sm_set hv h j s hc (It.im hx) hm fun y ws' I2 H2 e2 s2 hx2 hm => next y ws' I2 _ H2 e2 s2 upd_same (fun q h => upd_ne h) (It.im hx2) hm
theorem q_pool {i k : Nat} {f : μ → β} [It M] (hv : σ[i]? = some (some (.ref p))) (hc : C p = some (.lst ws)) (hx : M.r x ws I Z) (j : Pj M k f S1) : EvX E K (tOp (rIxL K) (tVar i) (tC (.int (k : Int)))) σ I C (.ok (f x)) S1 := x_pool hv hc (It.im hx) j
/-! targets -/
theorem g1 [Im R] {i : Nat} : Tg K (gName i) R σ (fun x σ2 I _ => ∃ v, σ2 = σ.set i (some v) ∧ R.r x v I Z) := fun x v I C H Q s r k => k _ ⟨v, rfl, Im.im r⟩
theorem g2 [Im R] [Im S1] {i j : Nat} : Tg K (gTup K 2 (gCons (gName i) (gCons (gName j) gNil))) (pT (tc R (t1 S1))) σ (fun x σ2 I _ => ∃ u w, σ2 = (σ.set i (some u)).set j (some w) ∧ R.r x.1 u I Z ∧ S1.r x.2 w I Z) := fun x v I C H Q s r k =>
  g_two x v I C H Q s r fun σ2 ⟨u, w, e, h1, h2⟩ => k σ2 ⟨u, w, e, Im.im h1, Im.im h2⟩
theorem g3 {T : Rp γ} [Im R] [Im S1] [Im T] {i j l : Nat} : Tg K (gTup K 3 (gCons (gName i) (gCons (gName j) (gCons (gName l) gNil)))) (pT (tc R (tc S1 (t1 T)))) σ
    (fun x σ2 I _ => ∃ u w z, σ2 = ((σ.set i (some u)).set j (some w)).set l (some z) ∧ R.r x.1 u I Z ∧ S1.r x.2.1 w I Z ∧ T.r x.2.2 z I Z) := fun x v I C H Q s r k =>
  g_three x v I C H Q s r fun σ2 ⟨u, w, z, e, h1, h2, h3⟩ => k σ2 ⟨u, w, z, e, Im.im h1, Im.im h2, Im.im h3⟩
end
end Sd

namespace Sd
open PySem L2
/-- no places -/
def t0 : Rt Unit := ⟨fun _ vs _ _ => vs = [], fun _ _ h => h, 0, fun h => by rw [h]; rfl⟩
instance : It t0 := ⟨fun h => h⟩
abbrev Pl := Int × Int × Int × List Int
/-- the pool's places -/
abbrev pM : Rt Pl := tc pI (tc pI (tc pI (t1 (pL pI))))
theorem a2up {α : Type} {R : Rp α} {I I' : Hp} {xs : List α} {vs : List V} (e : Ex I I') (h : A2 (fun x u => R.r x u I Z) xs vs) : A2 (fun x u => R.r x u I' Z) xs vs := h.imp fun _ _ => R.mono e (Ex.refl _)
section
variable {E : XK} {K : PySem.W.Frag} {σ : L2.St} {I I' C C' H B : Hp} {α β γ μ ω S ρ : Type} {R : Rp α} {S1 : Rp β} {te ta tb : TE} {tt : TT} {tz tu tw : TS} {D : Ends} {Q : ω → Prop} {X : Ec → Int → Prop}
/-- a cell that is returned, known for good from then on -/
theorem q_retC [Im R] {i : Nat} {p : Addr} {xs : List α} {vs : List V} (hv : σ[i]? = some (some (.ref p))) (s : St I C H) (fr : Ex B C) (hB : B p = none) (hc : C p = some (.lst vs)) (hl : vs.length ≤ sizeLine) (hr : A2 (fun x u => R.r x u I Z) xs vs)
    (next : ∀ I2, Ex I I2 → St I2 B H → (pL R).r xs (.ref p) I2 Z → D.rt (.ref p) H) : tSeq (tRet (tVar i)) tz D σ H := by
  obtain ⟨I2, C2, e, s2, h, k⟩ := freeze s hc
  exact ⟨.ref p, hv, next I2 e (s2.less (fr_keep fr hB k)) (frz_list e h hl hr)⟩
/-- a cell that is returned as a new list of one's own -/
theorem q_retO [Im R] {i : Nat} {p : Addr} {xs : List α} {vs : List V} (hv : σ[i]? = some (some (.ref p))) (s : St I C H) (fr : Ex B C) (hB : B p = none) (hc : C p = some (.lst vs)) (hl : vs.length ≤ sizeLine) (hr : A2 (fun x u => R.r x u I Z) xs vs)
    (next : St I (upd B p (.lst vs)) H → A2 (fun x u => R.r x u I B) xs vs → D.rt (.ref p) H) : tSeq (tRet (tVar i)) tz D σ H :=
  ⟨.ref p, hv, next (s.less fun a u e => by
    by_cases q : a = p
    · rw [q, upd_same] at e
      rw [q, hc]
      exact e
    · rw [upd_ne q] at e
      exact fr a u e) (hr.imp fun _ _ h => Im.im h)⟩
/-- x += e, x -= e -/
theorem q_aug {i : Nat} {f : Int → Int → Int} {v : V} {a : Int} {m : Res Int} {k : Int → Res ω} (hv : σ[i]? = some (some v)) (r : pI.r a v I Z) (h : EvX E K te σ I C m pI) (s : St I C H) (hX : XH X E K I C) (hm : Post ((m.bind fun b => .ok (f a b)).bind k) Q X)
    (next : ∀ a v I2 H2, Ex I I2 → St I2 C H2 → pI.r a v I2 Z → Post (k a) Q X → tz D (σ.set i (some v)) H2) : tSeq (tAug i te (ipI f)) tz D σ H :=
  ⟨v, hv, h I C H (Ex.refl _) (Ex.refl _) s _ ((Post.bind (Post.bind hm)).mono (fun b p w I2 H2 e2 s2 rv => ⟨a, b, r, rv, next _ _ I2 H2 e2 s2 rfl p⟩) hX)⟩
/-- xs.append(e), e draws -/
theorem qm_app {M : Rt μ} [It M] [Im R] {i : Nat} {p q : Addr} {x : μ} {ws vs : List V} {xs : List α} {k : List α × μ → Res ω} {m : μ → Res (α × μ)} (hv : σ[i]? = some (some (.ref q))) (hq : C q = some (.lst vs)) (hqp : q ≠ p) (hr : A2 (fun x u => R.r x u I Z) xs vs) (h : EvM E K p M te σ I (off C p) m R)
    (s : St I C H) (hc : C p = some (.lst ws)) (hx : M.r x ws I Z) (hm : Post (((m x).bind fun b => (push xs b.1).bind fun ys => .ok (ys, b.2)).bind k) Q XF)
    (next : ∀ (b : List α × μ) vs' ws' I2 C2 H2, Ex I I2 → St I2 C2 H2 → C2 q = some (.lst vs') → C2 p = some (.lst ws') → (∀ r, r ≠ p → r ≠ q → C2 r = C r) → vs'.length ≤ sizeLine → A2 (fun x u => R.r x u I2 Z) b.1 vs' → M.r b.2 ws' I2 Z → Post (k b) Q XF → tz D σ H2) :
    tSeq (tDrop (tBM K "list" rAppend (tVar i) (tCons te tNil))) tz D σ H := by
  refine ⟨.ref q, hv, .inl ⟨rfl, vs, .inl (.inl (s.c q _ hq))⟩, ?_⟩
  refine h x ws I C H (Ex.refl _) off_ex s hc (It.im hx) _ ((Post.bind (Post.bind hm)).mono (fun b po v ws' I2 H2 e2 s2 hx2 rv => ?_) fun _ _ z => z)
  unfold push at po
  split at po
  · rename_i hl
    have hn := hr.len
    have hl2 : vs.length < sizeLine := by
      rw [hn]
      exact Nat.lt_of_lt_of_le hl (by decide)
    have hq2 : upd C p (.lst ws') q = some (.lst vs) := by
      rw [upd_ne hqp]
      exact hq
    refine ⟨q, vs, v, rfl, rfl, s2.c q _ hq2, hl2, next (xs ++ [b.1], b.2) (vs ++ [v]) ws' I2 _ _ e2 (s2.set hq2) upd_same ?_ (fun r h1 h2 => ?_) (by rw [List.length_append]; exact hl2) ?_ (It.im hx2) po⟩
    · rw [upd_ne (Ne.symm hqp), upd_same]
    · rw [upd_ne h2, upd_ne h1]
    · exact (hr.imp fun _ _ h => R.mono e2 (Ex.refl _) h).append (.one (Im.im rv))
  · exact po.elim
/-- pool[k] = e -/
def thenR (m : Res α) (g : α → β) (k : β → Res γ) : Res γ := m.bind fun a => k (g a)
@[simp] theorem thenR_eq (m : Res α) (g : α → β) (k : β → Res γ) : thenR m g k = m.bind fun a => k (g a) := rfl
theorem q_setT {p : Addr} {M : Rt μ} {x : μ} {ws : List V} [It M] [Im S1] {i k : Nat} {g : μ → β → μ} {kk : μ → Res ω} {m : Res β} (hv : σ[i]? = some (some (.ref p))) (h : EvX E K te σ I C m S1) (j : Pk M k g S1) (s : St I C H) (hc : C p = some (.lst ws)) (hx : M.r x ws I Z) (hm : Post (thenR m (fun a => g x a) kk) Q XF)
    (next : ∀ y ws' I2 C2 H2, Ex I I2 → St I2 C2 H2 → C2 p = some (.lst ws') → (∀ q, q ≠ p → C2 q = C q) → M.r y ws' I2 Z → Post (kk y) Q XF → tz D σ H2) : tSeq (tAsg te (gSub (tVar i) (tC (.int (k : Int))) rSetL)) tz D σ H := q_set hv h j s hc hx hm next
/-! None, or a thing -/
class NN {α : Type} (R : Rp α) : Prop where
  nn : ∀ {a : α} {v : V} {I C : Hp}, R.r a v I C → v ≠ .non
instance : NN pI := ⟨fun h z => by rw [show _ = V.int _ from h] at z; cases z⟩
instance : NN pB := ⟨fun h z => by rw [show _ = V.bl _ from h] at z; cases z⟩
instance : NN pS := ⟨fun h z => by rw [show _ = V.str _ from h.1] at z; cases z⟩
instance {T : Rt α} : NN (pT T) := ⟨fun ⟨a, vs, h, _⟩ z => by rw [h] at z; cases z⟩
instance {T : Rt α} : NN (pD T) := ⟨fun ⟨a, vs, h, _⟩ z => by rw [h] at z; cases z⟩
instance {T : Rt α} : NN (pU K T) := ⟨fun ⟨a, vs, h, _⟩ z => by rw [h] at z; cases z⟩
instance : NN (pL R) := ⟨fun ⟨a, vs, h, _⟩ z => by rw [h] at z; cases z⟩
instance : NN (pQ K R) := ⟨fun ⟨a, vs, h, _⟩ z => by rw [h] at z; cases z⟩
def someR' (a : α) : Res (Option α) := .ok (some a)
@[simp] theorem someR'_eq (a : α) : someR' a = .ok (some a) := rfl
theorem x_some [NN R] {m : Res α} (h : EvX E K te σ I C m R) : EvX E K te σ I C (un someR' m) (pO R) := fun I1 C1 H1 e e' s Q q =>
  h I1 C1 H1 e e' s Q ((Post.bind q).mono (fun a p v I2 H2 e2 s2 rv => p v I2 H2 e2 s2 ⟨rv, NN.nn rv⟩) fun _ _ z => z)
theorem x_none : EvX E K (tC .non) σ I C (.ok none) (pO R) := x_c fun _ _ => rfl
/-- it is there -/
def getO : Option α → Res α
  | some a => .ok a
  | none => .bad
@[simp] theorem getO_some (a : α) : getO (some a) = .ok a := rfl
theorem x_get {m : Res (Option α)} (h : EvX E K te σ I C m (pO R)) : EvX E K te σ I C (un getO m) R := fun I1 C1 H1 e e' s Q q =>
  h I1 C1 H1 e e' s Q ((Post.bind q).mono (fun a p v I2 H2 e2 s2 rv => by
    cases a with
    | none => exact p.elim
    | some a => exact p v I2 H2 e2 s2 rv.1) fun _ _ z => z)
/-! one of two -/
def pX (R : Rp α) (S : Rp β) : Rp (α ⊕ β) := ⟨fun x v I C => match x with
  | .inl a => R.r a v I C
  | .inr b => S.r b v I C, fun {a v I I' C C'} e e' h => by
  cases a with
  | inl a => exact R.mono e e' h
  | inr a => exact S.mono e e' h⟩
instance [Im R] [Im S1] : Im (pX R S1) := ⟨fun {a v I C C'} h => by
  cases a with
  | inl a => exact Im.im (R := R) h
  | inr a => exact Im.im (R := S1) h⟩
def getL : α ⊕ β → Res α
  | .inl a => .ok a
  | .inr _ => .bad
def getR : α ⊕ β → Res β
  | .inl _ => .bad
  | .inr a => .ok a
def inlR (a : α) : Res (α ⊕ β) := .ok (.inl a)
def inrR (a : β) : Res (α ⊕ β) := .ok (.inr a)
@[simp] theorem getL_eq (a : α) : getL (.inl a : α ⊕ β) = .ok a := rfl
@[simp] theorem getR_eq (a : β) : getR (.inr a : α ⊕ β) = .ok a := rfl
@[simp] theorem inlR_eq (a : α) : (inlR a : Res (α ⊕ β)) = .ok (.inl a) := rfl
@[simp] theorem inrR_eq (a : β) : (inrR a : Res (α ⊕ β)) = .ok (.inr a) := rfl
theorem x_getL {m : Res (α ⊕ β)} (h : EvX E K te σ I C m (pX R S1)) : EvX E K te σ I C (un getL m) R := fun I1 C1 H1 e e' s Q q =>
  h I1 C1 H1 e e' s Q ((Post.bind q).mono (fun a p v I2 H2 e2 s2 rv => by
    cases a with
    | inl a => exact p v I2 H2 e2 s2 rv
    | inr a => exact p.elim) fun _ _ z => z)
theorem x_getR {m : Res (α ⊕ β)} (h : EvX E K te σ I C m (pX R S1)) : EvX E K te σ I C (un getR m) S1 := fun I1 C1 H1 e e' s Q q =>
  h I1 C1 H1 e e' s Q ((Post.bind q).mono (fun a p v I2 H2 e2 s2 rv => by
    cases a with
    | inl a => exact p.elim
    | inr a => exact p v I2 H2 e2 s2 rv) fun _ _ z => z)
theorem x_inl {m : Res α} (h : EvX E K te σ I C m R) : EvX E K te σ I C (un inlR m) (pX R S1) := fun I1 C1 H1 e e' s Q q =>
  h I1 C1 H1 e e' s Q ((Post.bind q).mono (fun a p v I2 H2 e2 s2 rv => p v I2 H2 e2 s2 rv) fun _ _ z => z)
theorem x_inr {m : Res β} (h : EvX E K te σ I C m S1) : EvX E K te σ I C (un inrR m) (pX R S1) := fun I1 C1 H1 e e' s Q q =>
  h I1 C1 H1 e e' s Q ((Post.bind q).mono (fun a p v I2 H2 e2 s2 rv => p v I2 H2 e2 s2 rv) fun _ _ z => z)
/-! the kinds, for isinstance -/
class TyR (K : PySem.W.Frag) {α : Type} (R : Rp α) (n : String) : Prop where
  ty : ∀ {a : α} {v : V} {I C H : Hp}, St I C H → R.r a v I C → TyX K H v (.type n)
instance : TyR K pI "int" := ⟨fun s h => by rw [show _ = V.int _ from h]; exact .base (.int _)⟩
instance : TyR K pB "bool" := ⟨fun s h => by rw [show _ = V.bl _ from h]; exact .base (.bl _)⟩
instance : TyR K pS "str" := ⟨fun s h => by rw [show _ = V.str _ from h.1]; exact .base (.str _)⟩
instance {T : Rt α} : TyR K (pT T) "tuple" := ⟨fun s ⟨a, vs, e, h, _⟩ => by rw [e]; exact .base (.tup (s.i _ _ h))⟩
instance {T : Rt α} : TyR K (pD T) "list" := ⟨fun s ⟨a, vs, e, h, _⟩ => by rw [e]; exact .base (.lst (s.i _ _ h))⟩
instance : TyR K (pL R) "list" := ⟨fun s ⟨a, vs, e, h, _⟩ => by rw [e]; exact .base (.lst (s.i _ _ h))⟩
instance : TyR K (pV R) "list" := ⟨fun s h => by
  obtain ⟨a, vs, rfl, h, _⟩ := pV.at s h
  exact .base (.lst h)⟩
theorem o_isi {n c : String} {b : Bool} [TyR K R n] (hk : kitB n c = some b) : OpL E K (rIsi K) (fun _ => .ok b) (tc R (t1 (pY c))) pB := fun I C H a vs s hv Q q => by
  obtain ⟨v, us, rfl, r, w, rfl, rw⟩ := hv
  have hw : w = .ty c := rw
  subst hw
  exact ⟨v, .ty c, _, _, b, rfl, .ty c, TyR.ty s r, kit_ty hk, PQ.now q s rfl⟩
theorem o_lenT {T : Rt α} : OpL E K (fun xs H Q => ∃ p ys, xs = [.ref p] ∧ (SqL K H p ys ∨ SqT K H p ys) ∧ Q (.int ys.length) H) (fun _ => .ok (T.n : Int)) (t1 (pT T)) pI := fun I C H a vs s hv Q q => by
  obtain ⟨v, rfl, p, us, rfl, h, r⟩ := hv
  exact ⟨p, us, rfl, .inr (.inl (.inl (s.i _ _ h))), by rw [T.len r]; exact PQ.now q s rfl⟩
end
end Sd

namespace Sd
open PySem L2
theorem passE {P : Program} {w : World} {K : PySem.W.Frag} {mg : Str → Option Value} {base : Heap} {N : List Str} {qual : Str} {scope : Scope} {f : Addr} {cdv : Value} {A : Around} {outer : List Env} {s : Shared} {H : Hp} {E : XK} :
    Passes (L2.CX P w) (cxOf (L2.CX P w) P w K mg base N qual scope f cdv A outer s H E) E := passes_call (takes_of rfl rfl rfl rfl) fun _ _ _ _ h => h
/-! the built-ins -/
theorem bt_len : bootBuiltins "len" = some (.builtin "len") := by decide +kernel
theorem bt_max : bootBuiltins "max" = some (.builtin "max") := by decide +kernel
theorem bt_min : bootBuiltins "min" = some (.builtin "min") := by decide +kernel
theorem bt_sum : bootBuiltins "sum" = some (.builtin "sum") := by decide +kernel
theorem bt_sorted : bootBuiltins "sorted" = some (.builtin "sorted") := by decide +kernel
theorem bt_isinstance : bootBuiltins "isinstance" = some (.builtin "isinstance") := by decide +kernel
theorem bt_int : bootBuiltins "int" = some (.type "int") := by decide +kernel
theorem bt_str : bootBuiltins "str" = some (.type "str") := by decide +kernel
theorem bt_bool : bootBuiltins "bool" = some (.type "bool") := by decide +kernel
theorem bt_list : bootBuiltins "list" = some (.type "list") := by decide +kernel
theorem bt_tuple : bootBuiltins "tuple" = some (.type "tuple") := by decide +kernel
theorem bt_ValueError : bootBuiltins "ValueError" = some (.type "ValueError") := by decide +kernel
theorem bt_range : bootBuiltins "range" = some (.type "range") := by decide +kernel
section
variable {E : XK} {K : PySem.W.Frag} {σ : L2.St} {I I' C C' H B C0 : Hp} {α β γ μ ω S ρ : Type} {R : Rp α} {S1 : Rp β} {te ta tb : TE} {tt : TT} {tz tu tw : TS} {D : Ends} {Q : ω → Prop} {X : Ec → Int → Prop} {p q : Addr}
abbrev rLen1 (K : PySem.W.Frag) : List V → Hp → VK → Prop := fun xs H Q => ∃ p ys, xs = [.ref p] ∧ (SqL K H p ys ∨ SqT K H p ys) ∧ Q (.int ys.length) H
abbrev rList1 (K : PySem.W.Frag) : List V → Hp → VK → Prop := fun xs H Q => ∃ p ys, xs = [.ref p] ∧ (SqL K H p ys ∨ SqT K H p ys) ∧ ∀ l, H l = none → Q (.ref l) (upd H l (.lst ys))
abbrev rTuple1 (K : PySem.W.Frag) : List V → Hp → VK → Prop := fun xs H Q => ∃ p ys, xs = [.ref p] ∧ ((SqL K H p ys ∧ ∀ l, H l = none → Q (.ref l) (upd H l (.tup ys))) ∨ (SqT K H p ys ∧ Q (.ref p) H))
theorem Op2.ofL {r : R2} {f : List α → β → Res γ} {T : Rp γ} (h : Op2 E K r f (pV R) S1 T) : Op2 E K r f (pL R) S1 T := fun I C H a b x y s ⟨p, vs, h1, h2, h3, h4⟩ hy Q q => h I C H a b x y s ⟨p, vs, h1, .inl h2, h3, h4⟩ hy Q q
def b2iR (b : Bool) : Res Int := .ok (if b = true then 1 else 0)
@[simp] theorem b2iR_eq (b : Bool) : b2iR b = .ok (if b = true then 1 else 0) := rfl
theorem o_intB : OpL E K (fun xs H Q => (∃ i, xs = [.int i] ∧ Q (.int i) H) ∨ ∃ k, xs = [.bl k] ∧ Q (.int (if k then 1 else 0)) H) b2iR (t1 pB) pI := fun I C H a vs s hv Q q => by
  obtain ⟨v, rfl, h⟩ := hv
  have hv : v = .bl a := h
  subst hv
  exact .inr ⟨a, rfl, PQ.now q s rfl⟩
/-! the end of a def -/
abbrev PM {α μ : Type} (p : Addr) (M : Rt μ) (R : Rp α) (I C : Hp) (Q : VK) (b : α × μ) : Prop := ∀ v ws' I2 H2, Ex I I2 → St I2 (upd C p (.lst ws')) H2 → M.r b.2 ws' I2 (upd C p (.lst ws')) → R.r b.1 v I2 (upd C p (.lst ws')) → Q v H2
theorem ret_pool [Im R] {M : Rt μ} [It M] {I0 : Hp} {Q : VK} {b : α × μ} {ws : List V} {v : V} (hm : PM p M R I0 C0 Q b) (e : Ex I0 I) (fr : Ex (off C0 p) C) (s : St I C H) (hc : C p = some (.lst ws)) (hx : M.r b.2 ws I Z) (r : R.r b.1 v I Z) : Q v H :=
  hm v ws I H e (s.less (ex_pool fr hc)) (It.im hx) (Im.im r)
theorem ret_poolN {M : Rt μ} [It M] {I0 : Hp} {Q : VK} {b : Unit × μ} {ws : List V} (hm : PM p M pN I0 C0 Q b) (e : Ex I0 I) (fr : Ex (off C0 p) C) (s : St I C H) (hc : C p = some (.lst ws)) (hx : M.r b.2 ws I Z) : Q .non H :=
  hm .non ws I H e (s.less (ex_pool fr hc)) (It.im hx) rfl
theorem ret_own [Im R] {I0 : Hp} {Q : VK} {xs : List α} {vs : List V} (hm : PN R I0 C0 Q xs) (e : Ex I0 I) (fr : Ex C0 C) (hp : C p = none) (s : St I (upd C p (.lst vs)) H) (hl : vs.length ≤ sizeLine) (hr : A2 (fun x u => R.r x u I C) xs vs) : Q (.ref p) H :=
  hm p vs I H e (Ex.free fr hp) (s.less fun a u h => by
    by_cases z : a = p
    · rw [z, upd_same] at h
      rw [z, upd_same]
      exact h
    · rw [upd_ne z] at h ⊢
      exact fr a u h) hl (hr.imp fun _ _ h => Im.im h)
theorem fr_pool2 {C2 : Hp} (h : Ex (off C0 p) C) (hq : off C0 p q = none) (k : ∀ r, r ≠ p → r ≠ q → C2 r = C r) : Ex (off C0 p) C2 := fun a o e => by
  have h1 : a ≠ p := fun z => by rw [z, off_same] at e; cases e
  rw [k a h1 (ne_of_none e hq)]
  exact h a o e
theorem i_cellZ [Im R] {i : Nat} {a : Addr} {vs : List V} {xs : List α} (h : σ[i]? = some (some (.ref a))) (hc : C a = some (.lst vs)) (hl : vs.length ≤ sizeLine) (hr : A2 (fun x u => R.r x u I Z) xs vs) :
    EvI E K (iList K (tVar i)) σ I C (fun C3 => C3 a = some (.lst vs)) (.ok xs) R := i_cell h hc hl (hr.imp fun _ _ h => Im.im h)
theorem im_rng2 {M : Rt μ} [It M] {Cp : Hp} {tr : TA} {m : μ → Res ((Int × Int) × μ)} (h : EvAM E K p M tr σ I Cp m (tc pI (t1 pI))) : EvIM E K p M (iRng2 tr) σ I Cp (unM rng2 m) pI := fun x ws I1 C1 H1 e e' s hc hx Kt q =>
  h x ws I1 C1 H1 e e' s hc hx _ ((Post.bind q).mono (fun b z vs ws' I2 H2 e2 s2 hx2 ⟨v, us, hv, rv, w, hw, rw⟩ => by
    have z := Post.bind z
    unfold rng2 at z
    split at z
    · rename_i hn
      have hv1 : v = .int b.1.1 := rv
      have hw1 : w = .int b.1.2 := rw
      subst hv hw hv1 hw1
      refine ⟨b.1.1, b.1.2, rfl, by omega, z ws' (Itr b.1.1 (b.1.2 - b.1.1).toNat) (fun _ => True) (YFn fun i => .int (b.1.1 + i)) I2 H2 e2 s2 hx2 (by rw [rangeL_length]; exact Nat.le_trans (show (b.1.2 - b.1.1).toNat ≤ 2000000 by omega) (by decide)) (by rw [rangeL_length]; exact walk_range) (fun _ _ _ _ _ => trivial) (fun i x v' I3 C3 H3 H4 hx e3 s3 y => ?_)⟩
      obtain ⟨rfl, rfl⟩ := y
      rw [rangeL_get hx]
      exact ⟨I3, Ex.refl _, s3, rfl⟩
    · exact z.elim) fun _ _ z => z)
theorem im_list {M : Rt μ} [It M] [Im R] {Cp : Hp} {m : μ → Res (List α × μ)} (h : EvM E K p M te σ I Cp m (pL R)) : EvIM E K p M (iList K te) σ I Cp m R := fun x ws I1 C1 H1 e e' s hc hx Kt q =>
  h x ws I1 C1 H1 e e' s hc hx _ (q.mono (fun b z v ws' I2 H2 e2 s2 hx2 ⟨a, us, h1, h2, h3, h4⟩ => ⟨a, h1, ⟨us, .inl (.inl (s2.i a _ h2))⟩, by
    have hn := h4.len
    refine z ws' (Itl K a) (fun H => SqL K H a us) (YAt us) I2 H2 e2 s2 hx2 (by omega) (by rw [← hn]; exact walk_list) (fun I3 C3 H3 e3 s3 => .inl (.inl (s3.i a _ (e3 a _ h2)))) (fun i x v' I3 C3 H3 H4 hx e3 s3 y => ?_)
    obtain ⟨rfl, y⟩ := y
    obtain ⟨w, hw, r⟩ := h4.get' hx
    rw [hw] at y
    cases y
    exact ⟨I3, Ex.refl _, s3, R.to e3 r⟩⟩) fun _ _ z => z)
theorem m_v {M : Rt μ} {Cp : Hp} {m : μ → Res (List α × μ)} (h : EvM E K p M te σ I Cp m (pL R)) : EvM E K p M te σ I Cp m (pV R) := fun x ws I1 C1 H1 e e' s hc hx Q q =>
  h x ws I1 C1 H1 e e' s hc hx Q (q.mono (fun b z v ws' I2 H2 e2 s2 hx2 ⟨a, vs, h1, h2, h3, h4⟩ => z v ws' I2 H2 e2 s2 hx2 ⟨a, vs, h1, .inl h2, h3, h4⟩) fun _ _ z => z)
/-! slices whose ends draw -/
def EvOM (E : XK) (K : PySem.W.Frag) (p : Addr) {μ : Type} (M : Rt μ) (to : TO) (σ : L2.St) (I Cp : Hp) (m : μ → Res (Option Int × μ)) : Prop :=
  ∀ x ws I1 C1 H1, Ex I I1 → Ex Cp C1 → St I1 C1 H1 → C1 p = some (.lst ws) → M.r x ws I1 C1 → ∀ Q : Option Int → Hp → Prop, Post (m x) (fun b => ∀ ws' I2 H2, Ex I1 I2 → St I2 (upd C1 p (.lst ws')) H2 → M.r b.2 ws' I2 (upd C1 p (.lst ws')) → Q b.1 H2) (fun _ _ => False) → to σ H1 Q
theorem pm_pure {M : Rt μ} {Cp : Hp} {to : TO} {m : Res (Option Int)} (h : EvO E K to σ I Cp m) : EvOM E K p M to σ I Cp (liftM m) := fun x ws I1 C1 H1 e e' s hc hx Q q =>
  h I1 C1 H1 e e' s Q ((Post.bind q).mono (fun a z I2 H2 e2 s2 => by
    have e3 : upd C1 p (.lst ws) = C1 := upd_id hc
    exact z ws I2 H2 e2 (by rw [e3]; exact s2) (by rw [e3]; exact M.mono e2 (Ex.refl _) hx)) fun _ _ z => z.elim)
theorem pm_some {M : Rt μ} {Cp : Hp} {m : μ → Res (Int × μ)} (h : EvM E K p M te σ I Cp m pI) : EvOM E K p M (tPart te) σ I Cp (unM (fun i => .ok (some i)) m) := fun x ws I1 C1 H1 e e' s hc hx Q q =>
  h x ws I1 C1 H1 e e' s hc hx _ ((Post.bind q).mono (fun b z v ws' I2 H2 e2 s2 hx2 rv => ⟨b.1, rv, z ws' I2 H2 e2 s2 hx2⟩) fun _ _ z => z)
def slM (m : Res (List α)) (lo hi : μ → Res (Option Int × μ)) : μ → Res (List α × μ) := fun x => m.bind fun xs => (lo x).bind fun a => (hi a.2).bind fun b => .ok (cut xs a.1 b.1, b.2)
theorem m_sl {M : Rt μ} [It M] [Im R] {Cp : Hp} {tl th : TO} {m : Res (List α)} {lo hi : μ → Res (Option Int × μ)} (hp : Cp p = none) (h : EvX E K te σ I Cp m (pL R)) (hl : EvOM E K p M tl σ I Cp lo) (hh : EvOM E K p M th σ I Cp hi) :
    EvM E K p M (tSl (rSlL K) te tl th) σ I Cp (slM m lo hi) (pL R) := fun x ws I1 C1 H1 e e' s hc hx Q q =>
  h I1 C1 H1 e e' s _ ((Post.bind q).mono (fun xs z v I2 H2 e2 s2 ⟨a, vs, h1, h2, h3, h4⟩ =>
    hl x ws I2 C1 H2 (e.trans e2) e' s2 hc (M.mono e2 (Ex.refl _) hx) _ ((Post.bind z).mono (fun b z2 ws' I3 H3 e3 s3 hx3 =>
      hh b.2 ws' I3 _ H3 (e.trans (e2.trans e3)) (e'.over hp) s3 upd_same hx3 _ ((Post.bind z2).mono (fun c z3 ws2 I4 H4 e4 s4 hx4 => by
        refine ⟨a, vs, h1, .inl (.inl (s4.i a _ (e4 a _ (e3 a _ h2)))), fun t ht => ?_⟩
        have eu : upd (upd C1 p (.lst ws')) p (.lst ws2) = upd C1 p (.lst ws2) := by
          funext r
          by_cases hr : r = p
          · rw [hr, upd_same, upd_same]
          · rw [upd_ne hr, upd_ne hr, upd_ne hr]
        rw [eu] at s4 hx4
        have ex := Ex.new (o := HO.lst (cutV vs b.1 c.1)) (s4.i.free ht)
        refine z3 (.ref t) ws2 (upd I4 t (.lst (cutV vs b.1 c.1))) _ (e2.trans (e3.trans (e4.trans ex))) (s4.newI ht) (M.mono ex (Ex.refl _) hx4) ⟨t, _, rfl, upd_same, ?_, ?_⟩
        · unfold cutV
          rw [List.length_take, List.length_drop]
          omega
        · exact (A2.cut (h4.imp fun _ _ r => R.to (e3.trans (e4.trans ex)) r) b.1 c.1)) fun _ _ z => z)) fun _ _ z => z)) fun _ _ z => z.elim)
theorem m_notV {M : Rt μ} {Cp : Hp} {m : μ → Res (Bool × μ)} (h : EvM E K p M te σ I Cp m pB) : EvM E K p M (tNotV te) σ I Cp (unM notR m) pB := fun x ws I1 C1 H1 e e' s hc hx Q q =>
  h x ws I1 C1 H1 e e' s hc hx _ ((Post.bind q).mono (fun b z v ws' I2 H2 e2 s2 hx2 rv => ⟨b.1, rv, z _ ws' I2 H2 e2 s2 hx2 rfl⟩) fun _ _ z => z)
theorem m_andV {M : Rt μ} {Cp : Hp} {m n : μ → Res (Bool × μ)} (hp : Cp p = none) (h1 : EvM E K p M ta σ I Cp m pB) (h2 : EvM E K p M tb σ I Cp n pB) : EvM E K p M (tAndV ta tb) σ I Cp (andM m n) pB := fun x ws I1 C1 H1 e e' s hc hx Q q =>
  h1 x ws I1 C1 H1 e e' s hc hx _ ((Post.bind q).mono (fun b z v ws' I2 H2 e2 s2 hx2 rv => by
    obtain ⟨c, y⟩ := b
    refine ⟨c, rv, ?_⟩
    cases c with
    | true =>
      rw [if_pos rfl]
      refine h2 y ws' I2 _ H2 (e.trans e2) (e'.over hp) s2 upd_same hx2 Q (Post.mono (m := n y) z (fun d z2 v ws2 I3 H3 e3 s3 hx3 rw => ?_) fun _ _ z => z)
      have eu : upd (upd C1 p (.lst ws')) p (.lst ws2) = upd C1 p (.lst ws2) := by
        funext r
        by_cases hr : r = p
        · rw [hr, upd_same, upd_same]
        · rw [upd_ne hr, upd_ne hr, upd_ne hr]
      rw [eu] at s3 hx3
      exact z2 v ws2 I3 H3 (e2.trans e3) s3 hx3 rw
    | false => exact z (.bl false) ws' I2 H2 e2 s2 hx2 rfl) fun _ _ z => z)
theorem m_orV {M : Rt μ} {Cp : Hp} {m n : μ → Res (Bool × μ)} (hp : Cp p = none) (h1 : EvM E K p M ta σ I Cp m pB) (h2 : EvM E K p M tb σ I Cp n pB) : EvM E K p M (tOrV ta tb) σ I Cp (orM m n) pB := fun x ws I1 C1 H1 e e' s hc hx Q q =>
  h1 x ws I1 C1 H1 e e' s hc hx _ ((Post.bind q).mono (fun b z v ws' I2 H2 e2 s2 hx2 rv => by
    obtain ⟨c, y⟩ := b
    refine ⟨c, rv, ?_⟩
    cases c with
    | false =>
      rw [if_neg (by decide)]
      refine h2 y ws' I2 _ H2 (e.trans e2) (e'.over hp) s2 upd_same hx2 Q (Post.mono (m := n y) z (fun d z2 v ws2 I3 H3 e3 s3 hx3 rw => ?_) fun _ _ z => z)
      have eu : upd (upd C1 p (.lst ws')) p (.lst ws2) = upd C1 p (.lst ws2) := by
        funext r
        by_cases hr : r = p
        · rw [hr, upd_same, upd_same]
        · rw [upd_ne hr, upd_ne hr, upd_ne hr]
      rw [eu] at s3 hx3
      exact z2 v ws2 I3 H3 (e2.trans e3) s3 hx3 rw
    | true => exact z (.bl true) ws' I2 H2 e2 s2 hx2 rfl) fun _ _ z => z)
/-- a for whose source draws, a turn of it may break or return -/
theorem qm_forR {M : Rt μ} {x : μ} {ws : List V} [It M] (P : S → L2.St → Hp → Hp → Prop) {wi : TI} {g : TG} {m : μ → Res (List α × μ)} {f : α → S → Res (Out S ρ)} {s0 : μ → S} {k : Out S ρ → Res ω} (hi : EvIM E K p M wi σ I (off C p) m R) (s : St I C H) (hc : C p = some (.lst ws)) (hx : M.r x ws I Z) (hm : Post (((m x).bind fun b => loopR f b.1 (s0 b.2)).bind k) Q XF)
    (h0 : ∀ y ws' I2 C2, Ex I I2 → C2 p = some (.lst ws') → (∀ q, q ≠ p → C2 q = C q) → M.r y ws' I2 Z → P (s0 y) σ I2 C2) (hP : ∀ s' σ' I' I2 C', Ex I' I2 → P s' σ' I' C' → P s' σ' I2 C')
    (body : ∀ (N : L2.St → Hp → Prop) x v s' σ' I' C' H', Ex I I' → St I' C' H' → P s' σ' I' C' → R.r x v I' C' → Post (f x s') (fun o => match o with
        | .nx s2 => ∀ σ2 I3 C3 H3, Ex I' I3 → St I3 C3 H3 → P s2 σ2 I3 C3 → N σ2 H3
        | .br s2 => ∀ σ2 I3 C3 H3, Ex I' I3 → St I3 C3 H3 → P s2 σ2 I3 C3 → tz D σ2 H3
        | .rt r => Post (k (.rt r)) Q XF) XF →
      g v σ' H' fun σ2 H2 => tu { D with nx := N, ct := N, bk := tz D } σ2 H2)
    (next : ∀ s' σ' I' C' H', Ex I I' → St I' C' H' → P s' σ' I' C' → Post (k (.nx s')) Q XF → tz D σ' H') : tSeq (tFor wi g tu) tz D σ H :=
  hi x ws I C H (Ex.refl _) off_ex s hc (It.im hx) _ ((Post.bind (Post.bind hm)).mono (fun b q2 ws2 J G Y I2 H2 e2 s2 hx2 hz w hG hY => by
    refine for_it w (fun i σ' H' => ∃ s' I' C', Ex I2 I' ∧ St I' C' H' ∧ P s' σ' I' C' ∧ Post ((loopR f (b.1.drop i) s').bind k) Q XF) ⟨s0 b.2, I2, _, Ex.refl _, s2, h0 _ _ I2 _ e2 upd_same (fun q h => upd_ne h) (It.im hx2), by rw [List.drop_zero]; exact Post.of_bind q2⟩
      (fun i σ' H' hi ⟨s', I', C', e3, s3, p, _⟩ => hG I' C' H' e3 s3) (fun i x σ' H1 H' hi ⟨s', I', C', e3, s3, p, po⟩ y => ?_) (fun σ' H' ⟨s', I', C', e3, s3, p, po⟩ => ?_)
    · obtain ⟨a, ha⟩ : ∃ a, b.1[i]? = some a := ⟨b.1[i], by simp [hi]⟩
      rw [drop_cons ha] at po
      obtain ⟨I4, e4, s4, ra⟩ := hY i a x I' C' H1 H' ha e3 s3 y
      refine body _ a x s' σ' I4 C' H' (e2.trans (e3.trans e4)) s4 (hP _ _ _ _ _ e4 p) ra ((Post.bind (Post.bind po)).mono (fun o z => ?_) fun _ _ z => z)
      cases o with
      | nx s3 => exact fun σ2 I5 C5 H5 e5 s5 p5 => ⟨s3, I5, C5, e3.trans (e4.trans e5), s5, p5, Post.of_bind z⟩
      | br s3 => exact fun σ2 I5 C5 H5 e5 s5 p5 => next s3 σ2 I5 C5 H5 (e2.trans (e3.trans (e4.trans e5))) s5 p5 z
      | rt r => exact z
    · rw [List.drop_length] at po
      exact next s' σ' I' C' H' (e2.trans e3) s3 p po) fun _ _ z => z)
end
end Sd

namespace PySem.W
open PySem PySem.Spec PySem.Calls PyProof.Rows
section
variable {prog : Program} {w : World} {A : Around} {E : Value → Shared → Prop} {s : Shared} {K : Frag} {y D0 : Addr} {oy dct : Obj}
/-- what a caught error with a dict of its own answers to __class__ -/
theorem sd_class {G : Option Value → Shared → Prop} (T : L2.ExcC K D0) (hK : K.In s.heap) (J : InstAt s.heap y oy D0 (some dct)) (hG : G (some (.ref D0)) { s with toks := s.toks + 1 }) :
    wpAny (model prog w) A (getAttr? (.ref y) "__class__") G E s := by
  have hfind : findObj K D0 (some dct) "__class__" = some (.bind (.builtin "getset_descriptor.__get__") (.builtin "object.__class__")) := by
    obtain ⟨cd, hcd, _⟩ := any_some T.hd
    unfold findObj
    rw [hcd, Option.bind_some, T.ha, Option.bind_some]
    simp [T.hn, T.ht]
  obtain ⟨heap, gens, drw, tk, osx⟩ := s
  have kT := J.type (M := model prog w)
  have kA := looks_findIn (M := model prog w) hK T.hg
  have kB := looks_findIn (M := model prog w) hK T.hk
  have kF := looks_find (M := model prog w) hK J hfind
  have kS : Looks (model prog w) heap (isInstance (.ref y) (.type "BaseException")) true := kT.andThen (looks_subIn hK T.hs)
  have n0 : (false && onTheHeap (Value.builtin "BaseException.__getattribute__")) = false := rfl
  have n1 : (Value.builtin "BaseException.__getattribute__" == Value.builtin "object.__getattribute__") = false := by decide +kernel
  have n2 : (onTheHeap (Value.ref D0) && Value.builtin "BaseException.__getattribute__" == Value.builtin "object.__getattribute__") = false := by
    rw [n1]
    rfl
  unfold getAttr? getAttrBy? getAttrBy
  refine wpAny_bind (wpAny_mkText (wpAny_bind (wpAny_attempt (wpAny_holding (wpAny_bind (kT.at (wpAny_bind (kA.at ?_))))))))
  show wpAny _ _ (if (onTheHeap (Value.ref D0) && Value.builtin "BaseException.__getattribute__" == Value.builtin "object.__getattribute__") = true then _ else _) _ _ _
  rw [n2, if_neg Bool.false_ne_true]
  unfold getAttrByItsOwn hookBefore
  refine wpAny_bind ?_
  rw [if_pos (show onTheHeap (Value.ref D0) = true from rfl)]
  refine kB.at ?_
  refine wpAny_bind (wpAny_attempt (wpAny_holding ?_))
  unfold callGetattribute
  rw [n0, if_neg Bool.false_ne_true]
  unfold boundAndCalled
  rw [PySem.F.excAttr_ValueError.ga.bind (.ref y)]
  refine wpAny_bind (wpAny_pure ?_)
  show wpAny _ _ (call (.builtin "BaseException.__getattribute__") [.ref y, .str "__class__" tk]) _ _ _
  refine wpAny_call (codeAny_call_builtin PySem.F.excAttr_ValueError.ga.plain PySem.F.entry_bexc_ga ?_)
  refine @check_slot (model prog w) _ _ ⟨heap, gens, drw, tk + 1, osx⟩ "BaseException.__getattribute__" "BaseException" "__getattribute__" (.ref y) [.str "__class__" tk] [] _ (by decide +kernel) (by decide +kernel) kS (PySem.F.args_bexc_ga (.ref y) (.str "__class__" tk)) ?_
  unfold Builtin.«object.__getattribute__»
  refine wpAny_bind (wpAny_of_eq (a := ((Value.ref y : Value), [Value.str "__class__" tk])) (by first | rfl | (simp only [slotArgs]; rfl)) ?_)
  refine wpAny_bind (wpAny_pure (wpAny_bind (kT.at (wpAny_bind (kF.at ?_)))))
  show wpAny _ _ (holding [Value.builtin "object.__class__"] (call (.builtin "getset_descriptor.__get__") [.builtin "object.__class__", .ref y, .ref D0]) >>= ret) _ _ _
  refine wpAny_bind (wpAny_holding (wpAny_call (class_get (s := ⟨heap, gens, drw, tk + 1, osx⟩) (ox := oy) (od := some dct) hK J T.hm ?_)))
  refine wpAny_pure ?_
  show wpAny _ _ (handedOut (.ref D0)) _ _ _
  rw [handedOut_of (v := .ref D0) rfl]
  first
    | exact wpAny_pure (wpAny_pure hG)
    | exact wpAny_pure hG
    | exact wpAny_pure (wpAny_bind (wpAny_pure (wpAny_pure hG)))
theorem sd_kit (T : L2.ExcC K D0) : KitX K (.ref y) (.ref D0) (fun h => InstAt h y oy D0 (some dct)) where
  ty := fun _ _ _ J => J.type
  it := fun _ _ hK _ => by
    obtain ⟨cd, hcd, _⟩ := any_some T.hd
    unfold clsIn at hcd
    split at hcd
    · rename_i c1 d1 cd1 sl1 ho1
      intro A1 Q1 E1 s1 k1 q1
      unfold isType loadHead
      exact wpAny_bind (wpAny_loadPart (k1 _ _ (hK _ _ ho1)) (wpAny_pure q1))
    · cases hcd
  ne := fun h tp dd its n sl hK htp => by
    obtain ⟨cd, hcd, _⟩ := any_some T.hd
    refine Bool.eq_false_iff.mpr fun z => ?_
    have e : D0 = tp := Value.ref.inj (beq_iff_eq.mp z)
    subst e
    unfold clsIn at hcd
    split at hcd
    · rename_i c1 d1 cd1 sl1 ho1
      cases (hK _ _ ho1).symm.trans htp
    · cases hcd
  ca := fun hK J k => sd_class T hK J k
end
end PySem.W
namespace Sd
open PySem L2
/-! ### own errors -/
def mth : Stmt → Stmt
  | .ClassDef _ _ _ body _ _ _ _ _ _ _ => body.getD 0 (.Pass ⟨0, 0, 0, 0⟩)
  | s => s
def isaE (c b : Ec) : Bool := decide (c = b) || decide (b = .DeskError)
/-- what the written part says of an own error -/
structure ErrC (K : PySem.W.Frag) (mg : Str → Option Value) (fI : Addr) (c : Ec) : Prop where
  o : OexC K (He.ga K c.name)
  ic : PySem.W.findIn K (.ref (He.ga K c.name)) "__init__" = some (some (.ref fI))
  ti : PySem.W.typeIn K (.ref fI) = some (.type "function")
  g : mg c.name = some (.ref (He.ga K c.name))
  na : PySem.W.findIn K (.ref (He.ga K c.name)) "at" = some none
  xf : XfC K (He.ga K c.name)
  is : ExcC K (He.ga K c.name)
  ve : PySem.W.kitOne K (.ref (He.ga K c.name)) (.type "ValueError") = some true
/-- self.at = at -/
def spInit (K : PySem.W.Frag) : Sp := fun vs H Q _ => ∃ (a C : Addr) (i : Int), vs = [.ref a, .int i] ∧ OexC K C ∧ PySem.W.findIn K (.ref C) "at" = some none ∧ H a = some (exo a C none) ∧
  ∀ dx, H dx = none → dx ≠ a → Q .non (upd (upd H dx (exd dx [(("at" : Str), .int i)])) a (exo a C (some dx)))
section
variable {P : Program} {w : World} {K : PySem.W.Frag} {mg : Str → Option Value} {base : Heap}
abbrev ErrF (K : PySem.W.Frag) (st : Stmt) (f : Addr) (fd : FuncData) : Prop := FunD K "__init__" "DeskError.__init__" (defArgs st) (defBody st) (defScope st) [.int 0] [] f fd
end
section
variable {E : XK} {K : PySem.W.Frag} {mg : Str → Option Value} {fI : Addr} {σ : L2.St} {I C H : Hp} {α β ω S ρ : Type} {ta : TA} {te : TE} {tz : TS} {D : Ends} {Q : ω → Prop} {X : Ec → Int → Prop}
theorem s_raise {c : Ec} {m : Res Int} (x : ErrC K mg fI c) (h : EvA E K ta σ I C m (t1 pI)) (s : St I C H) (hX : XH X E K I C) (hm : Post (m.bind fun i => Res.exc c i : Res ω) Q X) :
    tSeq (fun _ σ H => tMkO (He.ga K c.name) (spInit K) [] ta σ H fun cls d H' => E cls d H') tz D σ H :=
  h I C H (Ex.refl _) (Ex.refl _) s _ ((Post.bind hm).mono (fun i q vs I2 H2 e2 s2 ⟨v, hv, rv⟩ => by
    have hv1 : v = .int i := rv
    subst hv hv1
    have po : PX E K I2 C c i := (hX c i q).mono e2 (Ex.refl _)
    refine ⟨Nat.le_of_ble_eq_true rfl, fun a ha => ⟨a, He.ga K c.name, i, rfl, x.o, x.na, upd_same, fun dx hdx hne => ⟨rfl, dx, [(("at" : Str), .int i)], upd_same, ?_, ?_, ?_⟩⟩⟩
    · rw [upd_ne hne, upd_same]
    · rw [upd_ne hne] at hdx
      exact hdx
    · rw [upd_ne hne] at hdx
      have eh : upd (del (upd (upd (upd H2 a (exo a (He.ga K c.name) none)) dx (exd dx [(("at" : Str), .int i)])) a (exo a (He.ga K c.name) (some dx))) a) dx (.xd [(("at" : Str), .int i)]) = upd H2 dx (.xd [(("at" : Str), .int i)]) := by
        funext b
        by_cases h1 : b = dx
        · rw [h1, upd_same, upd_same]
        · rw [upd_ne h1, upd_ne h1]
          by_cases h2 : b = a
          · rw [h2, del_same, ha]
          · rw [del_ne h2, upd_ne h2, upd_ne h1, upd_ne h2]
      rw [eh]
      exact po dx (upd I2 dx (.xd [(("at" : Str), .int i)])) _ (Ex.new (s2.i.free hdx)) (s2.newI hdx) upd_same) hX)
/-! in an except suite -/
def tXfX (K : PySem.W.Frag) (a : Addr) (cls : Value) (d : Option Addr) (f : Str) (te : TE) : TE := fun σ H Q => ∃ C, (XfC K C ∧ PySem.W.findIn K (.ref C) f = some none) ∧ tXf a cls d C f te σ H Q
theorem pe_xfX {X : Cx} {a : Addr} {oe : Obj} {cls : Value} {d : Option Addr} {pn : List (Addr × Obj)} {e : Expr} {te : TE} {pos : Pos} {n : Str}
    (hz : Zc cls d oe) (hf : ∃ vs, oe.data = .fields vs) (he : PE (X.suite a ((a, oe) :: pn)) e te) (hb : attributeBase e n X.env (eval e X.env) = eval e X.env := by rfl) :
    PE (X.suite a ((a, oe) :: pn)) (.Attribute e n pos) (tXfX X.K a cls d n te) :=
  ⟨fun pins s σ H Q I ⟨C, ⟨T, hno⟩, h⟩ => (pe_xf (C := C) T hno hz hf he hb).run pins s σ H Q I h⟩
def rIsX (K : PySem.W.Frag) (a : Addr) (cls : Value) (d : Option Addr) : List V → Hp → VK → Prop := fun xs H Q => ∃ (D dd : Addr) (fs : List (Str × V)) (c : V) (cv : Value) (b : Bool), ExcC K D ∧ cls = .ref D ∧ d = some dd ∧ H dd = some (.xd fs) ∧ xs = [.ref a, c] ∧
  (∀ u, RelV c u → u = cv) ∧ PySem.W.kitOne K (.ref D) cv = some b ∧ Q (.bl b) H
theorem call_isX {Y : Cx} {a : Addr} {cls : Value} {d : Option Addr} {oe : Obj} {pn : List (Addr × Obj)} (hz : Zc cls d oe) (hf : ∃ vs, oe.data = .fields vs) : CallR (Y.suite a ((a, oe) :: pn)) (.builtin "isinstance") (rIsX Y.K a cls d) := by
  intro pins s σ H xs us Q I r h
  obtain ⟨D, dd, fs, c, cv, b, T, rfl, rfl, hd, rfl, hcv, e, q⟩ := h
  cases r with
  | cons r1 rr =>
    cases rr with
    | cons r2 rr =>
      cases rr
      cases r1
      have ec := hcv _ r2
      subst ec
      obtain ⟨hget, _⟩ := I.pin (a, oe) (List.mem_append.mpr (.inl List.mem_cons_self))
      obtain ⟨vs, hv⟩ := hf
      have hx : ObjOk Y.prog Y.w H s.heap dd (.xd fs) := I.hok dd _ hd
      obtain ⟨mA, hns, _⟩ := hx
      obtain ⟨od, ho, _⟩ := lookIn_ns hns
      have J : PySem.W.InstAt s.heap a oe D (some od) := ⟨hget, hz.1, by unfold PySem.W.notCls; rw [hv] <;> rfl, by rw [hz.2]; exact ho⟩
      exact PySem.W.kia_one (PySem.W.sd_kit T) I.kIn J e (fun z => nomatch z) fun tk => ⟨.bl b, H, I.kept (t' := tk) fun _ _ z => z, rfl, q⟩
/-- the caught error: its class, its number, where it stands -/
structure Cg (K : PySem.W.Frag) (mg : Str → Option Value) (fI : Addr) (I : Hp) (cls : Value) (d : Option Addr) (c : Ec) (i : Int) : Prop where
  x : ErrC K mg fI c
  cl : cls = .ref (He.ga K c.name)
  dd : ∃ dd, d = some dd ∧ I dd = some (.xd [(("at" : Str), .int i)])
theorem Cg.up {I2 : Hp} {cls : Value} {d : Option Addr} {c : Ec} {i : Int} (e : Ex I I2) (g : Cg K mg fI I cls d c i) : Cg K mg fI I2 cls d c i := ⟨g.x, g.cl, by
  obtain ⟨dd, h1, h2⟩ := g.dd
  exact ⟨dd, h1, e _ _ h2⟩⟩
theorem x_at {a : Addr} {j : Nat} {cls : Value} {d : Option Addr} {c : Ec} {i : Int} (g : Cg K mg fI I cls d c i) (hv : σ[j]? = some (some (.ref a))) : EvX E K (tXfX K a cls d "at" (tVar j)) σ I C (.ok i) pI := fun I1 C1 H1 e e' s Q q => by
  obtain ⟨dd, h1, h2⟩ := g.dd
  exact ⟨_, ⟨g.x.xf, g.x.na⟩, _, hv, rfl, g.cl, dd, _, .int i, h1, s.i _ _ (e _ _ h2), by simp [List.lookup], PQ.now (R := pI) (a := i) q s rfl⟩
theorem x_isE {a : Addr} {j : Nat} {cls : Value} {d : Option Addr} {c c2 : Ec} {i : Int} (g : Cg K mg fI I cls d c i) (hk : PySem.W.kitOne K (.ref (He.ga K c.name)) (.ref (He.ga K c2.name)) = some (isaE c c2)) (hv : σ[j]? = some (some (.ref a))) :
    EvX E K (tCB (rIsX K a cls d) (tCons (tVar j) (tCons (tC (.ref (He.ga K c2.name))) tNil))) σ I C (.ok (isaE c c2)) pB := fun I1 C1 H1 e e' s Q q => by
  obtain ⟨dd, h1, h2⟩ := g.dd
  exact ⟨_, hv, _, dd, _, _, _, _, g.x.is, g.cl, h1, s.i _ _ (e _ _ h2), rfl, fun u r => r, hk, PQ.now (R := pB) (a := isaE c c2) q s rfl⟩
theorem x_isVE {a : Addr} {j : Nat} {cls : Value} {d : Option Addr} {c : Ec} {i : Int} (g : Cg K mg fI I cls d c i) (hv : σ[j]? = some (some (.ref a))) :
    EvX E K (tCB (rIsX K a cls d) (tCons (tVar j) (tCons (tC (.ty "ValueError")) tNil))) σ I C (.ok true) pB := fun I1 C1 H1 e e' s Q q => by
  obtain ⟨dd, h1, h2⟩ := g.dd
  exact ⟨_, hv, _, dd, _, _, _, _, g.x.is, g.cl, h1, s.i _ _ (e _ _ h2), rfl, fun u r => r, g.x.ve, PQ.now (R := pB) (a := true) q s rfl⟩
/-! a call in the body of a try -/
theorem x_callS {W : WX} {T : Rt α} {f : α → Res β} {R : Rp β} {m : Res α} (h : EvA (WE W σ) K ta σ I C m T) : EvX (WE W σ) K (tCallS (spP K T f R) (WE W) ta) σ I C (un f m) R := fun I1 C1 H1 e e' s Q q =>
  h I1 C1 H1 e e' s _ ((Post.bind q).mono (fun a p vs I2 H2 e2 s2 rv => ⟨I2, C1, a, s2, rv, Post.mono (m := f a) p (fun b z v I3 H3 e3 s3 rw => z v I3 H3 (e2.trans e3) s3 rw) fun c i z => z.mono e2 (Ex.refl _)⟩) fun _ _ z => z)
theorem n_callS {W : WX} {T : Rt α} {f : α → Res (List β)} {R : Rp β} {m : Res α} (h : EvA (WE W σ) K ta σ I C m T) : EvN (WE W σ) K (tCallS (spO K T f R) (WE W) ta) σ I C (un f m) R := fun I1 C1 H1 e e' s Q q =>
  h I1 C1 H1 e e' s _ ((Post.bind q).mono (fun a p vs I2 H2 e2 s2 rv => ⟨I2, C1, a, s2, rv, Post.mono (m := f a) p (fun b z => z.up e2) fun c i z => z.mono e2 (Ex.refl _)⟩) fun _ _ z => z)
/-! try: body, except the errors in L as e: suite -/
def tryR {α : Type} (Kn L : Ec → Bool) (m : Res α) (f : Ec → Int → Res α) : Res α := match m with
  | .ok a => .ok a
  | .exc c i => if Kn c = true then (if L c = true then f c i else .exc c i) else .bad
  | .bad => .bad
@[simp] theorem tryR_ok {α : Type} (Kn L : Ec → Bool) (a : α) (f : Ec → Int → Res α) : tryR Kn L (.ok a) f = .ok a := rfl
theorem tryR_exc {α : Type} {Kn L : Ec → Bool} {c : Ec} {i : Int} (h : Kn c = true) (h2 : L c = true) (f : Ec → Int → Res α) : tryR Kn L (.exc c i) f = f c i := by
  show (if Kn c = true then (if L c = true then f c i else .exc c i) else .bad) = f c i
  rw [if_pos h, if_pos h2]
abbrev Xb {σ' ρ' ω' : Type} (Kn L : Ec → Bool) (ms : Ec → Int → Res (Out σ' ρ')) (k : Out σ' ρ' → Res ω') (Q : ω' → Prop) (X : Ec → Int → Prop) (c : Ec) (j : Int) : Prop := Kn c = true ∧ (if L c = true then Post ((ms c j).bind k) Q X else X c j)
/-- try: .. except c as e: .. -/
def tTry (K : PySem.W.Frag) (c : Value) (i : Nat) (tb : WX → TS) (ts : Addr → Value → Option Addr → TS) (Wout : WX) : TS := fun D σ H => tb (wAs K c i ts Wout D) D σ H
theorem ps_tryS {X : Cx} {x n : Str} {c : Value} {i : Nat} {body suite : List Stmt} {b₀ : Stmt} {np pos pos' : Pos} {tb : WX → TS} {ts : Addr → Value → Option Addr → TS} {Wout : WX} (hs : X.stack = X.env :: X.outer) (hf : X.env.frame = some X.env.locals) (hN : X.N.Nodup) (hi : X.N[i]? = some n) (hln : X.env.kindOf n = some .local) (hc : Names X x c) (tk : Takes X Wout)
    (hb : ∀ (W : WX) (pn : List (Addr × Obj)) (xe : Value → Shared → Prop), Takes (X.tr pn xe) W → PassesOwn (model X.prog X.w) X.A X.env xe → PSs (X.tr pn xe) body (tb W))
    (hsu : ∀ (a : Addr) (oe : Obj) (cls : Value) (d : Option Addr) (pn : List (Addr × Obj)), Zc cls d oe → (∃ vs, oe.data = .fields vs) → PSs (X.suite a ((a, oe) :: pn)) (b₀ :: suite) (ts a cls d)) :
    PS X (.Try body [.ExceptHandler (some (.Name x np)) (some n) (b₀ :: suite) pos'] [] [] pos) (tTry X.K c i tb ts Wout) := ps_try_as hs hf hN hi hln hc tk hb hsu
/-- the word P of what stands behind it (slot i of e is empty then), Pe of where the body may break off -/
theorem s_try (P : S → L2.St → Hp → Hp → Prop) (Pe : L2.St → Hp → Hp → Prop) {i : Nat} {tb : WX → TS} {ts : Addr → Value → Option Addr → TS} {cv : Value} {Kn L : Ec → Bool} {mb : Res (Out S ρ)} {ms : Ec → Int → Res (Out S ρ)} {k : Out S ρ → Res ω}
    (hexm : ∀ c, Kn c = true → PySem.W.exmOne K (.ref (He.ga K c.name)) cv = some (L c) ∧ ErrC K mg fI c)
    (hX : ∀ σ' I' C', Ex I I' → Pe σ' I' C' → XH X E K I' C')
    (hP : ∀ σ' I' I2 C', Ex I' I2 → Pe σ' I' C' → Pe σ' I2 C')
    (hm : Post ((tryR Kn L mb ms).bind k) Q X)
    (body : ∀ (N : L2.St → Hp → Prop) (W : WX), (∀ σ' I' C', Ex I I' → Pe σ' I' C' → XH (Xb Kn L ms k Q X) (WE W σ') K I' C') →
      Post mb (fun o => match o with
        | .nx s' => ∀ σ2 I3 C3 H3, Ex I I3 → St I3 C3 H3 → P s' σ2 I3 C3 → N σ2 H3
        | o => Post (k o) Q X) (Xb Kn L ms k Q X) → tb W { D with nx := N } σ H)
    (suite : ∀ (N : L2.St → Hp → Prop) c j a cls d σ' I' C' H', Kn c = true → Cg K mg fI I' cls d c j → Ex I I' → St I' C' H' → Pe σ' I' C' → Post (ms c j) (fun o => match o with
        | .nx s' => ∀ (σ2 : L2.St) I3 C3 H3, Ex I' I3 → St I3 C3 H3 → P s' (σ2.set i none) I3 C3 → N (σ2.set i none) H3
        | o => Post (k o) Q X) X → ts a cls d { nx := fun σ1 H1 => N (σ1.set i none) H1, rt := D.rt, bk := fun σ1 H1 => D.bk (σ1.set i none) H1, ct := fun σ1 H1 => D.ct (σ1.set i none) H1 } (σ'.set i (some (.ref a))) H')
    (next : ∀ s' σ2 I3 C3 H3, Ex I I3 → St I3 C3 H3 → P s' σ2 I3 C3 → Post (k (.nx s')) Q X → tz D σ2 H3) :
    Evl.tCut (tTry K cv i tb ts (fun cls d _ H => E cls d H)) tz D σ H := by
  refine ⟨fun σ2 H3 => ∃ s' I3 C3, Ex I I3 ∧ St I3 C3 H3 ∧ P s' σ2 I3 C3 ∧ Post (k (.nx s')) Q X, ?_, fun σ2 H3 ⟨s', I3, C3, e3, s3, p, q⟩ => next s' σ2 I3 C3 H3 e3 s3 p q⟩
  refine body _ _ (fun σ' I' C' e p c j hx d I2 H2 e2 s2 hd => ?_) ?_
  · obtain ⟨kn, hx⟩ := hx
    obtain ⟨he, x⟩ := hexm c kn
    refine ⟨L c, he, fun hl a ha => ?_, fun hl => ?_⟩
    · rw [if_pos hl] at hx
      refine suite _ c j a _ (some d) σ' I2 C' H2 kn ⟨x, rfl, d, rfl, hd⟩ (e.trans e2) s2 (hP _ _ _ _ e2 p) ((Post.bind hx).mono (fun o z => ?_) fun _ _ z => z)
      cases o with
      | nx s' => exact fun (σ2 : L2.St) I3 C3 H3 e3 s3 pp => ⟨s', I3, C3, e.trans (e2.trans e3), s3, pp, z⟩
      | br s' => exact z
      | rt r => exact z
    · rw [if_neg (by rw [hl]; decide)] at hx
      exact hX σ' I' C' e p c j hx d I2 H2 e2 s2 hd
  · cases mb with
    | ok o =>
      have z : Post (k o) Q X := hm
      cases o with
      | nx s' => exact fun σ2 I3 C3 H3 e3 s3 pp => ⟨s', I3, C3, e3, s3, pp, z⟩
      | br s' => exact z
      | rt r => exact z
    | exc c j =>
      show Xb Kn L ms k Q X c j
      by_cases kn : Kn c = true
      · refine ⟨kn, ?_⟩
        have z : Post ((if Kn c = true then (if L c = true then ms c j else Res.exc c j) else .bad).bind k) Q X := hm
        rw [if_pos kn] at z
        by_cases hl : L c = true
        · rw [if_pos hl] at z
          rw [if_pos hl]
          exact z
        · rw [if_neg hl] at z
          rw [if_neg hl]
          exact z
      · have z : Post ((if Kn c = true then (if L c = true then ms c j else Res.exc c j) else .bad).bind k) Q X := hm
        rw [if_neg kn] at z
        exact z.elim
    | bad => exact hm
/-! the law -/
def spLaw (K : PySem.W.Frag) (m : List Int → Res Bool) : Sp := fun vs H Q _ => ∃ (a : Addr) (ns : List Int), vs = [.ref a] ∧ SqL K H a (ns.map V.int) ∧ ns.length ≤ 1000 ∧ Post (m ns) (fun b => ∀ v H', v = V.bl b → Q v H') XF
theorem law_start {a : Addr} {ns : List Int} (hS : SqL K H a (ns.map V.int)) (hz : ns.length ≤ 1000) : ∃ I0, St I0 Z H ∧ (pW K pI).r ns (.ref a) I0 Z := by
  refine ⟨fun b => if b = a then H a else none, ⟨fun b o h => ?_, exz, fun _ => .inr rfl⟩, a, ns.map V.int, rfl, ?_, ?_, A2.of_map (f := fun x u => pI.r x u _ Z) (h := V.int) (fun _ => rfl) ns⟩
  · by_cases q : b = a
    · rw [if_pos q] at h
      rw [q]
      exact h
    · rw [if_neg q] at h
      cases h
  · rcases hS with (h | ⟨o, h⟩) | h
    · exact .inl (.inl (by show (if a = a then H a else none) = _; rw [if_pos rfl]; exact h))
    · exact .inl (.inr ⟨o, by show (if a = a then H a else none) = _; rw [if_pos rfl]; exact h⟩)
    · exact .inr h
  · rw [List.length_map]
    exact Nat.le_trans hz (by decide)
def poolR (ns : List Int) : Res Pl := .ok (0, 0, 0, cut ns none (some 63))
@[simp] theorem poolR_eq (ns : List Int) : poolR ns = .ok (0, 0, 0, cut ns none (some 63)) := rfl
def spPool (K : PySem.W.Frag) : Sp := fun vs H Q _ => ∃ (I C : Hp) (ns : List Int) (v : V), vs = [v] ∧ St I C H ∧ (pW K pI).r ns v I Z ∧
  ∀ p ws I2 H2, Ex I I2 → C p = none → St I2 (upd C p (.lst ws)) H2 → pM.r (0, 0, 0, cut ns none (some 63)) ws I2 Z → Q (.ref p) H2
theorem n_lstP {A : Rt α} [It A] {tr : TA} {m : Res α} (h : EvA E K tr σ I C m A) (hn : A.n ≤ 100) (s : St I C H) {Q : VK} (q : Post m (fun a => ∀ p ws I2 H2, Ex I I2 → C p = none → St I2 (upd C p (.lst ws)) H2 → A.r a ws I2 Z → Q (.ref p) H2) (PX E K I C)) : tLst tr σ H Q :=
  h I C H (Ex.refl _) (Ex.refl _) s _ (q.mono (fun a p vs I2 H2 e2 s2 rv => ⟨by rw [A.len rv]; exact Nat.le_trans hn (by decide), fun t ht => p t vs I2 _ e2 (s2.c.free ht) (s2.newC ht) (It.im rv)⟩) fun _ _ z => z)
theorem q_mkpool {i j : Nat} {v : V} {ns : List Int} {k : Pl → Res ω} (hv : σ[j]? = some (some v)) (hr : (pW K pI).r ns v I Z) (s : St I C H) (hm : Post ((poolR ns).bind k) Q XF)
    (next : ∀ y p ws I2 C2 H2, Ex I I2 → St I2 C2 H2 → C2 p = some (.lst ws) → pM.r y ws I2 Z → Post (k y) Q XF → tz D (σ.set i (some (.ref p))) H2) : tSeq (tAsg (tCall (spPool K) [] E (tCons (tVar j) tNil)) (gName i)) tz D σ H :=
  ⟨v, hv, I, C, ns, v, rfl, s, hr, fun p ws I2 H2 e hp s2 hx => next _ p ws I2 _ H2 e s2 upd_same hx hm⟩
/-! a list that was not there at B -/
def pLn (B : Hp) (R : Rp α) : Rp (List α) := ⟨fun xs v I C => (pL R).r xs v I C ∧ ∀ a, v = .ref a → B a = none, fun e e' h => ⟨(pL R).mono e e' h.1, h.2⟩⟩
instance {B : Hp} {R : Rp α} [Im R] : Im (pLn B R) := ⟨fun h => ⟨Im.im h.1, h.2⟩⟩
instance {B : Hp} {R : Rp α} : NN (pLn B R) := ⟨fun h => NN.nn h.1⟩
instance {B : Hp} {R : Rp α} : TyR K (pLn B R) "list" := ⟨fun s h => TyR.ty s h.1⟩
theorem x_n2l {B : Hp} {R : Rp α} {m : Res (List α)} (h : EvX E K te σ I C m (pLn B R)) : EvX E K te σ I C m (pL R) := fun I1 C1 H1 e e' s Q q =>
  h I1 C1 H1 e e' s Q (q.mono (fun a p v I2 H2 e2 s2 rv => p v I2 H2 e2 s2 rv.1) fun _ _ z => z)
/-- f(a ..) hands back a thing of R, which looks at what was known before -/
def spPd (K : PySem.W.Frag) {α β : Type} (T : Rt α) (m : α → Res β) (R : Hp → Rp β) : Sp := fun vs H Q E => ∃ (I C : Hp) (a : α), St I C H ∧ T.r a vs I C ∧ Post (m a) (PQ (R I) I C Q) (PX E K I C)
theorem x_callD {T : Rt α} {f : α → Res β} {R : Hp → Rp β} {m : Res α} (hR : ∀ {I I2 a v I3 C3}, Ex I I2 → (R I2).r a v I3 C3 → (R I).r a v I3 C3) (h : EvA E K ta σ I C m T) : EvX E K (tCall (spPd K T f R) [] E ta) σ I C (un f m) (R I) := fun I1 C1 H1 e e' s Q q =>
  h I1 C1 H1 e e' s _ ((Post.bind q).mono (fun a p vs I2 H2 e2 s2 rv => by
    refine ⟨I2, C1, a, s2, by rw [List.append_nil]; exact rv, Post.mono (m := f a) p (fun b z v I3 H3 e3 s3 rw => z v I3 H3 (e2.trans e3) s3 (hR (e.trans e2) rw)) fun c i z => z.mono e2 (Ex.refl _)⟩) fun _ _ z => z)
theorem x_callDS {W : WX} {T : Rt α} {f : α → Res β} {R : Hp → Rp β} {m : Res α} (hR : ∀ {I I2 a v I3 C3}, Ex I I2 → (R I2).r a v I3 C3 → (R I).r a v I3 C3) (h : EvA (WE W σ) K ta σ I C m T) : EvX (WE W σ) K (tCallS (spPd K T f R) (WE W) ta) σ I C (un f m) (R I) := fun I1 C1 H1 e e' s Q q =>
  h I1 C1 H1 e e' s _ ((Post.bind q).mono (fun a p vs I2 H2 e2 s2 rv => ⟨I2, C1, a, s2, rv, Post.mono (m := f a) p (fun b z v I3 H3 e3 s3 rw => z v I3 H3 (e2.trans e3) s3 (hR (e.trans e2) rw)) fun c i z => z.mono e2 (Ex.refl _)⟩) fun _ _ z => z)
theorem paper_up {R : Rp α} {S1 : Rp β} {B B2 : Hp} {x : Str × (List α ⊕ β)} {v : V} {I C : Hp} (e : Ex B B2) (h : (pT (tc pS (t1 (pX (pLn B2 R) S1)))).r x v I C) : (pT (tc pS (t1 (pX (pLn B R) S1)))).r x v I C := by
  obtain ⟨a, vs, h1, h2, u, us, h3, h4, w, h5, h6⟩ := h
  refine ⟨a, vs, h1, h2, u, us, h3, h4, w, h5, ?_⟩
  obtain ⟨x1, x2⟩ := x
  cases x2 with
  | inl xs => exact ⟨h6.1, fun a z => e.free (h6.2 a z)⟩
  | inr b => exact h6
/-- told[1].append(0): the list of the told thing changes, none of what was known before it does -/
theorem q_appN {R : Rp Int} {S1 : Rp β} {B It : Hp} {i : Nat} {told : Str × (List Int ⊕ β)} {v : V} {b : Addr} {us : List V} {k : List Int → Res ω} (hv : σ[i]? = some (some v)) (r : (pT (tc pS (t1 (pX (pLn B R) S1)))).r told v It Z) (et : Ex It I) (eB : Ex B I) (hb : I b = some (.lst us)) (hbt : It b = none)
    (s : St I C H) (hm : Post (((getL told.2).bind fun xs => push xs 0).bind k) Q XF) (next : ∀ xs I3 H3, Ex B I3 → St I3 C H3 → I3 b = some (.lst us) → Post (k xs) Q XF → tz D σ H3) :
    tSeq (tDrop (tBM K "list" rAppend (tOp (rIxT K) (tVar i) (tC (.int ((1 : Nat) : Int)))) (tCons (tC (.int 0)) tNil))) tz D σ H := by
  obtain ⟨a, vs, rfl, h2, u, us2, rfl, h4, w, rfl, h6⟩ := r
  obtain ⟨x1, x2⟩ := told
  cases x2 with
  | inr y => exact hm.elim
  | inl xs =>
    obtain ⟨⟨p, ws, rfl, h7, h8, h9⟩, h10⟩ := h6
    have hp : I p = some (.lst ws) := et _ _ h7
    have hne : b ≠ p := fun z => by
      rw [z, h7] at hbt
      cases hbt
    have hm2 : Post ((push xs 0).bind k) Q XF := hm
    unfold push at hm2
    split at hm2
    · rename_i hlen
      have hl : ws.length < sizeLine := by
        rw [h9.len]
        exact Nat.lt_of_lt_of_le hlen (by decide)
      refine ⟨.ref a, hv, a, [u, .ref p], 1, .ref p, rfl, rfl, .inl (.inl (s.i _ _ (et _ _ h2))), rfl, .inl ⟨rfl, ws, .inl (.inl (s.i _ _ hp))⟩, p, ws, .int 0, rfl, rfl, s.i _ _ hp, hl, ?_⟩
      refine next (xs ++ [0]) (fun c => if c = p then none else I c) _ (fun c o h => ?_) ⟨fun c o h => ?_, fun c o h => ?_, fun c => ?_⟩ ?_ hm2
      · have hc : c ≠ p := fun z => by
          rw [z, h10 p rfl] at h
          cases h
        show (if c = p then none else I c) = some o
        rw [if_neg hc]
        exact eB c o h
      · by_cases hc : c = p
        · rw [if_pos hc] at h
          cases h
        · rw [if_neg hc] at h
          rw [upd_ne hc]
          exact s.i c o h
      · have hc : c ≠ p := fun z => by
          rw [z] at h
          have z2 := s.freeI h
          rw [hp] at z2
          cases z2
        rw [upd_ne hc]
        exact s.c c o h
      · by_cases hc : c = p
        · exact .inl (if_pos hc)
        · rcases s.s c with h | h
          · exact .inl (by show (if c = p then none else I c) = none; rw [if_neg hc]; exact h)
          · exact .inr h
      · show (if b = p then none else I b) = some (.lst us)
        rw [if_neg hne]
        exact hb
    · exact hm2.elim
/-- s_ifr where only what was known at J is kept -/
theorem s_ifrB (P : S → L2.St → Hp → Hp → Prop) {J : Hp} (eJ : Ex J I) {tt : TT} {tu tw : TS} {c : Res Bool} {m1 m2 : Res (Out S ρ)} {k : Out S ρ → Res ω} (h : EvT E K tt σ I C c) (s : St I C H) (hX : XH X E K I C) (hm : Post ((ifR c m1 m2).bind k) Q X)
    (h1 : ∀ (N : L2.St → Hp → Prop) I2 H2, Ex I I2 → St I2 C H2 → Post m1 (fun o => match o with
      | .nx s' => ∀ σ2 I3 C3 H3, Ex J I3 → St I3 C3 H3 → P s' σ2 I3 C3 → N σ2 H3
      | o => Post (k o) Q X) X → tu { D with nx := N } σ H2)
    (h2 : ∀ (N : L2.St → Hp → Prop) I2 H2, Ex I I2 → St I2 C H2 → Post m2 (fun o => match o with
      | .nx s' => ∀ σ2 I3 C3 H3, Ex J I3 → St I3 C3 H3 → P s' σ2 I3 C3 → N σ2 H3
      | o => Post (k o) Q X) X → tw { D with nx := N } σ H2)
    (next : ∀ s' σ2 I3 C3 H3, Ex J I3 → St I3 C3 H3 → P s' σ2 I3 C3 → Post (k (.nx s')) Q X → tz D σ2 H3) : Evl.tCut (tIfS tt tu tw) tz D σ H := by
  refine ⟨fun σ2 H3 => ∃ s' I3 C3, Ex J I3 ∧ St I3 C3 H3 ∧ P s' σ2 I3 C3 ∧ Post (k (.nx s')) Q X, ?_, fun σ2 H3 ⟨s', I3, C3, e3, s3, p, q⟩ => next s' σ2 I3 C3 H3 e3 s3 p q⟩
  refine h I C H (Ex.refl _) (Ex.refl _) s _ ((Post.bind (Post.bind hm)).mono (fun b p I2 H2 e2 s2 => ?_) hX)
  cases b with
  | true => exact h1 _ I2 H2 e2 s2 (Post.mono (m := m1) p (fun o z => by
      cases o with
      | nx s' => exact fun σ2 I3 C3 H3 e3 s3 pp => ⟨s', I3, C3, e3, s3, pp, z⟩
      | br s' => exact z
      | rt r => exact z) fun _ _ z => z)
  | false => exact h2 _ I2 H2 e2 s2 (Post.mono (m := m2) p (fun o z => by
      cases o with
      | nx s' => exact fun σ2 I3 C3 H3 e3 s3 pp => ⟨s', I3, C3, e3, s3, pp, z⟩
      | br s' => exact z
      | rt r => exact z) fun _ _ z => z)
/-! data: new lists, one of two -/
theorem de_new {B : Hp} {R : Rp α} {enc : α → PyData} {n : Nat} (d : De K R enc n) : De K (pLn B R) (fun xs => PyData.list (xs.map enc)) (n + 1) :=
  ⟨fun s h => (de_lst d).dp s h.1, fun h => (de_lst d).ly h.1, fun h => (de_lst d).de h.1, (de_lst d).eq⟩
def sEnc (f : α → PyData) (g : β → PyData) : α ⊕ β → PyData
  | .inl a => f a
  | .inr b => g b
theorem de_sum {R : Rp α} {S1 : Rp β} {f : α → PyData} {g : β → PyData} {n m : Nat} (d : De K R f n) (d' : De K S1 g m) (hd : ∀ a b, PyData.eqv (f a) (g b) = false ∧ PyData.eqv (g b) (f a) = false) : De K (pX R S1) (sEnc f g) (max n m) :=
  ⟨fun {a v I C H} s h => by
    cases a with
    | inl a => exact d.dp s h
    | inr a => exact d'.dp s h,
  fun {a v I C} h => by
    cases a with
    | inl a => exact d.ly h
    | inr a => exact d'.ly h,
  fun {a v I C} h => by
    cases a with
    | inl a => exact Nat.le_trans (d.de h) (Nat.le_max_left _ _)
    | inr a => exact Nat.le_trans (d'.de h) (Nat.le_max_right _ _),
  fun a b => by
    cases a with
    | inl a =>
      cases b with
      | inl b =>
        simp only [sEnc, Sum.inl.injEq]
        exact d.eq a b
      | inr b =>
        simp only [sEnc, (hd a b).1]
        exact ⟨fun q => (nomatch q), fun q => (nomatch q)⟩
    | inr a =>
      cases b with
      | inl b =>
        simp only [sEnc, (hd b a).2]
        exact ⟨fun q => (nomatch q), fun q => (nomatch q)⟩
      | inr b =>
        simp only [sEnc, Sum.inr.injEq]
        exact d'.eq a b⟩
theorem oEnc_no {f : α → PyData} {x : PyData} (h : ∀ a, PyData.eqv x (f a) = false ∧ PyData.eqv (f a) x = false) (h0 : PyData.eqv x .none = false ∧ PyData.eqv .none x = false) (o : Option α) : PyData.eqv x (oEnc f o) = false ∧ PyData.eqv (oEnc f o) x = false := by
  cases o with
  | none => exact h0
  | some a => exact h a
/-! isinstance of what may be None, of one of two -/
def isO {α : Type} (b : Bool) : Option α → Bool
  | some _ => b
  | none => false
def isX {α β : Type} (b : Bool) (f : β → Bool) : α ⊕ β → Bool
  | .inl _ => b
  | .inr y => f y
@[simp] theorem isO_some (b : Bool) (a : α) : isO b (some a) = b := rfl
@[simp] theorem isO_none (b : Bool) : isO b (none : Option α) = false := rfl
@[simp] theorem isX_inl (b : Bool) (f : β → Bool) (a : α) : isX b f (.inl a) = b := rfl
@[simp] theorem isX_inr (b : Bool) (f : β → Bool) (y : β) : isX b f (.inr y : α ⊕ β) = f y := rfl
theorem ty_opt {R : Rp α} {n c : String} {b : Bool} [TyR K R n] (hk : kitB n c = some b) (hn : kitB "NoneType" c = some false) {o : Option α} {v : V} {I C H : Hp} (s : St I C H) (r : (pO R).r o v I C) : ∃ t, TyX K H v t ∧ PySem.W.kitOne K t (.type c) = some (isO b o) := by
  cases o with
  | none =>
    have h : v = .non := r
    subst h
    exact ⟨_, .base .non, kit_ty hn⟩
  | some a => exact ⟨_, TyR.ty s r.1, kit_ty hk⟩
theorem o_isiO {R : Rp α} {n c : String} {b : Bool} [TyR K R n] (hk : kitB n c = some b) (hn : kitB "NoneType" c = some false) : OpL E K (rIsi K) (fun p => .ok (isO b p.1)) (tc (pO R) (t1 (pY c))) pB := fun I C H a vs s hv Q q => by
  obtain ⟨v, us, rfl, r, w, rfl, rw⟩ := hv
  have hw : w = .ty c := rw
  subst hw
  obtain ⟨t, h1, h2⟩ := ty_opt (K := K) hk hn s r
  exact ⟨v, .ty c, _, _, _, rfl, .ty c, h1, h2, PQ.now q s rfl⟩
theorem o_isiXO {R : Rp α} {S1 : Rp β} {n n2 c : String} {b b2 : Bool} [TyR K R n] [TyR K S1 n2] (hk : kitB n c = some b) (hk2 : kitB n2 c = some b2) (hn : kitB "NoneType" c = some false) : OpL E K (rIsi K) (fun p => .ok (isX b (isO b2) p.1)) (tc (pX R (pO S1)) (t1 (pY c))) pB := fun I C H a vs s hv Q q => by
  obtain ⟨v, us, rfl, r, w, rfl, rw⟩ := hv
  have hw : w = .ty c := rw
  subst hw
  obtain ⟨x, y⟩ := a
  cases x with
  | inl x => exact ⟨v, .ty c, _, _, b, rfl, .ty c, TyR.ty (R := R) s r, kit_ty hk, PQ.now q s rfl⟩
  | inr x =>
    obtain ⟨t, h1, h2⟩ := ty_opt (K := K) (R := S1) hk2 hn s r
    exact ⟨v, .ty c, _, _, _, rfl, .ty c, h1, h2, PQ.now q s rfl⟩
theorem o_isiX {R : Rp α} {S1 : Rp β} {n n2 c : String} {b b2 : Bool} [TyR K R n] [TyR K S1 n2] (hk : kitB n c = some b) (hk2 : kitB n2 c = some b2) : OpL E K (rIsi K) (fun p => .ok (isX b (fun _ => b2) p.1)) (tc (pX R S1) (t1 (pY c))) pB := fun I C H a vs s hv Q q => by
  obtain ⟨v, us, rfl, r, w, rfl, rw⟩ := hv
  have hw : w = .ty c := rw
  subst hw
  obtain ⟨x, y⟩ := a
  cases x with
  | inl x => exact ⟨v, .ty c, _, _, b, rfl, .ty c, TyR.ty (R := R) s r, kit_ty hk, PQ.now q s rfl⟩
  | inr x => exact ⟨v, .ty c, _, _, b2, rfl, .ty c, TyR.ty (R := S1) s r, kit_ty hk2, PQ.now q s rfl⟩
end
end Sd

namespace Sd
open PySem PySem.Spec PyProof.Rows L2
/-! ### the head: own errors, read by a Bool -/
def oexB (K : PySem.W.Frag) (C : Addr) : Bool := match K.lookup C with
  | some ⟨.type "type", _, .cls cd, sl⟩ => (match cd.mro, sl.toList with
    | .ref C1 :: bm, [_, _, _, _, some (.builtin n), _] => decide (C1 = C) && (decide (n = "ValueError.__new__") && (!cd.hasDel && (cd.hasDict && PySem.HandSPX.refsVE bm)))
    | _, _ => false)
  | _ => false
theorem oexB_ok {K : PySem.W.Frag} {C : Addr} (h : oexB K C = true) : ∃ nm q N bs bm sn sub ab col dd k0 k1 k2 k3 k5, K.lookup C = some (excClassObj nm q C N bs bm true sn sub ab col dd k0 k1 k2 k3 k5 "ValueError.__new__") ∧ PySem.HandSPX.refsVE bm = true := by
  unfold oexB at h
  split at h
  · rename_i dd cd sl ho
    split at h
    · rename_i C1 bm k0 k1 k2 k3 n k5 e1 e2
      obtain ⟨h1, h⟩ := Bool.and_eq_true_iff.mp h
      obtain ⟨h2, h⟩ := Bool.and_eq_true_iff.mp h
      obtain ⟨h3, h⟩ := Bool.and_eq_true_iff.mp h
      obtain ⟨h4, h5⟩ := Bool.and_eq_true_iff.mp h
      have h1 := of_decide_eq_true h1
      have h2 := of_decide_eq_true h2
      subst h1 h2
      obtain ⟨nm, bs, mro, ns, qn, hd, sn, sub, ab, col, del⟩ := cd
      simp only [Bool.not_eq_true'] at e1 e2 h3 h4
      subst e1 h3 h4
      obtain ⟨l⟩ := sl
      simp only at e2
      subst e2
      exact ⟨_, _, _, _, _, _, _, _, _, _, _, _, _, _, _, ho, h5⟩
    · cases h
  · cases h
def errB (K : PySem.W.Frag) (fI : Addr) (c : Ec) : Bool :=
  oexB K (He.ga K c.name) && (decide (PySem.W.findIn K (.ref (He.ga K c.name)) "__setattr__" = some (some (.builtin "object.__setattr__"))) && (decide (PySem.W.typeIn K (.ref (He.ga K c.name)) = some (.type "type")) && (PySem.W.keepIn K (.ref (He.ga K c.name)) &&
    (decide (PySem.W.findIn K (.ref (He.ga K c.name)) "__init__" = some (some (.ref fI))) && (decide (PySem.W.typeIn K (.ref fI) = some (.type "function")) && (decide (PySem.W.findIn K (.ref (He.ga K c.name)) "at" = some none) && (xfB K (He.ga K c.name) &&
      (decide (PySem.W.findIn K (.ref (He.ga K c.name)) "__class__" = some (some (.builtin "object.__class__"))) && (decide (PySem.W.specialIn K (.builtin "object.__class__") "__get__" = some (some (.builtin "getset_descriptor.__get__"))) && (decide (PySem.W.takesIn K (.builtin "object.__class__") = some true) &&
        (decide (PySem.W.mroIn K (He.ga K c.name) (.type "object") = some true) && (decide (PySem.W.kitOne K (.ref (He.ga K c.name)) (.type "ValueError") = some true) && He.eqO (PySem.W.nsIn K mainGlobals c.name) (some (some (.ref (He.ga K c.name))))))))))))))))
theorem errB_ok {K : PySem.W.Frag} {h : Heap} {mg : Str → Option Value} {fI : Addr} {c : Ec} (X : K.In h) (G : h.Ns mainGlobals mg) (e : errB K fI c = true) : ErrC K mg fI c := by
  unfold errB at e
  obtain ⟨h1, e⟩ := Bool.and_eq_true_iff.mp e
  obtain ⟨h2, e⟩ := Bool.and_eq_true_iff.mp e
  obtain ⟨h3, e⟩ := Bool.and_eq_true_iff.mp e
  obtain ⟨h4, e⟩ := Bool.and_eq_true_iff.mp e
  obtain ⟨h5, e⟩ := Bool.and_eq_true_iff.mp e
  obtain ⟨h6, e⟩ := Bool.and_eq_true_iff.mp e
  obtain ⟨h7, e⟩ := Bool.and_eq_true_iff.mp e
  obtain ⟨h8, e⟩ := Bool.and_eq_true_iff.mp e
  obtain ⟨h9, e⟩ := Bool.and_eq_true_iff.mp e
  obtain ⟨ha, e⟩ := Bool.and_eq_true_iff.mp e
  obtain ⟨hb, e⟩ := Bool.and_eq_true_iff.mp e
  obtain ⟨hc, e⟩ := Bool.and_eq_true_iff.mp e
  obtain ⟨hd, he⟩ := Bool.and_eq_true_iff.mp e
  have xf := xfB_ok h8
  exact ⟨⟨oexB_ok h1, of_decide_eq_true h2, xf.exC, of_decide_eq_true h3, h4⟩, of_decide_eq_true h5, of_decide_eq_true h6, PySem.W.mg_of X G (He.eqO_ok he), of_decide_eq_true h7, xf,
    ⟨xf.ga, xf.gg, xf.exC, xf.hdC, of_decide_eq_true h9, of_decide_eq_true ha, of_decide_eq_true hb, of_decide_eq_true hc⟩, of_decide_eq_true hd⟩
def errsB (cs : List Ec) (K : PySem.W.Frag) : Bool := cs.all (fun c => errB K (He.fAd K ("DeskError", some "__init__")) c) &&
  cs.all fun c => cs.all fun b => decide (PySem.W.kitOne K (.ref (He.ga K c.name)) (.ref (He.ga K b.name)) = some (isaE c b)) && decide (PySem.W.exmOne K (.ref (He.ga K c.name)) (.ref (He.ga K b.name)) = some (isaE c b))
theorem errsB_ok {cs : List Ec} {K : PySem.W.Frag} {h : Heap} {mg : Str → Option Value} (X : K.In h) (G : h.Ns mainGlobals mg) (e : errsB cs K = true) :
    (∀ c, c ∈ cs → ErrC K mg (He.fAd K ("DeskError", some "__init__")) c) ∧ (∀ c b, c ∈ cs → b ∈ cs → PySem.W.kitOne K (.ref (He.ga K c.name)) (.ref (He.ga K b.name)) = some (isaE c b)) ∧ ∀ c b, c ∈ cs → b ∈ cs → PySem.W.exmOne K (.ref (He.ga K c.name)) (.ref (He.ga K b.name)) = some (isaE c b) := by
  obtain ⟨h1, h2⟩ := Bool.and_eq_true_iff.mp e
  have h1 := List.all_eq_true.mp h1
  have h2 := List.all_eq_true.mp h2
  refine ⟨fun c hc => errB_ok X G (h1 c hc), fun c b hc hb => ?_, fun c b hc hb => ?_⟩
  · exact of_decide_eq_true (Bool.and_eq_true_iff.mp (List.all_eq_true.mp (h2 c hc) b hb)).1
  · exact of_decide_eq_true (Bool.and_eq_true_iff.mp (List.all_eq_true.mp (h2 c hc) b hb)).2
end Sd

namespace Sd
open PySem L2
/-- turns enough for any while here (not to be reckoned with) -/
noncomputable def fuel : Nat := Classical.choose (⟨1000000, rfl⟩ : ∃ n : Nat, n = 1000000)
theorem fuel_eq : fuel = 1000000 := Classical.choose_spec (⟨1000000, rfl⟩ : ∃ n : Nat, n = 1000000)
section
variable {E : XK} {K : PySem.W.Frag} {σ : L2.St} {I I' C C' H B C0 : Hp} {α β γ μ ω S ρ : Type} {R : Rp α} {S1 : Rp β} {te ta tb : TE} {tt : TT} {tz tu tw : TS} {D : Ends} {Q : ω → Prop} {X : Ec → Int → Prop} {p q : Addr}
/-! great ints -/
@[irreducible] def rMulW (a b : Int) : Res Int := if a.natAbs.log2 + b.natAbs.log2 < 1000000 then .ok (a * b) else .bad
@[irreducible] def rDivW (a b : Int) : Res Int := if 0 < b ∧ b.natAbs.log2 < 9000 then .ok (a / b) else .bad
@[irreducible] def rModN (a b : Int) : Res Int := if b ≠ 0 then .ok (a.fmod b) else .bad
theorem rMulW_ok {a b : Int} (h : a.natAbs.log2 + b.natAbs.log2 < 1000000) : rMulW a b = .ok (a * b) := by
  unfold rMulW
  exact if_pos h
theorem rDivW_ok {a b : Int} (h : 0 < b ∧ b.natAbs.log2 < 9000) : rDivW a b = .ok (a / b) := by
  unfold rDivW
  exact if_pos h
theorem rModN_ok {a b : Int} (h : b ≠ 0) : rModN a b = .ok (a.fmod b) := by
  unfold rModN
  exact if_pos h
theorem o_mulW : Op2 E K (rI CMulW fun i j => .int (i * j)) rMulW pI pI pI := fun I C H a b x y s hx hy Q q => by
  unfold rMulW at q
  split at q
  · rename_i h
    exact ⟨a, b, hx, hy, h, PQ.now q s rfl⟩
  · exact q.elim
theorem o_fdivW : Op2 E K (rI CDivW fun i j => .int (i / j)) rDivW pI pI pI := fun I C H a b x y s hx hy Q q => by
  unfold rDivW at q
  split at q
  · rename_i h
    exact ⟨a, b, hx, hy, h, PQ.now q s rfl⟩
  · exact q.elim
theorem o_modN : Op2 E K (rI (fun _ j => j ≠ 0) fun i j => .int (i.fmod j)) rModN pI pI pI := fun I C H a b x y s hx hy Q q => by
  unfold rModN at q
  split at q
  · rename_i h
    exact ⟨a, b, hx, hy, h, PQ.now q s rfl⟩
  · exact q.elim
theorem o_isNU : Op2 E K (fun x y H Q => y = .non ∧ Q (.bl (decide (x = .non))) H) (fun _ _ => .ok true) pN pN pB := fun I C H a b x y s hx hy Q q => by
  have hx : x = .non := hx
  subst hx
  exact ⟨hy, PQ.now q s rfl⟩
theorem o_notNU : Op2 E K (fun x y H Q => y = .non ∧ Q (.bl (!decide (x = .non))) H) (fun _ _ => .ok false) pN pN pB := fun I C H a b x y s hx hy Q q => by
  have hx : x = .non := hx
  subst hx
  exact ⟨hy, PQ.now q s rfl⟩
/-! xs[::-1] -/
def revR (xs : List α) : Res (List α) := .ok xs.reverse
@[simp] theorem revR_eq (xs : List α) : revR xs = .ok xs.reverse := rfl
theorem A2.reverse {f : α → V → Prop} : ∀ {xs : List α} {vs : List V}, A2 f xs vs → A2 f xs.reverse vs.reverse
  | _, _, .nil => .nil
  | _, _, .cons r t => by
    rw [List.reverse_cons, List.reverse_cons]
    exact (A2.reverse t).append (.one r)
theorem n_rev {m : Res (List α)} (h : EvX E K te σ I C m (pV R)) : EvN E K (tRevL K te) σ I C (un revR m) R := fun I1 C1 H1 e e' s Q q =>
  h I1 C1 H1 e e' s _ ((Post.bind q).mono (fun a p x I2 H2 e2 s2 rx => by
    obtain ⟨b, us, rfl, h2, h3, h4⟩ := pV.at s2 rx
    exact ⟨b, us, rfl, .inl (.inl h2), PN.new (PN.up e2 p) s2 h4.reverse (by rw [List.length_reverse]; exact h3)⟩) fun _ _ z => z)
theorem x_rev [Im R] {m : Res (List α)} (h : EvX E K te σ I C m (pV R)) : EvX E K (tRevL K te) σ I C (un revR m) (pL R) := x_own (n_rev h)
/-! n = xs.pop(), n = xs.pop()[k] -/
theorem q_pop [Im R] {i j : Nat} {xs : List α} {vs : List V} {k : α × List α → Res ω} (hv : σ[i]? = some (some (.ref p))) (hc : C p = some (.lst vs)) (hl : vs.length ≤ sizeLine) (hr : A2 (fun x u => R.r x u I Z) xs vs) (s : St I C H) (hm : Post ((popR xs).bind k) Q X)
    (next : ∀ a v vs' I2 C2 H2, Ex I I2 → St I2 C2 H2 → C2 p = some (.lst vs') → (∀ q, q ≠ p → C2 q = C q) → vs'.length ≤ sizeLine → A2 (fun x u => R.r x u I2 Z) a.2 vs' → R.r a.1 v I2 Z → Post (k a) Q X → tz D (σ.set j (some v)) H2) :
    tSeq (tAsg (tBM0 K "list" rPop (tVar i)) (gName j)) tz D σ H :=
  e_pop hv hc hl hr s hm fun a v C2 H2 s2 hc2 k2 hl2 hr2 rv hm2 => next a v _ I C2 H2 (Ex.refl _) s2 hc2 k2 hl2 hr2 rv hm2
theorem q_popk {T : Rt α} [It T] [Im S1] {i j l : Nat} {f : α → β} {xs : List α} {vs : List V} {k : α × List α → Res ω} (jj : Pj T l f S1) (hv : σ[i]? = some (some (.ref p))) (hc : C p = some (.lst vs)) (hl : vs.length ≤ sizeLine) (hr : A2 (fun x u => (pT T).r x u I Z) xs vs) (s : St I C H) (hm : Post ((popR xs).bind k) Q X)
    (next : ∀ a v vs' I2 C2 H2, Ex I I2 → St I2 C2 H2 → C2 p = some (.lst vs') → (∀ q, q ≠ p → C2 q = C q) → vs'.length ≤ sizeLine → A2 (fun x u => (pT T).r x u I2 Z) a.2 vs' → S1.r (f a.1) v I2 Z → Post (k a) Q X → tz D (σ.set j (some v)) H2) :
    tSeq (tAsg (tOp (rIxT K) (tBM0 K "list" rPop (tVar i)) (tC (.int (l : Int)))) (gName j)) tz D σ H :=
  e_pop hv hc hl hr s hm fun a v C2 H2 s2 hc2 k2 hl2 hr2 rv hm2 => o_pj (E := EZ) (K := K) jj I C2 H2 a.1 v s2 (Im.im rv) _ fun w I3 H3 e3 s3 rw =>
    next a w _ I3 C2 H3 e3 s3 hc2 k2 hl2 (hr2.imp fun _ _ h => (pT T).mono e3 (Ex.refl _) h) (Im.im rw) hm2
/-! max, min of a list -/
def gtL (x : Int) (xs : List Int) : Int := xs.foldl max x
def ltL (x : Int) (xs : List Int) : Int := xs.foldl min x
def maxL : List Int → Res Int
  | [] => .bad
  | x :: xs => .ok (gtL x xs)
def minL : List Int → Res Int
  | [] => .bad
  | x :: xs => .ok (ltL x xs)
theorem gtL_spec : ∀ (xs : List Int) (x : Int), x ≤ gtL x xs ∧ (∀ y ∈ xs, y ≤ gtL x xs) ∧ (gtL x xs = x ∨ gtL x xs ∈ xs)
  | [], x => ⟨Int.le_refl _, fun y h => (nomatch h), .inl rfl⟩
  | z :: xs, x => by
    obtain ⟨a, b, c⟩ := gtL_spec xs (max x z)
    have e : gtL x (z :: xs) = gtL (max x z) xs := rfl
    rw [e]
    refine ⟨by omega, fun y hy => ?_, ?_⟩
    · rcases List.mem_cons.mp hy with rfl | hy
      · omega
      · exact b y hy
    · rcases c with c | c
      · by_cases h : x ≤ z
        · exact .inr (by rw [c, Int.max_eq_right h]; exact List.mem_cons_self)
        · exact .inl (by rw [c]; omega)
      · exact .inr (List.mem_cons_of_mem _ c)
theorem ltL_spec : ∀ (xs : List Int) (x : Int), ltL x xs ≤ x ∧ (∀ y ∈ xs, ltL x xs ≤ y) ∧ (ltL x xs = x ∨ ltL x xs ∈ xs)
  | [], x => ⟨Int.le_refl _, fun y h => (nomatch h), .inl rfl⟩
  | z :: xs, x => by
    obtain ⟨a, b, c⟩ := ltL_spec xs (min x z)
    have e : ltL x (z :: xs) = ltL (min x z) xs := rfl
    rw [e]
    refine ⟨by omega, fun y hy => ?_, ?_⟩
    · rcases List.mem_cons.mp hy with rfl | hy
      · omega
      · exact b y hy
    · rcases c with c | c
      · by_cases h : z ≤ x
        · exact .inr (by rw [c, Int.min_eq_right h]; exact List.mem_cons_self)
        · exact .inl (by rw [c]; omega)
      · exact .inr (List.mem_cons_of_mem _ c)
theorem o_maxL : OpL E K (rMax K) maxL (t1 (pV pI)) pI := fun I C H a vs s hv Q q => by
  obtain ⟨v, rfl, h⟩ := hv
  obtain ⟨p, us, rfl, h2, h3, h4⟩ := pV.at s h
  have eu := A2.map_iff (h := V.int) (fun _ _ h => h) h4
  subst eu
  cases a with
  | nil => exact q.elim
  | cons x xs =>
    refine ⟨p, x :: xs, rfl, .inl (.inl h2), by simp, fun m hm hle => ?_⟩
    obtain ⟨a1, a2, a3⟩ := gtL_spec xs x
    have e : m = gtL x xs := by
      refine Int.le_antisymm ?_ (hle _ ?_)
      · rcases List.mem_cons.mp hm with rfl | hm
        · exact a1
        · exact a2 m hm
      · rcases a3 with a3 | a3
        · rw [a3]
          exact List.mem_cons_self
        · exact List.mem_cons_of_mem _ a3
    rw [e]
    exact PQ.now q s rfl
theorem o_minL : OpL E K (rMin K) minL (t1 (pV pI)) pI := fun I C H a vs s hv Q q => by
  obtain ⟨v, rfl, h⟩ := hv
  obtain ⟨p, us, rfl, h2, h3, h4⟩ := pV.at s h
  have eu := A2.map_iff (h := V.int) (fun _ _ h => h) h4
  subst eu
  cases a with
  | nil => exact q.elim
  | cons x xs =>
    refine ⟨p, x :: xs, rfl, .inl (.inl h2), by simp, fun m hm hle => ?_⟩
    obtain ⟨a1, a2, a3⟩ := ltL_spec xs x
    have e : m = ltL x xs := by
      refine Int.le_antisymm (hle _ ?_) ?_
      · rcases a3 with a3 | a3
        · rw [a3]
          exact List.mem_cons_self
        · exact List.mem_cons_of_mem _ a3
      · rcases List.mem_cons.mp hm with rfl | hm
        · exact a1
        · exact a2 m hm
    rw [e]
    exact PQ.now q s rfl
/-! tuples that may stand in the written part -/
theorem x_t2u {T : Rt α} {m : Res α} (h : EvX E K te σ I C m (pT T)) : EvX E K te σ I C m (pU K T) := fun I1 C1 H1 e e' s Q q =>
  h I1 C1 H1 e e' s Q (q.mono (fun a p v I2 H2 e2 s2 ⟨b, vs, h1, h2, h3⟩ => p v I2 H2 e2 s2 ⟨b, vs, h1, .inl (.inl h2), h3⟩) fun _ _ z => z)
/-! a list that is read, walked -/
theorem i_view [Im R] {i : Nat} {v : V} {xs : List α} (hv : σ[i]? = some (some v)) (h : (pV R).r xs v I B) (hB : Ex B C) :
    EvI E K (iList K (tVar i)) σ I C (fun C3 => Ex B C3) (.ok xs) R := fun I1 C1 H1 e e' s Kt q => by
  obtain ⟨a, vs, rfl, h2, h3, h4⟩ := h
  refine ⟨.ref a, hv, a, rfl, ⟨vs, .inl (.inl (h2.elim (fun z => s.i a _ (e a _ z)) fun z => s.c a _ (e' a _ (hB a _ z))))⟩, ?_⟩
  have hn := h4.len
  refine q (Itl K a) (fun H => SqL K H a vs) (YAt vs) I1 H1 (Ex.refl _) s (by omega) (by rw [← hn]; exact walk_list) (fun I3 C3 H3 e3 k3 s3 => .inl (.inl (h2.elim (fun z => s3.i a _ (e3 a _ (e a _ z))) fun z => s3.c a _ (k3 a _ z)))) (fun i x v' I3 C3 H3 H4 hx e3 _ s3 y => ?_)
  obtain ⟨rfl, y⟩ := y
  obtain ⟨w, hw, r⟩ := h4.get' hx
  rw [hw] at y
  cases y
  exact ⟨I3, Ex.refl _, s3, R.to (e.trans e3) r⟩
end
end Sd

namespace Sd
open PySem L2
section
variable {E : XK} {K : PySem.W.Frag} {σ : L2.St} {I I' C C' H B C0 : Hp} {α β γ μ ω S ρ : Type} {R : Rp α} {S1 : Rp β} {te ta tb : TE} {tt : TT} {tz tu tw : TS} {D : Ends} {Q : ω → Prop} {X : Ec → Int → Prop} {p q : Addr}
/-! ### texts -/
theorem strOk_app {a b : Str} (h : PyData.strOk a = true) (h' : PyData.strOk b = true) : PyData.strOk (a ++ b) = true := by
  unfold PyData.strOk at *
  show (a.cps ++ b.cps).all _ = true
  rw [Array.all_append, h, h']
  rfl
theorem strOk_one {z : Str} {c : Nat} (h : PyData.strOk z = true) (hc : c ∈ z.cps.toList) : PyData.strOk ⟨#[c]⟩ = true := by
  unfold PyData.strOk at *
  rw [Array.all_eq_true'] at h
  have := h c (Array.mem_toList_iff.mp hc)
  simp at this ⊢
  exact this
@[irreducible] def rCatS (a b : Str) : Res Str := if a.length + b.length ≤ 1000000 then .ok (a ++ b) else .bad
theorem rCatS_ok {a b : Str} (h : a.length + b.length ≤ 1000000) : rCatS a b = .ok (a ++ b) := by
  unfold rCatS
  exact if_pos h
theorem o_catS : Op2 E K (fun x y H Q => ∃ i j, x = .str i ∧ y = .str j ∧ i.length + j.length ≤ sizeLine ∧ Q (.str (i ++ j)) H) rCatS pS pS pS := fun I C H a b x y s hx hy Q q => by
  unfold rCatS at q
  split at q
  · rename_i h
    exact ⟨a, b, hx.1, hy.1, Nat.le_trans h (by decide), PQ.now q s ⟨rfl, strOk_app hx.2 hy.2⟩⟩
  · exact q.elim
@[irreducible] def rLenS (a : Str) : Res Int := if a.length ≤ 1000000 then .ok (a.length : Int) else .bad
theorem rLenS_ok {a : Str} (h : a.length ≤ 1000000) : rLenS a = .ok (a.length : Int) := by
  unfold rLenS
  exact if_pos h
abbrev rLenS1 : List V → Hp → VK → Prop := fun xs H Q => ∃ z, xs = [.str z] ∧ z.length ≤ sizeLine ∧ Q (.int z.length) H
theorem o_lenS : OpL E K rLenS1 rLenS (t1 pS) pI := fun I C H a vs s hv Q q => by
  obtain ⟨v, rfl, h, _⟩ := hv
  subst h
  unfold rLenS at q
  split at q
  · rename_i h
    exact ⟨a, rfl, Nat.le_trans h (by decide), PQ.now q s rfl⟩
  · exact q.elim
@[irreducible] def ixS (z : Str) (i : Int) : Res Str := if z.length ≤ 1000000 then (match atI z.cps.toList i with
    | some c => .ok ⟨#[c]⟩
    | none => .bad) else .bad
theorem ixS_ok {z : Str} {i : Int} {c : Nat} (h : z.length ≤ 1000000) (hc : atI z.cps.toList i = some c) : ixS z i = .ok ⟨#[c]⟩ := by
  unfold ixS
  rw [if_pos h, hc]
theorem atI_mem {α : Type} {l : List α} {i : Int} {x : α} (h : atI l i = some x) : x ∈ l := by
  unfold atI at h
  cases q : ixN l.length i with
  | none =>
    rw [q] at h
    cases h
  | some j =>
    rw [q] at h
    exact List.mem_of_getElem? h
theorem o_ixS : Op2 E K rIxS ixS pS pI pS := fun I C H a b x y s hx hy Q q => by
  unfold ixS at q
  split at q
  · rename_i h
    cases hc : atI a.cps.toList b with
    | none =>
      rw [hc] at q
      exact q.elim
    | some c =>
      rw [hc] at q
      exact ⟨a, b, c, hx.1, hy, Nat.le_trans h (by decide), hc, PQ.now q s ⟨rfl, strOk_one hx.2 (atI_mem hc)⟩⟩
  · exact q.elim
/-- text * n -/
def repS (z : Str) (n : Int) : Str := if n < 1 then Str.empty else if (n == 1 || z.length == 0) = true then z else ⟨(List.replicate n.toNat z.cps).foldl (· ++ ·) #[]⟩
theorem repS_len {c : Array Nat} {n : Nat} : (⟨(List.replicate n c).foldl (· ++ ·) #[]⟩ : Str).length = c.size * n := by
  have key : ∀ (n : Nat) (a : Array Nat), ((List.replicate n c).foldl (· ++ ·) a).size = a.size + c.size * n := by
    intro n
    induction n with
    | zero => intro a; simp
    | succ n ih =>
      intro a
      rw [List.replicate_succ, List.foldl_cons, ih, Array.size_append, Nat.mul_succ]
      omega
  show ((List.replicate n c).foldl (· ++ ·) #[]).size = _
  rw [key]
  simp
def rRepS : R2 := fun x y H Q => ∃ z n, x = .str z ∧ y = .int n ∧ n.natAbs ≤ 1000000 ∧ z.length * n.toNat ≤ 1000000 ∧ Q (.str (repS z n)) H
theorem op_repS {X : Cx} : OpR X (binaryOp .Mult) rRepS := by
  intro pins s σ H x y v u Q I rx ry h
  obtain ⟨z, n, rfl, rfl, hn, hz, q⟩ := h
  obtain ⟨t, rfl⟩ := rx
  obtain ⟨t', rfl⟩ := ry
  refine P.mul_str (by
    have h1 : ¬ n < -(2 ^ 63 : Int) := by omega
    have h2 : ¬ n ≥ 2 ^ 63 := by omega
    rw [decide_eq_false h1, decide_eq_false h2]
    rfl) (fun h1 h2 => ?_) (fun h1 h2 => ?_) ?_
  · have hp : 0 < n := by omega
    have h3 : (z.length : Int) * n ≤ 1000000 := by
      have : ((z.length * n.toNat : Nat) : Int) = (z.length : Int) * n := by
        rw [Int.natCast_mul]
        congr 1
        omega
      omega
    have h4 : (z.length : Int) ≤ (2 ^ 63 - 1) / n := (Int.le_ediv_iff_mul_le hp).mpr (by omega)
    omega
  · unfold Builtin.Str.tooLong
    have : ¬ z.length * n.toNat > sizeLine := by
      have : (1000000 : Nat) ≤ sizeLine := by decide
      omega
    first
      | exact decide_eq_false this
      | (simp [Builtin.tooLong]; omega)
  · unfold repS at q
    by_cases h1 : n < 1
    · rw [if_pos h1] at q ⊢
      exact ⟨by decide, .str Str.empty, H, I.tok _, ⟨_, rfl⟩, q⟩
    · rw [if_neg h1] at q ⊢
      by_cases h2 : (n == 1 || z.length == 0) = true
      · rw [if_pos h2] at q ⊢
        exact ⟨.str z, H, I, ⟨_, rfl⟩, q⟩
      · rw [if_neg h2] at q ⊢
        refine ⟨?_, .str _, H, I.tok _, ⟨_, rfl⟩, q⟩
        rw [repS_len]
        exact Nat.le_trans hz (by decide)
theorem repS_ok {z : Str} {n : Int} (h : PyData.strOk z = true) : PyData.strOk (repS z n) = true := by
  unfold repS
  split
  · decide +kernel
  · split
    · exact h
    · have key : ∀ (n : Nat) (a : Array Nat), PyData.strOk ⟨a⟩ = true → PyData.strOk ⟨(List.replicate n z.cps).foldl (· ++ ·) a⟩ = true := by
        intro n
        induction n with
        | zero => intro a h; exact h
        | succ n ih =>
          intro a ha
          rw [List.replicate_succ, List.foldl_cons]
          exact ih _ (strOk_app (a := ⟨a⟩) (b := z) ha h)
      exact key n.toNat #[] (by decide +kernel)
@[irreducible] def repSR (z : Str) (n : Int) : Res Str := if n.natAbs ≤ 1000000 ∧ z.length * n.toNat ≤ 1000000 then .ok (repS z n) else .bad
theorem repSR_ok {z : Str} {n : Int} (h : n.natAbs ≤ 1000000 ∧ z.length * n.toNat ≤ 1000000) : repSR z n = .ok (repS z n) := by
  unfold repSR
  exact if_pos h
theorem o_repS : Op2 E K rRepS repSR pS pI pS := fun I C H a b x y s hx hy Q q => by
  unfold repSR at q
  split at q
  · rename_i h
    exact ⟨a, b, hx.1, hy, h.1, h.2, PQ.now q s ⟨rfl, repS_ok hx.2⟩⟩
  · exact q.elim
/-- one sign in a text -/
def oneR (a : Str) : Res Nat := if a.length = 1 then (match a.cps.toList with
    | c :: _ => .ok c
    | [] => .bad) else .bad
abbrev rOneIn : R2 := fun x y H Q => ∃ (c : Nat) (z : Str), x = .str ⟨#[c]⟩ ∧ y = .str z ∧ Q (.bl (decide (c ∈ z.cps.toList))) H
abbrev rOneNin : R2 := fun x y H Q => ∃ (c : Nat) (z : Str), x = .str ⟨#[c]⟩ ∧ y = .str z ∧ Q (.bl (!decide (c ∈ z.cps.toList))) H
def inC (a b : Str) : Res Bool := (oneR a).bind fun c => .ok (decide (c ∈ b.cps.toList))
def ninC (a b : Str) : Res Bool := (oneR a).bind fun c => .ok (!decide (c ∈ b.cps.toList))
theorem oneR_ok (c : Nat) : oneR ⟨#[c]⟩ = .ok c := rfl
theorem oneR_is {a : Str} {c : Nat} (h : oneR a = .ok c) : a = ⟨#[c]⟩ := by
  unfold oneR at h
  split at h
  · rename_i h1
    obtain ⟨⟨l⟩⟩ := a
    have h1 : l.length = 1 := h1
    match l, h1 with
    | [d], _ =>
      cases h
      rfl
  · cases h
theorem o_inC : Op2 E K rOneIn inC pS pS pB := fun I C H a b x y s hx hy Q q => by
  unfold inC at q
  cases h : oneR a with
  | ok c =>
    rw [h] at q
    exact ⟨c, b, by rw [hx.1, oneR_is h], hy.1, PQ.now q s rfl⟩
  | exc c i =>
    unfold oneR at h
    split at h
    · split at h <;> cases h
    · cases h
  | bad =>
    rw [h] at q
    exact q.elim
theorem o_ninC : Op2 E K rOneNin ninC pS pS pB := fun I C H a b x y s hx hy Q q => by
  unfold ninC at q
  cases h : oneR a with
  | ok c =>
    rw [h] at q
    exact ⟨c, b, by rw [hx.1, oneR_is h], hy.1, PQ.now q s rfl⟩
  | exc c i =>
    unfold oneR at h
    split at h
    · split at h <;> cases h
    · cases h
  | bad =>
    rw [h] at q
    exact q.elim
/-- the signs of a text, walked -/
def signs (z : Str) : List Str := z.cps.toList.map fun c => ⟨#[c]⟩
@[irreducible] def signsR (z : Str) : Res (List Str) := if z.length ≤ 1000000 then .ok (signs z) else .bad
theorem signsR_ok {z : Str} (h : z.length ≤ 1000000) : signsR z = .ok (signs z) := by
  unfold signsR
  exact if_pos h
theorem i_str {m : Res Str} (h : EvX E K te σ I C m pS) : EvI E K (iStr te) σ I C kpT (un signsR m) pS := fun I1 C1 H1 e e' s Kt q =>
  h I1 C1 H1 e e' s _ ((Post.bind q).mono (fun z p v I2 H2 e2 s2 ⟨hv, ok⟩ => by
    unfold signsR at p
    split at p
    · rename_i hz
      have hl : (signs z).length = z.cps.size := by
        unfold signs
        rw [List.length_map, Array.length_toList]
      refine ⟨z, hv, p (Its z) (fun _ => True) (fun i H v H' => H' = H ∧ ∃ c, z.cps[i]? = some c ∧ v = .str ⟨#[c]⟩) I2 H2 e2 s2 (by rw [hl]; exact Nat.le_trans hz (by decide)) (by rw [hl]; exact walk_str) (fun _ _ _ _ _ _ => trivial) (fun i x v' I3 C3 H3 H4 hx e3 _ s3 y => ?_)⟩
      obtain ⟨rfl, c, hc, rfl⟩ := y
      unfold signs at hx
      rw [List.getElem?_map, Array.getElem?_toList, hc] at hx
      cases hx
      exact ⟨I3, Ex.refl _, s3, rfl, strOk_one ok (by rw [Array.mem_toList_iff]; exact Array.mem_of_getElem? hc)⟩
    · exact p.elim) fun _ _ z => z)
/-! ### instances that do not change -/
/-- an instance of the class at Cl, its fields ns -/
def pC (Cl : Addr) (ns : List Str) (T : Rt α) : Rp α := ⟨fun x v I C => ∃ a dx vs, v = .ref a ∧ I a = some (.ins Cl dx (ns.zip vs)) ∧ T.r x vs I C, fun e e' ⟨a, dx, vs, h1, h2, h3⟩ => ⟨a, dx, vs, h1, e a _ h2, T.mono e e' h3⟩⟩
instance {Cl : Addr} {ns : List Str} {T : Rt α} [It T] : Im (pC Cl ns T) := ⟨fun ⟨a, dx, vs, h1, h2, h3⟩ => ⟨a, dx, vs, h1, h2, It.im h3⟩⟩
theorem lookup_zip : ∀ {ns : List Str} {vs : List V} {k : Nat} {f : Str}, ns[k]? = some f → (∀ j g, j < k → ns[j]? = some g → (f == g) = false) → vs.length = ns.length → (ns.zip vs).lookup f = vs[k]?
  | [], _, _, _, h, _, _ => by cases h
  | g :: ns, [], _, _, _, _, hl => by cases hl
  | g :: ns, v :: vs, 0, f, h, _, _ => by
    cases h
    simp [List.lookup]
  | g :: ns, v :: vs, k + 1, f, h, hn, hl => by
    have h0 := hn 0 g (Nat.succ_pos _) rfl
    show List.lookup f ((g, v) :: ns.zip vs) = _
    rw [List.lookup_cons, h0]
    exact lookup_zip (k := k) h (fun j g hj hg => hn (j + 1) g (Nat.succ_lt_succ hj) hg) (Nat.succ.inj hl)
theorem x_fld {Cl : Addr} {ns : List Str} {T : Rt α} {k : Nat} {f : Str} {g : α → β} {m : Res α} (c : Cls K Cl) (n : NoAttr K Cl f) (hk : ns[k]? = some f) (hn : ∀ j g, j < k → ns[j]? = some g → (f == g) = false) (hT : T.n = ns.length) (j : Pj T k g S1)
    (h : EvX E K te σ I C m (pC Cl ns T)) : EvX E K (tFld K te f) σ I C (un (fun x => .ok (g x)) m) S1 := fun I1 C1 H1 e e' s Q q =>
  h I1 C1 H1 e e' s _ ((Post.bind q).mono (fun x p v I2 H2 e2 s2 ⟨a, dx, vs, h1, h2, h3⟩ => by
    obtain ⟨w, hw, r⟩ := j x vs I2 C1 h3
    exact ⟨a, Cl, dx, ns.zip vs, w, h1, s2.i a _ h2, c, n, by rw [lookup_zip hk hn (by rw [T.len h3, hT])]; exact hw, p w I2 H2 e2 s2 r⟩) fun _ _ z => z)
/-- __init__: what is made -/
def spI (K : PySem.W.Frag) (Cl : Addr) (ns : List Str) (F : Rt γ) (T : Rt α) (f : α → Res γ) : Sp := fun vs H Q E => ∃ (I C : Hp) (x dx : Addr) (args : List V) (a : α), vs = .ref x :: args ∧ St I C H ∧ C x = some (.ins Cl dx []) ∧ T.r a args I C ∧
  Post (f a) (fun y => ∀ vs' I2 H2, Ex I I2 → St I2 (upd C x (.ins Cl dx (ns.zip vs'))) H2 → F.r y vs' I2 Z → Q .non H2) (PX E K I (off C x))
theorem x_make {Cl : Addr} {ns : List Str} {F : Rt γ} [It F] {A : Rt α} {f : α → Res γ} {tr : TA} {m : Res α} (h : EvA E K tr σ I C m A) : EvX E K (tMake Cl (spI K Cl ns F A f) [] E tr) σ I C (un f m) (pC Cl ns F) := fun I1 C1 H1 e e' s Q q =>
  h I1 C1 H1 e e' s _ ((Post.bind q).mono (fun a p vs I2 H2 e2 s2 rv x dx hx hdx hne => by
    have c1 : C1 dx = none := s2.c.free hdx
    have c2 : C1 x = none := s2.c.free hx
    have s3 := s2.newC (o := .own x) hdx
    have hx3 : upd H2 dx (.own x) x = none := by rw [upd_ne (Ne.symm hne)]; exact hx
    have s4 := s3.newC (o := .ins Cl dx []) hx3
    have ec : Ex C1 (upd (upd C1 dx (.own x)) x (.ins Cl dx [])) := (Ex.new c1).trans (Ex.new (by rw [upd_ne (Ne.symm hne)]; exact c2))
    have eo : Ex C1 (off (upd (upd C1 dx (.own x)) x (.ins Cl dx [])) x) := fun b o hb => by
      rw [off_ne (ne_of_none hb c2)]
      exact ec b o hb
    refine ⟨I2, _, x, dx, vs, a, by rw [List.append_nil], s4, upd_same, A.mono (Ex.refl _) ec rv, Post.mono (m := f a) p (fun y z vs' I3 H3 e3 s5 r5 => ⟨rfl, ?_⟩) fun c i z => z.mono e2 eo⟩
    rw [upd_upd] at s5
    have s6 := s5.frz upd_same
    have iN := s5.freeI (p := x) upd_same
    refine z (.ref x) (upd I3 x (.ins Cl dx (ns.zip vs'))) H3 (e2.trans (e3.trans (Ex.new iN))) (s6.less fun b o hb => ?_) ⟨x, dx, vs', rfl, upd_same, It.im (F.mono (Ex.new iN) (Ex.refl _) r5)⟩
    have h1 : b ≠ x := ne_of_none hb c2
    have h2 : b ≠ dx := ne_of_none hb c1
    show (if b = x then none else upd (upd C1 dx (.own x)) x (.ins Cl dx (ns.zip vs')) b) = some o
    rw [if_neg h1, upd_ne h1, upd_ne h2]
    exact hb) fun _ _ z => z)
/-- self.f = e -/
theorem q_fld [Im R] {Cl dx x : Addr} {fs : List (Str × V)} {i : Nat} {f : Str} {m : Res α} {k : α → Res ω} (c : Cls K Cl) (n : NoAttr K Cl f) (hl : fs.length < 1000) (hv : σ[i]? = some (some (.ref x))) (hc : C x = some (.ins Cl dx fs))
    (h : EvX E K te σ I C m R) (s : St I C H) (hX : XH X E K I C) (hm : Post (m.bind k) Q X)
    (next : ∀ a v I2 C2 H2, Ex I I2 → St I2 C2 H2 → C2 x = some (.ins Cl dx (putF f v fs)) → (∀ q, q ≠ x → C2 q = C q) → R.r a v I2 Z → Post (k a) Q X → tz D σ H2) : tSeq (sFld K (tVar i) te f) tz D σ H :=
  h I C H (Ex.refl _) (Ex.refl _) s _ ((Post.bind hm).mono (fun a p v I2 H2 e2 s2 rv => ⟨.ref x, hv, x, Cl, dx, fs, rfl, s2.c x _ hc, c, n, hl, next a v I2 _ _ e2 (s2.set hc) upd_same (fun q h => upd_ne h) (Im.im rv) p⟩) hX)
/-- the end of __init__ -/
theorem ret_init {Cl dx x : Addr} {ns : List Str} {F : Rt γ} {y : γ} {vs : List V} {I0 : Hp} {Q : VK} (hm : ∀ vs' I2 H2, Ex I0 I2 → St I2 (upd C0 x (.ins Cl dx (ns.zip vs'))) H2 → F.r y vs' I2 Z → Q .non H2)
    (e : Ex I0 I) (fr : Ex (off C0 x) C) (s : St I C H) (hc : C x = some (.ins Cl dx (ns.zip vs))) (r : F.r y vs I Z) : Q .non H :=
  hm vs I H e (s.less (ex_pool fr hc)) r
end
end Sd

namespace Sd
open PySem L2
/-! ### data of any depth, and the def that makes tuples of all lists within -/
inductive Da where
  | i (n : Int)
  | s (x : Str)
  | t (xs : List Da)
  | l (xs : List Da)
mutual
def dep : Da → Nat
  | .i _ => 0
  | .s _ => 0
  | .t xs => depL xs + 1
  | .l xs => depL xs + 1
def depL : List Da → Nat
  | [] => 0
  | x :: xs => max (dep x) (depL xs)
end
mutual
def frz : Da → Da
  | .i n => .i n
  | .s x => .s x
  | .t xs => .t (frzL xs)
  | .l xs => .t (frzL xs)
def frzL : List Da → List Da
  | [] => []
  | x :: xs => frz x :: frzL xs
end
theorem frzL_map : ∀ xs : List Da, frzL xs = xs.map frz
  | [] => by simp only [frzL, List.map_nil]
  | x :: xs => by simp only [frzL, List.map_cons, frzL_map xs]
theorem depL_le : ∀ {xs : List Da} {x : Da}, x ∈ xs → dep x ≤ depL xs
  | y :: ys, x, h => by
    simp only [depL]
    rcases List.mem_cons.mp h with rfl | h
    · omega
    · have := depL_le h
      omega
mutual
/-- in: lists and tuples -/
inductive RD (K : PySem.W.Frag) (I : Hp) : Da → V → Prop where
  | i (n : Int) : RD K I (.i n) (.int n)
  | s (x : Str) (h : PyData.strOk x = true) : RD K I (.s x) (.str x)
  | t {xs : List Da} {a : Addr} {vs : List V} (h : SqT K I a vs) (hl : vs.length ≤ sizeLine) (r : RDs K I xs vs) : RD K I (.t xs) (.ref a)
  | l {xs : List Da} {a : Addr} {vs : List V} (h : I a = some (.lst vs)) (hl : vs.length ≤ sizeLine) (r : RDs K I xs vs) : RD K I (.l xs) (.ref a)
inductive RDs (K : PySem.W.Frag) (I : Hp) : List Da → List V → Prop where
  | nil : RDs K I [] []
  | cons {x : Da} {v : V} {xs : List Da} {vs : List V} (r : RD K I x v) (t : RDs K I xs vs) : RDs K I (x :: xs) (v :: vs)
end
mutual
/-- out: tuples that were laid -/
inductive RO (I : Hp) : Da → V → Prop where
  | i (n : Int) : RO I (.i n) (.int n)
  | s (x : Str) (h : PyData.strOk x = true) : RO I (.s x) (.str x)
  | t {xs : List Da} {a : Addr} {vs : List V} (h : I a = some (.tup vs)) (hl : vs.length ≤ sizeLine) (r : ROs I xs vs) : RO I (.t xs) (.ref a)
inductive ROs (I : Hp) : List Da → List V → Prop where
  | nil : ROs I [] []
  | cons {x : Da} {v : V} {xs : List Da} {vs : List V} (r : RO I x v) (t : ROs I xs vs) : ROs I (x :: xs) (v :: vs)
end
mutual
theorem RD.up {K : PySem.W.Frag} {I I' : Hp} (e : Ex I I') : ∀ {d : Da} {v : V}, RD K I d v → RD K I' d v
  | _, _, .i n => .i n
  | _, _, .s x h => .s x h
  | _, _, .t h hl r => .t (ex_t e h) hl (RDs.up e r)
  | _, _, .l h hl r => .l (e _ _ h) hl (RDs.up e r)
theorem RDs.up {K : PySem.W.Frag} {I I' : Hp} (e : Ex I I') : ∀ {d : List Da} {v : List V}, RDs K I d v → RDs K I' d v
  | _, _, .nil => .nil
  | _, _, .cons r t => .cons (RD.up e r) (RDs.up e t)
end
mutual
theorem RO.up {I I' : Hp} (e : Ex I I') : ∀ {d : Da} {v : V}, RO I d v → RO I' d v
  | _, _, .i n => .i n
  | _, _, .s x h => .s x h
  | _, _, .t h hl r => .t (e _ _ h) hl (ROs.up e r)
theorem ROs.up {I I' : Hp} (e : Ex I I') : ∀ {d : List Da} {v : List V}, ROs I d v → ROs I' d v
  | _, _, .nil => .nil
  | _, _, .cons r t => .cons (RO.up e r) (ROs.up e t)
end
theorem RDs.a2 {K : PySem.W.Frag} {I : Hp} : ∀ {xs : List Da} {vs : List V}, RDs K I xs vs → A2 (fun x u => RD K I x u) xs vs
  | _, _, .nil => .nil
  | _, _, .cons r t => .cons r (RDs.a2 t)
theorem RDs.of {K : PySem.W.Frag} {I : Hp} : ∀ {xs : List Da} {vs : List V}, A2 (fun x u => RD K I x u) xs vs → RDs K I xs vs
  | _, _, .nil => .nil
  | _, _, .cons r t => .cons r (RDs.of t)
theorem ROs.a2 {I : Hp} : ∀ {xs : List Da} {vs : List V}, ROs I xs vs → A2 (fun x u => RO I x u) xs vs
  | _, _, .nil => .nil
  | _, _, .cons r t => .cons r (ROs.a2 t)
theorem ROs.of {I : Hp} : ∀ {xs : List Da} {vs : List V}, A2 (fun x u => RO I x u) xs vs → ROs I xs vs
  | _, _, .nil => .nil
  | _, _, .cons r t => .cons r (ROs.of t)
def pDd (K : PySem.W.Frag) (n : Nat) : Rp Da := ⟨fun d v I _ => RD K I d v ∧ dep d < n, fun e _ h => ⟨h.1.up e, h.2⟩⟩
def pDo : Rp Da := ⟨fun d v I _ => RO I d v, fun e _ h => h.up e⟩
instance {K : PySem.W.Frag} {n : Nat} : Im (pDd K n) := ⟨fun h => h⟩
instance : Im pDo := ⟨fun h => h⟩
/-- R as data, S what frozen makes of it -/
structure Fz (K : PySem.W.Frag) {α : Type} (R S : Rp α) (e e' : α → Da) (n : Nat) : Prop where
  enc : ∀ {a v I C}, R.r a v I C → RD K I (e a) v
  dec : ∀ {a v I C}, RO I (e' a) v → S.r a v I C
  fz : ∀ a, frz (e a) = e' a
  dp : ∀ a, dep (e a) ≤ n
section
variable {K : PySem.W.Frag} {α β γ : Type} {R S : Rp α} {R' S' : Rp β} {e e' : α → Da} {d d' : β → Da} {n m : Nat}
theorem fz_int : Fz K pI pI Da.i Da.i 0 := ⟨fun h => by cases h; exact .i _, fun h => by cases h; rfl, fun _ => by simp only [frz], fun _ => by simp only [dep]; exact Nat.le_refl _⟩
theorem fz_str : Fz K pS pS Da.s Da.s 0 := ⟨fun h => by obtain ⟨rfl, h⟩ := h; exact .s _ h, fun h => by cases h; exact ⟨rfl, by assumption⟩, fun _ => by simp only [frz], fun _ => by simp only [dep]; exact Nat.le_refl _⟩
theorem enc_all (f : Fz K R S e e' n) {I C : Hp} : ∀ {xs : List α} {vs : List V}, A2 (fun x u => R.r x u I C) xs vs → RDs K I (xs.map e) vs
  | _, _, .nil => .nil
  | _, _, .cons r t => .cons (f.enc r) (enc_all f t)
theorem dec_all (f : Fz K R S e e' n) {I C : Hp} : ∀ {xs : List α} {vs : List V}, ROs I (xs.map e') vs → A2 (fun x u => S.r x u I C) xs vs
  | [], [], _ => .nil
  | x :: xs, v :: vs, h => by
    cases h with
    | cons r t => exact .cons (f.dec r) (dec_all f t)
  | [], v :: vs, h => by cases h
  | x :: xs, [], h => by cases h
theorem fz_all (f : Fz K R S e e' n) : ∀ xs : List α, frzL (xs.map e) = xs.map e'
  | [] => by simp only [List.map_nil, frzL]
  | x :: xs => by simp only [List.map_cons, frzL, f.fz, fz_all f xs]
theorem dp_all' (f : Fz K R S e e' n) : ∀ xs : List α, depL (xs.map e) ≤ n
  | [] => by simp only [List.map_nil, depL]; exact Nat.zero_le _
  | x :: xs => by
    simp only [List.map_cons, depL]
    exact Nat.max_le.mpr ⟨f.dp x, dp_all' f xs⟩
theorem fz_L (f : Fz K R S e e' n) : Fz K (pL R) (pQ K S) (fun xs => .l (xs.map e)) (fun xs => .t (xs.map e')) (n + 1) :=
  ⟨fun ⟨a, vs, h1, h2, h3, h4⟩ => by subst h1; exact .l h2 h3 (enc_all f h4), fun h => by
    cases h with
    | t h hl r => exact ⟨_, _, rfl, .inl (.inl h), hl, dec_all f r⟩, fun xs => by simp only [frz, fz_all f], fun xs => by
    simp only [dep]
    exact Nat.succ_le_succ (dp_all' f xs)⟩
theorem fz_Q (f : Fz K R S e e' n) : Fz K (pQ K R) (pQ K S) (fun xs => .t (xs.map e)) (fun xs => .t (xs.map e')) (n + 1) :=
  ⟨fun ⟨a, vs, h1, h2, h3, h4⟩ => by subst h1; exact .t h2 h3 (enc_all f h4), fun h => by
    cases h with
    | t h hl r => exact ⟨_, _, rfl, .inl (.inl h), hl, dec_all f r⟩, fun xs => by simp only [frz, fz_all f], fun xs => by
    simp only [dep]
    exact Nat.succ_le_succ (dp_all' f xs)⟩
/-- rows -/
structure Fr (K : PySem.W.Frag) {α : Type} (R S : Rt α) (e e' : α → List Da) (n : Nat) : Prop where
  enc : ∀ {a vs I C}, R.r a vs I C → RDs K I (e a) vs ∧ vs.length ≤ 100
  dec : ∀ {a vs I C}, ROs I (e' a) vs → S.r a vs I C
  fz : ∀ a, frzL (e a) = e' a
  dp : ∀ a, depL (e a) ≤ n
theorem fr_one (f : Fz K R S e e' n) : Fr K (t1 R) (t1 S) (fun a => [e a]) (fun a => [e' a]) n := ⟨fun ⟨v, h, r⟩ => by subst h; exact ⟨.cons (f.enc r) .nil, by show 1 ≤ 100; decide⟩, fun h => by
    cases h with
    | cons r t =>
      cases t
      exact ⟨_, rfl, f.dec r⟩, fun a => by simp only [frzL, f.fz], fun a => by
    simp only [depL]
    exact Nat.max_le.mpr ⟨f.dp a, Nat.zero_le _⟩⟩
theorem fr_cons {T U : Rt β} {es es' : β → List Da} (f : Fz K R S e e' n) (g : Fr K T U es es' m) (h99 : T.n ≤ 50) : Fr K (tc R T) (tc S U) (fun a => e a.1 :: es a.2) (fun a => e' a.1 :: es' a.2) (max n m) := ⟨fun ⟨v, us, h, r, t⟩ => by
    subst h
    obtain ⟨q, ql⟩ := g.enc t
    exact ⟨.cons (f.enc r) q, by rw [List.length_cons, T.len t]; omega⟩, fun h => by
    cases h with
    | cons r t => exact ⟨_, _, rfl, f.dec r, g.dec t⟩, fun a => by simp only [frzL, f.fz, g.fz], fun a => by
    simp only [depL]
    have := f.dp a.1
    have := g.dp a.2
    omega⟩
theorem fz_T {T U : Rt β} {es es' : β → List Da} (g : Fr K T U es es' m) : Fz K (pT T) (pT U) (fun a => .t (es a)) (fun a => .t (es' a)) (m + 1) := ⟨fun ⟨a, vs, h1, h2, h3⟩ => by
    subst h1
    obtain ⟨q, ql⟩ := g.enc h3
    exact .t (.inl (.inl h2)) (Nat.le_trans ql (by decide)) q, fun h => by
    cases h with
    | t h hl r => exact ⟨_, _, rfl, h, g.dec r⟩, fun a => by simp only [frz, g.fz], fun a => by
    simp only [dep]
    exact Nat.succ_le_succ (g.dp a)⟩
variable {E : XK} {σ : L2.St} {I C : Hp} {ta : TE} {m' : Res α}
theorem x_frz {k : Nat} (f : Fz K R S e e' n) (hk : n < k) (h : EvX E K ta σ I C m' R) : EvX E K (tCall (spP K (t1 (pDd K k)) (fun a => .ok (frz a)) pDo) [] E (tCons ta tNil)) σ I C m' S := fun I1 C1 H1 x x' s Q q =>
  h I1 C1 H1 x x' s _ (q.mono (fun a p v I2 H2 e2 s2 rv => ⟨I2, C1, e a, s2, ⟨v, rfl, f.enc rv, Nat.lt_of_le_of_lt (f.dp a) hk⟩, fun w I3 H3 e3 s3 rw => p w I3 H3 (e2.trans e3) s3 (f.dec (by
    have z : RO I3 (frz (e a)) w := rw
    rw [f.fz] at z
    exact z))⟩) fun _ _ z => z)
end
/-! ### its body -/
def tyD : Da → String
  | .i _ => "int"
  | .s _ => "str"
  | .t _ => "tuple"
  | .l _ => "list"
theorem TyD {K : PySem.W.Frag} {I C H : Hp} {d : Da} {v : V} (s : St I C H) (h : RD K I d v) : TyX K H v (.type (tyD d)) := by
  cases h with
  | i n => exact .base (.int n)
  | s x h => exact .base (.str x)
  | l h hl r => exact .base (.lst (s.i _ _ h))
  | t h hl r =>
    rcases h with (h | ⟨o, h⟩) | h
    · exact .base (.tup (s.i _ _ h))
    · exact .fTuple (s.i _ _ h)
    · obtain ⟨o, its, n, hk, hc, _⟩ := h
      exact .kTuple hk hc
def isSeq : Da → Bool
  | .i _ => false
  | .s _ => false
  | .t _ => true
  | .l _ => true
theorem kit_seq {K : PySem.W.Frag} (d : Da) : PySem.W.kitAny K (.type (tyD d)) [.type "list", .type "tuple"] = some (isSeq d) := by
  unfold tyD
  cases d with
  | i n => simp only [PySem.W.kitAny, kit_ty (K := K) (show kitB "int" "list" = some false by decide +kernel), kit_ty (K := K) (show kitB "int" "tuple" = some false by decide +kernel), isSeq]
  | s n => simp only [PySem.W.kitAny, kit_ty (K := K) (show kitB "str" "list" = some false by decide +kernel), kit_ty (K := K) (show kitB "str" "tuple" = some false by decide +kernel), isSeq]
  | t n => simp only [PySem.W.kitAny, kit_ty (K := K) (show kitB "tuple" "list" = some false by decide +kernel), kit_ty (K := K) (show kitB "tuple" "tuple" = some true by decide +kernel), isSeq]
  | l n => simp only [PySem.W.kitAny, kit_ty (K := K) (show kitB "list" "list" = some true by decide +kernel), isSeq]
section
variable {K : PySem.W.Frag} {E : XK} {σ : L2.St} {I C H I0 C0 : Hp} {α β : Type} {R : Rp α} {te : TE} {v : V} {D : Ends} {Q : VK}
theorem x_isiD {m : Res Da} {n : Nat} (h : EvX E K te σ I C m (pDd K n)) : EvX E K (tCB (rIsiT K) (tCons te (tCons (tTup (tCons (tC (.ty "list")) (tCons (tC (.ty "tuple")) tNil))) tNil))) σ I C (un (fun d => .ok (isSeq d)) m) pB := fun I1 C1 H1 e e' s Q q =>
  h I1 C1 H1 e e' s _ ((Post.bind q).mono (fun d p v I2 H2 e2 s2 rv => by
    refine ⟨by decide, fun t ht => ?_⟩
    have ex := Ex.new (o := HO.tup [.ty "list", .ty "tuple"]) (s2.i.free ht)
    exact ⟨v, t, _, _, _, isSeq d, rfl, upd_same, .cons (.ty "list") (.cons (.ty "tuple") .nil), TyD (s2.newI ht) (rv.1.up ex), kit_seq d, p _ _ _ (e2.trans ex) (s2.newI ht) rfl⟩) fun _ _ z => z)
/-- a tuple that was laid -/
def pTl (R : Rp α) : Rp (List α) := ⟨fun xs v I C => ∃ a vs, v = .ref a ∧ I a = some (.tup vs) ∧ vs.length ≤ sizeLine ∧ A2 (fun x u => R.r x u I C) xs vs,
  fun e e' ⟨a, vs, h1, h2, h3, h4⟩ => ⟨a, vs, h1, e a _ h2, h3, h4.imp fun _ _ => R.mono e e'⟩⟩
theorem o_tupleI : OpL E K (rTuple1 K) idR (t1 (pV R)) (pTl R) := fun I C H a vs s hv Q q => by
  obtain ⟨v, rfl, h⟩ := hv
  obtain ⟨p, us, rfl, h2, h3, h4⟩ := pV.at s h
  exact ⟨p, us, rfl, .inl ⟨.inl (.inl h2), fun l hl => q (.ref l) (upd I l (.tup us)) _ (Ex.new (s.i.free hl)) (s.newI hl) ⟨l, us, rfl, upd_same, h3, h4.imp fun _ _ => R.mono (Ex.new (s.i.free hl)) (Ex.refl _)⟩⟩⟩
theorem frz_flat {n : Nat} {wi : TI} {ta : TE} {a : Da} (hs : St I0 C0 H) (r : RD K I0 a v) (hd : dep a < n) (hf : isSeq a = false) (hm : PQ pDo I0 C0 Q (frz a)) :
    tSeq (tIfS (tB (tCB (rIsiT K) (tCons (tVar 0) (tCons (tTup (tCons (tC (.ty "list")) (tCons (tC (.ty "tuple")) tNil))) tNil)))) (tSeq (tRet ta) tNext) tNext) (tSeq (tRet (tVar 0)) tNext) { nx := fun _ H' => Q .non H', rt := Q } [some v, none] H := by
  refine t_B (E := EZ) (x_isiD (te := tVar 0) (σ := [some v, none]) (n := n) (x_var (R := pDd K n) (i := 0) rfl ⟨r, hd⟩)) I0 C0 H (Ex.refl _) (Ex.refl _) hs _ ?_
  show Post (un (fun d => .ok (isSeq d)) (Res.ok a)) _ _
  rw [un_ok, hf]
  intro I2 H2 e2 s2
  refine ⟨v, rfl, hm v I2 H2 e2 s2 ?_⟩
  cases r with
  | i n => exact (by simp only [frz]; exact RO.i n)
  | s x h => exact (by simp only [frz]; exact RO.s x h)
  | t h hl r => cases hf
  | l h hl r => cases hf
theorem frz_deep {n : Nat} {wi : TI} {a : Da} {xs : List Da} (hs : St I0 C0 H) (r : RD K I0 a v) (hd : dep a < n + 1) (hf : isSeq a = true) (ea : frz a = .t (frzL xs)) (hm : PQ pDo I0 C0 Q (frz a))
    (hi : ∀ I1, Ex I0 I1 → EvI EZ K wi [some v, none] I1 C0 kpT (.ok xs) (pDd K n)) :
    tSeq (tIfS (tB (tCB (rIsiT K) (tCons (tVar 0) (tCons (tTup (tCons (tC (.ty "list")) (tCons (tC (.ty "tuple")) tNil))) tNil)))) (tSeq (tRet (tCB (rTuple1 K) (tCons (tLc wi (gName 1) tYes (tCall (spP K (t1 (pDd K n)) (fun a => .ok (frz a)) pDo) [] EZ (tCons (tVar 1) tNil)) [1]) tNil))) tNext) tNext) (tSeq (tRet (tVar 0)) tNext) { nx := fun _ H' => Q .non H', rt := Q } [some v, none] H := by
  refine t_B (E := EZ) (x_isiD (te := tVar 0) (σ := [some v, none]) (n := n + 1) (x_var (R := pDd K (n + 1)) (i := 0) rfl ⟨r, hd⟩)) I0 C0 H (Ex.refl _) (Ex.refl _) hs _ ?_
  show Post (un (fun d => .ok (isSeq d)) (Res.ok a)) _ _
  rw [un_ok, hf]
  intro I2 H2 e2 s2
  have lc : EvX EZ K (tLc wi (gName 1) tYes (tCall (spP K (t1 (pDd K n)) (fun a => .ok (frz a)) pDo) [] EZ (tCons (tVar 1) tNil)) [1]) [some v, none] I2 C0 ((Res.ok xs).bind (mapR fun x => un (fun a => .ok (frz a)) (Res.ok x))) (pL pDo) :=
    x_lc (hi I2 e2) g1 (fun _ _ _ _ ⟨v, h, _⟩ => by rw [h]; rfl) (fun x σ2 I3 C3 e3 c3 ⟨w, h, rw'⟩ => by subst h; exact x_call (a_one (x_var (i := 1) rfl (Rp.mono _ (Ex.refl _) exz rw')))) (fun _ _ _ _ _ e ⟨w, h, rw'⟩ => ⟨w, h, Rp.mono _ e exz rw'⟩)
  refine x_cb o_tupleI (a_one (x_v lc)) I2 C0 H2 (Ex.refl _) (Ex.refl _) s2 _ ?_
  have em : mapR (fun x => un (fun a => Res.ok (frz a)) (Res.ok x)) xs = .ok (xs.map frz) := mapR_ok fun _ _ => rfl
  show Post (un idR ((Res.ok xs).bind (mapR fun x => un (fun a => .ok (frz a)) (Res.ok x)))) _ _
  rw [Res.bind_ok, em, un_ok, idR_eq]
  intro w I3 H3 e3 s3 rw'
  refine hm w I3 H3 (e2.trans e3) s3 ?_
  obtain ⟨b, vs, rfl, h2, h3, h4⟩ := rw'
  rw [ea]
  exact .t h2 h3 (by rw [frzL_map]; exact ROs.of (h4.imp fun _ _ h => h))
/-- what is walked -/
theorem frz_src {n : Nat} {xs : List Da} (h : depL xs + 1 < n + 1) {I : Hp} {vs : List V} (r : RDs K I xs vs) : A2 (fun x u => (pDd K n).r x u I C) xs vs := by
  have key : ∀ {xs : List Da} {vs : List V}, RDs K I xs vs → (∀ x ∈ xs, dep x < n) → A2 (fun x u => (pDd K n).r x u I C) xs vs := by
    intro xs vs r
    induction xs generalizing vs with
    | nil =>
      intro _
      cases r
      exact .nil
    | cons x xs ih =>
      intro h
      cases r with
      | cons r t => exact .cons ⟨r, h x List.mem_cons_self⟩ (ih t fun y hy => h y (List.mem_cons_of_mem _ hy))
  exact key r fun x hx => Nat.lt_of_le_of_lt (depL_le hx) (by omega)
end
end Sd

namespace Sd
open PySem L2
def mthI (j : Nat) : Stmt → Stmt
  | .ClassDef _ _ _ body _ _ _ _ _ _ _ => body.getD j (.Pass ⟨0, 0, 0, 0⟩)
  | s => s
theorem putF_new {f : Str} {v : V} : ∀ {fs : List (Str × V)}, ((fs.map Prod.fst).all fun g => !decide (g = f)) = true → putF f v fs = fs ++ [(f, v)]
  | [], _ => rfl
  | (g, x) :: r, h => by
    rw [List.map_cons, List.all_cons, Bool.and_eq_true, Bool.not_eq_true', decide_eq_false_iff_not] at h
    show (if g = f then (g, v) :: r else (g, x) :: putF f v r) = _
    rw [if_neg h.1, putF_new h.2]
    rfl
theorem ex_off {C0 C : Hp} {p : Addr} (h : Ex (off C0 p) C) : Ex (off C0 p) (off C p) := fun a o ha => by
  rw [off_ne (ne_of_none ha off_same)]
  exact h a o ha
theorem nodup_to {ns : List Str} {k : Nat} {f : Str} (h : ((ns.take k).all fun g => !(f == g)) = true) : ∀ j g, j < k → ns[j]? = some g → (f == g) = false := fun j g hj hg => by
  have := List.all_eq_true.mp h g (by
    rw [List.mem_iff_getElem?]
    exact ⟨j, by rw [List.getElem?_take, if_pos hj]; exact hg⟩)
  simpa using this
/-- f(pool, a ..), what a says holds whatever is drawn -/
def spMo {α β μ : Type} (M : Rt μ) (T : Rt α) (m : α → μ → Res (β × μ)) (R : Rp β) : Sp := fun vs H Q _ => ∃ (I C : Hp) (p : Addr) (ws us : List V) (x : μ) (a : α), vs = .ref p :: us ∧ St I C H ∧ C p = some (.lst ws) ∧ M.r x ws I C ∧ T.r a us I (off C p) ∧
  Post (m a x) (fun b => ∀ v ws' I2 H2, Ex I I2 → St I2 (upd C p (.lst ws')) H2 → M.r b.2 ws' I2 (upd C p (.lst ws')) → R.r b.1 v I2 (upd C p (.lst ws')) → Q v H2) (fun _ _ => False)
def EvAMo (E : XK) (K : PySem.W.Frag) (p : Addr) {μ : Type} (M : Rt μ) (ta : TA) (σ : L2.St) (I Cp : Hp) {α : Type} (m : μ → Res (α × μ)) (T : Rt α) : Prop :=
  ∀ x ws I1 C1 H1, Ex I I1 → Ex Cp C1 → St I1 C1 H1 → C1 p = some (.lst ws) → M.r x ws I1 C1 → ∀ Q : List V → Hp → Prop, Post (m x) (fun b => ∀ vs ws' I2 H2, Ex I1 I2 → St I2 (upd C1 p (.lst ws')) H2 → M.r b.2 ws' I2 (upd C1 p (.lst ws')) → T.r b.1 vs I2 Cp → Q vs H2) (fun _ _ => False) → ta σ H1 Q
section
variable {E : XK} {K : PySem.W.Frag} {p : Addr} {μ : Type} {M : Rt μ} {σ : L2.St} {I Cp C : Hp} {α β γ : Type} {R : Rp α} {S : Rp β} {T : Rp γ} {te ta tb : TE} {tt tu : TT} {m : μ → Res (α × μ)} {n : μ → Res (β × μ)}
theorem amo {A : Rt α} [It A] {tr : TA} (h : EvAM E K p M tr σ I Cp m A) : EvAMo E K p M tr σ I Cp m A := fun x ws I1 C1 H1 e e' s hc hx Q q =>
  h x ws I1 C1 H1 e e' s hc hx _ (q.mono (fun b z vs ws' I2 H2 e2 s2 hx2 rv => z vs ws' I2 H2 e2 s2 hx2 (It.im rv)) fun _ _ z => z)
theorem amo_cons [Im R] {tr : TA} {A : Rt β} (hp : Cp p = none) (h1 : EvM E K p M te σ I Cp m R) (h2 : EvAMo E K p M tr σ I Cp n A) : EvAMo E K p M (tCons te tr) σ I Cp (pairM m n) (tc R A) := fun x ws I1 C1 H1 e e' s hc hx Q q =>
  h1 x ws I1 C1 H1 e e' s hc hx _ ((Post.bind q).mono (fun b z v ws' I2 H2 e2 s2 hx2 rv =>
    h2 b.2 ws' I2 _ H2 (e.trans e2) (e'.over hp) s2 upd_same hx2 _ ((Post.bind z).mono (fun d z2 vs ws2 I3 H3 e3 s3 hx3 rw => by
      rw [upd_upd] at s3 hx3
      exact z2 (v :: vs) ws2 I3 H3 (e2.trans e3) s3 hx3 ⟨v, vs, rfl, R.to e3 rv, rw⟩) fun _ _ z => z)) fun _ _ z => z)
theorem amo_var {tr : TA} {A : Rt β} {i : Nat} {v : V} {a : α} (hv : σ[i]? = some (some v)) (r : R.r a v I Cp) (h2 : EvAMo E K p M tr σ I Cp n A) : EvAMo E K p M (tCons (tVar i) tr) σ I Cp (pairM (liftM (.ok a)) n) (tc R A) := fun x ws I1 C1 H1 e e' s hc hx Q q =>
  ⟨v, hv, h2 x ws I1 C1 H1 e e' s hc hx _ ((Post.bind (m := n x) (k := fun d => .ok ((a, d.1), d.2)) q).mono (fun d z2 vs ws2 I3 H3 e3 s3 hx3 rw => z2 (v :: vs) ws2 I3 H3 e3 s3 hx3 ⟨v, vs, rfl, R.mono (e.trans e3) (Ex.refl _) r, rw⟩) fun _ _ z => z)⟩
theorem amo_var1 {i : Nat} {v : V} {a : α} (hv : σ[i]? = some (some v)) (r : R.r a v I Cp) : EvAMo E K p M (tCons (tVar i) tNil) σ I Cp (liftM (.ok a) : μ → Res (α × μ)) (t1 R) := fun x ws I1 C1 H1 e e' s hc hx Q q =>
  ⟨v, hv, by
    have z := q [v] ws I1 H1 (Ex.refl _)
    rw [upd_id hc] at z
    exact z s hx ⟨v, rfl, R.mono e (Ex.refl _) r⟩⟩
theorem m_callMo {A : Rt α} {f : α → μ → Res (β × μ)} {tr : TA} {i : Nat} (hp : Cp p = none) (hv : σ[i]? = some (some (.ref p))) (h : EvAMo E K p M tr σ I Cp m A) : EvM E K p M (tCall (spMo M A f S) [] E (tCons (tVar i) tr)) σ I Cp (callM f m) S := fun x ws I1 C1 H1 e e' s hc hx Q q =>
  ⟨.ref p, hv, h x ws I1 C1 H1 e e' s hc hx _ ((Post.bind q).mono (fun b z vs ws' I2 H2 e2 s2 hx2 rv => by
    have eo : Ex Cp (off (upd C1 p (.lst ws')) p) := fun a o ha => by
      have hne : a ≠ p := ne_of_none ha hp
      rw [off_ne hne, upd_ne hne]
      exact e' a o ha
    refine ⟨I2, _, p, ws', vs, b.2, b.1, by rw [List.append_nil], s2, upd_same, hx2, A.mono (Ex.refl _) eo rv, Post.mono (m := f b.1 b.2) z (fun c z w ws2 I3 H3 e3 s3 hx3 rw => ?_) fun _ _ z => z⟩
    rw [upd_upd] at s3 hx3 rw
    exact z w ws2 I3 H3 (e2.trans e3) s3 hx3 rw) fun _ _ z => z)⟩
/-- an operation whose left side is a name's value, whatever the right side draws -/
theorem m_opv [It M] {r : R2} {f : α → β → Res γ} {i : Nat} {v : V} {a : α} (hr : ∀ E, Op2 E K r f R S T) (hp : Cp p = none) (hv : σ[i]? = some (some v)) (ra : R.r a v I Cp) (h2 : EvM E K p M tb σ I Cp n S) : EvM E K p M (tOp r (tVar i) tb) σ I Cp (binM f (liftM (.ok a)) n) T := fun x ws I1 C1 H1 e e' s hc hx Q q =>
  ⟨v, hv, h2 x ws I1 C1 H1 e e' s hc hx _ ((Post.bind (m := n x) (k := fun d => (f a d.1).bind fun c => .ok (c, d.2)) q).mono (fun d z2 w ws2 I3 H3 e3 s3 hx3 rw =>
    hr E I3 _ H3 a d.1 v w s3 (R.mono (e.trans e3) (e'.over hp) ra) rw Q ((Post.bind z2).mono (fun c z3 u I4 H4 e4 s4 ru => z3 u ws2 I4 H4 (e3.trans e4) s4 (M.mono e4 (Ex.refl _) hx3) ru) fun _ _ z => z.elim)) fun _ _ z => z)⟩
end
/-! a drawn list that will change -/
def EvMN (E : XK) (K : PySem.W.Frag) (p : Addr) {μ : Type} (M : Rt μ) (te : TE) (σ : L2.St) (I Cp : Hp) {β : Type} (m : μ → Res (List β × μ)) (R : Rp β) : Prop :=
  ∀ x ws I1 C1 H1, Ex I I1 → Ex Cp C1 → St I1 C1 H1 → C1 p = some (.lst ws) → M.r x ws I1 C1 → ∀ Q : VK, Post (m x) (fun b => ∀ q vs ws' I2 H2, Ex I1 I2 → C1 q = none → St I2 (upd (upd C1 p (.lst ws')) q (.lst vs)) H2 → M.r b.2 ws' I2 Z → vs.length ≤ sizeLine → A2 (fun x u => R.r x u I2 Z) b.1 vs → Q (.ref q) H2) (fun _ _ => False) → te σ H1 Q
section
variable {E : XK} {K : PySem.W.Frag} {p : Addr} {μ : Type} {M : Rt μ} {σ : L2.St} {I Cp C H : Hp} {α β γ ω : Type} {R : Rp α} {S : Rp β} {te : TE} {tz : TS} {D : Ends} {Q : ω → Prop}
theorem mn_lc [It M] [Im S] {wi : TI} {g : TG} {vs : List Nat} {m : μ → Res (List α × μ)} {f : α → μ → Res (β × μ)} {P : α → L2.St → Hp → Hp → Prop} (hp : Cp p = none) (hi : EvIM E K p M wi σ I Cp m R) (hg : Tg K g R (wipe σ vs) P)
    (hw : ∀ x σ2 I' C', P x σ2 I' C' → wipe σ2 vs = wipe σ vs)
    (hf : ∀ x σ2 I' C', Ex I I' → Ex Cp C' → P x σ2 I' C' → EvM EZ K p M te σ2 I' (off C' p) (f x) S) : EvMN E K p M (tLc wi g tYes te vs) σ I Cp (fun x => (m x).bind fun b => mapM f b.1 b.2) S := fun x ws I1 C1 H1 e e' s hc hx Q q =>
  hi x ws I1 C1 H1 e e' s hc hx _ ((Post.bind q).mono (fun b q2 ws2 J G Y I2 H2 e2 s2 hx2 hz w hG hY D hD => by
    have cD2 : upd C1 p (.lst ws2) D = none := s2.c.free hD
    have hDp : D ≠ p := fun z => by
      rw [z, upd_same] at cD2
      cases cD2
    have cD : C1 D = none := by
      rw [upd_ne hDp] at cD2
      exact cD2
    refine lc_it w (fun i H => LcM p M S I2 C1 D (mapM f (b.1.drop i)) (fun c => ∀ q vs ws' I2 H2, Ex I1 I2 → C1 q = none → St I2 (upd (upd C1 p (.lst ws')) q (.lst vs)) H2 → M.r c.2 ws' I2 Z → vs.length ≤ sizeLine → A2 (fun x u => S.r x u I2 Z) c.1 vs → Q (.ref q) H2) i H) ⟨[], [], ws2, b.2, I2, Ex.refl _, s2.newC hD, It.im hx2, Nat.le_refl _, .nil, ?_⟩
      (fun i H hi ⟨_, _, _, _, I', e3, s3, _⟩ => hG I' _ H e3 s3) (fun i v H H' hi ⟨ys, us, ws3, x3, I', e3, s3, hx3, hn, r3, po⟩ y => ?_) (fun H ⟨ys, us, ws3, x3, I', e3, s3, hx3, hn, r3, po⟩ => ?_)
    · rw [List.drop_zero]
      exact q2
    · obtain ⟨a, ha⟩ : ∃ a, b.1[i]? = some a := ⟨b.1[i], by simp [hi]⟩
      rw [drop_cons ha] at po
      obtain ⟨I4, e4, s4, ra⟩ := hY i a v I' _ H H' ha e3 s3 y
      refine hg a v I4 _ H' _ s4 ra fun σ2 pa => ⟨hw _ _ _ _ pa, ?_⟩
      have eI : Ex I I4 := e.trans (e2.trans (e3.trans e4))
      have eC : Ex Cp (upd (upd C1 p (.lst ws3)) D (.lst us)) := (e'.over hp).trans (Ex.new (by rw [upd_ne hDp]; exact cD))
      have hcp : upd (upd C1 p (.lst ws3)) D (.lst us) p = some (.lst ws3) := by rw [upd_ne hDp.symm, upd_same]
      show te σ2 H' _
      refine hf a σ2 I4 _ eI eC pa x3 ws3 I4 _ H' (Ex.refl _) off_ex s4 hcp (It.im (M.mono e4 (Ex.refl _) hx3)) _ ((Post.bind po).mono (fun c po2 v2 ws4 I6 H6 e6 s6 hx6 rv => ?_) fun _ _ z => z)
      have hswap : upd (upd (upd C1 p (.lst ws3)) D (.lst us)) p (.lst ws4) = upd (upd C1 p (.lst ws4)) D (.lst us) := by
        funext a
        by_cases h1 : a = p
        · rw [h1, upd_same, upd_ne hDp.symm, upd_same]
        · rw [upd_ne h1]
          by_cases h2 : a = D
          · rw [h2, upd_same, upd_same]
          · rw [upd_ne h2, upd_ne h2, upd_ne h1, upd_ne h1]
      rw [hswap] at s6 hx6 rv
      have hsz : us.length < sizeLine := Nat.lt_of_le_of_lt hn (Nat.lt_of_lt_of_le hi hz)
      refine ⟨us, s6.c D _ upd_same, hsz, ⟨ys ++ [c.1], us ++ [v2], ws4, c.2, I6, e3.trans (e4.trans e6), ?_, It.im hx6, by rw [List.length_append]; exact Nat.succ_le_succ hn, ?_, ?_⟩⟩
      · have z := s6.set (o := .lst (us ++ [v2])) (p := D) upd_same
        rw [upd_upd] at z
        exact z
      · exact (r3.imp fun _ _ => S.mono (e4.trans e6) (Ex.refl _)).append (.one (Im.im rv))
      · refine (Post.bind po2).mono (fun zs z => ?_) fun _ _ z => z
        show ∀ q vs ws' I2 H2, Ex I1 I2 → C1 q = none → St I2 (upd (upd C1 p (.lst ws')) q (.lst vs)) H2 → M.r zs.2 ws' I2 Z → vs.length ≤ sizeLine → A2 (fun x u => S.r x u I2 Z) (ys ++ [c.1] ++ zs.1) vs → Q (.ref q) H2
        rw [List.append_assoc]
        exact z
    · rw [List.drop_length] at po
      have po2 : ∀ q vs ws' I2 H2, Ex I1 I2 → C1 q = none → St I2 (upd (upd C1 p (.lst ws')) q (.lst vs)) H2 → M.r x3 ws' I2 Z → vs.length ≤ sizeLine → A2 (fun x u => S.r x u I2 Z) (ys ++ []) vs → Q (.ref q) H2 := po
      rw [List.append_nil] at po2
      exact po2 D us ws3 I' H (e2.trans e3) cD s3 (It.im hx3) (Nat.le_trans hn hz) (r3.imp fun _ _ h => Im.im h)) fun _ _ z => z)
/-- xs = e, e a new list that is drawn -/
theorem qm_asgN [It M] [Im R] {x : μ} {ws : List V} {i : Nat} {m : μ → Res (List α × μ)} {k : List α × μ → Res ω} (h : EvMN E K p M te σ I (off C p) m R) (s : St I C H) (hc : C p = some (.lst ws)) (hx : M.r x ws I Z) (hm : Post ((m x).bind k) Q XF)
    (next : ∀ (b : List α × μ) (q : Addr) (vs ws' : List V) (I2 C2 C3 H2 : Hp), Ex I I2 → C q = none → (∀ a, a ≠ p → C2 a = C a) → C2 p = some (.lst ws') → St I2 C3 H2 → C3 q = some (.lst vs) → (∀ a, a ≠ q → C3 a = C2 a) → M.r b.2 ws' I2 Z → vs.length ≤ sizeLine → A2 (fun x u => R.r x u I2 Z) b.1 vs → Post (k b) Q XF → tz D (σ.set i (some (.ref q))) H2) : tSeq (tAsg te (gName i)) tz D σ H :=
  h x ws I C H (Ex.refl _) off_ex s hc (It.im hx) _ ((Post.bind hm).mono (fun b z q vs ws' I2 H2 e2 hq s2 hx2 hl hr => next b q vs ws' I2 _ _ H2 e2 hq (fun a h => upd_ne h) upd_same s2 upd_same (fun a h => upd_ne h) hx2 hl hr z) fun _ _ z => z)
end
end Sd

namespace PySem
open Sem (wp)
open AutoSeq1 (wpAny_loadPart')
theorem sd_meets_enum_tup (l : Addr) (items : Array Value) :
    Meets (Builtin.«enumerate.__new__» ⟨[.type "enumerate", .ref l], []⟩) (fun _ R s => s.heap.IsTuple l items ∧
      R (.ok (.ret (.ref (s.heap.push { cls := .type "tuple_iterator", data := .fields #[.ref l, .int 0 0] }).objs.size)))
        { s with heap := (s.heap.push { cls := .type "tuple_iterator", data := .fields #[.ref l, .int 0 0] }).push { cls := .type "enumerate", data := .fields #[.none, .bool false, .ref s.heap.objs.size, rawInt 0, .none, .none] } }) :=
  .of_wp fun prog w A R s h => by
    obtain ⟨hp, g, d, tk, os⟩ := s; obtain ⟨hL, h⟩ := h
    have hsub := sub_enumerate
    obtain ⟨ob, hl, hc, n, hd⟩ := id hL
    wp_walk using wpAny_loadPart' hl
    refine wpAny_stack_any fun st => wpAny_pure ?_
    split
    · rename_i c _ _ _ _ _
      cases (c == Value.type "enumerate")
      · wp_walk using wpAny_loadPart' hl, wpAny_pyIter_tuple hL
        exact ⟨_, rfl, h⟩
      · wp_walk using wpAny_loadPart' hl, wpAny_pyIter_tuple hL
        exact ⟨_, rfl, h⟩
    · wp_walk using wpAny_loadPart' hl, wpAny_pyIter_tuple hL
      exact ⟨_, rfl, h⟩
section
variable {prog : Program} {w : World} {A : Around} {E : Value → Shared → Prop} {s : Shared}
theorem sd_call_enum_tup {l : Addr} {items : Array Value} {Q : Value → Shared → Prop} (hL : s.heap.IsTuple l items)
    (h : ∀ h', IsEnum h' (s.heap.objs.size + 1) s.heap.objs.size 0 .none → h'.IsTupleIter s.heap.objs.size l 0 → h'.objs.size = s.heap.objs.size + 2 →
      (∀ b o, s.heap.get? b = some o → h'.get? b = some o) → Q (.ref (s.heap.objs.size + 1)) { s with heap := h' }) :
    wpAny (model prog w) A (call (.type "enumerate") [.ref l]) Q E s := by
  refine callType_new F.called_enumerate (by decide) (F.typeCall_enumerate_1 _) (F.newCall_enumerate_1 _) (fun obj => F.args_object_init_2 obj _) F.entry_enumerate_new
    (sd_meets_enum_tup l items) ⟨hL, ?_⟩
  have hz : (s.heap.push { cls := .type "tuple_iterator", data := .fields #[.ref l, .int 0 0] }).objs.size = s.heap.objs.size + 1 := Heap.size_push ..
  show _ ∧ _
  rw [hz]
  have he : IsEnum ((s.heap.push { cls := .type "tuple_iterator", data := .fields #[.ref l, .int 0 0] }).push
      { cls := .type "enumerate", data := .fields #[.none, .bool false, .ref s.heap.objs.size, rawInt 0, .none, .none] }) (s.heap.objs.size + 1) s.heap.objs.size 0 .none := by
    have := Heap.get?_push_size (s.heap.push { cls := .type "tuple_iterator", data := .fields #[.ref l, .int 0 0] })
      (o := { cls := .type "enumerate", data := .fields #[.none, .bool false, .ref s.heap.objs.size, rawInt 0, .none, .none] }) rfl
    rw [hz] at this; exact this
  refine ⟨⟨_, he, rfl⟩, h _ he ⟨_, Heap.get?_push_of_some _ (Heap.get?_push_size _ rfl), rfl, rfl⟩ (by rw [Heap.size_push, hz]) fun b o x => Heap.get?_push_of_some _ (Heap.get?_push_of_some _ x)⟩
end
end PySem
namespace L2
open PySem PySem.Spec PyProof.Rows
/-- the tuple at a as it stands at each turn, each item in a new pair -/
def IteT (K : PySem.W.Frag) (a : Addr) : It :=
  ⟨fun i H => ∃ (xs : List V) (x : V), SqT K H a xs ∧ xs[i]? = some x, fun i H v H' => ∃ T x, v = .ref T ∧ H T = none ∧ H' = upd H T (.tup [.int (i : Nat), x]) ∧ ∀ xs, SqT K H a xs → xs[i]? = some x, fun i H => ∃ xs : List V, SqT K H a xs ∧ xs.length ≤ i⟩
theorem turn_enumT {P : Program} {w : World} {K : PySem.W.Frag} {elts : List Expr} {kk : Nat} {tpos : Pos} (a e it : Addr) :
    Turn P w K (.Tuple elts kk tpos) (IteT K a) [e, it] e (fun i h => (∃ old, IsEnum h e it ((i : Nat) : Int) old) ∧ h.IsTupleIter it a i ∧ e ≠ it ∧ a ≠ it ∧ a ≠ e) where
  mem := by simp
  obj := fun i h st b hb => by
    obtain ⟨⟨old, he⟩, ⟨o, ho, hc, hd⟩, _⟩ := st
    have e' : b = e ∨ b = it := by simpa using hb
    rcases e' with z | z
    · rw [z]; exact ⟨_, he, fun v q => nomatch q⟩
    · rw [z]; exact ⟨o, ho, fun v q => by rw [hd] at q; cases q⟩
  keep := fun i h h' st k => let ⟨⟨old, he⟩, hi, hne⟩ := st; ⟨⟨old, k e (by simp) _ he⟩, hi.at fun o q => k it (by simp) o q, hne⟩
  item := by
    intro X hP hw hK hc i pins s σ H E I hf st hg
    subst hP hw hK
    obtain ⟨⟨old, he⟩, hit, hne, hai, hae⟩ := st
    obtain ⟨xs, x, hq, hx⟩ := hg
    obtain ⟨its, rv, p, hz⟩ := I.tuple hq
    obtain ⟨u, hu, ru⟩ := rv.get hx
    have hel : e < s.heap.objs.size := Heap.lt_size he
    have hil : it < s.heap.objs.size := by obtain ⟨_, q, _⟩ := hit; exact Heap.lt_size q
    have hu' : its.toArray[i]? = some u := by simpa using hu
    have hli : i < its.toArray.size := by
      rcases Nat.lt_or_ge i its.toArray.size with z | z
      · exact z
      · rw [Array.getElem?_eq_none z] at hu'; cases hu'
    refine wpAny_pyNext_enum_itemD (n := its.toArray.size) (Draws.tuple (A := X.A.in1) (I.ok.hd hc) it a hai its.toArray) he ⟨hit, p⟩ hli hne (by simp [hne, Ne.symm hae]) fun y h' tk hy ho hst' hT hsz hk => ?_
    have hyu : y = u := by
      have := hy
      rw [hu'] at this
      exact (Option.some.inj this).symm
    subst hyu
    obtain ⟨hit', _⟩ := hst'
    refine ⟨_, rfl, wpAny_letOwnedTupleGo_enum (s := { s with heap := h', toks := tk + 1 }) ho fun h'' he' sb => ?_⟩
    have hT2 : h''.get? s.heap.objs.size = some { cls := .type "tuple", data := .seq #[.int i tk, y] } := (sb.2 _ (Nat.ne_of_gt hel)).trans hT
    have new : ObjOk X.prog X.w (upd H s.heap.objs.size (.tup [.int (i : Nat), x])) h'' s.heap.objs.size (.tup [.int (i : Nat), x]) :=
      ⟨by show 2 ≤ sizeLine; decide, [.int i tk, y], .cons ⟨_, rfl⟩ (.cons ru .nil), ⟨_, hT2, rfl, _, rfl⟩⟩
    have I1 : Inv X pins σ (upd H s.heap.objs.size (.tup [.int (i : Nat), x])) { s with heap := h'', toks := tk + 1 } :=
      I.turnedNew (ch := [e, it]) (fun b ob hb q => (sb.2 b (fun z => hb (by simp [z]))).trans (hk b ob (fun z => hb (by simp [z])) (fun z => hb (by simp [z])) q)) hf (Nat.le_refl _) new
    refine ⟨.ref s.heap.objs.size, _, I1, rfl, ⟨_, x, rfl, I.hok.fresh (Nat.le_refl _), rfl, fun ys hy => by rw [I.tuple_inj hy hq]; exact hx⟩, ⟨⟨y, ?_⟩, hit'.at fun o q => (sb.2 it (Ne.symm hne)).trans q, hne, hai, hae⟩, fun b hb => ?_⟩
    · have e1 : ((i + 1 : Nat) : Int) = (i : Int) + 1 := by omega
      rw [e1]; exact he'
    · have hb' : b < s.heap.objs.size := by
        have e' : b = e ∨ b = it := by simpa using hb
        rcases e' with z | z
        · rw [z]; exact hel
        · rw [z]; exact hil
      rw [upd_ne (Nat.ne_of_lt hb')]
      exact (hf b hb).1
  done := by
    intro X hP hw hK hc i pins s σ H E I hf st hg
    subst hP hw hK
    obtain ⟨⟨old, he⟩, hit, hne, hai, hae⟩ := st
    obtain ⟨xs, hq, hx⟩ := hg
    obtain ⟨its, rv, p, hz⟩ := I.tuple hq
    obtain ⟨f0, f1, f2, f3, f4, f5⟩ := hf it (by simp)
    have hl := rv.length
    unfold pyNext
    have hT : s.TypeIs (.ref e) "enumerate" := ⟨_, he, rfl⟩
    refine wpAny_bind (wpAny_attempt (wpAny_callSpecial?_slot (name := Str.ofString "__next__") hT F.slot_enumerate_next
      (wpAny_call_entry F.slot_enumerate_next hT F.entry_enumerate_next ?_ (F.args_enumerate_next_1 _))))
    show wpAny _ _ (field (.ref e) 2 >>= _) _ _ _
    refine wpAny_bind (wpAny_field he rfl (x := .ref it) rfl ?_)
    refine wpAny_bind (wpAny_nextOf_tuple_end (A := X.A.in1) (I.ok.hd hc) hit p (by simp; omega) fun h' x he' hx' => ?_)
    obtain ⟨o, ho, hc⟩ := hx'
    refine wpAny_bind (wpAny_isInstance (T := "StopIteration") (b := true) ⟨o, ho, hc⟩ isSubtype_stop ?_)
    exact wpAny_pure ⟨rfl, I.turned (t' := s.toks) (fun b o hb q => he' b o hb q) f0 f1 f3 f4 f5⟩
  self := fun A i s Q E st h => let ⟨⟨_, he⟩, _⟩ := st; wpAny_pyIter_enum he h
def iEnumT (K : PySem.W.Frag) (ta : TA) : TI := fun σ H R => ta σ H fun vs H1 => ∃ a xs, vs = [.ref a] ∧ SqT K H1 a xs ∧ R (IteT K a) H1
theorem pi_enumT {X : Cx} {e : Expr} {ta : TA} {p pos tpos : Pos} {elts : List Expr} {kk : Nat} (hg : Gl X "enumerate") (hm : X.mg "enumerate" = none) (ha : PA X [e] ta) (hs : starEach [e] X.env = [(false, eval e X.env)] := by rfl) :
    PI X (.Tuple elts kk tpos) (.Call (.Name "enumerate" p) [e] [] pos) (iEnumT X.K ta) := by
  refine ⟨fun pins s σ H R I h => ?_⟩
  refine Call_ (ld_blt I hg hm boot_enumerate (PyProof.Rows.callWith_type1 (thn (ha.run pos pins s σ H _ I h) fun us s1 ⟨vs, H1, I1, r1, q1⟩ => ?_) hs rfl))
  obtain ⟨a, xs, ex, hq, q⟩ := q1
  subst ex
  cases r1 with
  | cons r rr =>
    cases rr
    cases r
    obtain ⟨its, rv, p', hz⟩ := I1.tuple hq
    have hal : a < s1.heap.objs.size := by obtain ⟨_, q, _⟩ := id p'; exact Heap.lt_size q
    refine sd_call_enum_tup p' fun h' he hit hsz hk => wpAny_pyIter_enum he ?_
    have I2 : Inv X pins σ H1 { s1 with heap := h' } := I1.kept (t' := s1.toks) hk
    refine ⟨s1.heap.objs.size + 1, [s1.heap.objs.size + 1, s1.heap.objs.size], _, _, H1, rfl, I2, turn_enumT a (s1.heap.objs.size + 1) s1.heap.objs.size, ⟨⟨.none, he⟩, hit, Nat.succ_ne_self _, Nat.ne_of_lt hal, Nat.ne_of_lt (Nat.lt_succ_of_lt hal)⟩, fun b hb => ?_, q⟩
    have e' : b = s1.heap.objs.size + 1 ∨ b = s1.heap.objs.size := by simpa using hb
    have hle : s1.heap.objs.size ≤ b := by
      rcases e' with z | z
      · rw [z]; exact Nat.le_add_right _ _
      · rw [z]; exact Nat.le_refl _
    exact I1.fpOk hle (I1.hok.fresh hle)
section
variable {K : PySem.W.Frag} {a : Addr} {xs : List V}
theorem walk_enumT : Walk (IteT K a) xs.length (fun H => SqT K H a xs) (YPair (fun i => some (.int (i : Nat))) (fun i => xs[i]?)) := by
  refine ⟨fun i _ hi q => ⟨xs, xs[i], q, by simp [hi]⟩, fun _ q => ⟨xs, q, Nat.le_refl _⟩, fun i H v H' _ q y => ?_⟩
  obtain ⟨T, x, h1, h2, h3, h4⟩ := y
  exact ⟨T, .int (i : Nat), x, h1, h2, h3, rfl, h4 xs q⟩
end
end L2
namespace Sd
open PySem L2
section
variable {E : XK} {K : PySem.W.Frag} {σ : L2.St} {I C : Hp} {α : Type} {R : Rp α} {ta : TA} {m : Res (List α)}
theorem i_enumT [Im R] (h : EvA E K ta σ I C m (t1 (pQ K R))) : EvI E K (iEnumT K ta) σ I C kpT (un enumR m) (pT (tc pI (t1 R))) := fun I1 C1 H1 e e' s Kt q =>
  h I1 C1 H1 e e' s _ ((Post.bind q).mono (fun xs p vs I2 H2 e2 s2 ⟨v, hv, a, us, h1, h2, h3, h4⟩ => by
    subst hv h1
    have hl := h4.len
    refine ⟨a, us, rfl, ex_t s2.i h2, p (IteT K a) (fun H => SqT K H a us) (YPair (fun i => some (.int (i : Nat))) (fun i => us[i]?)) I2 H2 e2 s2 (by rw [enumF_length]; omega) (by rw [enumF_length, ← hl]; exact walk_enumT) (fun I3 C3 H3 e3 _ s3 => ex_t (e3.trans s3.i) h2) (fun i x v' I3 C3 H3 H4 hx e3 _ s3 y => ?_)⟩
    obtain ⟨T, u, w, rfl, hT, rfl, hu, hw⟩ := y
    rw [enumF_get] at hx
    cases hz : xs[i]? with
    | none =>
      rw [hz] at hx
      cases hx
    | some z =>
      rw [hz] at hx
      cases hx
      obtain ⟨w', hw', r⟩ := h4.get' hz
      have hw2 : us[i]? = some w := hw
      rw [hw'] at hw2
      cases hw2
      cases hu
      exact new_pair s3 hT (show V.int (i : Nat) = V.int (0 + (i : Int)) by rw [Int.zero_add]) (R.to e3 r)) fun _ _ z => z)
end
end Sd
namespace L2
open PySem PySem.Spec PyProof.Rows
theorem get_list {X : Cx} : PGet X (rIxL X.K) := by
  intro pins s σ H x y v u Q I rx ry h
  obtain ⟨p, xs, i, z, rfl, rfl, hq, he, q⟩ := h
  cases rx
  obtain ⟨t, rfl⟩ := ry
  obtain ⟨its, r, pl, hz⟩ := I.list hq
  obtain ⟨j, h1, h2, h3, h4, h5⟩ := atI_get he
  obtain ⟨w, ew, rw'⟩ := r.get h2
  have hl := r.length
  have hn := line63
  have fin : EP X pins σ Q w s := ⟨z, H, I, rw', q⟩
  by_cases h0 : 0 ≤ i
  · have hj : i.toNat = j := by
      rw [seqIndex_of h0 h5] at h1
      exact Option.some.inj h1
    exact wpAny_getItem_list pl.isList h0 (by omega) (by rw [hj]; simpa using ew) fin
  · have hj : (i + (its.toArray.size : Int)).toNat = j := by
      rw [seqIndex_neg (by omega) h4] at h1
      rw [List.size_toArray, ← hl]
      exact Option.some.inj h1
    exact wpAny_getItem_list_neg pl.isList (by omega) (by rw [List.size_toArray] <;> omega) (by omega) (by rw [hj]; simpa using ew) fin
end L2
namespace Sd
open PySem L2
section
variable {E : XK} {K : PySem.W.Frag} {σ : L2.St} {I C H : Hp} {ω : Type} {Q : ω → Prop} {X : Ec → Int → Prop} {tz : TS} {D : Ends} {te ti : TE}
/-- xs[e1] += e2, numbers -/
theorem q_augL {i : Nat} {p : Addr} {xs : List Int} {vs : List V} {f : Int → Int → Int} {k : List Int → Res ω} {m mi : Res Int} (hv : σ[i]? = some (some (.ref p))) (hc : C p = some (.lst vs)) (hl : vs.length ≤ sizeLine) (hr : A2 (fun x u => pI.r x u I Z) xs vs)
    (h : EvX E K te σ I C m pI) (hi : EvX E K ti σ I C mi pI) (s : St I C H) (hX : XH X E K I C) (hm : Post ((mi.bind fun j => (ix xs j).bind fun a => m.bind fun b => setR xs j (f a b)).bind k) Q X)
    (next : ∀ ys vs' I2 C2 H2, Ex I I2 → St I2 C2 H2 → C2 p = some (.lst vs') → (∀ q, q ≠ p → C2 q = C q) → vs'.length ≤ sizeLine → A2 (fun x u => pI.r x u I2 Z) ys vs' → Post (k ys) Q X → tz D σ H2) :
    tSeq (tAugS (tVar i) ti te (rIxL K) (ipI f) rSetL) tz D σ H :=
  ⟨.ref p, hv, hi I C H (Ex.refl _) (Ex.refl _) s _ ((Post.bind (Post.bind hm)).mono (fun j po v I2 H2 e2 s2 rv => by
    have hv1 : v = .int j := rv
    subst hv1
    have po2 := Post.bind po
    cases hx : ix xs j with
    | exc c i =>
      unfold ix at hx
      split at hx <;> (try split at hx) <;> (try split at hx) <;> cases hx
    | bad =>
      rw [hx] at po2
      exact po2.elim
    | ok a =>
      rw [hx] at po2
      obtain ⟨v, e1, r⟩ := ix_atI hr hx
      have hva : v = .int a := r
      subst hva
      refine ⟨p, vs, j, _, rfl, rfl, .inl (.inl (s2.c p _ hc)), e1, ?_⟩
      refine h I2 C H2 e2 (Ex.refl _) s2 _ ((Post.bind po2).mono (fun b po3 w I3 H3 e3 s3 rw => ?_) fun c i z => (hX c i z).mono e2 (Ex.refl _))
      have hw : w = .int b := rw
      subst hw
      refine ⟨a, b, rfl, rfl, ?_⟩
      unfold setR at po3
      have hn := hr.len
      cases hj : ixN xs.length j with
      | none =>
        rw [hj] at po3
        exact po3.elim
      | some l =>
        rw [hj] at po3
        refine ⟨p, vs, j, l, rfl, rfl, s3.c p _ hc, by rw [hn]; exact hj, next (xs.set l (f a b)) (vs.set l (.int (f a b))) I3 _ _ (e2.trans e3) (s3.set hc) upd_same (fun q h => upd_ne h) (by rw [List.length_set]; exact hl) ?_ po3⟩
        exact A2.set (f := fun x u => pI.r x u I3 Z) rfl l (hr.imp fun _ _ h => h)) hX)⟩
end
/-! ### a thing seen as another -/
section
variable {E : XK} {K : PySem.W.Frag} {σ : L2.St} {I C : Hp} {α β : Type} {R : Rp α} {S : Rp β} {te : TE} {m : Res α} {f : α → β}
def Sees (R : Rp α) (S : Rp β) (f : α → β) : Prop := ∀ x v I C, R.r x v I C → S.r (f x) v I C
theorem x_see (q : Sees R S f) (h : EvX E K te σ I C m R) : EvX E K te σ I C (un (fun x => .ok (f x)) m) S := fun I1 C1 H1 e e' s Kt p =>
  h I1 C1 H1 e e' s _ ((Post.bind p).mono (fun x z v I2 H2 e2 s2 r => z v I2 H2 e2 s2 (q x v I2 C1 r)) fun _ _ z => z)
theorem A2_map {g : β → V → Prop} {h : α → V → Prop} (q : ∀ x v, h x v → g (f x) v) : ∀ {xs : List α} {vs : List V}, A2 h xs vs → A2 g (xs.map f) vs
  | _, _, .nil => .nil
  | _, _, .cons r t => .cons (q _ _ r) (A2_map q t)
theorem see_L (q : Sees R S f) : Sees (pL R) (pL S) (List.map f) := fun xs v I C ⟨a, vs, h1, h2, h3, h4⟩ => ⟨a, vs, h1, h2, h3, A2_map (fun x u r => q x u I C r) h4⟩
theorem see_Q (q : Sees R S f) : Sees (pQ K R) (pQ K S) (List.map f) := fun xs v I C ⟨a, vs, h1, h2, h3, h4⟩ => ⟨a, vs, h1, h2, h3, A2_map (fun x u r => q x u I C r) h4⟩
theorem see_t2 : Sees (pT (tc R (t1 R))) (pQ K R) (fun p : α × α => [p.1, p.2]) := fun x v I C ⟨a, vs, h1, h2, h3⟩ => by
  obtain ⟨u, us, rfl, h4, w, rfl, h5⟩ := h3
  exact ⟨a, _, h1, .inl (.inl h2), by show 2 ≤ sizeLine; decide, .cons h4 (.cons h5 .nil)⟩
end
end Sd

/-! defs called in an except suite, that raise nothing there -/
namespace L2H
open PySem PySem.Spec PyProof.Rows L2 HotX
structure FnJ (P : Program) (w : World) (K : PySem.W.Frag) (mg : Str → Option Value) (base : Heap) (CX : CXT) (k : Nat) (f : Addr) (fd : FuncData) (ps : List Str) (sp : Sp) : Prop where
  len : ∀ vs H Q E, sp vs H Q E → vs.length = ps.length
  run : ∀ (A : Around) (outer : List Env) (s : Shared) (H : Hp) (args : Args) (us : List Value) (vs : List V) (Q : VK) (E : XK) (p : Addr × Obj), RoomH k A → PinOk outer H s p → Env0 P w K mg base A outer s H → BindsTo s fd args (ps.zip us) → Vals vs us → sp vs H Q E →
    codeAny (model P w) A (.call (.ref f) args) (CR CX outer P w H s Q E) s
theorem fn_ofJ {CX : CXT} {P : Program} {w : World} {K : PySem.W.Frag} {mg : Str → Option Value} {base : Heap} {k : Nat} {f : Addr} {name qual : Str} {params : Arguments} {body : List Stmt} {scope : Scope} {dV kV doc pm cdv ct oc : Value} {an od : Option Addr}
    {osl : Array (Option Value)} {N ps : List Str} {sp : Sp} (lk : K.lookup f = some ⟨oc, od, .func (PySem.W.fnOf name qual params body scope dV kV doc pm an cdv ct), osl⟩) (hcd : PySem.W.codeIn K cdv qual = true) (S : FnScope N ps scope)
    (len : ∀ vs H Q E, sp vs H Q E → vs.length = ps.length)
    (hbody : ∀ (A : Around) (outer : List Env) (s : Shared) (H : Hp) (vs : List V) (Q : VK) (E : XK) (p : Addr × Obj), RoomH k (A.deeper (envOfC qual scope s.heap.objs.size f cdv)) → sp vs H Q E →
      ∃ t, PSs (cxH CX P w K mg base N qual scope f cdv A outer s H E p) body t ∧ t { nx := fun _ H' => Q .non H', rt := Q } (L2.start N vs) H) :
    FnJ P w K mg base CX (k + 1) f (PySem.W.fnOf name qual params body scope dV kV doc pm an cdv ct) ps sp := by
  refine ⟨len, fun A outer s H args us vs Q E p hr hpin e0 hb r hsp => ?_⟩
  have hl := len _ _ _ _ hsp
  have KX : K.In s.heap := e0.mod.kin.keeps fun b o e => (e0.bs b o e).1
  have lim : s.heap.NoLimit := e0.mod.nolimit.keeps fun b o e => (e0.bs b o e).1
  have hkind : ∀ y ∈ ps.zip us, scope.names.lookup y.1 = some .local ∨ (scope.names.lookup y.1 = some .cell ∧ ((cellsFrom (s.heap.objs.size + 1) scope.names []).lookup y.1).isSome = true) := fun ⟨n, v⟩ hy => by
    rcases S.par n (List.of_mem_zip hy).1 with q | q
    · exact .inl q
    · exact .inr ⟨q, PySem.W.cellsFrom_some _ _ _ (.inl q)⟩
  refine codeAny_call_function hr.depth (KX _ _ lk) rfl S.co S.gen rfl (PySem.W.codeRec_of KX hcd) (hb _ _ _ _ ?_)
  refine wpAny_newFunctionEnv_cells S.kind hkind fun env he s1 x => ?_
  subst he
  refine ⟨lim.keeps x.toInCall.keep, codeAny_func ?_⟩
  obtain ⟨t, ht, hq⟩ := hbody A outer s H vs Q E p (hr.deeper _) hsp
  have I : Inv (cxH CX P w K mg base N qual scope f cdv A outer s H E p) [] (L2.start N vs) H s1 := inv_startH S hpin e0 hl r x
  refine wpAny_mono (ht.run [] s1 (L2.start N vs) H _ I hq) (fun fl s' hs => ?_) fun e s' hs => hs
  have fin : ∀ {σ' : St} {H' : Hp} {v : V} {u : Value}, Inv (cxH CX P w K mg base N qual scope f cdv A outer s H E p) [] σ' H' s' → RelV v u → Q v H' → CE outer P w H s Q u s' :=
    fun {σ' H' v u} J rv q => ⟨v, H', J.os, J.bare, J.base, J.hok, rv, q⟩
  cases fl with
  | ret u =>
    obtain ⟨v, σ', H', J, rv, q⟩ := hs
    exact fin J rv q
  | next =>
    obtain ⟨σ', H', J, q⟩ := hs
    exact fin (v := V.non) (u := Value.none) J rfl q
  | brk =>
    obtain ⟨_, _, _, q⟩ := hs
    exact False.elim q
  | cont =>
    obtain ⟨_, _, _, q⟩ := hs
    exact False.elim q
section
variable {X : Cx} {CX : CXT} {k : Nat} {f C : Addr} {fd : FuncData} {ps : List Str} {sp : Sp} {E : St → XK} {x m : Str} {q pos apos : Pos} {e o : Expr} {es : List Expr} {ta : TE} {t : TA}
theorem run_fnJ {pins : List (Addr × Obj)} {σ : St} {H : Hp} {s : Shared} {Q : VK} {us : List Value} {vs : List V} {p : Addr × Obj} (F : FnJ X.prog X.w X.K X.mg X.base CX k f fd ps sp) (hr : RoomH k X.A) (hp : p ∈ X.pn) (hb : Binds X.K fd ps []) (hx : PassesAt CX X σ (E σ))
    (I : Inv X pins σ H s) (r : Vals vs us) (h : sp vs H Q (E σ)) : wpAny (model X.prog X.w) X.A (call (.ref f) us) (EP X pins σ Q) X.xe s := by
  have hl : us.length = ps.length := by rw [← r.length]; exact F.len _ _ _ _ h
  have b := hb s us I.kIn (by rw [List.append_nil]; exact hl)
  rw [List.append_nil] at b
  have P1 := I.pin p (List.mem_append_left _ hp)
  have hpin : PinOk X.stack H s p := ⟨P1.1, P1.2.1, fun hm => (List.mem_cons.mp (I.stkSub p.1 hm)).elim P1.2.2.1 P1.2.2.2.1, P1.2.2.2.2⟩
  refine wpAny_call (codeAny_mono (F.run X.A X.stack s H ⟨us, []⟩ us vs Q (E σ) p hr hpin I.env0 b r h) fun r s' hq => ?_)
  cases r with
  | error e => exact hx pins H s e s' I hq
  | ok fl =>
    cases fl with
    | ret u => exact I.after hq
    | next => exact False.elim hq
    | brk => exact False.elim hq
    | cont => exact False.elim hq
theorem pe_callJ {p : Addr × Obj} (F : FnJ X.prog X.w X.K X.mg X.base CX k f fd ps sp) (hr : RoomH k X.A) (hp : p ∈ X.pn) (hg : Gl X x) (hm : X.mg x = some (.ref f)) (hk : PySem.W.keepIn X.K (.ref f) = true) (hb : Binds X.K fd ps []) (hx : ∀ σ, PassesAt CX X σ (E σ))
    (ha : PA X (e :: es) t) (hdb : (x == ("__debug__" : Str)) = false := by decide) (he : starEach (e :: es) X.env = (false, eval e X.env) :: starEach es X.env := by rfl) (hpl : (backTo pos (starEach es X.env)).any (·.1) = false := by rfl) :
    PE X (.Call (.Name x q) (e :: es) [] pos) (tCallS sp E t) := by
  refine ⟨fun pins s σ H Q I h => ?_⟩
  refine wpAny_Call_Name_kw (ld_glob I hg hm ?_ hdb)
  refine PySem.W.callWith_K (h₀ := X.base) I.ok.mod.kin hk (thn (ha.run pos pins s σ H _ I h) fun us s1 ⟨vs, H1, I1, r, q⟩ => ⟨I1.kIn, ?_⟩) he hpl
  exact run_fnJ F hr hp hb (hx σ) I1 r q
end
end L2H
namespace L2
open PySem PySem.Spec PyProof.Rows L2H
section
variable {P : Program} {w : World} {K : PySem.W.Frag} {mg : Str → Option Value} {base : Heap} {x qual : Str} {params : Arguments} {body : List Stmt} {scope : Scope} {dvs : List V} {kws : List (Str × V)} {f : Addr} {fd : FuncData}
theorem FunD.okJ {CX : CXT} {N ps : List Str} {k : Nat} {sp : Sp} (F : FunD K x qual params body scope dvs kws f fd) (S : FnScope N ps scope) (len : ∀ vs H Q E, sp vs H Q E → vs.length = ps.length)
    (hbody : ∀ (cdv : Value) (A : Around) (outer : List Env) (s : Shared) (H : Hp) (vs : List V) (Q : VK) (E : XK) (p : Addr × Obj), RoomH k (A.deeper (envOfC qual scope s.heap.objs.size f cdv)) → sp vs H Q E →
      ∃ t, PSs (cxH CX P w K mg base N qual scope f cdv A outer s H E p) body t ∧ t { nx := fun _ H' => Q .non H', rt := Q } (start N vs) H) : FnJ P w K mg base CX (k + 1) f fd ps sp := by
  obtain ⟨oc, od, dV, kV, doc, pm, an, cdv, ct, osl, rfl, lk, hcd, _, _⟩ := F.ex
  exact fn_ofJ lk hcd S len fun A outer s H vs Q E p hr hsp => hbody cdv A outer s H vs Q E p hr hsp
end
end L2
namespace Sd
open PySem L2 PyProof.Rows
section
variable {E : XK} {K : PySem.W.Frag} {σ : L2.St} {I C : Hp} {α β : Type} {R : Rp β} {T : Rt α} {ta : TA} {m : Res α} {f : α → Res β}
theorem passZ {X : Cx} (σ : L2.St) : PassesAt (L2.CX X.prog X.w) X σ EZ := fun pins H s e s' I c => passL pins σ H s e s' I c
theorem x_callZ (n : ∀ a c i, f a ≠ .exc c i) (h : EvA E K ta σ I C m T) : EvX E K (tCallS (spP K T f R) (fun _ => EZ) ta) σ I C (un f m) R := fun I1 C1 H1 e e' s Q q =>
  h I1 C1 H1 e e' s _ ((Post.bind q).mono (fun a p vs I2 H2 e2 s2 rv => ⟨I2, C1, a, s2, rv, by
    cases hf : f a with
    | ok b =>
      rw [hf] at p
      exact fun v I3 H3 e3 s3 rw => p v I3 H3 (e2.trans e3) s3 rw
    | exc c i => exact absurd hf (n a c i)
    | bad =>
      rw [hf] at p
      exact p.elim⟩) fun _ _ z => z)
instance {R : Rp β} : TyR K (pQ K R) "tuple" := ⟨fun s ⟨a, vs, e, h, _⟩ => by
  rw [e]
  rcases h with h | ⟨o, its, n, hk, hc, _⟩
  · rcases h with h | ⟨o, h⟩
    · exact .base (.tup (s.i _ _ h))
    · exact .fTuple (s.i _ _ h)
  · exact .kTuple hk hc⟩
instance {T : Rt α} : TyR K (pU K T) "tuple" := ⟨fun s ⟨a, vs, e, h, _⟩ => by
  rw [e]
  rcases h with h | ⟨o, its, n, hk, hc, _⟩
  · rcases h with h | ⟨o, h⟩
    · exact .base (.tup (s.i _ _ h))
    · exact .fTuple (s.i _ _ h)
  · exact .kTuple hk hc⟩
end
end Sd
namespace Sd
open PySem L2 L2H PyProof.Rows
theorem roomJ {j k : Nat} {A : Around} {v : Option Value} (r : Room k A) (h : j ≤ k) : RoomH j (A.mark v) := ⟨(roomH_of r).mono h |>.dp, (roomH_of r).mono h |>.un⟩
end Sd

/-! dicts with numbers as keys, known for good; ranges from their end; lists as tests -/
namespace Sd
open PySem L2
inductive D2 {β : Type} (f : β → V → Prop) : List (Int × β) → List (Key × V) → Prop
  | nil : D2 f [] []
  | cons {k : Int} {x : β} {v : V} {kvs : List (Int × β)} {us : List (Key × V)} : f x v → D2 f kvs us → D2 f ((k, x) :: kvs) ((.inl k, v) :: us)
def dget {β : Type} (kvs : List (Int × β)) (k : Int) : Option β := (kvs.find? fun kv => decide (kv.1 = k)).map (·.2)
def dput {β : Type} (kvs : List (Int × β)) (k : Int) (v : β) : List (Int × β) :=
  if (kvs.any fun kv => decide (kv.1 = k)) = true then kvs.map (fun kv => if kv.1 = k then (kv.1, v) else kv) else kvs ++ [(k, v)]
section
variable {β : Type} {f g : β → V → Prop}
theorem D2.imp (h : ∀ x v, f x v → g x v) : ∀ {kvs us}, D2 f kvs us → D2 g kvs us
  | _, _, .nil => .nil
  | _, _, .cons r t => .cons (h _ _ r) (D2.imp h t)
theorem D2.len : ∀ {kvs us}, D2 f kvs us → us.length = kvs.length
  | _, _, .nil => rfl
  | _, _, .cons _ t => by rw [List.length_cons, List.length_cons, D2.len t]
theorem D2.get : ∀ {kvs us}, D2 f kvs us → ∀ k, (dget kvs k = none ∧ valV us (.inl k) = none) ∨ ∃ x v, dget kvs k = some x ∧ valV us (.inl k) = some v ∧ f x v
  | _, _, .nil, k => .inl ⟨rfl, rfl⟩
  | _, _, .cons (k := k0) (x := x) (v := v) r t, k => by
    have ih := D2.get t k
    unfold dget valV at ih ⊢
    rw [List.find?_cons, List.find?_cons]
    by_cases h : k0 = k
    · subst h
      simp only [decide_true]
      exact .inr ⟨x, v, rfl, rfl, r⟩
    · rw [decide_eq_false h, decide_eq_false (fun z => h (Sum.inl.inj z))]
      exact ih
theorem D2.any : ∀ {kvs us}, D2 f kvs us → ∀ k, (us.any fun kv => decide (kv.1 = Sum.inl k)) = kvs.any fun kv => decide (kv.1 = k)
  | _, _, .nil, k => rfl
  | _, _, .cons (k := k0) r t, k => by
    rw [List.any_cons, List.any_cons, D2.any t k]
    congr 1
    by_cases h : k0 = k
    · rw [h, decide_eq_true rfl, decide_eq_true rfl]
    · rw [decide_eq_false h, decide_eq_false (fun z => h (Sum.inl.inj z))]
theorem D2.app : ∀ {kvs us}, D2 f kvs us → ∀ {k x v}, f x v → D2 f (kvs ++ [(k, x)]) (us ++ [(.inl k, v)])
  | _, _, .nil, _, _, _, r => .cons r .nil
  | _, _, .cons q t, _, _, _, r => .cons q (D2.app t r)
theorem D2.map : ∀ {kvs us}, D2 f kvs us → ∀ {k x v}, f x v → D2 f (kvs.map fun kv => if kv.1 = k then (kv.1, x) else kv) (us.map fun kv => if kv.1 = Sum.inl k then (kv.1, v) else kv)
  | _, _, .nil, _, _, _, _ => .nil
  | _, _, .cons (k := k0) q t, k, x, v, r => by
    rw [List.map_cons, List.map_cons]
    by_cases h : k0 = k
    · rw [if_pos h, if_pos (by rw [h])]
      exact .cons r (D2.map t r)
    · rw [if_neg h, if_neg (fun z => h (Sum.inl.inj z))]
      exact .cons q (D2.map t r)
theorem D2.put {kvs us} (h : D2 f kvs us) {k : Int} {x : β} {v : V} (r : f x v) : D2 f (dput kvs k x) (putK us (.inl k) v) := by
  unfold dput putK
  rw [h.any k]
  split
  · exact h.map r
  · exact h.app r
end
theorem putK_len {us : List (Key × V)} {k : Key} {v : V} : (putK us k v).length ≤ us.length + 1 := by
  unfold putK
  split
  · rw [List.length_map]; omega
  · rw [List.length_append]; exact Nat.le_refl _
def pMp {β : Type} (S : Rp β) : Rp (List (Int × β)) := ⟨fun kvs v I C => ∃ a us, v = .ref a ∧ I a = some (.dK us) ∧ us.length ≤ sizeLine ∧ D2 (fun x u => S.r x u I C) kvs us,
  fun e e' ⟨a, us, h1, h2, h3, h4⟩ => ⟨a, us, h1, e a _ h2, h3, h4.imp fun _ _ => S.mono e e'⟩⟩
instance {β : Type} {S : Rp β} [Im S] : Im (pMp S) := ⟨fun ⟨a, us, h1, h2, h3, h4⟩ => ⟨a, us, h1, h2, h3, h4.imp fun _ _ => Im.im⟩⟩
def dictL {α β : Type} (fk : α → Res Int) (fv : α → Res β) : List α → List (Int × β) → Res (List (Int × β))
  | [], d => .ok d
  | x :: xs, d => match fk x with
    | .ok k => (match fv x with
      | .ok v => dictL fk fv xs (dput d k v)
      | _ => .bad)
    | _ => .bad
def dhas {β : Type} (k : Int) (d : List (Int × β)) : Res Bool := .ok (dget d k).isSome
def dix {β : Type} (d : List (Int × β)) (k : Int) : Res β := match dget d k with
  | some x => .ok x
  | none => .bad
section
variable {E : XK} {K : PySem.W.Frag} {σ : L2.St} {I C : Hp} {α β : Type} {R : Rp α} {S : Rp β} {m : Res (List α)} {tk tv td ty : TE}
theorem x_dcK [Im S] {wi : TI} {g : TG} {vs : List Nat} {fk : α → Res Int} {fv : α → Res β} {P : α → L2.St → Hp → Hp → Prop} {kp : Hp → Prop} (hi : EvI E K wi σ I C kp m R) (hkp : ∀ C3, Ex C C3 → kp C3) (hg : Tg K g R (wipe σ vs) P)
    (hw : ∀ x σ2 I' C', P x σ2 I' C' → wipe σ2 vs = wipe σ vs)
    (hk : ∀ x σ2 I' C', Ex I I' → Ex C C' → P x σ2 I' C' → EvX EZ K tk σ2 I' C' (fk x) pI)
    (hf : ∀ x σ2 I' C', Ex I I' → Ex C C' → P x σ2 I' C' → EvX EZ K tv σ2 I' C' (fv x) S)
    (hm : ∀ x σ2 I' I2 C', Ex I' I2 → P x σ2 I' C' → P x σ2 I2 C') : EvX E K (tDc wi g tYes tk tv vs) σ I C (m.bind fun xs => dictL fk fv xs []) (pMp S) := fun I1 C1 H1 e e' s Q q =>
  hi I1 C1 H1 e e' s _ ((Post.bind q).mono (fun xs q2 J G Y I2 H2 e2 s2 hz w hG hY D hD => by
    have cD : C1 D = none := s2.c.free hD
    refine ⟨fun i n H => n + i = xs.length ∧ ∃ d us I', Ex I2 I' ∧ St I' (upd C1 D (.dK us)) H ∧ us.length ≤ i ∧ D2 (fun y u => S.r y u I' C1) d us ∧ Post (dictL fk fv (xs.drop i) d) (PQ (pMp S) I1 C1 Q) (fun _ _ => False), ⟨xs.length, rfl, [], [], I2, Ex.refl _, s2.newC hD, Nat.le_refl _, .nil, ?_⟩, fun i n H ⟨hn, d, us, I', e3, s3, hl, r3, po⟩ => ?_⟩
    · rw [List.drop_zero]
      have noexc : ∀ (l : List α) d c i, dictL fk fv l d ≠ .exc c i := by
        intro l
        induction l with
        | nil => intro d c i z; cases z
        | cons x l ih =>
          intro d c i z
          unfold dictL at z
          cases h1 : fk x with
          | ok k =>
            rw [h1] at z
            cases h2 : fv x with
            | ok v =>
              rw [h2] at z
              exact ih _ _ _ z
            | exc _ _ => rw [h2] at z; cases z
            | bad => rw [h2] at z; cases z
          | exc _ _ => rw [h1] at z; cases z
          | bad => rw [h1] at z; cases z
      cases h : dictL fk fv xs [] with
      | ok d =>
        rw [h] at q2
        exact q2
      | exc c i => exact absurd h (noexc xs [] c i)
      | bad =>
        rw [h] at q2
        exact q2.elim
    · by_cases hi2 : i < xs.length
      · refine .inr ⟨w.goes i H hi2 (hG I' _ H e3 (hkp _ (e'.trans (Ex.new cD))) s3), fun H' => (n - 1) + (i + 1) = xs.length ∧ ∃ d us I', Ex I2 I' ∧ St I' (upd C1 D (.dK us)) H' ∧ us.length ≤ i + 1 ∧ D2 (fun y u => S.r y u I' C1) d us ∧ Post (dictL fk fv (xs.drop (i + 1)) d) (PQ (pMp S) I1 C1 Q) (fun _ _ => False), fun H' z => ⟨n - 1, by omega, z⟩, fun x H' y => ?_⟩
        obtain ⟨a, ha⟩ : ∃ a, xs[i]? = some a := ⟨xs[i], by simp [hi2]⟩
        rw [drop_cons ha] at po
        have y := w.yields i H x H' hi2 (hG I' _ H e3 (hkp _ (e'.trans (Ex.new cD))) s3) y
        obtain ⟨I4, e4, s4, ra⟩ := hY i a x I' _ H H' ha e3 (hkp _ (e'.trans (Ex.new cD))) s3 y
        refine hg a x I4 _ H' _ s4 ra fun σ2 pa => ⟨hw _ _ _ _ pa, ?_⟩
        have eI : Ex I I4 := e.trans (e2.trans (e3.trans e4))
        have eC : Ex C (upd C1 D (.dK us)) := e'.trans (Ex.new cD)
        unfold dictL at po
        unfold tYes
        dsimp only
        rw [if_pos rfl]
        refine hk a σ2 I4 _ eI eC pa I4 _ H' (Ex.refl _) (Ex.refl _) s4 _ ?_
        cases hka : fk a with
        | ok k =>
          rw [hka] at po
          intro v5 I5 H5 e5 s5 rk
          have hv5 : v5 = .int k := rk
          subst hv5
          refine hf a σ2 I5 _ (eI.trans e5) eC (hm _ _ _ _ _ e5 pa) I5 _ H5 (Ex.refl _) (Ex.refl _) s5 _ ?_
          cases hfa : fv a with
          | ok b =>
            simp only [hfa] at po
            intro v6 I6 H6 e6 s6 rv
            refine ⟨us, .inl k, rfl, s6.c D _ upd_same, Nat.lt_of_le_of_lt hl (Nat.lt_of_lt_of_le hi2 hz), by omega, dput d k b, putK us (.inl k) v6, I6, e3.trans (e4.trans (e5.trans e6)), ?_, Nat.le_trans putK_len (Nat.succ_le_succ hl), ?_, po⟩
            · have z := s6.set (u := .dK us) (o := .dK (putK us (.inl k) v6)) (p := D) upd_same
              rw [upd_upd] at z
              exact z
            · exact (r3.imp fun _ _ => S.mono (e4.trans (e5.trans e6)) (Ex.refl _)).put (Im.im rv)
          | exc c j =>
            simp only [hfa] at po
            exact po.elim
          | bad =>
            simp only [hfa] at po
            exact po.elim
        | exc c j =>
          rw [hka] at po
          exact po.elim
        | bad =>
          rw [hka] at po
          exact po.elim
      · have hie : i = xs.length := by omega
        subst hie
        refine .inl ⟨w.stops H (hG I' _ H e3 (hkp _ (e'.trans (Ex.new cD))) s3), ?_⟩
        rw [List.drop_length] at po
        have po2 : PQ (pMp S) I1 C1 Q d := po
        have hD' : (upd C1 D (HO.dK us)) D = some (.dK us) := upd_same
        have s5 := s3.frz hD'
        have fI := s3.freeI hD'
        refine po2 (.ref D) (upd I' D (.dK us)) H (e2.trans (e3.trans (Ex.new fI))) ?_ ⟨D, us, rfl, upd_same, Nat.le_trans hl hz, r3.imp fun _ _ => S.mono (Ex.new fI) (Ex.refl _)⟩
        have eC : (fun a => if a = D then none else (upd C1 D (.dK us)) a) = C1 := funext fun a => by
          by_cases h : a = D
          · rw [if_pos h, h, cD]
          · rw [if_neg h, upd_ne h]
        rw [eC] at s5
        exact s5) fun _ _ z => z)
theorem x_dget {m : Res (List (Int × β))} {n : Res Int} (h : EvX E K td σ I C m (pMp S)) (h' : EvX E K ty σ I C n pI) : EvX E K (tDGet td ty) σ I C (bin dix m n) S := fun I1 C1 H1 e e' s Q q =>
  h I1 C1 H1 e e' s _ ((Post.bind q).mono (fun d p v I2 H2 e2 s2 rv => h' I2 C1 H2 (e.trans e2) e' s2 _ ((Post.bind p).mono (fun k p2 w I3 H3 e3 s3 rw => by
    have hw : w = .int k := rw
    subst hw
    obtain ⟨a, us, rfl, h2, h3, h4⟩ := (pMp S).mono e3 (Ex.refl C1) rv
    rcases h4.get k with ⟨h5, h6⟩ | ⟨x, u, h5, h6, r⟩
    · unfold dix at p2
      rw [h5] at p2
      exact p2.elim
    · unfold dix at p2
      rw [h5] at p2
      exact ⟨a, u, rfl, .inl ⟨us, .inl k, .inl (s3.i a _ h2), rfl, h6.symm⟩, p2 u I3 H3 (e2.trans e3) s3 r⟩) fun c i z => z.mono e2 (Ex.refl _))) fun _ _ z => z)
theorem x_din {m : Res Int} {n : Res (List (Int × β))} (h : EvX E K ty σ I C m pI) (h' : EvX E K td σ I C n (pMp S)) : EvX E K (tDIn ty td) σ I C (bin dhas m n) pB := fun I1 C1 H1 e e' s Q q =>
  h I1 C1 H1 e e' s _ ((Post.bind q).mono (fun k p v I2 H2 e2 s2 rv => h' I2 C1 H2 (e.trans e2) e' s2 _ ((Post.bind p).mono (fun d p2 w I3 H3 e3 s3 rw => by
    have hv : v = .int k := rv
    subst hv
    obtain ⟨a, us, rfl, h2, h3, h4⟩ := rw
    refine ⟨a, valV us (.inl k), rfl, .inl ⟨us, .inl k, .inl (s3.i a _ h2), rfl, rfl⟩, ?_⟩
    have e0 : (valV us (.inl k)).isSome = (dget d k).isSome := by
      rcases h4.get k with ⟨h5, h6⟩ | ⟨x, u, h5, h6, r⟩
      · rw [h5, h6]
        rfl
      · rw [h5, h6]
        rfl
    rw [e0]
    exact p2 _ I3 H3 (e2.trans e3) s3 rfl) fun c i z => z.mono e2 (Ex.refl _))) fun _ _ z => z)
/-! a range from its end -/
def rngV (n : Int) : Res (List Int) := (rng1 n).bind fun xs => .ok xs.reverse
theorem i_revR1 {te : TE} {m : Res Int} (h : EvX E K te σ I C m pI) : EvI E K (iRevR (tRg1 te)) σ I C kpT (un rngV m) pI := fun I1 C1 H1 e e' s Kt q =>
  h I1 C1 H1 e e' s _ ((Post.bind q).mono (fun n p v I2 H2 e2 s2 rv => by
    have hv : v = .int n := rv
    subst hv
    unfold rngV rng1 at p
    by_cases hn : n.natAbs ≤ 1000000
    · rw [if_pos hn] at p
      refine ⟨n, rfl, by omega, by omega, by omega, by omega, ?_⟩
      have hlen : (rangeL 0 n).reverse.length = n.toNat := by rw [List.length_reverse, rangeL_length, Int.sub_zero]
      refine p (Itc _ (-1) (n - 0).toNat) (fun _ => True) (YFn fun i => .int (0 + (((n - 0).toNat : Nat) : Int) - 1 + (i : Nat) * (-1))) I2 H2 e2 s2 (by rw [hlen]; exact Nat.le_trans (show n.toNat ≤ 1000000 by omega) (by decide)) (by rw [hlen]; rw [Int.sub_zero]; exact walk_rangeC) (fun _ _ _ _ _ _ => trivial) (fun i x v' I3 C3 H3 H4 hx e3 _ s3 y => ?_)
      obtain ⟨rfl, rfl⟩ := y
      have hi := (List.getElem?_eq_some_iff.mp hx).1
      rw [hlen] at hi
      rw [List.getElem?_reverse (by rw [rangeL_length]; omega)] at hx
      have := rangeL_get hx
      rw [rangeL_length] at this
      refine ⟨I3, Ex.refl _, s3, ?_⟩
      show V.int _ = V.int x
      congr 1
      omega
    · rw [if_neg hn] at p
      exact p.elim) fun _ _ z => z)
/-! a list as a test -/
def isEm {α : Type} (xs : List α) : Res Bool := .ok (!xs.isEmpty)
theorem t_list {te : TE} {m : Res (List α)} (h : EvX E K te σ I C m (pV R)) : EvT E K (fun σ H Q => te σ H fun x H' => ∃ k, TruV K x H' k ∧ Q k H') σ I C (un isEm m) := fun I1 C1 H1 e e' s Q q =>
  h I1 C1 H1 e e' s _ ((Post.bind q).mono (fun xs p v I2 H2 e2 s2 rv => by
    obtain ⟨a, us, rfl, h2, h3, h4⟩ := pV.at s2 rv
    refine ⟨!us.isEmpty, .inl ⟨us, .inl (.inl h2), rfl⟩, ?_⟩
    have : us.isEmpty = xs.isEmpty := by
      have := h4.len
      cases us <;> cases xs <;> simp_all
    rw [this]
    exact p I2 H2 e2 s2) fun _ _ z => z)
end
end Sd
namespace Sd
open PySem L2
def filM {α β μ : Type} (p : α → μ → Res (Bool × μ)) (f : α → μ → Res (β × μ)) : List α → μ → Res (List β × μ)
  | [], x => .ok ([], x)
  | a :: as, x => (p a x).bind fun c => if c.1 = true then (f a c.2).bind fun b => (filM p f as b.2).bind fun d => .ok (b.1 :: d.1, d.2) else filM p f as c.2
section
variable {E : XK} {K : PySem.W.Frag} {p : Addr} {μ : Type} {M : Rt μ} {σ : L2.St} {I Cp : Hp} {α β : Type} {R : Rp α} {S : Rp β} {te : TE} {tt : TT}
theorem m_lcg [It M] [Im S] {wi : TI} {g : TG} {vs : List Nat} {m : μ → Res (List α × μ)} {pf : α → μ → Res (Bool × μ)} {f : α → μ → Res (β × μ)} {P : α → L2.St → Hp → Hp → Prop} (hp : Cp p = none) (hi : EvIM E K p M wi σ I Cp m R) (hg : Tg K g R (wipe σ vs) P)
    (hw : ∀ x σ2 I' C', P x σ2 I' C' → wipe σ2 vs = wipe σ vs)
    (ht : ∀ x σ2 I' C', Ex I I' → Ex Cp C' → P x σ2 I' C' → EvTM EZ K p M tt σ2 I' (off C' p) (pf x))
    (hf : ∀ x σ2 I' C', Ex I I' → Ex Cp C' → P x σ2 I' C' → EvM EZ K p M te σ2 I' (off C' p) (f x) S)
    (hm : ∀ x σ2 I' C' I2 C2, Ex I' I2 → P x σ2 I' C' → P x σ2 I2 C2) : EvM E K p M (tLc wi g tt te vs) σ I Cp (fun x => (m x).bind fun b => filM pf f b.1 b.2) (pL S) := fun x ws I1 C1 H1 e e' s hc hx Q q =>
  hi x ws I1 C1 H1 e e' s hc hx _ ((Post.bind q).mono (fun b q2 ws2 J G Y I2 H2 e2 s2 hx2 hz w hG hY D hD => by
    have cD2 : upd C1 p (.lst ws2) D = none := s2.c.free hD
    have hDp : D ≠ p := fun z => by
      rw [z, upd_same] at cD2
      cases cD2
    have cD : C1 D = none := by
      rw [upd_ne hDp] at cD2
      exact cD2
    have swap : ∀ (us ws3 ws4 : List V), upd (upd (upd C1 p (.lst ws3)) D (.lst us)) p (.lst ws4) = upd (upd C1 p (.lst ws4)) D (.lst us) := fun us ws3 ws4 => by
      funext a
      by_cases h1 : a = p
      · rw [h1, upd_same, upd_ne hDp.symm, upd_same]
      · rw [upd_ne h1]
        by_cases h2 : a = D
        · rw [h2, upd_same, upd_same]
        · rw [upd_ne h2, upd_ne h2, upd_ne h1, upd_ne h1]
    refine lc_it w (fun i H => LcM p M S I2 C1 D (filM pf f (b.1.drop i)) (fun c => ∀ v ws' I2 H2, Ex I1 I2 → St I2 (upd C1 p (.lst ws')) H2 → M.r c.2 ws' I2 (upd C1 p (.lst ws')) → (pL S).r c.1 v I2 (upd C1 p (.lst ws')) → Q v H2) i H) ⟨[], [], ws2, b.2, I2, Ex.refl _, s2.newC hD, It.im hx2, Nat.le_refl _, .nil, ?_⟩
      (fun i H hi ⟨_, _, _, _, I', e3, s3, _⟩ => hG I' _ H e3 s3) (fun i v H H' hi ⟨ys, us, ws3, x3, I', e3, s3, hx3, hn, r3, po⟩ y => ?_) (fun H ⟨ys, us, ws3, x3, I', e3, s3, hx3, hn, r3, po⟩ => ?_)
    · rw [List.drop_zero]
      exact q2
    · obtain ⟨a, ha⟩ : ∃ a, b.1[i]? = some a := ⟨b.1[i], by simp [hi]⟩
      rw [drop_cons ha] at po
      obtain ⟨I4, e4, s4, ra⟩ := hY i a v I' _ H H' ha e3 s3 y
      refine hg a v I4 _ H' _ s4 ra fun σ2 pa => ⟨hw _ _ _ _ pa, ?_⟩
      have eI : Ex I I4 := e.trans (e2.trans (e3.trans e4))
      have eC : ∀ ws3, Ex Cp (upd (upd C1 p (.lst ws3)) D (.lst us)) := fun ws3 => (e'.over hp).trans (Ex.new (by rw [upd_ne hDp]; exact cD))
      have hcp : ∀ ws3, upd (upd C1 p (.lst ws3)) D (.lst us) p = some (.lst ws3) := fun ws3 => by rw [upd_ne hDp.symm, upd_same]
      unfold filM at po
      refine ht a σ2 I4 _ eI (eC ws3) pa x3 ws3 I4 _ H' (Ex.refl _) off_ex s4 (hcp ws3) (It.im (M.mono e4 (Ex.refl _) hx3)) _ ((Post.bind po).mono (fun c po2 ws4 I5 H5 e5 s5 hx5 => ?_) fun _ _ z => z)
      rw [swap] at s5 hx5
      obtain ⟨c, x5⟩ := c
      have hsz : us.length < sizeLine := Nat.lt_of_le_of_lt hn (Nat.lt_of_lt_of_le hi hz)
      cases c with
      | true =>
        rw [if_pos rfl] at po2
        show te σ2 H5 _
        refine hf a σ2 I5 _ (eI.trans e5) (eC ws4) (hm _ _ _ _ _ _ e5 pa) x5 ws4 I5 _ H5 (Ex.refl _) off_ex s5 (hcp ws4) hx5 _ ((Post.bind po2).mono (fun d po3 v2 ws6 I6 H6 e6 s6 hx6 rv => ?_) fun _ _ z => z)
        rw [swap] at s6 hx6 rv
        refine ⟨us, s6.c D _ upd_same, hsz, ⟨ys ++ [d.1], us ++ [v2], ws6, d.2, I6, e3.trans (e4.trans (e5.trans e6)), ?_, It.im hx6, by rw [List.length_append]; exact Nat.succ_le_succ hn, ?_, ?_⟩⟩
        · have z := s6.set (o := .lst (us ++ [v2])) (p := D) upd_same
          rw [upd_upd] at z
          exact z
        · exact (r3.imp fun _ _ => S.mono (e4.trans (e5.trans e6)) (Ex.refl _)).append (.one (Im.im rv))
        · refine (Post.bind po3).mono (fun zs z => ?_) fun _ _ z => z
          show ∀ v ws' I2 H2, Ex I1 I2 → St I2 (upd C1 p (.lst ws')) H2 → M.r zs.2 ws' I2 (upd C1 p (.lst ws')) → (pL S).r (ys ++ [d.1] ++ zs.1) v I2 (upd C1 p (.lst ws')) → Q v H2
          rw [List.append_assoc]
          exact z
      | false =>
        rw [if_neg Bool.false_ne_true] at po2
        exact ⟨ys, us, ws4, x5, I5, e3.trans (e4.trans e5), s5, It.im hx5, Nat.le_succ_of_le hn, r3.imp fun _ _ => S.mono (e4.trans e5) (Ex.refl _), po2⟩
    · rw [List.drop_length] at po
      have po2 : ∀ v ws' I2 H2, Ex I1 I2 → St I2 (upd C1 p (.lst ws')) H2 → M.r x3 ws' I2 (upd C1 p (.lst ws')) → (pL S).r (ys ++ []) v I2 (upd C1 p (.lst ws')) → Q v H2 := po
      rw [List.append_nil] at po2
      have sf := s3.frz (p := D) upd_same
      have iD : I' D = none := s3.freeI upd_same
      refine po2 (.ref D) ws3 (upd I' D (.lst us)) H (e2.trans (e3.trans (Ex.new iD))) (sf.less fun a o ha => ?_) (It.im (M.mono (Ex.new iD) (Ex.refl _) hx3)) ⟨D, us, rfl, upd_same, Nat.le_trans hn hz, r3.imp fun _ _ h => Im.im (S.mono (Ex.new iD) (Ex.refl _) h)⟩
      have hne : a ≠ D := fun z => by
        rw [z, upd_ne hDp, cD] at ha
        cases ha
      show (if a = D then none else upd (upd C1 p (.lst ws3)) D (.lst us) a) = some o
      rw [if_neg hne, upd_ne hne]
      exact ha) fun _ _ z => z)
end
end Sd
namespace Sd
open PySem L2
def idxR {α : Type} [DecidableEq α] (xs : List α) (x : α) : Res Int := match xs.findIdx? fun y => decide (y = x) with
  | some i => .ok (i : Int)
  | none => .bad
section
variable {E : XK} {K : PySem.W.Frag} {σ : L2.St} {I C : Hp} {α : Type} {R : Rp α} {te tx : TE} {m : Res (List α)} {n : Res α}
theorem x_index [DecidableEq α] [Im R] {f : α → V} (F : Fl R f) (h : EvX E K te σ I C m (pL R)) (h' : EvX E K tx σ I C n R) : EvX E K (tBM K "list" (rIndex K) te (tCons tx tNil)) σ I C (bin idxR m n) pI := fun I1 C1 H1 e e' s Q q =>
  h I1 C1 H1 e e' s _ ((Post.bind q).mono (fun xs p v I2 H2 e2 s2 rv => by
    obtain ⟨a, us, rfl, h2, h3, h4⟩ := rv
    refine ⟨.inl ⟨rfl, us, .inl (.inl (s2.i a _ h2))⟩, ?_⟩
    refine h' I2 C1 H2 (e.trans e2) e' s2 _ ((Post.bind p).mono (fun x p2 w I3 H3 e3 s3 rw => ?_) fun c i z => z.mono e2 (Ex.refl _))
    have ew := F.is rw
    have eu := A2.map_iff (fun _ _ h => F.is h) h4
    subst ew eu
    unfold idxR at p2
    cases hj : xs.findIdx? fun y => decide (y = x) with
    | none =>
      rw [hj] at p2
      exact p2.elim
    | some j =>
      rw [hj] at p2
      obtain ⟨hlt, hp, hno⟩ := List.findIdx?_eq_some_iff_getElem.mp hj
      refine ⟨a, _, _, j, f (xs[j]), rfl, rfl, .inl (.inl (s3.i a _ (e3 a _ h2))), F.flat x, allFlat F xs, by rw [List.getElem?_map, List.getElem?_eq_getElem hlt]; rfl, (F.eq _ _).mpr (of_decide_eq_true hp), fun k z' hk hz => ?_, p2 _ I3 H3 (e2.trans e3) s3 rfl⟩
      rw [List.getElem?_map] at hz
      have hk2 : k < xs.length := Nat.lt_trans hk hlt
      rw [List.getElem?_eq_getElem hk2] at hz
      cases hz
      refine Bool.eq_false_iff.mpr fun z => ?_
      have := hno k hk
      exact this (decide_eq_true ((F.eq _ _).mp z))) fun _ _ z => z)
end
end Sd
namespace L2
theorem Room.units1 {k : Nat} {A : PySem.Around} (r : Room k A) : A.units + 1 < PySem.cLine := by have := r.un; omega
end L2
namespace Sd
open PySem L2
section
variable {E : XK} {K : PySem.W.Frag} {α β : Type}
theorem o_lenXT {T : Rt α} {T' : Rt β} (h : T'.n = T.n) : OpL E K (fun xs H Q => ∃ p ys, xs = [.ref p] ∧ (SqL K H p ys ∨ SqT K H p ys) ∧ Q (.int ys.length) H) (fun _ => .ok (T.n : Int)) (t1 (pX (pT T) (pT T'))) pI := fun I C H a vs s hv Q q => by
  obtain ⟨v, rfl, r⟩ := hv
  cases a with
  | inl a =>
    obtain ⟨p, us, rfl, h1, h2⟩ := r
    exact ⟨p, us, rfl, .inr (.inl (.inl (s.i _ _ h1))), by rw [T.len h2]; exact PQ.now q s rfl⟩
  | inr a =>
    obtain ⟨p, us, rfl, h1, h2⟩ := r
    exact ⟨p, us, rfl, .inr (.inl (.inl (s.i _ _ h1))), by rw [T'.len h2, h]; exact PQ.now q s rfl⟩
end
end Sd
namespace Sd
open PySem L2
def pjS {α β γ : Type} (f : α → γ) (g : β → γ) (x : α ⊕ β) : Res γ := match x with
  | .inl a => .ok (f a)
  | .inr b => .ok (g b)
section
variable {E : XK} {K : PySem.W.Frag} {α β γ : Type} {T : Rt α} {T' : Rt β} {S : Rp γ}
theorem o_pjX {k : Nat} {f : α → γ} {g : β → γ} (j : Pj T k f S) (j' : Pj T' k g S) : Op1 E K (fun x H Q => rIxT K x (.int (k : Int)) H Q) (pjS f g) (pX (pT T) (pT T')) S := fun I C H a x s hx Q q => by
  cases a with
  | inl a =>
    obtain ⟨p, vs, rfl, h2, h3⟩ := hx
    obtain ⟨w, e, r⟩ := j a vs I C h3
    exact ⟨p, vs, _, w, rfl, rfl, .inl (.inl (s.i p _ h2)), atI_nat e, PQ.now q s r⟩
  | inr a =>
    obtain ⟨p, vs, rfl, h2, h3⟩ := hx
    obtain ⟨w, e, r⟩ := j' a vs I C h3
    exact ⟨p, vs, _, w, rfl, rfl, .inl (.inl (s.i p _ h2)), atI_nat e, PQ.now q s r⟩
end
end Sd

namespace Sd
open PySem L2
/-! ### plain laws of the mirrors -/
/-- m comes to an answer that is so -/
abbrev Is {α : Type} (m : Res α) (Q : α → Prop) : Prop := Post m Q XF
theorem is_iff {α : Type} {m : Res α} {Q : α → Prop} : Is m Q ↔ ∃ a, m = .ok a ∧ Q a := by
  cases m with
  | ok a => exact ⟨fun h => ⟨a, rfl, h⟩, fun ⟨b, e, h⟩ => by cases e; exact h⟩
  | exc c i => exact ⟨fun h => h.elim, fun ⟨b, e, h⟩ => by cases e⟩
  | bad => exact ⟨fun h => h.elim, fun ⟨b, e, h⟩ => by cases e⟩
theorem Is.ok {α : Type} {a : α} {Q : α → Prop} (h : Q a) : Is (.ok a) Q := h
theorem Is.eq {α : Type} {m : Res α} {a : α} (h : Is m (· = a)) : m = .ok a := by
  obtain ⟨b, e, h⟩ := is_iff.mp h
  rw [e, h]
theorem Is.of {α : Type} {m : Res α} {a : α} {Q : α → Prop} (e : m = .ok a) (h : Q a) : Is m Q := by
  rw [e]
  exact h
theorem Is.get {α : Type} {m : Res α} {Q : α → Prop} (h : Is m Q) : ∃ a, m = .ok a ∧ Q a := is_iff.mp h
theorem Is.bind {α β : Type} {m : Res α} {k : α → Res β} {Q : α → Prop} {R : β → Prop} (h : Is m Q) (hk : ∀ a, Q a → Is (k a) R) : Is (m.bind k) R := by
  obtain ⟨a, e, h⟩ := h.get
  rw [e]
  exact hk a h
theorem Is.imp {α : Type} {m : Res α} {Q R : α → Prop} (h : Is m Q) (hk : ∀ a, Q a → R a) : Is m R := Post.mono h hk fun _ _ z => z
section
variable {α β γ S ρ : Type}
/-- a loop keeps a word -/
theorem loopN_inv {f : α → S → Res S} (J : Nat → S → Prop) {xs : List α} {s : S} (h0 : J 0 s) (h : ∀ i x s, xs[i]? = some x → J i s → Is (f x s) (J (i + 1))) : Is (loopN f xs s) (J xs.length) := by
  induction xs generalizing J s with
  | nil => exact h0
  | cons x xs ih =>
    rw [loopN_cons]
    refine Is.bind (h 0 x s rfl h0) fun s' h1 => ?_
    exact ih (fun i => J (i + 1)) h1 fun i y s hy hj => h (i + 1) y s hy hj
theorem loopN_pure {f : α → S → Res S} {g : S → α → S} {xs : List α} {s : S} (h : ∀ x s, f x s = .ok (g s x)) : loopN f xs s = .ok (xs.foldl g s) := loopN_ok fun x _ s => h x s
/-- a loop that may return: the first turn that does -/
theorem loopR_find {f : α → Unit → Res (Out Unit ρ)} {g : α → Option ρ} : ∀ {xs : List α}, (∀ x, x ∈ xs → f x () = .ok (match g x with | some r => .rt r | none => .nx ())) → loopR f xs () = .ok (match xs.findSome? g with | some r => .rt r | none => .nx ())
  | [], _ => rfl
  | x :: xs, h => by
    rw [loopR_cons, h x List.mem_cons_self, List.findSome?_cons]
    cases q : g x with
    | some r => rfl
    | none => exact loopR_find fun y hy => h y (List.mem_cons_of_mem _ hy)
theorem loopR_any {f : α → Unit → Res (Out Unit ρ)} {p : α → Bool} {r : ρ} : ∀ {xs : List α}, (∀ x, x ∈ xs → f x () = .ok (if p x = true then .rt r else .nx ())) → loopR f xs () = .ok (if xs.any p = true then .rt r else .nx ())
  | [], _ => rfl
  | x :: xs, h => by
    rw [loopR_cons, h x List.mem_cons_self, List.any_cons]
    cases q : p x with
    | true => rfl
    | false => exact loopR_any fun y hy => h y (List.mem_cons_of_mem _ hy)
theorem filR_id {p : α → Res Bool} {q : α → Bool} {xs : List α} (h : ∀ x, x ∈ xs → p x = .ok (q x)) : filR p (fun x => .ok x) xs = .ok (xs.filter q) := by
  rw [filR_ok (g := fun x => x) h fun _ _ _ => rfl, List.map_id']
theorem findSome_none {g : α → Option β} {xs : List α} (h : xs.findSome? g = none) : ∀ x, x ∈ xs → g x = none := List.findSome?_eq_none_iff.mp h
theorem findSome_some {g : α → Option β} {b : β} : ∀ {xs : List α}, xs.findSome? g = some b → ∃ x, x ∈ xs ∧ g x = some b
  | [], h => by cases h
  | x :: xs, h => by
    rw [List.findSome?_cons] at h
    cases q : g x with
    | some c =>
      rw [q] at h
      exact ⟨x, List.mem_cons_self, q.trans h⟩
    | none =>
      rw [q] at h
      obtain ⟨y, hy, e⟩ := findSome_some h
      exact ⟨y, List.mem_cons_of_mem _ hy, e⟩
/-- a loop that appends -/
theorem loopN_app {f : α → List β → Res (List β)} {q : α → Bool} {g : α → β} : ∀ {xs : List α} {acc : List β}, (∀ x a, x ∈ xs → a.length < 1000000 → f x a = .ok (if q x = true then a ++ [g x] else a)) → acc.length + xs.length < 1000000 → loopN f xs acc = .ok (acc ++ (xs.filter q).map g)
  | [], acc, _, _ => by rw [List.filter_nil, List.map_nil, List.append_nil]; rfl
  | x :: xs, acc, h, hl => by
    rw [List.length_cons] at hl
    rw [loopN_cons, h x acc List.mem_cons_self (by omega)]
    cases q1 : q x with
    | true =>
      rw [if_pos rfl, Res.bind_ok, loopN_app (fun y a hy => h y a (List.mem_cons_of_mem _ hy)) (by rw [List.length_append, List.length_singleton]; omega), List.filter_cons, if_pos q1, List.map_cons, List.append_assoc]
      rfl
    | false =>
      rw [if_neg (by decide), Res.bind_ok, loopN_app (fun y a hy => h y a (List.mem_cons_of_mem _ hy)) (by omega), List.filter_cons, if_neg (by rw [q1]; decide)]
theorem mem_enumF {xs : List α} {y : Int × α} : y ∈ enumF 0 xs ↔ ∃ i : Nat, xs[i]? = some y.2 ∧ y.1 = (i : Int) := by
  rw [List.mem_iff_getElem?]
  constructor
  · rintro ⟨i, h⟩
    rw [enumF_get] at h
    cases q : xs[i]? with
    | none =>
      rw [q] at h
      cases h
    | some x =>
      rw [q] at h
      cases h
      exact ⟨i, q, by simp⟩
  · rintro ⟨i, h1, h2⟩
    refine ⟨i, ?_⟩
    rw [enumF_get, h1]
    obtain ⟨a, b⟩ := y
    simp only at h2
    subst h2
    simp
theorem enumF_lt : ∀ (xs : List α) (k : Int), (enumF k xs).Pairwise fun a b => a.1 < b.1
  | [], _ => .nil
  | x :: xs, k => by
    rw [enumF, List.pairwise_cons]
    refine ⟨fun y hy => ?_, enumF_lt xs (k + 1)⟩
    obtain ⟨i, h⟩ := List.mem_iff_getElem?.mp hy
    rw [enumF_get] at h
    cases q : xs[i]? with
    | none =>
      rw [q] at h
      cases h
    | some z =>
      rw [q] at h
      cases h
      dsimp only
      omega
/-- a loop that might return, but does not -/
theorem loopR_inv {f : α → S → Res (Out S ρ)} {J : S → Prop} : ∀ {xs : List α} {s : S}, J s → (∀ x s, x ∈ xs → J s → Is (f x s) fun o => ∃ s', o = .nx s' ∧ J s') → Is (loopR f xs s) fun o => ∃ s', o = .nx s' ∧ J s'
  | [], s, h0, _ => ⟨s, rfl, h0⟩
  | x :: xs, s, h0, h => by
    rw [loopR_cons]
    refine Is.bind (h x s List.mem_cons_self h0) fun o ⟨s', e, h1⟩ => ?_
    subst e
    exact loopR_inv h1 fun y s hy => h y s (List.mem_cons_of_mem _ hy)
theorem ix_nat {xs : List α} {i : Nat} {x : α} (h : xs[i]? = some x) : ix xs (i : Int) = .ok x := by
  unfold ix
  rw [if_pos (by omega), Int.toNat_natCast, h]
theorem ix_get {xs : List α} {i : Int} (h0 : 0 ≤ i) (h1 : i < xs.length) : ∃ x, ix xs i = .ok x ∧ xs[i.toNat]? = some x := by
  obtain ⟨n, rfl⟩ := Int.eq_ofNat_of_zero_le h0
  have hn : n < xs.length := by omega
  exact ⟨xs[n], ix_nat (by simp [hn]), by simp [hn]⟩
theorem ix_getD {xs : List α} {i : Int} {d : α} (h0 : 0 ≤ i) (h1 : i < xs.length) : ix xs i = .ok (xs.getD i.toNat d) := by
  obtain ⟨x, e, h⟩ := ix_get h0 h1
  rw [e, List.getD_eq_getElem?_getD, h]
  rfl
theorem setR_nat {xs : List α} {i : Int} {x : α} (h0 : 0 ≤ i) (h1 : i < xs.length) : setR xs i x = .ok (xs.set i.toNat x) := by
  unfold setR ixN
  rw [if_pos h0, if_pos h1]
theorem cut_lo {xs : List α} {k : Int} (h : 0 ≤ k) : cut xs none (some k) = xs.take k.toNat := by
  unfold cut
  rw [HT.sIx_none]
  show (xs.drop 0).take ((if k < 0 then (k + (xs.length : Int)).toNat else min k.toNat xs.length) - 0) = _
  rw [if_neg (by omega), List.drop_zero, Nat.sub_zero, ← List.take_eq_take_min]
theorem cut_hi {xs : List α} {k : Int} (h : 0 ≤ k) : cut xs (some k) none = xs.drop k.toNat := by
  unfold cut
  rw [HT.sIx_none]
  show (xs.drop (if k < 0 then (k + (xs.length : Int)).toNat else min k.toNat xs.length)).take (xs.length - (if k < 0 then (k + (xs.length : Int)).toNat else min k.toNat xs.length)) = _
  rw [if_neg (by omega), List.take_of_length_le (by rw [List.length_drop]; exact Nat.le_refl _)]
  by_cases hk : k.toNat ≤ xs.length
  · rw [Nat.min_eq_left hk]
  · rw [Nat.min_eq_right (by omega), List.drop_length, List.drop_eq_nil_of_le (by omega)]
theorem cut_last {xs : List α} : cut xs none (some (-1)) = xs.dropLast := by
  unfold cut
  rw [HT.sIx_none]
  show (xs.drop 0).take ((if (-1 : Int) < 0 then ((-1 : Int) + (xs.length : Int)).toNat else min (-1 : Int).toNat xs.length) - 0) = _
  rw [if_pos (by decide), List.drop_zero, Nat.sub_zero, List.dropLast_eq_take]
  congr 1
  omega
theorem rangeL_nat (n : Int) : rangeL 0 n = (List.range n.toNat).map fun i : Nat => (i : Int) := by
  unfold rangeL
  rw [Int.sub_zero]
  exact List.map_congr_left fun i _ => by omega
theorem loopN_inv' {f : α → S → Res S} (J : S → Prop) {xs : List α} {s : S} (h0 : J s) (h : ∀ x s, x ∈ xs → J s → Is (f x s) J) : Is (loopN f xs s) J :=
  loopN_inv (fun _ => J) h0 fun i x s hx hj => h x s (List.mem_of_getElem? hx) hj
theorem mapM_is {μ : Type} {f : α → μ → Res (β × μ)} {J : μ → Prop} {B : β → Prop} : ∀ {xs : List α} {y : μ}, J y → (∀ x y, x ∈ xs → J y → Is (f x y) fun b => B b.1 ∧ J b.2) → Is (mapM f xs y) fun c => c.1.length = xs.length ∧ (∀ b ∈ c.1, B b) ∧ J c.2
  | [], y, h0, _ => ⟨rfl, fun _ h => (nomatch h), h0⟩
  | x :: xs, y, h0, h => by
    refine Is.bind (h x y List.mem_cons_self h0) fun b hb => ?_
    refine Is.bind (mapM_is (xs := xs) hb.2 fun z w hz hw => h z w (List.mem_cons_of_mem _ hz) hw) fun c hc => ?_
    exact ⟨by simp [hc.1], fun d hd => by
      rcases List.mem_cons.mp hd with rfl | hd
      · exact hb.1
      · exact hc.2.1 d hd, hc.2.2⟩
variable {μ : Type}
@[simp] theorem callM_ok (f : α → μ → Res (β × μ)) (a : α) (x : μ) : callM f (liftM (.ok a)) x = f a x := rfl
theorem callM_eq (f : α → μ → Res (β × μ)) (m : μ → Res (α × μ)) (x : μ) : callM f m x = (m x).bind fun b => f b.1 b.2 := rfl
theorem unM_eq (f : α → Res γ) (m : μ → Res (α × μ)) (x : μ) : unM f m x = (m x).bind fun b => (f b.1).bind fun c => .ok (c, b.2) := rfl
theorem binM_eq (f : α → β → Res γ) (m : μ → Res (α × μ)) (n : μ → Res (β × μ)) (x : μ) : binM f m n x = (m x).bind fun b => (n b.2).bind fun d => (f b.1 d.1).bind fun c => .ok (c, d.2) := rfl
theorem pairM_eq (m : μ → Res (α × μ)) (n : μ → Res (β × μ)) (x : μ) : pairM m n x = (m x).bind fun b => (n b.2).bind fun d => .ok ((b.1, d.1), d.2) := rfl
theorem consM_eq (m : μ → Res (α × μ)) (n : μ → Res (List α × μ)) (x : μ) : consM m n x = (m x).bind fun b => (n b.2).bind fun d => .ok (b.1 :: d.1, d.2) := rfl
theorem ifMR_eq (c : μ → Res (Bool × μ)) (x : μ) (m n : μ → Res α) : ifMR c x m n = (c x).bind fun b => if b.1 = true then m b.2 else n b.2 := rfl
theorem andM_eq (m n : μ → Res (Bool × μ)) (x : μ) : andM m n x = (m x).bind fun b => if b.1 = true then n b.2 else .ok (false, b.2) := rfl
theorem slM_eq (m : Res (List α)) (lo hi : μ → Res (Option Int × μ)) (x : μ) : slM m lo hi x = m.bind fun xs => (lo x).bind fun a => (hi a.2).bind fun b => .ok (cut xs a.1 b.1, b.2) := rfl
@[simp] theorem consR_ok (a : α) (xs : List α) : consR (.ok a) (.ok xs) = .ok (a :: xs) := rfl
theorem Is.if_ {α : Type} {c : Bool} {m n : Res α} {Q : α → Prop} (h1 : c = true → Is m Q) (h2 : c = false → Is n Q) : Is (if c = true then m else n) Q := by
  cases c with
  | true => exact h1 rfl
  | false => exact h2 rfl
end
end Sd

namespace K74
open PySem L2 Sd
def top (i : Nat) : Stmt := PySem.Challenge.pw_stormdesk_k74_whole_naming.main.body.getD i (.Pass ⟨0, 0, 0, 0⟩)

abbrev s_children : Stmt := top 4
abbrev s_line : Stmt := top 5
abbrev s_leaves : Stmt := top 10
abbrev s_marks_fault : Stmt := top 11
abbrev s_check_wanted : Stmt := top 12
abbrev s_names_leaf : Stmt := top 13
abbrev s_named_leaves : Stmt := top 14
abbrev s_named : Stmt := top 15
abbrev s_is_naming : Stmt := top 16
abbrev s_side_sum : Stmt := top 17
abbrev s_mark_costs : Stmt := top 18
abbrev s_least_marks : Stmt := top 19
abbrev s_needs_mark : Stmt := top 20
abbrev s_cheapest_marks : Stmt := top 21
abbrev s_bound_holds : Stmt := top 22
abbrev s_is_marks_bound : Stmt := top 23
abbrev s_naming_paper : Stmt := top 24
abbrev s__law_mix : Stmt := top 26
abbrev s__law_pool : Stmt := top 27
abbrev s__law_fill : Stmt := top 28
abbrev s__law_take : Stmt := top 29
abbrev s__law_named : Stmt := top 30
abbrev s__law_costs : Stmt := top 31
abbrev s__law_bound : Stmt := top 32
abbrev s__law_are_marks : Stmt := top 33
abbrev s__law_fault : Stmt := top 34
abbrev s__law_wanted_fault : Stmt := top 35
abbrev s__law_drawn_marks_right : Stmt := top 36
abbrev s__law_changes_right : Stmt := top 37
abbrev s__law_bounds_right : Stmt := top 38
abbrev s_law : Stmt := top 39
abbrev s_err : Stmt := mth (top 1)
def knE (c : Ec) : Bool := decide (c ∈ ([.DeskError, .BadArea] : List Ec))
structure Tx (K : PySem.W.Frag) (mg : Str → Option Value) where
  f_children : Addr
  d_children : FuncData
  f_line : Addr
  d_line : FuncData
  f_leaves : Addr
  d_leaves : FuncData
  f_marks_fault : Addr
  d_marks_fault : FuncData
  f_check_wanted : Addr
  d_check_wanted : FuncData
  f_names_leaf : Addr
  d_names_leaf : FuncData
  f_named_leaves : Addr
  d_named_leaves : FuncData
  f_named : Addr
  d_named : FuncData
  f_is_naming : Addr
  d_is_naming : FuncData
  f_side_sum : Addr
  d_side_sum : FuncData
  f_mark_costs : Addr
  d_mark_costs : FuncData
  f_least_marks : Addr
  d_least_marks : FuncData
  f_needs_mark : Addr
  d_needs_mark : FuncData
  f_cheapest_marks : Addr
  d_cheapest_marks : FuncData
  f_bound_holds : Addr
  d_bound_holds : FuncData
  f_is_marks_bound : Addr
  d_is_marks_bound : FuncData
  f_naming_paper : Addr
  d_naming_paper : FuncData
  f__law_mix : Addr
  d__law_mix : FuncData
  f__law_pool : Addr
  d__law_pool : FuncData
  f__law_fill : Addr
  d__law_fill : FuncData
  f__law_take : Addr
  d__law_take : FuncData
  f__law_named : Addr
  d__law_named : FuncData
  f__law_costs : Addr
  d__law_costs : FuncData
  f__law_bound : Addr
  d__law_bound : FuncData
  f__law_are_marks : Addr
  d__law_are_marks : FuncData
  f__law_fault : Addr
  d__law_fault : FuncData
  f__law_wanted_fault : Addr
  d__law_wanted_fault : FuncData
  f__law_drawn_marks_right : Addr
  d__law_drawn_marks_right : FuncData
  f__law_changes_right : Addr
  d__law_changes_right : FuncData
  f__law_bounds_right : Addr
  d__law_bounds_right : FuncData
  f_law : Addr
  d_law : FuncData
  F_children : FunD K "children" "children" (defArgs s_children) (defBody s_children) (defScope s_children) [] [] f_children d_children
  g_children : mg "children" = some (.ref f_children)
  F_line : FunD K "line" "line" (defArgs s_line) (defBody s_line) (defScope s_line) [] [] f_line d_line
  g_line : mg "line" = some (.ref f_line)
  F_leaves : FunD K "leaves" "leaves" (defArgs s_leaves) (defBody s_leaves) (defScope s_leaves) [] [] f_leaves d_leaves
  g_leaves : mg "leaves" = some (.ref f_leaves)
  F_marks_fault : FunD K "marks_fault" "marks_fault" (defArgs s_marks_fault) (defBody s_marks_fault) (defScope s_marks_fault) [] [] f_marks_fault d_marks_fault
  g_marks_fault : mg "marks_fault" = some (.ref f_marks_fault)
  F_check_wanted : FunD K "check_wanted" "check_wanted" (defArgs s_check_wanted) (defBody s_check_wanted) (defScope s_check_wanted) [] [] f_check_wanted d_check_wanted
  g_check_wanted : mg "check_wanted" = some (.ref f_check_wanted)
  F_names_leaf : FunD K "names_leaf" "names_leaf" (defArgs s_names_leaf) (defBody s_names_leaf) (defScope s_names_leaf) [] [] f_names_leaf d_names_leaf
  g_names_leaf : mg "names_leaf" = some (.ref f_names_leaf)
  F_named_leaves : FunD K "named_leaves" "named_leaves" (defArgs s_named_leaves) (defBody s_named_leaves) (defScope s_named_leaves) [] [] f_named_leaves d_named_leaves
  g_named_leaves : mg "named_leaves" = some (.ref f_named_leaves)
  F_named : FunD K "named" "named" (defArgs s_named) (defBody s_named) (defScope s_named) [] [] f_named d_named
  g_named : mg "named" = some (.ref f_named)
  F_is_naming : FunD K "is_naming" "is_naming" (defArgs s_is_naming) (defBody s_is_naming) (defScope s_is_naming) [] [] f_is_naming d_is_naming
  g_is_naming : mg "is_naming" = some (.ref f_is_naming)
  F_side_sum : FunD K "side_sum" "side_sum" (defArgs s_side_sum) (defBody s_side_sum) (defScope s_side_sum) [] [] f_side_sum d_side_sum
  g_side_sum : mg "side_sum" = some (.ref f_side_sum)
  F_mark_costs : FunD K "mark_costs" "mark_costs" (defArgs s_mark_costs) (defBody s_mark_costs) (defScope s_mark_costs) [] [] f_mark_costs d_mark_costs
  g_mark_costs : mg "mark_costs" = some (.ref f_mark_costs)
  F_least_marks : FunD K "least_marks" "least_marks" (defArgs s_least_marks) (defBody s_least_marks) (defScope s_least_marks) [] [] f_least_marks d_least_marks
  g_least_marks : mg "least_marks" = some (.ref f_least_marks)
  F_needs_mark : FunD K "needs_mark" "needs_mark" (defArgs s_needs_mark) (defBody s_needs_mark) (defScope s_needs_mark) [] [] f_needs_mark d_needs_mark
  g_needs_mark : mg "needs_mark" = some (.ref f_needs_mark)
  F_cheapest_marks : FunD K "cheapest_marks" "cheapest_marks" (defArgs s_cheapest_marks) (defBody s_cheapest_marks) (defScope s_cheapest_marks) [] [] f_cheapest_marks d_cheapest_marks
  g_cheapest_marks : mg "cheapest_marks" = some (.ref f_cheapest_marks)
  F_bound_holds : FunD K "bound_holds" "bound_holds" (defArgs s_bound_holds) (defBody s_bound_holds) (defScope s_bound_holds) [] [] f_bound_holds d_bound_holds
  g_bound_holds : mg "bound_holds" = some (.ref f_bound_holds)
  F_is_marks_bound : FunD K "is_marks_bound" "is_marks_bound" (defArgs s_is_marks_bound) (defBody s_is_marks_bound) (defScope s_is_marks_bound) [] [] f_is_marks_bound d_is_marks_bound
  g_is_marks_bound : mg "is_marks_bound" = some (.ref f_is_marks_bound)
  F_naming_paper : FunD K "naming_paper" "naming_paper" (defArgs s_naming_paper) (defBody s_naming_paper) (defScope s_naming_paper) [] [] f_naming_paper d_naming_paper
  g_naming_paper : mg "naming_paper" = some (.ref f_naming_paper)
  F__law_mix : FunD K "_law_mix" "_law_mix" (defArgs s__law_mix) (defBody s__law_mix) (defScope s__law_mix) [] [] f__law_mix d__law_mix
  g__law_mix : mg "_law_mix" = some (.ref f__law_mix)
  F__law_pool : FunD K "_law_pool" "_law_pool" (defArgs s__law_pool) (defBody s__law_pool) (defScope s__law_pool) [] [] f__law_pool d__law_pool
  g__law_pool : mg "_law_pool" = some (.ref f__law_pool)
  F__law_fill : FunD K "_law_fill" "_law_fill" (defArgs s__law_fill) (defBody s__law_fill) (defScope s__law_fill) [] [] f__law_fill d__law_fill
  g__law_fill : mg "_law_fill" = some (.ref f__law_fill)
  F__law_take : FunD K "_law_take" "_law_take" (defArgs s__law_take) (defBody s__law_take) (defScope s__law_take) [] [] f__law_take d__law_take
  g__law_take : mg "_law_take" = some (.ref f__law_take)
  F__law_named : FunD K "_law_named" "_law_named" (defArgs s__law_named) (defBody s__law_named) (defScope s__law_named) [] [] f__law_named d__law_named
  g__law_named : mg "_law_named" = some (.ref f__law_named)
  F__law_costs : FunD K "_law_costs" "_law_costs" (defArgs s__law_costs) (defBody s__law_costs) (defScope s__law_costs) [] [] f__law_costs d__law_costs
  g__law_costs : mg "_law_costs" = some (.ref f__law_costs)
  F__law_bound : FunD K "_law_bound" "_law_bound" (defArgs s__law_bound) (defBody s__law_bound) (defScope s__law_bound) [] [] f__law_bound d__law_bound
  g__law_bound : mg "_law_bound" = some (.ref f__law_bound)
  F__law_are_marks : FunD K "_law_are_marks" "_law_are_marks" (defArgs s__law_are_marks) (defBody s__law_are_marks) (defScope s__law_are_marks) [] [] f__law_are_marks d__law_are_marks
  g__law_are_marks : mg "_law_are_marks" = some (.ref f__law_are_marks)
  F__law_fault : FunD K "_law_fault" "_law_fault" (defArgs s__law_fault) (defBody s__law_fault) (defScope s__law_fault) [] [] f__law_fault d__law_fault
  g__law_fault : mg "_law_fault" = some (.ref f__law_fault)
  F__law_wanted_fault : FunD K "_law_wanted_fault" "_law_wanted_fault" (defArgs s__law_wanted_fault) (defBody s__law_wanted_fault) (defScope s__law_wanted_fault) [] [] f__law_wanted_fault d__law_wanted_fault
  g__law_wanted_fault : mg "_law_wanted_fault" = some (.ref f__law_wanted_fault)
  F__law_drawn_marks_right : FunD K "_law_drawn_marks_right" "_law_drawn_marks_right" (defArgs s__law_drawn_marks_right) (defBody s__law_drawn_marks_right) (defScope s__law_drawn_marks_right) [] [] f__law_drawn_marks_right d__law_drawn_marks_right
  g__law_drawn_marks_right : mg "_law_drawn_marks_right" = some (.ref f__law_drawn_marks_right)
  F__law_changes_right : FunD K "_law_changes_right" "_law_changes_right" (defArgs s__law_changes_right) (defBody s__law_changes_right) (defScope s__law_changes_right) [] [] f__law_changes_right d__law_changes_right
  g__law_changes_right : mg "_law_changes_right" = some (.ref f__law_changes_right)
  F__law_bounds_right : FunD K "_law_bounds_right" "_law_bounds_right" (defArgs s__law_bounds_right) (defBody s__law_bounds_right) (defScope s__law_bounds_right) [] [] f__law_bounds_right d__law_bounds_right
  g__law_bounds_right : mg "_law_bounds_right" = some (.ref f__law_bounds_right)
  F_law : FunD K "law" "law" (defArgs s_law) (defBody s_law) (defScope s_law) [] [] f_law d_law
  g_law : mg "law" = some (.ref f_law)
  gb_bool : mg "bool" = none
  gb_enumerate : mg "enumerate" = none
  gb_int : mg "int" = none
  gb_isinstance : mg "isinstance" = none
  gb_len : mg "len" = none
  gb_list : mg "list" = none
  gb_max : mg "max" = none
  gb_min : mg "min" = none
  gb_range : mg "range" = none
  gb_reversed : mg "reversed" = none
  gb_sum : mg "sum" = none
  gb_tuple : mg "tuple" = none
  gs_WITH : ∃ t, mg "WITH" = some (.str "with" t)
  gt_WORDS : mg "WORDS" = some (.ref (He.ga K "WORDS")) ∧ ∀ H, SqT K H (He.ga K "WORDS") [.str "without", .str "with"]
  f_err : Addr
  d_err : FuncData
  F_err : ErrF K s_err f_err d_err
  xs : ∀ c, knE c = true → ErrC K mg f_err c
  ki : ∀ c b, knE c = true → knE b = true → PySem.W.kitOne K (.ref (He.ga K c.name)) (.ref (He.ga K b.name)) = some (isaE c b)
  ex : ∀ c b, knE c = true → knE b = true → PySem.W.exmOne K (.ref (He.ga K c.name)) (.ref (He.ga K b.name)) = some (isaE c b)
noncomputable section
variable {P : Program} {w : World} {K : PySem.W.Frag} {mg : Str → Option Value} {base : Heap}
theorem sc_err : FnScope ["self", "at"] ["self", "at"] (defScope s_err) := ⟨rfl, rfl, rfl, by decide +kernel, rfl, by decide +kernel, by decide +kernel⟩
theorem bind_err {K : PySem.W.Frag} {mg : Str → Option Value} {T : Tx K mg} : Binds K T.d_err ["self", "at"] [] := by
  obtain ⟨ds, h1, h2⟩ := FunD.binds1 T.F_err (ps := ["self", "at"]) 2 1 (by decide) rfl fun _ _ _ _ _ _ _ us its hu hi => match us, its, hu, hi with | [_, _], [_], _, _ => ⟨_, rfl, rfl⟩
  cases h1
  exact h2
theorem ok_err (T : Tx K mg) : FnOk P w K mg base (L2.CX P w) 1 T.f_err T.d_err ["self", "at"] (spInit K) := by
  refine T.F_err.ok sc_err (fun vs H Q E h => ?_) (fun cdv A outer s H vs Q E hr h => ?_)
  · obtain ⟨a, C, i, rfl, _⟩ := h
    rfl
  · obtain ⟨a, C, i, rfl, ho, hn, ha, hq⟩ := h
    exact ⟨_, pss_cons (ps_ost (pv 0) (pv 1)) pss_nil, _, rfl, _, rfl, a, C, rfl, ho, hn, .inl ⟨ha, fun dx h1 h2 => hq dx h1 h2⟩⟩
def m_children (ar_parents : (List Int)) (ar_k : Int) : Res (List Int) :=
  (((un enumR (Res.ok ar_parents)).bind (filR (fun (x_1 : (Int × Int)) => (bin eqR (Res.ok x_1.2) (Res.ok ar_k))) (fun (x_1 : (Int × Int)) => (Res.ok x_1.1)))).bind fun a_10 => Res.ok a_10)
abbrev N_children : List Str := ["parents", "k", "child", "parent"]
theorem sc_children : FnScope N_children ["parents", "k"] (defScope s_children) := ⟨rfl, rfl, rfl, by decide +kernel, rfl, by decide +kernel, by decide +kernel⟩
theorem bind_children {K : PySem.W.Frag} {mg : Str → Option Value} {T : Tx K mg} : Binds K T.d_children ["parents", "k"] [] := FunD.bindsN T.F_children fun _ _ _ _ _ _ us hl => match us, hl with | [_, _], _ => rfl
abbrev sp_children (K : PySem.W.Frag) : Sp := spP K (tc (pL pI) (t1 pI)) (fun (p : ((List Int) × Int)) => m_children p.1 p.2) (pL pI)
theorem ok_children (T : Tx K mg) : FnOk P w K mg base (L2.CX P w) 1 T.f_children T.d_children ["parents", "k"] (sp_children K) := by
  refine T.F_children.ok sc_children (fun vs H Q E h => ?_) (fun cdv A outer s H vs Q E hr h => ?_)
  · obtain ⟨I, C, a, _, hr, _⟩ := h
    exact Rt.len _ hr
  · obtain ⟨I0, C0, ⟨ar_parents, ar_k⟩, hs, ⟨v_parents, us0, rfl, r_parents, v_k, rfl, r_k⟩, hm⟩ := h
    have hm : Post (m_children ar_parents ar_k) (PQ (pL pI) I0 C0 Q) (PX E K I0 C0) := hm
    replace r_parents : Rp.r (pL pI) ar_parents v_parents I0 Z := Im.im r_parents
    replace r_k : Rp.r pI ar_k v_k I0 Z := Im.im r_k
    unfold m_children at hm
    refine ⟨_, (pss_cons (ps_ret (pe_lc (own := [("child", 2), ("parent", 3)]) rfl sc_children.nd (show PI _ _ _ (iEnum K _) from pi_enum (by rfl) T.gb_enumerate (pa_cons (pv 0) pa_nil)) (blkOk_by (own := [("child", 2), ("parent", 3)]) (N := N_children) (sc := defScope s_children) (by decide +kernel)) (fun _ _ _ _ _ => (show PG _ _ (gTup K 2 _) from pg_tup rfl (pgs_cons (pg_name (i := 2) sc_children.nd rfl (Or.inl rfl)) (pgs_cons (pg_name (i := 3) sc_children.nd rfl (Or.inl rfl)) pgs_nil)))) (fun _ _ _ _ _ => (pts_one (pt_cmpR op_eq (pv 3) (pv 1) (nomark _)))) (fun _ _ _ _ _ => (pv 2)))) pss_nil), ?_⟩
    refine q_ret (tz := tNext) (E := E) (K := K) (σ := [some v_parents, some v_k, none, none]) (x_lcg (i_enum (a_one (x_var (i := 0) rfl (Rp.mono _ (Ex.refl _) exz r_parents)))) g2 (fun _ _ _ _ ⟨_, _, h, _, _⟩ => by rw [h]; rfl) (fun x_1 σ2 I_2 C_3 e_4 c_5 ⟨v_6, v_7, h, r_8, r_9⟩ => by subst h; exact (t_test (x_op o_eqI (x_var (i := 3) rfl (Rp.mono _ (Ex.refl _) exz r_9)) (x_var (i := 1) rfl (Rp.mono _ e_4 exz r_k))))) (fun x_1 σ2 I_2 C_3 e_4 c_5 ⟨v_6, v_7, h, r_8, r_9⟩ => by subst h; exact (x_var (i := 2) rfl (Rp.mono _ (Ex.refl _) exz r_8))) (fun _ _ _ _ _ e ⟨v_6, v_7, h, r_8, r_9⟩ => ⟨v_6, v_7, h, Rp.mono _ e exz r_8, Rp.mono _ e exz r_9⟩)) hs (fun _ _ h => PX.mono (Ex.refl _) (Ex.refl _) h) hm fun a_10 v_11 I_12 H_13 e_14 s_15 r_16 hm => ?_
    exact hm v_11 I_12 H_13 e_14 (St.less s_15 (Ex.refl _)) (Im.im r_16)
def m_line (ar_parents : (List Int)) (ar_k : Int) : Res (List Int) :=
  ((consR (Res.ok ar_k) (Res.ok [])).bind fun (result_1 : (List Int)) => ((whileF (fun (z_16 : (Int × (List Int))) => (bin rGe (bin ix (Res.ok ar_parents) (Res.ok z_16.1)) (Res.ok (0 : Int)))) (fun (z_16 : (Int × (List Int))) => ((bin ix (Res.ok ar_parents) (Res.ok z_16.1)).bind fun (k_32 : Int) => (((Res.ok k_32).bind fun x => push z_16.2 x).bind fun (result_39 : (List Int)) => (Res.ok (Out.nx (k_32, result_39)))))) fuel (ar_k, result_1)).bind fun (o : Out (Int × (List Int)) (List Int)) => match o with | .nx z_56 => (Res.ok z_56.2) | .br _ => Res.bad | .rt r => Res.ok r))
abbrev N_line : List Str := ["parents", "k", "result"]
theorem sc_line : FnScope N_line ["parents", "k"] (defScope s_line) := ⟨rfl, rfl, rfl, by decide +kernel, rfl, by decide +kernel, by decide +kernel⟩
theorem bind_line {K : PySem.W.Frag} {mg : Str → Option Value} {T : Tx K mg} : Binds K T.d_line ["parents", "k"] [] := FunD.bindsN T.F_line fun _ _ _ _ _ _ us hl => match us, hl with | [_, _], _ => rfl
abbrev sp_line (K : PySem.W.Frag) : Sp := spO K (tc (pL pI) (t1 pI)) (fun (p : ((List Int) × Int)) => m_line p.1 p.2) pI
theorem ok_line (T : Tx K mg) : FnOk P w K mg base (L2.CX P w) 1 T.f_line T.d_line ["parents", "k"] (sp_line K) := by
  refine T.F_line.ok sc_line (fun vs H Q E h => ?_) (fun cdv A outer s H vs Q E hr h => ?_)
  · obtain ⟨I, C, a, _, hr, _⟩ := h
    exact Rt.len _ hr
  · obtain ⟨I0, C0, ⟨ar_parents, ar_k⟩, hs, ⟨v_parents, us0, rfl, r_parents, v_k, rfl, r_k⟩, hm⟩ := h
    have hm : Post (m_line ar_parents ar_k) (PN pI I0 C0 Q) (PX E K I0 C0) := hm
    replace r_parents : Rp.r (pL pI) ar_parents v_parents I0 Z := Im.im r_parents
    replace r_k : Rp.r pI ar_k v_k I0 Z := Im.im r_k
    unfold m_line at hm
    refine ⟨_, (pss_cons (ps_set (i := 2) sc_line.nd rfl (Or.inl rfl) (pe_lst (pa_cons (pv 1) pa_nil))) (pss_cons (ps_while (passes_of rfl) (pt_cmpR op_ge (pe_ix (r := rIxL K) ix_list (pv 0) (pv 1) (fun _ _ => rfl)) pe_int (nomark _)) (pss_cons (ps_set (i := 1) sc_line.nd rfl (Or.inl rfl) (pe_ix (r := rIxL K) ix_list (pv 0) (pv 1) (fun _ _ => rfl))) (pss_cons (ps_expr (show PE _ _ (tBM K "list" rAppend _ _) from pe_bm PySem.F.plainAttrs_list PySem.F.slot_list_append PySem.F.type_list_append mt_append (pv 2) (pa_cons (pv 1) pa_nil))) pss_nil))) (pss_cons (ps_ret (pv 2)) pss_nil))), ?_⟩
    refine q_asgN (E := E) (K := K) (σ := [some v_parents, some v_k, none]) (i := 2) (n_lst (al_cons (x_var (i := 1) rfl (Rp.mono _ (Ex.refl _) exz r_k)) al_nil) (Nat.le_of_ble_eq_true rfl)) hs (fun _ _ h => PX.mono (Ex.refl _) (Ex.refl _) h) hm fun result_1 p_2 vs_3 I_4 C_5 H_6 e_7 hp_8 s_9 hc_10 k_11 hl_12 hr_13 hm => ?_
    have hB_14 := Ex.free (Ex.refl _) hp_8
    have fr_15 := fr_keep (Ex.refl _) hB_14 k_11
    refine s_while (E := E) (K := K) (σ := [some v_parents, some v_k, some (.ref p_2)]) (fun (z_16 : (Int × (List Int))) σ2 I_18 C_19 => ∃ v_20 : V, σ2 = [some v_parents, some v_20, some (.ref p_2)] ∧ Rp.r pI z_16.1 v_20 I_18 Z ∧ (∃ vs_22 : List V, C_19 p_2 = some (.lst vs_22) ∧ vs_22.length ≤ sizeLine ∧ A2 (fun x u => Rp.r pI x u I_18 Z) z_16.2 vs_22) ∧ Ex C0 C_19) s_9 hm ⟨v_k, rfl, Rp.mono _ e_7 exz r_k, ⟨_, hc_10, hl_12, a2up (Ex.refl _) hr_13⟩, fr_15⟩ (fun z_16 σ2 I_27 C_28 e_30 ⟨v_20, hs_17, r_21, ⟨vs_22, hc_23, hl_24, hr_25⟩, fr_26⟩ => by subst hs_17; exact ⟨(t_test (x_op o_ge (x_op o_ix (x_v (x_var (i := 0) rfl (Rp.mono _ (e_7.trans e_30) exz r_parents))) (x_var (i := 1) rfl (Rp.mono _ (Ex.refl _) exz r_21))) (x_int (i := 0)))), (fun _ _ h => PX.mono (e_7.trans e_30) fr_26 h)⟩) (fun _ _ _ _ _ e ⟨v_20, hs_17, r_21, ⟨vs_22, hc_23, hl_24, hr_25⟩, fr_26⟩ => ⟨v_20, hs_17, Rp.mono _ e exz r_21, ⟨vs_22, hc_23, hl_24, a2up e hr_25⟩, fr_26⟩) (fun N z_16 σ2 I_27 C_28 H_29 e_30 s_31 ⟨v_20, hs_17, r_21, ⟨vs_22, hc_23, hl_24, hr_25⟩, fr_26⟩ hm => ?_) (fun z_56 σ2 I_51 C_52 H_53 e_54 s_55 ⟨v_60, hs_57, r_61, ⟨vs_62, hc_63, hl_64, hr_65⟩, fr_66⟩ hm => ?_)
    · subst hs_17
      refine q_asg (E := E) (K := K) (σ := [some v_parents, some v_20, some (.ref p_2)]) (i := 1) (x_op o_ix (x_v (x_var (i := 0) rfl (Rp.mono _ (e_7.trans e_30) exz r_parents))) (x_var (i := 1) rfl (Rp.mono _ (Ex.refl _) exz r_21))) s_31 (fun _ _ h => PX.mono (e_7.trans e_30) fr_26 h) hm fun k_32 v_33 I_34 H_35 e_36 s_37 r_38 hm => ?_
      refine q_app (E := E) (K := K) (σ := [some v_parents, some v_33, some (.ref p_2)]) (i := 2) rfl hc_23 (a2up e_36 hr_25) (x_var (i := 1) rfl (Rp.mono _ (Ex.refl _) exz r_38)) s_37 (fun _ _ h => PX.mono (e_7.trans (e_30.trans e_36)) fr_26 h) hm fun result_39 vs_40 I_41 C_42 H_43 e_44 s_45 hc_46 k_47 hl_48 hr_49 hm => ?_
      have fr_50 := fr_keep fr_26 hB_14 k_47
      exact hm _ _ _ _ (e_36.trans e_44) s_45 ⟨v_33, rfl, Rp.mono _ e_44 exz r_38, ⟨_, hc_46, hl_48, a2up (Ex.refl _) hr_49⟩, fr_50⟩
    subst hs_57
    refine q_retO (i := 2) rfl s_55 fr_66 hB_14 hc_63 hl_64 (a2up (Ex.refl _) hr_65) fun s hr => ?_
    exact hm _ _ _ _ (e_7.trans e_54) hB_14 s hl_64 hr
def m_leaves (ar_parents : (List Int)) : Res (List Int) :=
  (((un rng1 (un rLen (Res.ok ar_parents))).bind (filR (fun (x_1 : Int) => (bin ninR (Res.ok x_1) (Res.ok ar_parents))) (fun (x_1 : Int) => (Res.ok x_1)))).bind fun a_8 => Res.ok a_8)
abbrev N_leaves : List Str := ["parents", "k"]
theorem sc_leaves : FnScope N_leaves ["parents"] (defScope s_leaves) := ⟨rfl, rfl, rfl, by decide +kernel, rfl, by decide +kernel, by decide +kernel⟩
theorem bind_leaves {K : PySem.W.Frag} {mg : Str → Option Value} {T : Tx K mg} : Binds K T.d_leaves ["parents"] [] := FunD.bindsN T.F_leaves fun _ _ _ _ _ _ us hl => match us, hl with | [_], _ => rfl
abbrev sp_leaves (K : PySem.W.Frag) : Sp := spP K (t1 (pL pI)) m_leaves (pL pI)
theorem ok_leaves (T : Tx K mg) : FnOk P w K mg base (L2.CX P w) 1 T.f_leaves T.d_leaves ["parents"] (sp_leaves K) := by
  refine T.F_leaves.ok sc_leaves (fun vs H Q E h => ?_) (fun cdv A outer s H vs Q E hr h => ?_)
  · obtain ⟨I, C, a, _, hr, _⟩ := h
    exact Rt.len _ hr
  · obtain ⟨I0, C0, ar_parents, hs, ⟨v_parents, rfl, r_parents⟩, hm⟩ := h
    have hm : Post (m_leaves ar_parents) (PQ (pL pI) I0 C0 Q) (PX E K I0 C0) := hm
    replace r_parents : Rp.r (pL pI) ar_parents v_parents I0 Z := Im.im r_parents
    unfold m_leaves at hm
    refine ⟨_, (pss_cons (ps_ret (pe_lc (own := [("k", 1)]) rfl sc_leaves.nd (pi_range1 (by rfl) T.gb_range (pa_cons (pe_callB (r := rLen1 K) call_len_seq (by rfl) T.gb_len bt_len (pa_cons (pv 0) pa_nil)) pa_nil)) (blkOk_by (own := [("k", 1)]) (N := N_leaves) (sc := defScope s_leaves) (by decide +kernel)) (fun _ _ _ _ _ => (pg_name (i := 1) sc_leaves.nd rfl (Or.inl rfl))) (fun _ _ _ _ _ => (pts_one (pt_cmpR (r := rIn K true) op_notIn_seq (pv 1) (pv 0) rfl))) (fun _ _ _ _ _ => (pv 1)))) pss_nil), ?_⟩
    refine q_ret (tz := tNext) (E := E) (K := K) (σ := [some v_parents, none]) (x_lcg (i_rng1 (a_one (x_cb o_len (a_one (x_v (x_var (i := 0) rfl (Rp.mono _ (Ex.refl _) exz r_parents))))))) g1 (fun _ _ _ _ ⟨_, h, _⟩ => by rw [h]; rfl) (fun x_1 σ2 I_2 C_3 e_4 c_5 ⟨v_6, h, r_7⟩ => by subst h; exact (t_test (x_op (o_nin fl_int) (x_var (i := 1) rfl (Rp.mono _ (Ex.refl _) exz r_7)) (x_v (x_var (i := 0) rfl (Rp.mono _ e_4 exz r_parents)))))) (fun x_1 σ2 I_2 C_3 e_4 c_5 ⟨v_6, h, r_7⟩ => by subst h; exact (x_var (i := 1) rfl (Rp.mono _ (Ex.refl _) exz r_7))) (fun _ _ _ _ _ e ⟨v_6, h, r_7⟩ => ⟨v_6, h, Rp.mono _ e exz r_7⟩)) hs (fun _ _ h => PX.mono (Ex.refl _) (Ex.refl _) h) hm fun a_8 v_9 I_10 H_11 e_12 s_13 r_14 hm => ?_
    exact hm v_9 I_10 H_11 e_12 (St.less s_13 (Ex.refl _)) (Im.im r_14)
def m_marks_fault (ar_parents : (List Int)) (ar_marks : (List (Int × Str))) : Res Int :=
  ((un rNeg (Res.ok (1 : Int))).bind fun (ahead_1 : Int) => (((un enumR (Res.ok ar_marks)).bind fun xs => loopR (fun (x_18 : (Int × (Int × Str))) (z_8 : Int) => ((un (fun p => Res.ok p.1) (Res.ok x_18.2)).bind fun (index_32 : Int) => (ifR (orR (bin rLe (Res.ok index_32) (Res.ok z_8)) (orR (bin rGe (Res.ok index_32) (un rLen (Res.ok ar_parents))) (bin ninR (un (fun p => Res.ok p.2) (Res.ok x_18.2)) (Res.ok ([("without" : Str), ("with" : Str)] : (List Str)))))) ((Res.ok x_18.1).bind fun a_47 => Res.ok (Out.rt a_47)) ((Res.ok index_32).bind fun (ahead_54 : Int) => (Res.ok (Out.nx ahead_54)))))) xs ahead_1).bind fun (o : Out Int Int) => match o with | .nx z_66 => ((un rNeg (Res.ok (1 : Int))).bind fun a_76 => Res.ok a_76) | .br _ => Res.bad | .rt r => Res.ok r))
abbrev N_marks_fault : List Str := ["parents", "marks", "ahead", "k", "mark", "index"]
theorem sc_marks_fault : FnScope N_marks_fault ["parents", "marks"] (defScope s_marks_fault) := ⟨rfl, rfl, rfl, by decide +kernel, rfl, by decide +kernel, by decide +kernel⟩
theorem bind_marks_fault {K : PySem.W.Frag} {mg : Str → Option Value} {T : Tx K mg} : Binds K T.d_marks_fault ["parents", "marks"] [] := FunD.bindsN T.F_marks_fault fun _ _ _ _ _ _ us hl => match us, hl with | [_, _], _ => rfl
abbrev sp_marks_fault (K : PySem.W.Frag) : Sp := spP K (tc (pL pI) (t1 (pL (pT (tc pI (t1 pS)))))) (fun (p : ((List Int) × (List (Int × Str)))) => m_marks_fault p.1 p.2) pI
theorem ok_marks_fault (T : Tx K mg) : FnOk P w K mg base (L2.CX P w) 1 T.f_marks_fault T.d_marks_fault ["parents", "marks"] (sp_marks_fault K) := by
  refine T.F_marks_fault.ok sc_marks_fault (fun vs H Q E h => ?_) (fun cdv A outer s H vs Q E hr h => ?_)
  · obtain ⟨I, C, a, _, hr, _⟩ := h
    exact Rt.len _ hr
  · obtain ⟨I0, C0, ⟨ar_parents, ar_marks⟩, hs, ⟨v_parents, us0, rfl, r_parents, v_marks, rfl, r_marks⟩, hm⟩ := h
    have hm : Post (m_marks_fault ar_parents ar_marks) (PQ pI I0 C0 Q) (PX E K I0 C0) := hm
    replace r_parents : Rp.r (pL pI) ar_parents v_parents I0 Z := Im.im r_parents
    replace r_marks : Rp.r (pL (pT (tc pI (t1 pS)))) ar_marks v_marks I0 Z := Im.im r_marks
    unfold m_marks_fault at hm
    refine ⟨_, (pss_cons (ps_set (i := 2) sc_marks_fault.nd rfl (Or.inl rfl) (pe_un un_neg pe_int)) (pss_cons (ps_for (passes_of rfl) rfl (show PI _ _ _ (iEnum K _) from pi_enum (by rfl) T.gb_enumerate (pa_cons (pv 1) pa_nil)) (show PG _ _ (gTup K 2 _) from pg_tup rfl (pgs_cons (pg_name (i := 3) sc_marks_fault.nd rfl (Or.inl rfl)) (pgs_cons (pg_name (i := 4) sc_marks_fault.nd rfl (Or.inl rfl)) pgs_nil))) (pss_cons (ps_set (i := 5) sc_marks_fault.nd rfl (Or.inl rfl) (pe_ix (r := rIxT K) ix_tup (pv 4) pe_int (fun _ _ => rfl))) (pss_cons (ps_if (PW.pt (pw_or (pt_cmpR op_le (pv 5) (pv 2) (nomark _)) (pw_or (pt_cmpR op_ge (pv 5) (pe_callB (r := rLen1 K) call_len_seq (by rfl) T.gb_len bt_len (pa_cons (pv 0) pa_nil)) (nomark _)) (pw_or1 (pt_cmpR (r := rIn K true) op_notIn_seq (pe_ix (r := rIxT K) ix_tup (pv 4) pe_int (fun _ _ => rfl)) (pe_glob (v := .ref (He.ga K "WORDS")) rfl T.gt_WORDS.1 rfl) rfl))))) (pss_cons (ps_ret (pv 3)) pss_nil) pss_nil) (pss_cons (ps_set (i := 2) sc_marks_fault.nd rfl (Or.inl rfl) (pv 5)) pss_nil)))) (pss_cons (ps_ret (pe_un un_neg pe_int)) pss_nil))), ?_⟩
    refine q_asg (E := E) (K := K) (σ := [some v_parents, some v_marks, none, none, none, none]) (i := 2) (x_un o_neg (x_int (i := 1))) hs (fun _ _ h => PX.mono (Ex.refl _) (Ex.refl _) h) hm fun ahead_1 v_2 I_3 H_4 e_5 s_6 r_7 hm => ?_
    refine s_forR (E := E) (K := K) (σ := [some v_parents, some v_marks, some v_2, none, none, none]) (fun (z_8 : Int) σ2 I_13 C_14 => ∃ w_10 : Option V, ∃ w_11 : Option V, ∃ w_12 : Option V, ∃ v_15 : V, σ2 = [some v_parents, some v_marks, some v_15, w_10, w_11, w_12] ∧ Rp.r pI z_8 v_15 I_13 Z ∧ Ex C0 C_14) (i_enum (a_one (x_var (i := 1) rfl (Rp.mono _ e_5 exz r_marks)))) s_6 (fun _ _ h => PX.mono e_5 (Ex.refl _) h) hm (fun _ e_26 => ⟨none, none, none, v_2, rfl, Rp.mono _ (Ex.trans (Ex.refl _) e_26) exz r_7, (Ex.refl _)⟩) (fun _ _ _ _ _ => trivial) (fun _ _ _ _ _ e ⟨w_10, w_11, w_12, v_15, hs_9, r_16, fr_17⟩ => ⟨w_10, w_11, w_12, v_15, hs_9, Rp.mono _ e exz r_16, fr_17⟩) (fun N x_18 v_19 z_8 σ2 I_20 C_21 H_22 e_23 s_24 ⟨w_10, w_11, w_12, v_15, hs_9, r_16, fr_17⟩ r_25 hm => ?_) (fun z_66 σ2 I_61 C_62 H_63 e_64 s_65 ⟨w_68, w_69, w_70, v_73, hs_67, r_74, fr_75⟩ hm => ?_)
    · subst hs_9
      refine g2 (K := K) x_18 v_19 I_20 C_21 H_22 _ s_24 r_25 fun σ2 ⟨v_27, v_28, hs_31, r_29, r_30⟩ => ?_
      subst hs_31
      refine q_asg (E := E) (K := K) (σ := [some v_parents, some v_marks, some v_15, some v_27, some v_28, w_12]) (i := 5) (x_k (k := ((0 : Nat) : Int)) (o_pj pj0) (x_var (i := 4) rfl (Rp.mono _ (Ex.refl _) exz r_30))) s_24 (fun _ _ h => PX.mono (e_5.trans e_23) fr_17 h) hm fun index_32 v_33 I_34 H_35 e_36 s_37 r_38 hm => ?_
      refine s_if (E := E) (K := K) (σ := [some v_parents, some v_marks, some v_15, some v_27, some v_28, some v_33]) (t_or (t_test (x_op o_le (x_var (i := 5) rfl (Rp.mono _ (Ex.refl _) exz r_38)) (x_var (i := 2) rfl (Rp.mono _ e_36 exz r_16)))) (t_or (t_test (x_op o_ge (x_var (i := 5) rfl (Rp.mono _ (Ex.refl _) exz r_38)) (x_cb o_len (a_one (x_v (x_var (i := 0) rfl (Rp.mono _ (e_5.trans (e_23.trans e_36)) exz r_parents))))))) (t_test (x_op (o_ninQ fl_str) (x_k (k := ((1 : Nat) : Int)) (o_pj (pjs pj1)) (x_var (i := 4) rfl (Rp.mono _ e_36 exz r_30))) (x_c (R := (pQ K pS)) (a := ([("without" : Str), ("with" : Str)] : (List Str))) fun _ _ => ⟨_, _, rfl, T.gt_WORDS.2 _, (by decide), (A2.cons ⟨rfl, by decide +kernel⟩ (A2.cons ⟨rfl, by decide +kernel⟩ A2.nil))⟩))))) s_37 (fun _ _ h => PX.mono (e_5.trans (e_23.trans e_36)) fr_17 h) hm (fun I_39 H_40 e_41 s_42 hm => ?_) (fun I_43 H_44 e_45 s_46 hm => ?_)
      · refine q_ret (tz := tNext) (E := E) (K := K) (σ := [some v_parents, some v_marks, some v_15, some v_27, some v_28, some v_33]) (x_var (i := 3) rfl (Rp.mono _ (e_36.trans e_41) exz r_29)) s_42 (fun _ _ h => PX.mono (e_5.trans (e_23.trans (e_36.trans e_41))) fr_17 h) hm fun a_47 v_48 I_49 H_50 e_51 s_52 r_53 hm => ?_
        exact hm v_48 I_49 H_50 (e_5.trans (e_23.trans (e_36.trans (e_41.trans e_51)))) (St.less s_52 fr_17) (Im.im r_53)
      · refine q_asg (E := E) (K := K) (σ := [some v_parents, some v_marks, some v_15, some v_27, some v_28, some v_33]) (i := 2) (x_var (i := 5) rfl (Rp.mono _ e_45 exz r_38)) s_46 (fun _ _ h => PX.mono (e_5.trans (e_23.trans (e_36.trans e_45))) fr_17 h) hm fun ahead_54 v_55 I_56 H_57 e_58 s_59 r_60 hm => ?_
        exact hm _ _ _ _ (e_36.trans (e_45.trans e_58)) s_59 ⟨some v_27, some v_28, some v_33, v_55, rfl, Rp.mono _ (Ex.refl _) exz r_60, fr_17⟩
    subst hs_67
    refine q_ret (tz := tNext) (E := E) (K := K) (σ := [some v_parents, some v_marks, some v_73, w_68, w_69, w_70]) (x_un o_neg (x_int (i := 1))) s_65 (fun _ _ h => PX.mono (e_5.trans e_64) fr_75 h) hm fun a_76 v_77 I_78 H_79 e_80 s_81 r_82 hm => ?_
    exact hm v_77 I_78 H_79 (e_5.trans (e_64.trans e_80)) (St.less s_81 fr_75) (Im.im r_82)
def m_check_wanted (ar_parents : (List Int)) (ar_wanted : (List Int)) : Res Unit :=
  ((un m_leaves (Res.ok ar_parents)).bind fun (known_1 : (List Int)) => ((un rNeg (Res.ok (1 : Int))).bind fun (ahead_8 : Int) => (((un enumR (Res.ok ar_wanted)).bind fun xs => loopN (fun (x_24 : (Int × Int)) (z_15 : Int) => (ifR (orR (bin ninR (Res.ok x_24.2) (Res.ok known_1)) (bin rLe (Res.ok x_24.2) (Res.ok z_15))) ((Res.ok x_24.1).bind fun i => Res.exc .BadArea i) ((Res.ok x_24.2).bind fun (ahead_46 : Int) => (Res.ok ahead_46)))) xs ahead_8).bind fun (z_58 : Int) => (Res.ok ()))))
abbrev N_check_wanted : List Str := ["parents", "wanted", "known", "ahead", "k", "leaf"]
theorem sc_check_wanted : FnScope N_check_wanted ["parents", "wanted"] (defScope s_check_wanted) := ⟨rfl, rfl, rfl, by decide +kernel, rfl, by decide +kernel, by decide +kernel⟩
theorem bind_check_wanted {K : PySem.W.Frag} {mg : Str → Option Value} {T : Tx K mg} : Binds K T.d_check_wanted ["parents", "wanted"] [] := FunD.bindsN T.F_check_wanted fun _ _ _ _ _ _ us hl => match us, hl with | [_, _], _ => rfl
abbrev sp_check_wanted (K : PySem.W.Frag) : Sp := spP K (tc (pL pI) (t1 (pL pI))) (fun (p : ((List Int) × (List Int))) => m_check_wanted p.1 p.2) pN
theorem ok_check_wanted (T : Tx K mg) : FnOk P w K mg base (L2.CX P w) 3 T.f_check_wanted T.d_check_wanted ["parents", "wanted"] (sp_check_wanted K) := by
  refine T.F_check_wanted.ok sc_check_wanted (fun vs H Q E h => ?_) (fun cdv A outer s H vs Q E hr h => ?_)
  · obtain ⟨I, C, a, _, hr, _⟩ := h
    exact Rt.len _ hr
  · obtain ⟨I0, C0, ⟨ar_parents, ar_wanted⟩, hs, ⟨v_parents, us0, rfl, r_parents, v_wanted, rfl, r_wanted⟩, hm⟩ := h
    have hm : Post (m_check_wanted ar_parents ar_wanted) (PQ pN I0 C0 Q) (PX E K I0 C0) := hm
    replace r_parents : Rp.r (pL pI) ar_parents v_parents I0 Z := Im.im r_parents
    replace r_wanted : Rp.r (pL pI) ar_wanted v_wanted I0 Z := Im.im r_wanted
    unfold m_check_wanted at hm
    refine ⟨_, (pss_cons (ps_set (i := 2) sc_check_wanted.nd rfl (Or.inl rfl) (pe_call (ok_leaves T) (hr.mono (by decide)) rfl T.g_leaves T.F_leaves.kp bind_leaves .nil passE (pa_cons (pv 0) pa_nil))) (pss_cons (ps_set (i := 3) sc_check_wanted.nd rfl (Or.inl rfl) (pe_un un_neg pe_int)) (pss_cons (ps_for (passes_of rfl) rfl (show PI _ _ _ (iEnum K _) from pi_enum (by rfl) T.gb_enumerate (pa_cons (pv 1) pa_nil)) (show PG _ _ (gTup K 2 _) from pg_tup rfl (pgs_cons (pg_name (i := 4) sc_check_wanted.nd rfl (Or.inl rfl)) (pgs_cons (pg_name (i := 5) sc_check_wanted.nd rfl (Or.inl rfl)) pgs_nil))) (pss_cons (ps_if (PW.pt (pw_or (pt_cmpR (r := rIn K true) op_notIn_seq (pv 5) (pv 2) rfl) (pw_or1 (pt_cmpR op_le (pv 5) (pv 3) (nomark _))))) (pss_cons (ps_raise rfl (takes_of rfl rfl rfl rfl) (pmk_oex (T.xs .BadArea (by decide)).o (T.xs .BadArea (by decide)).ic (T.xs .BadArea (by decide)).ti (ok_err T) (hr.mono (by decide)) bind_err .nil passL rfl (T.xs .BadArea (by decide)).g (pa_cons (pv 4) pa_nil))) pss_nil) pss_nil) (pss_cons (ps_set (i := 3) sc_check_wanted.nd rfl (Or.inl rfl) (pv 5)) pss_nil))) pss_nil))), ?_⟩
    refine q_asg (E := E) (K := K) (σ := [some v_parents, some v_wanted, none, none, none, none]) (i := 2) (x_call (a_one (x_var (i := 0) rfl (Rp.mono _ (Ex.refl _) exz r_parents)))) hs (fun _ _ h => PX.mono (Ex.refl _) (Ex.refl _) h) hm fun known_1 v_2 I_3 H_4 e_5 s_6 r_7 hm => ?_
    refine q_asg (E := E) (K := K) (σ := [some v_parents, some v_wanted, some v_2, none, none, none]) (i := 3) (x_un o_neg (x_int (i := 1))) s_6 (fun _ _ h => PX.mono e_5 (Ex.refl _) h) hm fun ahead_8 v_9 I_10 H_11 e_12 s_13 r_14 hm => ?_
    refine s_forN (E := E) (K := K) (σ := [some v_parents, some v_wanted, some v_2, some v_9, none, none]) (fun (z_15 : Int) σ2 I_19 C_20 => ∃ w_17 : Option V, ∃ w_18 : Option V, ∃ v_21 : V, σ2 = [some v_parents, some v_wanted, some v_2, some v_21, w_17, w_18] ∧ Rp.r pI z_15 v_21 I_19 Z ∧ Ex C0 C_20) (i_enum (a_one (x_var (i := 1) rfl (Rp.mono _ (e_5.trans e_12) exz r_wanted)))) s_13 (fun _ _ h => PX.mono (e_5.trans e_12) (Ex.refl _) h) hm (fun _ e_32 => ⟨none, none, v_9, rfl, Rp.mono _ (Ex.trans (Ex.refl _) e_32) exz r_14, (Ex.refl _)⟩) (fun _ _ _ _ _ => trivial) (fun _ _ _ _ _ e ⟨w_17, w_18, v_21, hs_16, r_22, fr_23⟩ => ⟨w_17, w_18, v_21, hs_16, Rp.mono _ e exz r_22, fr_23⟩) (fun N x_24 v_25 z_15 σ2 I_26 C_27 H_28 e_29 s_30 ⟨w_17, w_18, v_21, hs_16, r_22, fr_23⟩ r_31 hm => ?_) (fun z_58 σ2 I_53 C_54 H_55 e_56 s_57 ⟨w_60, w_61, v_64, hs_59, r_65, fr_66⟩ hm => ?_)
    · subst hs_16
      refine g2 (K := K) x_24 v_25 I_26 C_27 H_28 _ s_30 r_31 fun σ2 ⟨v_33, v_34, hs_37, r_35, r_36⟩ => ?_
      subst hs_37
      refine s_if (E := E) (K := K) (σ := [some v_parents, some v_wanted, some v_2, some v_21, some v_33, some v_34]) (t_or (t_test (x_op (o_nin fl_int) (x_var (i := 5) rfl (Rp.mono _ (Ex.refl _) exz r_36)) (x_v (x_var (i := 2) rfl (Rp.mono _ (e_12.trans e_29) exz r_7))))) (t_test (x_op o_le (x_var (i := 5) rfl (Rp.mono _ (Ex.refl _) exz r_36)) (x_var (i := 3) rfl (Rp.mono _ (Ex.refl _) exz r_22))))) s_30 (fun _ _ h => PX.mono (e_5.trans (e_12.trans e_29)) fr_23 h) hm (fun I_38 H_39 e_40 s_41 hm => ?_) (fun I_42 H_43 e_44 s_45 hm => ?_)
      · exact s_raise (E := E) (K := K) (σ := [some v_parents, some v_wanted, some v_2, some v_21, some v_33, some v_34]) (T.xs .BadArea (by decide)) (a_one (x_var (i := 4) rfl (Rp.mono _ e_40 exz r_35))) s_41 (fun _ _ h => PX.mono (e_5.trans (e_12.trans (e_29.trans e_40))) fr_23 h) hm
      · refine q_asg (E := E) (K := K) (σ := [some v_parents, some v_wanted, some v_2, some v_21, some v_33, some v_34]) (i := 3) (x_var (i := 5) rfl (Rp.mono _ e_44 exz r_36)) s_45 (fun _ _ h => PX.mono (e_5.trans (e_12.trans (e_29.trans e_44))) fr_23 h) hm fun ahead_46 v_47 I_48 H_49 e_50 s_51 r_52 hm => ?_
        exact hm _ _ _ _ (e_44.trans e_50) s_51 ⟨some v_33, some v_34, v_47, rfl, Rp.mono _ (Ex.refl _) exz r_52, fr_23⟩
    subst hs_59
    exact hm .non _ _ (e_5.trans (e_12.trans e_56)) (St.less s_57 fr_66) rfl
def m_names_leaf (ar_parents : (List Int)) (ar_words : (List (Int × Str))) (ar_leaf : Int) : Res Bool :=
  (((un (fun (p : ((List Int) × Int)) => m_line p.1 p.2) (pair (Res.ok ar_parents) (Res.ok ar_leaf))).bind fun xs => loopR (fun (x_7 : Int) (z_1 : Unit) => (ifR (bin dhas (Res.ok x_7) (Res.ok ar_words)) ((bin eqR (bin dix (Res.ok ar_words) (Res.ok x_7)) (Res.ok ("with" : Str))).bind fun a_27 => Res.ok (Out.rt a_27)) (Res.ok (Out.nx ())))) xs ()).bind fun (o : Out Unit Bool) => match o with | .nx z_39 => ((Res.ok false).bind fun a_45 => Res.ok a_45) | .br _ => Res.bad | .rt r => Res.ok r)
abbrev N_names_leaf : List Str := ["parents", "words", "leaf", "index"]
theorem sc_names_leaf : FnScope N_names_leaf ["parents", "words", "leaf"] (defScope s_names_leaf) := ⟨rfl, rfl, rfl, by decide +kernel, rfl, by decide +kernel, by decide +kernel⟩
theorem bind_names_leaf {K : PySem.W.Frag} {mg : Str → Option Value} {T : Tx K mg} : Binds K T.d_names_leaf ["parents", "words", "leaf"] [] := FunD.bindsN T.F_names_leaf fun _ _ _ _ _ _ us hl => match us, hl with | [_, _, _], _ => rfl
abbrev sp_names_leaf (K : PySem.W.Frag) : Sp := spP K (tc (pL pI) (tc (pMp pS) (t1 pI))) (fun (p : ((List Int) × (List (Int × Str)) × Int)) => m_names_leaf p.1 p.2.1 p.2.2) pB
theorem ok_names_leaf (T : Tx K mg) : FnOk P w K mg base (L2.CX P w) 2 T.f_names_leaf T.d_names_leaf ["parents", "words", "leaf"] (sp_names_leaf K) := by
  refine T.F_names_leaf.ok sc_names_leaf (fun vs H Q E h => ?_) (fun cdv A outer s H vs Q E hr h => ?_)
  · obtain ⟨I, C, a, _, hr, _⟩ := h
    exact Rt.len _ hr
  · obtain ⟨I0, C0, ⟨ar_parents, ar_words, ar_leaf⟩, hs, ⟨v_parents, us0, rfl, r_parents, v_words, us1, rfl, r_words, v_leaf, rfl, r_leaf⟩, hm⟩ := h
    have hm : Post (m_names_leaf ar_parents ar_words ar_leaf) (PQ pB I0 C0 Q) (PX E K I0 C0) := hm
    replace r_parents : Rp.r (pL pI) ar_parents v_parents I0 Z := Im.im r_parents
    replace r_words : Rp.r (pMp pS) ar_words v_words I0 Z := Im.im r_words
    replace r_leaf : Rp.r pI ar_leaf v_leaf I0 Z := Im.im r_leaf
    unfold m_names_leaf at hm
    refine ⟨_, (pss_cons (ps_for (passes_of rfl) rfl (show PI _ _ _ (iList K _) from pi_list (pe_call (ok_line T) (hr.mono (by decide)) rfl T.g_line T.F_line.kp bind_line .nil passE (pa_cons (pv 0) (pa_cons (pv 2) pa_nil)))) (pg_name (i := 3) sc_names_leaf.nd rfl (Or.inl rfl)) (pss_cons (ps_if (pt_cmp (pc_din hr.units1 (pv 3) (pv 1))) (pss_cons (ps_ret (pe_cmpR op_eq (pe_dget hr.units1 (pv 1) (pv 3) (fun _ _ => rfl)) (pe_glob (v := .str "with") rfl T.gs_WITH.choose_spec ⟨_, rfl⟩) (nomark _))) pss_nil) pss_nil) pss_nil)) (pss_cons (ps_ret pe_bl) pss_nil)), ?_⟩
    refine s_forR (E := E) (K := K) (σ := [some v_parents, some v_words, some v_leaf, none]) (fun (z_1 : Unit) σ2 I_4 C_5 => ∃ w_3 : Option V, σ2 = [some v_parents, some v_words, some v_leaf, w_3] ∧ Ex C0 C_5) (i_list (x_own (n_call (a_cons (x_var (i := 0) rfl (Rp.mono _ (Ex.refl _) exz r_parents)) (a_one (x_var (i := 2) rfl (Rp.mono _ (Ex.refl _) exz r_leaf))))))) hs (fun _ _ h => PX.mono (Ex.refl _) (Ex.refl _) h) hm (fun _ e_15 => ⟨none, rfl, (Ex.refl _)⟩) (fun _ _ _ _ _ => trivial) (fun _ _ _ _ _ e ⟨w_3, hs_2, fr_6⟩ => ⟨w_3, hs_2, fr_6⟩) (fun N x_7 v_8 z_1 σ2 I_9 C_10 H_11 e_12 s_13 ⟨w_3, hs_2, fr_6⟩ r_14 hm => ?_) (fun z_39 σ2 I_34 C_35 H_36 e_37 s_38 ⟨w_41, hs_40, fr_44⟩ hm => ?_)
    · subst hs_2
      refine g1 (K := K) x_7 v_8 I_9 C_10 H_11 _ s_13 r_14 fun σ2 ⟨v_16, hs_18, r_17⟩ => ?_
      subst hs_18
      refine s_if (E := E) (K := K) (σ := [some v_parents, some v_words, some v_leaf, some v_16]) (t_B (x_din (x_var (i := 3) rfl (Rp.mono _ (Ex.refl _) exz r_17)) (x_var (i := 1) rfl (Rp.mono _ e_12 exz r_words)))) s_13 (fun _ _ h => PX.mono e_12 fr_6 h) hm (fun I_19 H_20 e_21 s_22 hm => ?_) (fun I_23 H_24 e_25 s_26 hm => ?_)
      · refine q_ret (tz := tNext) (E := E) (K := K) (σ := [some v_parents, some v_words, some v_leaf, some v_16]) (x_op o_eqS (x_dget (x_var (i := 1) rfl (Rp.mono _ (e_12.trans e_21) exz r_words)) (x_var (i := 3) rfl (Rp.mono _ e_21 exz r_17))) (x_str (by decide +kernel))) s_22 (fun _ _ h => PX.mono (e_12.trans e_21) fr_6 h) hm fun a_27 v_28 I_29 H_30 e_31 s_32 r_33 hm => ?_
        exact hm v_28 I_29 H_30 (e_12.trans (e_21.trans e_31)) (St.less s_32 fr_6) (Im.im r_33)
      · exact hm _ _ _ _ e_25 s_26 ⟨some v_16, rfl, fr_6⟩
    subst hs_40
    refine q_ret (tz := tNext) (E := E) (K := K) (σ := [some v_parents, some v_words, some v_leaf, w_41]) x_bl s_38 (fun _ _ h => PX.mono e_37 fr_44 h) hm fun a_45 v_46 I_47 H_48 e_49 s_50 r_51 hm => ?_
    exact hm v_46 I_47 H_48 (e_37.trans e_49) (St.less s_50 fr_44) (Im.im r_51)
def m_named_leaves (ar_parents : (List Int)) (ar_marks : (List (Int × Str))) : Res (List Int) :=
  (((Res.ok ar_marks).bind fun xs => dictL (fun (x_1 : (Int × Str)) => (un (fun p => Res.ok p.1) (Res.ok x_1))) (fun (x_1 : (Int × Str)) => (un (fun p => Res.ok p.2) (Res.ok x_1))) xs []).bind fun (words_8 : (List (Int × Str))) => (((un m_leaves (Res.ok ar_parents)).bind (filR (fun (x_15 : Int) => (un (fun (p : ((List Int) × (List (Int × Str)) × Int)) => m_names_leaf p.1 p.2.1 p.2.2) (pair (Res.ok ar_parents) (pair (Res.ok words_8) (Res.ok x_15))))) (fun (x_15 : Int) => (Res.ok x_15)))).bind fun a_22 => Res.ok a_22))
abbrev N_named_leaves : List Str := ["parents", "marks", "words", "mark", "leaf"]
theorem sc_named_leaves : FnScope N_named_leaves ["parents", "marks"] (defScope s_named_leaves) := ⟨rfl, rfl, rfl, by decide +kernel, rfl, by decide +kernel, by decide +kernel⟩
theorem bind_named_leaves {K : PySem.W.Frag} {mg : Str → Option Value} {T : Tx K mg} : Binds K T.d_named_leaves ["parents", "marks"] [] := FunD.bindsN T.F_named_leaves fun _ _ _ _ _ _ us hl => match us, hl with | [_, _], _ => rfl
abbrev sp_named_leaves (K : PySem.W.Frag) : Sp := spP K (tc (pL pI) (t1 (pL (pT (tc pI (t1 pS)))))) (fun (p : ((List Int) × (List (Int × Str)))) => m_named_leaves p.1 p.2) (pL pI)
theorem ok_named_leaves (T : Tx K mg) : FnOk P w K mg base (L2.CX P w) 3 T.f_named_leaves T.d_named_leaves ["parents", "marks"] (sp_named_leaves K) := by
  refine T.F_named_leaves.ok sc_named_leaves (fun vs H Q E h => ?_) (fun cdv A outer s H vs Q E hr h => ?_)
  · obtain ⟨I, C, a, _, hr, _⟩ := h
    exact Rt.len _ hr
  · obtain ⟨I0, C0, ⟨ar_parents, ar_marks⟩, hs, ⟨v_parents, us0, rfl, r_parents, v_marks, rfl, r_marks⟩, hm⟩ := h
    have hm : Post (m_named_leaves ar_parents ar_marks) (PQ (pL pI) I0 C0 Q) (PX E K I0 C0) := hm
    replace r_parents : Rp.r (pL pI) ar_parents v_parents I0 Z := Im.im r_parents
    replace r_marks : Rp.r (pL (pT (tc pI (t1 pS)))) ar_marks v_marks I0 Z := Im.im r_marks
    unfold m_named_leaves at hm
    refine ⟨_, (pss_cons (ps_set (i := 2) sc_named_leaves.nd rfl (Or.inr rfl) (pe_dc (own := [("mark", 3)]) rfl sc_named_leaves.nd (show PI _ _ _ (iList K _) from pi_list (pv 1)) (blkOk_by (own := [("mark", 3)]) (N := N_named_leaves) (sc := defScope s_named_leaves) (by decide +kernel)) (fun _ _ _ _ _ => (pg_name (i := 3) sc_named_leaves.nd rfl (Or.inl rfl))) (fun _ _ _ _ _ => pts_nil) (fun _ _ _ _ _ => (pe_ix (r := rIxT K) ix_tup (pv 3) pe_int (fun _ _ => rfl))) (fun _ _ _ _ _ => (pe_ix (r := rIxT K) ix_tup (pv 3) pe_int (fun _ _ => rfl))))) (pss_cons (ps_ret (pe_lc (own := [("leaf", 4)]) rfl sc_named_leaves.nd (show PI _ _ _ (iList K _) from pi_list (pe_call (ok_leaves T) (hr.mono (by decide)) rfl T.g_leaves T.F_leaves.kp bind_leaves .nil passE (pa_cons (pv 0) pa_nil))) (blkOk_by (own := [("leaf", 4)]) (N := N_named_leaves) (sc := defScope s_named_leaves) (by decide +kernel)) (fun _ _ _ _ _ => (pg_name (i := 4) sc_named_leaves.nd rfl (Or.inl rfl))) (fun _ _ _ _ _ => (pts_one (pt_val (pe_call (ok_names_leaf T) (hr.mono (by decide)) rfl T.g_names_leaf T.F_names_leaf.kp bind_names_leaf .nil passL (pa_cons (pv 0) (pa_cons (pv 2) (pa_cons (pv 4) pa_nil))))))) (fun _ _ _ _ _ => (pv 4)))) pss_nil)), ?_⟩
    refine q_asg (E := E) (K := K) (σ := [some v_parents, some v_marks, none, none, none]) (i := 2) (x_dcK (i_list (x_var (i := 1) rfl (Rp.mono _ (Ex.refl _) exz r_marks))) (fun _ _ => trivial) g1 (fun _ _ _ _ ⟨_, h, _⟩ => by rw [h]; rfl) (fun x_1 σ2 I_2 C_3 e_4 c_5 ⟨v_6, h, r_7⟩ => by subst h; exact (x_k (k := ((0 : Nat) : Int)) (o_pj pj0) (x_var (i := 3) rfl (Rp.mono _ (Ex.refl _) exz r_7)))) (fun x_1 σ2 I_2 C_3 e_4 c_5 ⟨v_6, h, r_7⟩ => by subst h; exact (x_k (k := ((1 : Nat) : Int)) (o_pj (pjs pj1)) (x_var (i := 3) rfl (Rp.mono _ (Ex.refl _) exz r_7)))) (fun _ _ _ _ _ e ⟨v_6, h, r_7⟩ => ⟨v_6, h, Rp.mono _ e exz r_7⟩)) hs (fun _ _ h => PX.mono (Ex.refl _) (Ex.refl _) h) hm fun words_8 v_9 I_10 H_11 e_12 s_13 r_14 hm => ?_
    refine q_ret (tz := tNext) (E := E) (K := K) (σ := [some v_parents, some v_marks, some v_9, none, none]) (x_lcg (i_list (x_call (a_one (x_var (i := 0) rfl (Rp.mono _ e_12 exz r_parents))))) g1 (fun _ _ _ _ ⟨_, h, _⟩ => by rw [h]; rfl) (fun x_15 σ2 I_16 C_17 e_18 c_19 ⟨v_20, h, r_21⟩ => by subst h; exact (t_B (x_call (a_cons (x_var (i := 0) rfl (Rp.mono _ (e_12.trans e_18) exz r_parents)) (a_cons (x_var (i := 2) rfl (Rp.mono _ e_18 exz r_14)) (a_one (x_var (i := 4) rfl (Rp.mono _ (Ex.refl _) exz r_21)))))))) (fun x_15 σ2 I_16 C_17 e_18 c_19 ⟨v_20, h, r_21⟩ => by subst h; exact (x_var (i := 4) rfl (Rp.mono _ (Ex.refl _) exz r_21))) (fun _ _ _ _ _ e ⟨v_20, h, r_21⟩ => ⟨v_20, h, Rp.mono _ e exz r_21⟩)) s_13 (fun _ _ h => PX.mono e_12 (Ex.refl _) h) hm fun a_22 v_23 I_24 H_25 e_26 s_27 r_28 hm => ?_
    exact hm v_23 I_24 H_25 (e_12.trans e_26) (St.less s_27 (Ex.refl _)) (Im.im r_28)
def m_named (ar_parents : (List Int)) (ar_marks : (List (Int × Str))) : Res (List Int) :=
  ((un (fun (p : ((List Int) × (List (Int × Str)))) => m_marks_fault p.1 p.2) (pair (Res.ok ar_parents) (Res.ok ar_marks))).bind fun (fault_1 : Int) => (ifR (bin rGe (Res.ok fault_1) (Res.ok (0 : Int))) ((Res.ok fault_1).bind fun i => Res.exc .BadArea i) ((un (fun (p : ((List Int) × (List (Int × Str)))) => m_named_leaves p.1 p.2) (pair (Res.ok ar_parents) (Res.ok ar_marks))).bind fun a_16 => Res.ok a_16)))
abbrev N_named : List Str := ["parents", "marks", "fault"]
theorem sc_named : FnScope N_named ["parents", "marks"] (defScope s_named) := ⟨rfl, rfl, rfl, by decide +kernel, rfl, by decide +kernel, by decide +kernel⟩
theorem bind_named {K : PySem.W.Frag} {mg : Str → Option Value} {T : Tx K mg} : Binds K T.d_named ["parents", "marks"] [] := FunD.bindsN T.F_named fun _ _ _ _ _ _ us hl => match us, hl with | [_, _], _ => rfl
abbrev sp_named (K : PySem.W.Frag) : Sp := spP K (tc (pL pI) (t1 (pL (pT (tc pI (t1 pS)))))) (fun (p : ((List Int) × (List (Int × Str)))) => m_named p.1 p.2) (pL pI)
theorem ok_named (T : Tx K mg) : FnOk P w K mg base (L2.CX P w) 4 T.f_named T.d_named ["parents", "marks"] (sp_named K) := by
  refine T.F_named.ok sc_named (fun vs H Q E h => ?_) (fun cdv A outer s H vs Q E hr h => ?_)
  · obtain ⟨I, C, a, _, hr, _⟩ := h
    exact Rt.len _ hr
  · obtain ⟨I0, C0, ⟨ar_parents, ar_marks⟩, hs, ⟨v_parents, us0, rfl, r_parents, v_marks, rfl, r_marks⟩, hm⟩ := h
    have hm : Post (m_named ar_parents ar_marks) (PQ (pL pI) I0 C0 Q) (PX E K I0 C0) := hm
    replace r_parents : Rp.r (pL pI) ar_parents v_parents I0 Z := Im.im r_parents
    replace r_marks : Rp.r (pL (pT (tc pI (t1 pS)))) ar_marks v_marks I0 Z := Im.im r_marks
    unfold m_named at hm
    refine ⟨_, (pss_cons (ps_set (i := 2) sc_named.nd rfl (Or.inl rfl) (pe_call (ok_marks_fault T) (hr.mono (by decide)) rfl T.g_marks_fault T.F_marks_fault.kp bind_marks_fault .nil passE (pa_cons (pv 0) (pa_cons (pv 1) pa_nil)))) (pss_cons (ps_if (pt_cmpR op_ge (pv 2) pe_int (nomark _)) (pss_cons (ps_raise rfl (takes_of rfl rfl rfl rfl) (pmk_oex (T.xs .BadArea (by decide)).o (T.xs .BadArea (by decide)).ic (T.xs .BadArea (by decide)).ti (ok_err T) (hr.mono (by decide)) bind_err .nil passL rfl (T.xs .BadArea (by decide)).g (pa_cons (pv 2) pa_nil))) pss_nil) pss_nil) (pss_cons (ps_ret (pe_call (ok_named_leaves T) (hr.mono (by decide)) rfl T.g_named_leaves T.F_named_leaves.kp bind_named_leaves .nil passE (pa_cons (pv 0) (pa_cons (pv 1) pa_nil)))) pss_nil))), ?_⟩
    refine q_asg (E := E) (K := K) (σ := [some v_parents, some v_marks, none]) (i := 2) (x_call (a_cons (x_var (i := 0) rfl (Rp.mono _ (Ex.refl _) exz r_parents)) (a_one (x_var (i := 1) rfl (Rp.mono _ (Ex.refl _) exz r_marks))))) hs (fun _ _ h => PX.mono (Ex.refl _) (Ex.refl _) h) hm fun fault_1 v_2 I_3 H_4 e_5 s_6 r_7 hm => ?_
    refine s_if (E := E) (K := K) (σ := [some v_parents, some v_marks, some v_2]) (t_test (x_op o_ge (x_var (i := 2) rfl (Rp.mono _ (Ex.refl _) exz r_7)) (x_int (i := 0)))) s_6 (fun _ _ h => PX.mono e_5 (Ex.refl _) h) hm (fun I_8 H_9 e_10 s_11 hm => ?_) (fun I_12 H_13 e_14 s_15 hm => ?_)
    · exact s_raise (E := E) (K := K) (σ := [some v_parents, some v_marks, some v_2]) (T.xs .BadArea (by decide)) (a_one (x_var (i := 2) rfl (Rp.mono _ e_10 exz r_7))) s_11 (fun _ _ h => PX.mono (e_5.trans e_10) (Ex.refl _) h) hm
    · refine q_ret (tz := tNext) (E := E) (K := K) (σ := [some v_parents, some v_marks, some v_2]) (x_call (a_cons (x_var (i := 0) rfl (Rp.mono _ (e_5.trans e_14) exz r_parents)) (a_one (x_var (i := 1) rfl (Rp.mono _ (e_5.trans e_14) exz r_marks))))) s_15 (fun _ _ h => PX.mono (e_5.trans e_14) (Ex.refl _) h) hm fun a_16 v_17 I_18 H_19 e_20 s_21 r_22 hm => ?_
      exact hm v_17 I_18 H_19 (e_5.trans (e_14.trans e_20)) (St.less s_21 (Ex.refl _)) (Im.im r_22)
def m_is_naming (ar_parents : (List Int)) (ar_wanted : (List Int)) (ar_marks : (List (Int × Str))) : Res Bool :=
  ((un (fun (p : ((List Int) × (List Int))) => m_check_wanted p.1 p.2) (pair (Res.ok ar_parents) (Res.ok ar_wanted))).bind fun (b_1 : Unit) => (ifR (bin rGe (un (fun (p : ((List Int) × (List (Int × Str)))) => m_marks_fault p.1 p.2) (pair (Res.ok ar_parents) (Res.ok ar_marks))) (Res.ok (0 : Int))) ((Res.ok false).bind fun a_14 => Res.ok a_14) ((bin eqR (un (fun (p : ((List Int) × (List (Int × Str)))) => m_named_leaves p.1 p.2) (pair (Res.ok ar_parents) (Res.ok ar_marks))) (un idR (Res.ok ar_wanted))).bind fun a_21 => Res.ok a_21)))
abbrev N_is_naming : List Str := ["parents", "wanted", "marks"]
theorem sc_is_naming : FnScope N_is_naming ["parents", "wanted", "marks"] (defScope s_is_naming) := ⟨rfl, rfl, rfl, by decide +kernel, rfl, by decide +kernel, by decide +kernel⟩
theorem bind_is_naming {K : PySem.W.Frag} {mg : Str → Option Value} {T : Tx K mg} : Binds K T.d_is_naming ["parents", "wanted", "marks"] [] := FunD.bindsN T.F_is_naming fun _ _ _ _ _ _ us hl => match us, hl with | [_, _, _], _ => rfl
abbrev sp_is_naming (K : PySem.W.Frag) : Sp := spP K (tc (pL pI) (tc (pL pI) (t1 (pL (pT (tc pI (t1 pS))))))) (fun (p : ((List Int) × (List Int) × (List (Int × Str)))) => m_is_naming p.1 p.2.1 p.2.2) pB
theorem ok_is_naming (T : Tx K mg) : FnOk P w K mg base (L2.CX P w) 4 T.f_is_naming T.d_is_naming ["parents", "wanted", "marks"] (sp_is_naming K) := by
  refine T.F_is_naming.ok sc_is_naming (fun vs H Q E h => ?_) (fun cdv A outer s H vs Q E hr h => ?_)
  · obtain ⟨I, C, a, _, hr, _⟩ := h
    exact Rt.len _ hr
  · obtain ⟨I0, C0, ⟨ar_parents, ar_wanted, ar_marks⟩, hs, ⟨v_parents, us0, rfl, r_parents, v_wanted, us1, rfl, r_wanted, v_marks, rfl, r_marks⟩, hm⟩ := h
    have hm : Post (m_is_naming ar_parents ar_wanted ar_marks) (PQ pB I0 C0 Q) (PX E K I0 C0) := hm
    replace r_parents : Rp.r (pL pI) ar_parents v_parents I0 Z := Im.im r_parents
    replace r_wanted : Rp.r (pL pI) ar_wanted v_wanted I0 Z := Im.im r_wanted
    replace r_marks : Rp.r (pL (pT (tc pI (t1 pS)))) ar_marks v_marks I0 Z := Im.im r_marks
    unfold m_is_naming at hm
    refine ⟨_, (pss_cons (ps_expr (pe_call (ok_check_wanted T) (hr.mono (by decide)) rfl T.g_check_wanted T.F_check_wanted.kp bind_check_wanted .nil passE (pa_cons (pv 0) (pa_cons (pv 1) pa_nil)))) (pss_cons (ps_if (pt_cmpR op_ge (pe_call (ok_marks_fault T) (hr.mono (by decide)) rfl T.g_marks_fault T.F_marks_fault.kp bind_marks_fault .nil passE (pa_cons (pv 0) (pa_cons (pv 2) pa_nil))) pe_int (nomark _)) (pss_cons (ps_ret pe_bl) pss_nil) pss_nil) (pss_cons (ps_ret (pe_cmpR (r := rEqD K) (op_eqD hr.units) (pe_call (ok_named_leaves T) (hr.mono (by decide)) rfl T.g_named_leaves T.F_named_leaves.kp bind_named_leaves .nil passE (pa_cons (pv 0) (pa_cons (pv 2) pa_nil))) (pe_callTy (r := rList1 K) call_list_of (by rfl) T.gb_list bt_list (pa_cons (pv 1) pa_nil)) (nomark _))) pss_nil))), ?_⟩
    refine s_expr (E := E) (K := K) (σ := [some v_parents, some v_wanted, some v_marks]) (x_call (a_cons (x_var (i := 0) rfl (Rp.mono _ (Ex.refl _) exz r_parents)) (a_one (x_var (i := 1) rfl (Rp.mono _ (Ex.refl _) exz r_wanted))))) hs (fun _ _ h => PX.mono (Ex.refl _) (Ex.refl _) h) hm fun b_1 I_2 H_3 e_4 s_5 hm => ?_
    refine s_if (E := E) (K := K) (σ := [some v_parents, some v_wanted, some v_marks]) (t_test (x_op o_ge (x_call (a_cons (x_var (i := 0) rfl (Rp.mono _ e_4 exz r_parents)) (a_one (x_var (i := 2) rfl (Rp.mono _ e_4 exz r_marks))))) (x_int (i := 0)))) s_5 (fun _ _ h => PX.mono e_4 (Ex.refl _) h) hm (fun I_6 H_7 e_8 s_9 hm => ?_) (fun I_10 H_11 e_12 s_13 hm => ?_)
    · refine q_ret (tz := tNext) (E := E) (K := K) (σ := [some v_parents, some v_wanted, some v_marks]) x_bl s_9 (fun _ _ h => PX.mono (e_4.trans e_8) (Ex.refl _) h) hm fun a_14 v_15 I_16 H_17 e_18 s_19 r_20 hm => ?_
      exact hm v_15 I_16 H_17 (e_4.trans (e_8.trans e_18)) (St.less s_19 (Ex.refl _)) (Im.im r_20)
    · refine q_ret (tz := tNext) (E := E) (K := K) (σ := [some v_parents, some v_wanted, some v_marks]) (x_op (o_eqD (de_lst de_int) (de_lst de_int) (by decide)) (x_call (a_cons (x_var (i := 0) rfl (Rp.mono _ (e_4.trans e_12) exz r_parents)) (a_one (x_var (i := 2) rfl (Rp.mono _ (e_4.trans e_12) exz r_marks))))) (x_cb o_list (a_one (x_v (x_var (i := 1) rfl (Rp.mono _ (e_4.trans e_12) exz r_wanted)))))) s_13 (fun _ _ h => PX.mono (e_4.trans e_12) (Ex.refl _) h) hm fun a_21 v_22 I_23 H_24 e_25 s_26 r_27 hm => ?_
      exact hm v_22 I_23 H_24 (e_4.trans (e_12.trans e_25)) (St.less s_26 (Ex.refl _)) (Im.im r_27)
def m_side_sum (ar_pairs : (List (Int × Int))) (ar_kids : (List Int)) (ar_side : Int) : Res Int :=
  ((un sumR ((Res.ok ar_kids).bind (mapR (fun (x_1 : Int) => (bin ix (un (fun x => Res.ok ((fun p : (Int × Int) => [p.1, p.2]) x)) (bin ix (Res.ok ar_pairs) (Res.ok x_1))) (Res.ok ar_side)))))).bind fun a_8 => Res.ok a_8)
abbrev N_side_sum : List Str := ["pairs", "kids", "side", "kid"]
theorem sc_side_sum : FnScope N_side_sum ["pairs", "kids", "side"] (defScope s_side_sum) := ⟨rfl, rfl, rfl, by decide +kernel, rfl, by decide +kernel, by decide +kernel⟩
theorem bind_side_sum {K : PySem.W.Frag} {mg : Str → Option Value} {T : Tx K mg} : Binds K T.d_side_sum ["pairs", "kids", "side"] [] := FunD.bindsN T.F_side_sum fun _ _ _ _ _ _ us hl => match us, hl with | [_, _, _], _ => rfl
abbrev sp_side_sum (K : PySem.W.Frag) : Sp := spP K (tc (pV (pT (tc pI (t1 pI)))) (tc (pL pI) (t1 pI))) (fun (p : ((List (Int × Int)) × (List Int) × Int)) => m_side_sum p.1 p.2.1 p.2.2) pI
theorem ok_side_sum (T : Tx K mg) : FnOk P w K mg base (L2.CX P w) 1 T.f_side_sum T.d_side_sum ["pairs", "kids", "side"] (sp_side_sum K) := by
  refine T.F_side_sum.ok sc_side_sum (fun vs H Q E h => ?_) (fun cdv A outer s H vs Q E hr h => ?_)
  · obtain ⟨I, C, a, _, hr, _⟩ := h
    exact Rt.len _ hr
  · obtain ⟨I0, C0, ⟨ar_pairs, ar_kids, ar_side⟩, hs, ⟨v_pairs, us0, rfl, r_pairs, v_kids, us1, rfl, r_kids, v_side, rfl, r_side⟩, hm⟩ := h
    have hm : Post (m_side_sum ar_pairs ar_kids ar_side) (PQ pI I0 C0 Q) (PX E K I0 C0) := hm
    replace r_kids : Rp.r (pL pI) ar_kids v_kids I0 Z := Im.im r_kids
    replace r_side : Rp.r pI ar_side v_side I0 Z := Im.im r_side
    unfold m_side_sum at hm
    refine ⟨_, (pss_cons (ps_ret (pe_callB (r := rSum K) (cr_sum rfl) (by rfl) T.gb_sum bt_sum (pa_cons (pe_lc (own := [("kid", 3)]) rfl sc_side_sum.nd (show PI _ _ _ (iList K _) from pi_list (pv 1)) (blkOk_by (own := [("kid", 3)]) (N := N_side_sum) (sc := defScope s_side_sum) (by decide +kernel)) (fun _ _ _ _ _ => (pg_name (i := 3) sc_side_sum.nd rfl (Or.inl rfl))) (fun _ _ _ _ _ => pts_nil) (fun _ _ _ _ _ => (pe_ix (r := rIxT K) ix_tup (pe_ix (r := rIxL K) ix_list (pv 0) (pv 3) (fun _ _ => rfl)) (pv 2) (fun _ _ => rfl)))) pa_nil))) pss_nil), ?_⟩
    refine q_ret (tz := tNext) (E := E) (K := K) (σ := [some v_pairs, some v_kids, some v_side, none]) (x_cb o_sum (a_one (x_v (x_lc (i_list (x_var (i := 1) rfl (Rp.mono _ (Ex.refl _) exz r_kids))) g1 (fun _ _ _ _ ⟨_, h, _⟩ => by rw [h]; rfl) (fun x_1 σ2 I_2 C_3 e_4 c_5 ⟨v_6, h, r_7⟩ => by subst h; exact (x_op o_ixQ (x_see see_t2 (x_op o_ix (x_var (i := 0) rfl (Rp.mono _ e_4 (Ex.trans (Ex.refl _) c_5) r_pairs)) (x_var (i := 3) rfl (Rp.mono _ (Ex.refl _) exz r_7)))) (x_var (i := 2) rfl (Rp.mono _ e_4 exz r_side)))) (fun _ _ _ _ _ e ⟨v_6, h, r_7⟩ => ⟨v_6, h, Rp.mono _ e exz r_7⟩))))) hs (fun _ _ h => PX.mono (Ex.refl _) (Ex.refl _) h) hm fun a_8 v_9 I_10 H_11 e_12 s_13 r_14 hm => ?_
    exact hm v_9 I_10 H_11 e_12 (St.less s_13 (Ex.refl _)) (Im.im r_14)
def m_mark_costs (ar_parents : (List Int)) (ar_wanted : (List Int)) : Res (List (Int × Int)) :=
  (((Res.ok ar_parents).bind (mapR (fun (x_1 : Int) => (pair (Res.ok (0 : Int)) (Res.ok (0 : Int)))))).bind fun (costs_8 : (List (Int × Int))) => (((un rngV (un rLen (Res.ok ar_parents))).bind fun xs => loopN (fun (x_36 : Int) (z_23 : (List (Int × Int))) => ((un (fun (p : ((List Int) × Int)) => m_children p.1 p.2) (pair (Res.ok ar_parents) (Res.ok x_36))).bind fun (kids_48 : (List Int)) => (ifR (un neR' (Res.ok kids_48)) ((un (fun (p : ((List (Int × Int)) × (List Int) × Int)) => m_side_sum p.1 p.2.1 p.2.2) (pair (Res.ok z_23) (pair (Res.ok kids_48) (Res.ok (0 : Int))))).bind fun (out_63 : Int) => ((un (fun (p : ((List (Int × Int)) × (List Int) × Int)) => m_side_sum p.1 p.2.1 p.2.2) (pair (Res.ok z_23) (pair (Res.ok kids_48) (Res.ok (1 : Int))))).bind fun (inside_70 : Int) => (((pair (un min2 (pair (Res.ok out_63) (bin rAdd (Res.ok (1 : Int)) (Res.ok inside_70)))) (un min2 (pair (Res.ok inside_70) (bin rAdd (Res.ok (1 : Int)) (Res.ok out_63))))).bind fun x => (Res.ok x_36).bind fun j => setR z_23 j x).bind fun (costs_77 : (List (Int × Int))) => (Res.ok costs_77)))) (ifR (bin inR (Res.ok x_36) (Res.ok ar_wanted)) (((pair (Res.ok (1 : Int)) (Res.ok (0 : Int))).bind fun x => (Res.ok x_36).bind fun j => setR z_23 j x).bind fun (costs_97 : (List (Int × Int))) => (Res.ok costs_97)) (((pair (Res.ok (0 : Int)) (Res.ok (1 : Int))).bind fun x => (Res.ok x_36).bind fun j => setR z_23 j x).bind fun (costs_109 : (List (Int × Int))) => (Res.ok costs_109)))))) xs costs_8).bind fun (z_126 : (List (Int × Int))) => (Res.ok z_126)))
abbrev N_mark_costs : List Str := ["parents", "wanted", "costs", "k", "kids", "out", "inside", "_"]
theorem sc_mark_costs : FnScope N_mark_costs ["parents", "wanted"] (defScope s_mark_costs) := ⟨rfl, rfl, rfl, by decide +kernel, rfl, by decide +kernel, by decide +kernel⟩
theorem bind_mark_costs {K : PySem.W.Frag} {mg : Str → Option Value} {T : Tx K mg} : Binds K T.d_mark_costs ["parents", "wanted"] [] := FunD.bindsN T.F_mark_costs fun _ _ _ _ _ _ us hl => match us, hl with | [_, _], _ => rfl
abbrev sp_mark_costs (K : PySem.W.Frag) : Sp := spO K (tc (pL pI) (t1 (pL pI))) (fun (p : ((List Int) × (List Int))) => m_mark_costs p.1 p.2) (pT (tc pI (t1 pI)))
theorem ok_mark_costs (T : Tx K mg) : FnOk P w K mg base (L2.CX P w) 2 T.f_mark_costs T.d_mark_costs ["parents", "wanted"] (sp_mark_costs K) := by
  refine T.F_mark_costs.ok sc_mark_costs (fun vs H Q E h => ?_) (fun cdv A outer s H vs Q E hr h => ?_)
  · obtain ⟨I, C, a, _, hr, _⟩ := h
    exact Rt.len _ hr
  · obtain ⟨I0, C0, ⟨ar_parents, ar_wanted⟩, hs, ⟨v_parents, us0, rfl, r_parents, v_wanted, rfl, r_wanted⟩, hm⟩ := h
    have hm : Post (m_mark_costs ar_parents ar_wanted) (PN (pT (tc pI (t1 pI))) I0 C0 Q) (PX E K I0 C0) := hm
    replace r_parents : Rp.r (pL pI) ar_parents v_parents I0 Z := Im.im r_parents
    replace r_wanted : Rp.r (pL pI) ar_wanted v_wanted I0 Z := Im.im r_wanted
    unfold m_mark_costs at hm
    refine ⟨_, (pss_cons (ps_setLc (i := 2) (own := [("_", 7)]) rfl sc_mark_costs.nd rfl rfl (sw_true rfl rfl rfl (by decide +kernel)) (show PI _ _ _ (iList K _) from pi_list (pv 0)) (blkOk_by (own := [("_", 7)]) (N := N_mark_costs) (sc := defScope s_mark_costs) (by decide +kernel)) (fun _ _ _ _ _ => (pg_name (i := 7) sc_mark_costs.nd rfl (Or.inl rfl))) (fun _ _ _ _ _ => pts_nil) (fun _ _ _ _ _ => (pe_tup (pa_cons pe_int (pa_cons pe_int pa_nil))))) (pss_cons (ps_for (passes_of rfl) rfl (pi_revR (by rfl) T.gb_reversed (prg_1 (by rfl) T.gb_range (pe_callB (r := rLen1 K) call_len_seq (by rfl) T.gb_len bt_len (pa_cons (pv 0) pa_nil)))) (pg_name (i := 3) sc_mark_costs.nd rfl (Or.inl rfl)) (pss_cons (ps_set (i := 4) sc_mark_costs.nd rfl (Or.inl rfl) (pe_call (ok_children T) (hr.mono (by decide)) rfl T.g_children T.F_children.kp bind_children .nil passE (pa_cons (pv 0) (pa_cons (pv 3) pa_nil)))) (pss_cons (ps_if (pt_truth (pv 4) (fun _ => rfl)) (pss_cons (ps_set (i := 5) sc_mark_costs.nd rfl (Or.inl rfl) (pe_call (ok_side_sum T) (hr.mono (by decide)) rfl T.g_side_sum T.F_side_sum.kp bind_side_sum .nil passE (pa_cons (pv 2) (pa_cons (pv 4) (pa_cons pe_int pa_nil))))) (pss_cons (ps_set (i := 6) sc_mark_costs.nd rfl (Or.inl rfl) (pe_call (ok_side_sum T) (hr.mono (by decide)) rfl T.g_side_sum T.F_side_sum.kp bind_side_sum .nil passE (pa_cons (pv 2) (pa_cons (pv 4) (pa_cons pe_int pa_nil))))) (pss_cons (ps_asg (pe_tup (pa_cons (pe_callB (call_min2 rfl) (by rfl) T.gb_min bt_min (pa_cons (pv 5) (pa_cons (pe_op op_add pe_int (pv 6)) pa_nil))) (pa_cons (pe_callB (call_min2 rfl) (by rfl) T.gb_min bt_min (pa_cons (pv 6) (pa_cons (pe_op op_add pe_int (pv 5)) pa_nil))) pa_nil))) (pg_sub (pv 2) (pv 3) set_list)) pss_nil))) (pss_cons (ps_if (pt_cmpR (r := rIn K false) op_in_seq (pv 3) (pv 1) rfl) (pss_cons (ps_asg (pe_tup (pa_cons pe_int (pa_cons pe_int pa_nil))) (pg_sub (pv 2) (pv 3) set_list)) pss_nil) (pss_cons (ps_asg (pe_tup (pa_cons pe_int (pa_cons pe_int pa_nil))) (pg_sub (pv 2) (pv 3) set_list)) pss_nil)) pss_nil)) pss_nil))) (pss_cons (ps_ret (pv 2)) pss_nil))), ?_⟩
    refine q_asgN (E := E) (K := K) (σ := [some v_parents, some v_wanted, none, none, none, none, none, none]) (i := 2) (n_lc (i_list (x_var (i := 0) rfl (Rp.mono _ (Ex.refl _) exz r_parents))) g1 (fun _ _ _ _ ⟨_, h, _⟩ => by rw [h]; rfl) (fun x_1 σ2 I_2 C_3 e_4 c_5 ⟨v_6, h, r_7⟩ => by subst h; exact (x_tup (a_cons (x_int (i := 0)) (a_one (x_int (i := 0)))) (Nat.le_of_ble_eq_true rfl))) (fun _ _ _ _ _ e ⟨v_6, h, r_7⟩ => ⟨v_6, h, Rp.mono _ e exz r_7⟩)) hs (fun _ _ h => PX.mono (Ex.refl _) (Ex.refl _) h) hm fun costs_8 p_9 vs_10 I_11 C_12 H_13 e_14 hp_15 s_16 hc_17 k_18 hl_19 hr_20 hm => ?_
    have hB_21 := Ex.free (Ex.refl _) hp_15
    have fr_22 := fr_keep (Ex.refl _) hB_21 k_18
    refine s_forN (E := E) (K := K) (σ := [some v_parents, some v_wanted, some (.ref p_9), none, none, none, none, none]) (fun (z_23 : (List (Int × Int))) σ2 I_29 C_30 => ∃ w_25 : Option V, ∃ w_26 : Option V, ∃ w_27 : Option V, ∃ w_28 : Option V, σ2 = [some v_parents, some v_wanted, some (.ref p_9), w_25, w_26, w_27, w_28, none] ∧ (∃ vs_31 : List V, C_30 p_9 = some (.lst vs_31) ∧ vs_31.length ≤ sizeLine ∧ A2 (fun x u => Rp.r (pT (tc pI (t1 pI))) x u I_29 Z) z_23 vs_31) ∧ Ex C0 C_30) (i_revR1 (x_cb o_len (a_one (x_v (x_var (i := 0) rfl (Rp.mono _ e_14 exz r_parents)))))) s_16 (fun _ _ h => PX.mono e_14 fr_22 h) hm (fun _ e_44 => ⟨none, none, none, none, rfl, ⟨_, hc_17, hl_19, a2up (Ex.trans (Ex.refl _) e_44) hr_20⟩, fr_22⟩) (fun _ _ _ _ _ => trivial) (fun _ _ _ _ _ e ⟨w_25, w_26, w_27, w_28, hs_24, ⟨vs_31, hc_32, hl_33, hr_34⟩, fr_35⟩ => ⟨w_25, w_26, w_27, w_28, hs_24, ⟨vs_31, hc_32, hl_33, a2up e hr_34⟩, fr_35⟩) (fun N x_36 v_37 z_23 σ2 I_38 C_39 H_40 e_41 s_42 ⟨w_25, w_26, w_27, w_28, hs_24, ⟨vs_31, hc_32, hl_33, hr_34⟩, fr_35⟩ r_43 hm => ?_) (fun z_126 σ2 I_121 C_122 H_123 e_124 s_125 ⟨w_128, w_129, w_130, w_131, hs_127, ⟨vs_134, hc_135, hl_136, hr_137⟩, fr_138⟩ hm => ?_)
    · subst hs_24
      refine g1 (K := K) x_36 v_37 I_38 C_39 H_40 _ s_42 r_43 fun σ2 ⟨v_45, hs_47, r_46⟩ => ?_
      subst hs_47
      refine q_asg (E := E) (K := K) (σ := [some v_parents, some v_wanted, some (.ref p_9), some v_45, w_26, w_27, w_28, none]) (i := 4) (x_call (a_cons (x_var (i := 0) rfl (Rp.mono _ (e_14.trans e_41) exz r_parents)) (a_one (x_var (i := 3) rfl (Rp.mono _ (Ex.refl _) exz r_46))))) s_42 (fun _ _ h => PX.mono (e_14.trans e_41) fr_35 h) hm fun kids_48 v_49 I_50 H_51 e_52 s_53 r_54 hm => ?_
      refine s_if (E := E) (K := K) (σ := [some v_parents, some v_wanted, some (.ref p_9), some v_45, some v_49, w_27, w_28, none]) (t_lst (x_v (x_var (i := 4) rfl (Rp.mono _ (Ex.refl _) exz r_54)))) s_53 (fun _ _ h => PX.mono (e_14.trans (e_41.trans e_52)) fr_35 h) hm (fun I_55 H_56 e_57 s_58 hm => ?_) (fun I_59 H_60 e_61 s_62 hm => ?_)
      · refine q_asg (E := E) (K := K) (σ := [some v_parents, some v_wanted, some (.ref p_9), some v_45, some v_49, w_27, w_28, none]) (i := 5) (x_call (a_cons (x_cell (i := 2) rfl hc_32 hl_33 (a2up (e_52.trans e_57) hr_34)) (a_cons (x_var (i := 4) rfl (Rp.mono _ e_57 exz r_54)) (a_one (x_int (i := 0)))))) s_58 (fun _ _ h => PX.mono (e_14.trans (e_41.trans (e_52.trans e_57))) fr_35 h) hm fun out_63 v_64 I_65 H_66 e_67 s_68 r_69 hm => ?_
        refine q_asg (E := E) (K := K) (σ := [some v_parents, some v_wanted, some (.ref p_9), some v_45, some v_49, some v_64, w_28, none]) (i := 6) (x_call (a_cons (x_cell (i := 2) rfl hc_32 hl_33 (a2up (e_52.trans (e_57.trans e_67)) hr_34)) (a_cons (x_var (i := 4) rfl (Rp.mono _ (e_57.trans e_67) exz r_54)) (a_one (x_int (i := 1)))))) s_68 (fun _ _ h => PX.mono (e_14.trans (e_41.trans (e_52.trans (e_57.trans e_67)))) fr_35 h) hm fun inside_70 v_71 I_72 H_73 e_74 s_75 r_76 hm => ?_
        refine q_setL (E := E) (K := K) (σ := [some v_parents, some v_wanted, some (.ref p_9), some v_45, some v_49, some v_64, some v_71, none]) (i := 2) rfl hc_32 hl_33 (a2up (e_52.trans (e_57.trans (e_67.trans e_74))) hr_34) (x_tup (a_cons (x_cb o_min2 (a_cons (x_var (i := 5) rfl (Rp.mono _ e_74 exz r_69)) (a_one (x_op o_add (x_int (i := 1)) (x_var (i := 6) rfl (Rp.mono _ (Ex.refl _) exz r_76)))))) (a_one (x_cb o_min2 (a_cons (x_var (i := 6) rfl (Rp.mono _ (Ex.refl _) exz r_76)) (a_one (x_op o_add (x_int (i := 1)) (x_var (i := 5) rfl (Rp.mono _ e_74 exz r_69)))))))) (Nat.le_of_ble_eq_true rfl)) (x_var (i := 3) rfl (Rp.mono _ (e_52.trans (e_57.trans (e_67.trans e_74))) exz r_46)) s_75 (fun _ _ h => PX.mono (e_14.trans (e_41.trans (e_52.trans (e_57.trans (e_67.trans e_74))))) fr_35 h) hm fun costs_77 vs_78 I_79 C_80 H_81 e_82 s_83 hc_84 k_85 hl_86 hr_87 hm => ?_
        have fr_88 := fr_keep fr_35 hB_21 k_85
        exact hm _ _ _ _ (e_52.trans (e_57.trans (e_67.trans (e_74.trans e_82)))) s_83 ⟨some v_45, some v_49, some v_64, some v_71, rfl, ⟨_, hc_84, hl_86, a2up (Ex.refl _) hr_87⟩, fr_88⟩
      · refine s_if (E := E) (K := K) (σ := [some v_parents, some v_wanted, some (.ref p_9), some v_45, some v_49, w_27, w_28, none]) (t_test (x_op (o_in fl_int) (x_var (i := 3) rfl (Rp.mono _ (e_52.trans e_61) exz r_46)) (x_v (x_var (i := 1) rfl (Rp.mono _ (e_14.trans (e_41.trans (e_52.trans e_61))) exz r_wanted))))) s_62 (fun _ _ h => PX.mono (e_14.trans (e_41.trans (e_52.trans e_61))) fr_35 h) hm (fun I_89 H_90 e_91 s_92 hm => ?_) (fun I_93 H_94 e_95 s_96 hm => ?_)
        · refine q_setL (E := E) (K := K) (σ := [some v_parents, some v_wanted, some (.ref p_9), some v_45, some v_49, w_27, w_28, none]) (i := 2) rfl hc_32 hl_33 (a2up (e_52.trans (e_61.trans e_91)) hr_34) (x_tup (a_cons (x_int (i := 1)) (a_one (x_int (i := 0)))) (Nat.le_of_ble_eq_true rfl)) (x_var (i := 3) rfl (Rp.mono _ (e_52.trans (e_61.trans e_91)) exz r_46)) s_92 (fun _ _ h => PX.mono (e_14.trans (e_41.trans (e_52.trans (e_61.trans e_91)))) fr_35 h) hm fun costs_97 vs_98 I_99 C_100 H_101 e_102 s_103 hc_104 k_105 hl_106 hr_107 hm => ?_
          have fr_108 := fr_keep fr_35 hB_21 k_105
          exact hm _ _ _ _ (e_52.trans (e_61.trans (e_91.trans e_102))) s_103 ⟨some v_45, some v_49, w_27, w_28, rfl, ⟨_, hc_104, hl_106, a2up (Ex.refl _) hr_107⟩, fr_108⟩
        · refine q_setL (E := E) (K := K) (σ := [some v_parents, some v_wanted, some (.ref p_9), some v_45, some v_49, w_27, w_28, none]) (i := 2) rfl hc_32 hl_33 (a2up (e_52.trans (e_61.trans e_95)) hr_34) (x_tup (a_cons (x_int (i := 0)) (a_one (x_int (i := 1)))) (Nat.le_of_ble_eq_true rfl)) (x_var (i := 3) rfl (Rp.mono _ (e_52.trans (e_61.trans e_95)) exz r_46)) s_96 (fun _ _ h => PX.mono (e_14.trans (e_41.trans (e_52.trans (e_61.trans e_95)))) fr_35 h) hm fun costs_109 vs_110 I_111 C_112 H_113 e_114 s_115 hc_116 k_117 hl_118 hr_119 hm => ?_
          have fr_120 := fr_keep fr_35 hB_21 k_117
          exact hm _ _ _ _ (e_52.trans (e_61.trans (e_95.trans e_114))) s_115 ⟨some v_45, some v_49, w_27, w_28, rfl, ⟨_, hc_116, hl_118, a2up (Ex.refl _) hr_119⟩, fr_120⟩
    subst hs_127
    refine q_retO (i := 2) rfl s_125 fr_138 hB_21 hc_135 hl_136 (a2up (Ex.refl _) hr_137) fun s hr => ?_
    exact hm _ _ _ _ (e_14.trans e_124) hB_21 s hl_136 hr
def m_least_marks (ar_parents : (List Int)) (ar_wanted : (List Int)) : Res Int :=
  ((un (fun (p : ((List Int) × (List Int))) => m_check_wanted p.1 p.2) (pair (Res.ok ar_parents) (Res.ok ar_wanted))).bind fun (b_1 : Unit) => ((un (fun (p : ((List (Int × Int)) × (List Int) × Int)) => m_side_sum p.1 p.2.1 p.2.2) (pair (un (fun (p : ((List Int) × (List Int))) => m_mark_costs p.1 p.2) (pair (Res.ok ar_parents) (Res.ok ar_wanted))) (pair (un (fun (p : ((List Int) × Int)) => m_children p.1 p.2) (pair (Res.ok ar_parents) (un rNeg (Res.ok (1 : Int))))) (Res.ok (0 : Int))))).bind fun a_6 => Res.ok a_6))
abbrev N_least_marks : List Str := ["parents", "wanted"]
theorem sc_least_marks : FnScope N_least_marks ["parents", "wanted"] (defScope s_least_marks) := ⟨rfl, rfl, rfl, by decide +kernel, rfl, by decide +kernel, by decide +kernel⟩
theorem bind_least_marks {K : PySem.W.Frag} {mg : Str → Option Value} {T : Tx K mg} : Binds K T.d_least_marks ["parents", "wanted"] [] := FunD.bindsN T.F_least_marks fun _ _ _ _ _ _ us hl => match us, hl with | [_, _], _ => rfl
abbrev sp_least_marks (K : PySem.W.Frag) : Sp := spP K (tc (pL pI) (t1 (pL pI))) (fun (p : ((List Int) × (List Int))) => m_least_marks p.1 p.2) pI
theorem ok_least_marks (T : Tx K mg) : FnOk P w K mg base (L2.CX P w) 4 T.f_least_marks T.d_least_marks ["parents", "wanted"] (sp_least_marks K) := by
  refine T.F_least_marks.ok sc_least_marks (fun vs H Q E h => ?_) (fun cdv A outer s H vs Q E hr h => ?_)
  · obtain ⟨I, C, a, _, hr, _⟩ := h
    exact Rt.len _ hr
  · obtain ⟨I0, C0, ⟨ar_parents, ar_wanted⟩, hs, ⟨v_parents, us0, rfl, r_parents, v_wanted, rfl, r_wanted⟩, hm⟩ := h
    have hm : Post (m_least_marks ar_parents ar_wanted) (PQ pI I0 C0 Q) (PX E K I0 C0) := hm
    replace r_parents : Rp.r (pL pI) ar_parents v_parents I0 Z := Im.im r_parents
    replace r_wanted : Rp.r (pL pI) ar_wanted v_wanted I0 Z := Im.im r_wanted
    unfold m_least_marks at hm
    refine ⟨_, (pss_cons (ps_expr (pe_call (ok_check_wanted T) (hr.mono (by decide)) rfl T.g_check_wanted T.F_check_wanted.kp bind_check_wanted .nil passE (pa_cons (pv 0) (pa_cons (pv 1) pa_nil)))) (pss_cons (ps_ret (pe_call (ok_side_sum T) (hr.mono (by decide)) rfl T.g_side_sum T.F_side_sum.kp bind_side_sum .nil passE (pa_cons (pe_call (ok_mark_costs T) (hr.mono (by decide)) rfl T.g_mark_costs T.F_mark_costs.kp bind_mark_costs .nil passE (pa_cons (pv 0) (pa_cons (pv 1) pa_nil))) (pa_cons (pe_call (ok_children T) (hr.mono (by decide)) rfl T.g_children T.F_children.kp bind_children .nil passE (pa_cons (pv 0) (pa_cons (pe_un un_neg pe_int) pa_nil))) (pa_cons pe_int pa_nil))))) pss_nil)), ?_⟩
    refine s_expr (E := E) (K := K) (σ := [some v_parents, some v_wanted]) (x_call (a_cons (x_var (i := 0) rfl (Rp.mono _ (Ex.refl _) exz r_parents)) (a_one (x_var (i := 1) rfl (Rp.mono _ (Ex.refl _) exz r_wanted))))) hs (fun _ _ h => PX.mono (Ex.refl _) (Ex.refl _) h) hm fun b_1 I_2 H_3 e_4 s_5 hm => ?_
    refine q_ret (tz := tNext) (E := E) (K := K) (σ := [some v_parents, some v_wanted]) (x_call (a_cons (x_v (x_own (n_call (a_cons (x_var (i := 0) rfl (Rp.mono _ e_4 exz r_parents)) (a_one (x_var (i := 1) rfl (Rp.mono _ e_4 exz r_wanted))))))) (a_cons (x_call (a_cons (x_var (i := 0) rfl (Rp.mono _ e_4 exz r_parents)) (a_one (x_un o_neg (x_int (i := 1)))))) (a_one (x_int (i := 0)))))) s_5 (fun _ _ h => PX.mono e_4 (Ex.refl _) h) hm fun a_6 v_7 I_8 H_9 e_10 s_11 r_12 hm => ?_
    exact hm v_7 I_8 H_9 (e_4.trans e_10) (St.less s_11 (Ex.refl _)) (Im.im r_12)
def m_needs_mark (ar_parents : (List Int)) (ar_wanted : (List Int)) (ar_costs : (List (Int × Int))) (ar_k : Int) (ar_state : Int) : Res Bool :=
  ((un (fun (p : ((List Int) × Int)) => m_children p.1 p.2) (pair (Res.ok ar_parents) (Res.ok ar_k))).bind fun (kids_1 : (List Int)) => (ifR (un neR' (Res.ok kids_1)) ((bin rGt (un (fun (p : ((List (Int × Int)) × (List Int) × Int)) => m_side_sum p.1 p.2.1 p.2.2) (pair (Res.ok ar_costs) (pair (Res.ok kids_1) (Res.ok ar_state)))) (bin rAdd (Res.ok (1 : Int)) (un (fun (p : ((List (Int × Int)) × (List Int) × Int)) => m_side_sum p.1 p.2.1 p.2.2) (pair (Res.ok ar_costs) (pair (Res.ok kids_1) (bin rSub (Res.ok (1 : Int)) (Res.ok ar_state))))))).bind fun a_16 => Res.ok a_16) ((bin neR (bin inR (Res.ok ar_k) (Res.ok ar_wanted)) (bin eqR (Res.ok ar_state) (Res.ok (1 : Int)))).bind fun a_23 => Res.ok a_23)))
abbrev N_needs_mark : List Str := ["parents", "wanted", "costs", "k", "state", "kids"]
theorem sc_needs_mark : FnScope N_needs_mark ["parents", "wanted", "costs", "k", "state"] (defScope s_needs_mark) := ⟨rfl, rfl, rfl, by decide +kernel, rfl, by decide +kernel, by decide +kernel⟩
theorem bind_needs_mark {K : PySem.W.Frag} {mg : Str → Option Value} {T : Tx K mg} : Binds K T.d_needs_mark ["parents", "wanted", "costs", "k", "state"] [] := FunD.bindsN T.F_needs_mark fun _ _ _ _ _ _ us hl => match us, hl with | [_, _, _, _, _], _ => rfl
abbrev sp_needs_mark (K : PySem.W.Frag) : Sp := spP K (tc (pL pI) (tc (pL pI) (tc (pL (pT (tc pI (t1 pI)))) (tc pI (t1 pI))))) (fun (p : ((List Int) × (List Int) × (List (Int × Int)) × Int × Int)) => m_needs_mark p.1 p.2.1 p.2.2.1 p.2.2.2.1 p.2.2.2.2) pB
theorem ok_needs_mark (T : Tx K mg) : FnOk P w K mg base (L2.CX P w) 2 T.f_needs_mark T.d_needs_mark ["parents", "wanted", "costs", "k", "state"] (sp_needs_mark K) := by
  refine T.F_needs_mark.ok sc_needs_mark (fun vs H Q E h => ?_) (fun cdv A outer s H vs Q E hr h => ?_)
  · obtain ⟨I, C, a, _, hr, _⟩ := h
    exact Rt.len _ hr
  · obtain ⟨I0, C0, ⟨ar_parents, ar_wanted, ar_costs, ar_k, ar_state⟩, hs, ⟨v_parents, us0, rfl, r_parents, v_wanted, us1, rfl, r_wanted, v_costs, us2, rfl, r_costs, v_k, us3, rfl, r_k, v_state, rfl, r_state⟩, hm⟩ := h
    have hm : Post (m_needs_mark ar_parents ar_wanted ar_costs ar_k ar_state) (PQ pB I0 C0 Q) (PX E K I0 C0) := hm
    replace r_parents : Rp.r (pL pI) ar_parents v_parents I0 Z := Im.im r_parents
    replace r_wanted : Rp.r (pL pI) ar_wanted v_wanted I0 Z := Im.im r_wanted
    replace r_costs : Rp.r (pL (pT (tc pI (t1 pI)))) ar_costs v_costs I0 Z := Im.im r_costs
    replace r_k : Rp.r pI ar_k v_k I0 Z := Im.im r_k
    replace r_state : Rp.r pI ar_state v_state I0 Z := Im.im r_state
    unfold m_needs_mark at hm
    refine ⟨_, (pss_cons (ps_set (i := 5) sc_needs_mark.nd rfl (Or.inl rfl) (pe_call (ok_children T) (hr.mono (by decide)) rfl T.g_children T.F_children.kp bind_children .nil passE (pa_cons (pv 0) (pa_cons (pv 3) pa_nil)))) (pss_cons (ps_if (pt_truth (pv 5) (fun _ => rfl)) (pss_cons (ps_ret (pe_cmpR op_gt (pe_call (ok_side_sum T) (hr.mono (by decide)) rfl T.g_side_sum T.F_side_sum.kp bind_side_sum .nil passE (pa_cons (pv 2) (pa_cons (pv 5) (pa_cons (pv 4) pa_nil)))) (pe_op op_add pe_int (pe_call (ok_side_sum T) (hr.mono (by decide)) rfl T.g_side_sum T.F_side_sum.kp bind_side_sum .nil passE (pa_cons (pv 2) (pa_cons (pv 5) (pa_cons (pe_op op_sub pe_int (pv 4)) pa_nil))))) (nomark _))) pss_nil) pss_nil) (pss_cons (ps_ret (pe_cmpR op_ne (pe_cmpR (r := rIn K false) op_in_seq (pv 3) (pv 1) rfl) (pe_cmpR op_eq (pv 4) pe_int (nomark _)) (nomark _))) pss_nil))), ?_⟩
    refine q_asg (E := E) (K := K) (σ := [some v_parents, some v_wanted, some v_costs, some v_k, some v_state, none]) (i := 5) (x_call (a_cons (x_var (i := 0) rfl (Rp.mono _ (Ex.refl _) exz r_parents)) (a_one (x_var (i := 3) rfl (Rp.mono _ (Ex.refl _) exz r_k))))) hs (fun _ _ h => PX.mono (Ex.refl _) (Ex.refl _) h) hm fun kids_1 v_2 I_3 H_4 e_5 s_6 r_7 hm => ?_
    refine s_if (E := E) (K := K) (σ := [some v_parents, some v_wanted, some v_costs, some v_k, some v_state, some v_2]) (t_lst (x_v (x_var (i := 5) rfl (Rp.mono _ (Ex.refl _) exz r_7)))) s_6 (fun _ _ h => PX.mono e_5 (Ex.refl _) h) hm (fun I_8 H_9 e_10 s_11 hm => ?_) (fun I_12 H_13 e_14 s_15 hm => ?_)
    · refine q_ret (tz := tNext) (E := E) (K := K) (σ := [some v_parents, some v_wanted, some v_costs, some v_k, some v_state, some v_2]) (x_op o_gt (x_call (a_cons (x_v (x_var (i := 2) rfl (Rp.mono _ (e_5.trans e_10) exz r_costs))) (a_cons (x_var (i := 5) rfl (Rp.mono _ e_10 exz r_7)) (a_one (x_var (i := 4) rfl (Rp.mono _ (e_5.trans e_10) exz r_state)))))) (x_op o_add (x_int (i := 1)) (x_call (a_cons (x_v (x_var (i := 2) rfl (Rp.mono _ (e_5.trans e_10) exz r_costs))) (a_cons (x_var (i := 5) rfl (Rp.mono _ e_10 exz r_7)) (a_one (x_op o_sub (x_int (i := 1)) (x_var (i := 4) rfl (Rp.mono _ (e_5.trans e_10) exz r_state))))))))) s_11 (fun _ _ h => PX.mono (e_5.trans e_10) (Ex.refl _) h) hm fun a_16 v_17 I_18 H_19 e_20 s_21 r_22 hm => ?_
      exact hm v_17 I_18 H_19 (e_5.trans (e_10.trans e_20)) (St.less s_21 (Ex.refl _)) (Im.im r_22)
    · refine q_ret (tz := tNext) (E := E) (K := K) (σ := [some v_parents, some v_wanted, some v_costs, some v_k, some v_state, some v_2]) (x_op o_neB (x_op (o_in fl_int) (x_var (i := 3) rfl (Rp.mono _ (e_5.trans e_14) exz r_k)) (x_v (x_var (i := 1) rfl (Rp.mono _ (e_5.trans e_14) exz r_wanted)))) (x_op o_eqI (x_var (i := 4) rfl (Rp.mono _ (e_5.trans e_14) exz r_state)) (x_int (i := 1)))) s_15 (fun _ _ h => PX.mono (e_5.trans e_14) (Ex.refl _) h) hm fun a_23 v_24 I_25 H_26 e_27 s_28 r_29 hm => ?_
      exact hm v_24 I_25 H_26 (e_5.trans (e_14.trans e_27)) (St.less s_28 (Ex.refl _)) (Im.im r_29)
def m_cheapest_marks (ar_parents : (List Int)) (ar_wanted : (List Int)) (ar_costs : (List (Int × Int))) : Res (List (Int × Str)) :=
  ((Res.ok ([] : List Int)).bind fun (states_1 : (List Int)) => ((Res.ok ([] : List (Int × Str))).bind fun (marks_16 : (List (Int × Str))) => (((un enumR (Res.ok ar_parents)).bind fun xs => loopN (fun (x_49 : (Int × Int)) (z_33 : ((List Int) × (List (Int × Str)))) => ((Res.ok (0 : Int)).bind fun (state_63 : Int) => ((ifR (bin rGe (Res.ok x_49.2) (Res.ok (0 : Int))) ((bin ix (Res.ok z_33.1) (Res.ok x_49.2)).bind fun (state_87 : Int) => (Res.ok state_87)) (Res.ok state_63)).bind fun (z_78 : Int) => ((ifR (un (fun (p : ((List Int) × (List Int) × (List (Int × Int)) × Int × Int)) => m_needs_mark p.1 p.2.1 p.2.2.1 p.2.2.2.1 p.2.2.2.2) (pair (Res.ok ar_parents) (pair (Res.ok ar_wanted) (pair (Res.ok ar_costs) (pair (Res.ok x_49.1) (Res.ok z_78)))))) ((bin rSub (Res.ok (1 : Int)) (Res.ok z_78)).bind fun (state_119 : Int) => (((pair (Res.ok x_49.1) (bin ix (Res.ok ([("without" : Str), ("with" : Str)] : (List Str))) (Res.ok state_119))).bind fun x => push z_33.2 x).bind fun (marks_126 : (List (Int × Str))) => (Res.ok (marks_126, state_119)))) (Res.ok (z_33.2, z_78))).bind fun (z_107 : ((List (Int × Str)) × Int)) => (((Res.ok z_107.2).bind fun x => push z_33.1 x).bind fun (states_144 : (List Int)) => (Res.ok (states_144, z_107.1))))))) xs (states_1, marks_16)).bind fun (z_162 : ((List Int) × (List (Int × Str)))) => (Res.ok z_162.2))))
abbrev N_cheapest_marks : List Str := ["parents", "wanted", "costs", "states", "marks", "k", "parent", "state"]
theorem sc_cheapest_marks : FnScope N_cheapest_marks ["parents", "wanted", "costs"] (defScope s_cheapest_marks) := ⟨rfl, rfl, rfl, by decide +kernel, rfl, by decide +kernel, by decide +kernel⟩
theorem bind_cheapest_marks {K : PySem.W.Frag} {mg : Str → Option Value} {T : Tx K mg} : Binds K T.d_cheapest_marks ["parents", "wanted", "costs"] [] := FunD.bindsN T.F_cheapest_marks fun _ _ _ _ _ _ us hl => match us, hl with | [_, _, _], _ => rfl
abbrev sp_cheapest_marks (K : PySem.W.Frag) : Sp := spO K (tc (pL pI) (tc (pL pI) (t1 (pL (pT (tc pI (t1 pI))))))) (fun (p : ((List Int) × (List Int) × (List (Int × Int)))) => m_cheapest_marks p.1 p.2.1 p.2.2) (pT (tc pI (t1 pS)))
theorem ok_cheapest_marks (T : Tx K mg) : FnOk P w K mg base (L2.CX P w) 3 T.f_cheapest_marks T.d_cheapest_marks ["parents", "wanted", "costs"] (sp_cheapest_marks K) := by
  refine T.F_cheapest_marks.ok sc_cheapest_marks (fun vs H Q E h => ?_) (fun cdv A outer s H vs Q E hr h => ?_)
  · obtain ⟨I, C, a, _, hr, _⟩ := h
    exact Rt.len _ hr
  · obtain ⟨I0, C0, ⟨ar_parents, ar_wanted, ar_costs⟩, hs, ⟨v_parents, us0, rfl, r_parents, v_wanted, us1, rfl, r_wanted, v_costs, rfl, r_costs⟩, hm⟩ := h
    have hm : Post (m_cheapest_marks ar_parents ar_wanted ar_costs) (PN (pT (tc pI (t1 pS))) I0 C0 Q) (PX E K I0 C0) := hm
    replace r_parents : Rp.r (pL pI) ar_parents v_parents I0 Z := Im.im r_parents
    replace r_wanted : Rp.r (pL pI) ar_wanted v_wanted I0 Z := Im.im r_wanted
    replace r_costs : Rp.r (pL (pT (tc pI (t1 pI)))) ar_costs v_costs I0 Z := Im.im r_costs
    unfold m_cheapest_marks at hm
    refine ⟨_, (pss_cons (ps_set (i := 3) sc_cheapest_marks.nd rfl (Or.inl rfl) (pe_lst pa_nil)) (pss_cons (ps_set (i := 4) sc_cheapest_marks.nd rfl (Or.inl rfl) (pe_lst pa_nil)) (pss_cons (ps_for (passes_of rfl) rfl (show PI _ _ _ (iEnum K _) from pi_enum (by rfl) T.gb_enumerate (pa_cons (pv 0) pa_nil)) (show PG _ _ (gTup K 2 _) from pg_tup rfl (pgs_cons (pg_name (i := 5) sc_cheapest_marks.nd rfl (Or.inl rfl)) (pgs_cons (pg_name (i := 6) sc_cheapest_marks.nd rfl (Or.inl rfl)) pgs_nil))) (pss_cons (ps_set (i := 7) sc_cheapest_marks.nd rfl (Or.inl rfl) pe_int) (Evl.pss_cut (ps_if (pt_cmpR op_ge (pv 6) pe_int (nomark _)) (pss_cons (ps_set (i := 7) sc_cheapest_marks.nd rfl (Or.inl rfl) (pe_ix (r := rIxL K) ix_list (pv 3) (pv 6) (fun _ _ => rfl))) pss_nil) pss_nil) (Evl.pss_cut (ps_if (pt_val (pe_call (ok_needs_mark T) (hr.mono (by decide)) rfl T.g_needs_mark T.F_needs_mark.kp bind_needs_mark .nil passE (pa_cons (pv 0) (pa_cons (pv 1) (pa_cons (pv 2) (pa_cons (pv 5) (pa_cons (pv 7) pa_nil))))))) (pss_cons (ps_set (i := 7) sc_cheapest_marks.nd rfl (Or.inl rfl) (pe_op op_sub pe_int (pv 7))) (pss_cons (ps_expr (show PE _ _ (tBM K "list" rAppend _ _) from pe_bm PySem.F.plainAttrs_list PySem.F.slot_list_append PySem.F.type_list_append mt_append (pv 4) (pa_cons (pe_tup (pa_cons (pv 5) (pa_cons (pe_ix (r := rIxT K) ix_tup (pe_glob (v := .ref (He.ga K "WORDS")) rfl T.gt_WORDS.1 rfl) (pv 7) (fun _ _ => rfl)) pa_nil))) pa_nil))) pss_nil)) pss_nil) (pss_cons (ps_expr (show PE _ _ (tBM K "list" rAppend _ _) from pe_bm PySem.F.plainAttrs_list PySem.F.slot_list_append PySem.F.type_list_append mt_append (pv 3) (pa_cons (pv 7) pa_nil))) pss_nil))))) (pss_cons (ps_ret (pv 4)) pss_nil)))), ?_⟩
    refine q_asgN (E := E) (K := K) (σ := [some v_parents, some v_wanted, some v_costs, none, none, none, none, none]) (i := 3) (n_lst (R := pI) al_nil (by decide)) hs (fun _ _ h => PX.mono (Ex.refl _) (Ex.refl _) h) hm fun states_1 p_2 vs_3 I_4 C_5 H_6 e_7 hp_8 s_9 hc_10 k_11 hl_12 hr_13 hm => ?_
    have hB_14 := Ex.free (Ex.refl _) hp_8
    have fr_15 := fr_keep (Ex.refl _) hB_14 k_11
    refine q_asgN (E := E) (K := K) (σ := [some v_parents, some v_wanted, some v_costs, some (.ref p_2), none, none, none, none]) (i := 4) (n_lst (R := (pT (tc pI (t1 pS)))) al_nil (by decide)) s_9 (fun _ _ h => PX.mono e_7 fr_15 h) hm fun marks_16 p_17 vs_18 I_19 C_20 H_21 e_22 hp_23 s_24 hc_25 k_26 hl_27 hr_28 hm => ?_
    have ne_29 := ne_new hc_10 hp_23
    have hB_30 := Ex.free fr_15 hp_23
    have hc_31 := (k_26 _ ne_29).trans hc_10
    have fr_32 := fr_keep fr_15 hB_30 k_26
    refine s_forN (E := E) (K := K) (σ := [some v_parents, some v_wanted, some v_costs, some (.ref p_2), some (.ref p_17), none, none, none]) (fun (z_33 : ((List Int) × (List (Int × Str)))) σ2 I_38 C_39 => ∃ w_35 : Option V, ∃ w_36 : Option V, ∃ w_37 : Option V, σ2 = [some v_parents, some v_wanted, some v_costs, some (.ref p_2), some (.ref p_17), w_35, w_36, w_37] ∧ (∃ vs_40 : List V, C_39 p_2 = some (.lst vs_40) ∧ vs_40.length ≤ sizeLine ∧ A2 (fun x u => Rp.r pI x u I_38 Z) z_33.1 vs_40) ∧ (∃ vs_44 : List V, C_39 p_17 = some (.lst vs_44) ∧ vs_44.length ≤ sizeLine ∧ A2 (fun x u => Rp.r (pT (tc pI (t1 pS))) x u I_38 Z) z_33.2 vs_44) ∧ Ex C0 C_39) (i_enum (a_one (x_var (i := 0) rfl (Rp.mono _ (e_7.trans e_22) exz r_parents)))) s_24 (fun _ _ h => PX.mono (e_7.trans e_22) fr_32 h) hm (fun _ e_57 => ⟨none, none, none, rfl, ⟨_, hc_31, hl_12, a2up (Ex.trans e_22 e_57) hr_13⟩, ⟨_, hc_25, hl_27, a2up (Ex.trans (Ex.refl _) e_57) hr_28⟩, fr_32⟩) (fun _ _ _ _ _ => trivial) (fun _ _ _ _ _ e ⟨w_35, w_36, w_37, hs_34, ⟨vs_40, hc_41, hl_42, hr_43⟩, ⟨vs_44, hc_45, hl_46, hr_47⟩, fr_48⟩ => ⟨w_35, w_36, w_37, hs_34, ⟨vs_40, hc_41, hl_42, a2up e hr_43⟩, ⟨vs_44, hc_45, hl_46, a2up e hr_47⟩, fr_48⟩) (fun N x_49 v_50 z_33 σ2 I_51 C_52 H_53 e_54 s_55 ⟨w_35, w_36, w_37, hs_34, ⟨vs_40, hc_41, hl_42, hr_43⟩, ⟨vs_44, hc_45, hl_46, hr_47⟩, fr_48⟩ r_56 hm => ?_) (fun z_162 σ2 I_157 C_158 H_159 e_160 s_161 ⟨w_164, w_165, w_166, hs_163, ⟨vs_169, hc_170, hl_171, hr_172⟩, ⟨vs_173, hc_174, hl_175, hr_176⟩, fr_177⟩ hm => ?_)
    · subst hs_34
      refine g2 (K := K) x_49 v_50 I_51 C_52 H_53 _ s_55 r_56 fun σ2 ⟨v_58, v_59, hs_62, r_60, r_61⟩ => ?_
      subst hs_62
      refine q_asg (E := E) (K := K) (σ := [some v_parents, some v_wanted, some v_costs, some (.ref p_2), some (.ref p_17), some v_58, some v_59, w_37]) (i := 7) (x_int (i := 0)) s_55 (fun _ _ h => PX.mono (e_7.trans (e_22.trans e_54)) fr_48 h) hm fun state_63 v_64 I_65 H_66 e_67 s_68 r_69 hm => ?_
      refine s_ifj (E := E) (K := K) (σ := [some v_parents, some v_wanted, some v_costs, some (.ref p_2), some (.ref p_17), some v_58, some v_59, some v_64]) (fun (z_78 : Int) σ2 I_80 C_81 => ∃ v_82 : V, σ2 = [some v_parents, some v_wanted, some v_costs, some (.ref p_2), some (.ref p_17), some v_58, some v_59, some v_82] ∧ Rp.r pI z_78 v_82 I_80 Z ∧ C_81 p_2 = some (.lst vs_40) ∧ C_81 p_17 = some (.lst vs_44) ∧ Ex C0 C_81) (t_test (x_op o_ge (x_var (i := 6) rfl (Rp.mono _ e_67 exz r_61)) (x_int (i := 0)))) s_68 (fun _ _ h => PX.mono (e_7.trans (e_22.trans (e_54.trans e_67))) fr_48 h) hm (fun N I_70 H_71 e_72 s_73 hm => ?_) (fun N I_74 H_75 e_76 s_77 hm => ?_) (fun z_78 σ2 I_94 C_95 H_96 e_97 s_98 ⟨v_82, hs_79, r_83, hc_84, hc_85, fr_86⟩ hm => ?_)
      · refine q_asg (E := E) (K := K) (σ := [some v_parents, some v_wanted, some v_costs, some (.ref p_2), some (.ref p_17), some v_58, some v_59, some v_64]) (i := 7) (x_op o_ix (x_cell (i := 3) rfl hc_41 hl_42 (a2up (e_67.trans e_72) hr_43)) (x_var (i := 6) rfl (Rp.mono _ (e_67.trans e_72) exz r_61))) s_73 (fun _ _ h => PX.mono (e_7.trans (e_22.trans (e_54.trans (e_67.trans e_72)))) fr_48 h) hm fun state_87 v_88 I_89 H_90 e_91 s_92 r_93 hm => ?_
        exact hm _ _ _ _ (e_72.trans e_91) s_92 ⟨v_88, rfl, Rp.mono _ (Ex.refl _) exz r_93, hc_41, hc_45, fr_48⟩
      · exact hm _ _ _ _ e_76 s_77 ⟨v_64, rfl, Rp.mono _ e_76 exz r_69, hc_41, hc_45, fr_48⟩
      subst hs_79
      refine s_ifj (E := E) (K := K) (σ := [some v_parents, some v_wanted, some v_costs, some (.ref p_2), some (.ref p_17), some v_58, some v_59, some v_82]) (fun (z_107 : ((List (Int × Str)) × Int)) σ2 I_109 C_110 => ∃ v_115 : V, σ2 = [some v_parents, some v_wanted, some v_costs, some (.ref p_2), some (.ref p_17), some v_58, some v_59, some v_115] ∧ (∃ vs_111 : List V, C_110 p_17 = some (.lst vs_111) ∧ vs_111.length ≤ sizeLine ∧ A2 (fun x u => Rp.r (pT (tc pI (t1 pS))) x u I_109 Z) z_107.1 vs_111) ∧ Rp.r pI z_107.2 v_115 I_109 Z ∧ C_110 p_2 = some (.lst vs_40) ∧ Ex C0 C_110) (t_B (x_call (a_cons (x_var (i := 0) rfl (Rp.mono _ (e_7.trans (e_22.trans (e_54.trans (e_67.trans e_97)))) exz r_parents)) (a_cons (x_var (i := 1) rfl (Rp.mono _ (e_7.trans (e_22.trans (e_54.trans (e_67.trans e_97)))) exz r_wanted)) (a_cons (x_var (i := 2) rfl (Rp.mono _ (e_7.trans (e_22.trans (e_54.trans (e_67.trans e_97)))) exz r_costs)) (a_cons (x_var (i := 5) rfl (Rp.mono _ (e_67.trans e_97) exz r_60)) (a_one (x_var (i := 7) rfl (Rp.mono _ (Ex.refl _) exz r_83))))))))) s_98 (fun _ _ h => PX.mono (e_7.trans (e_22.trans (e_54.trans (e_67.trans e_97)))) fr_86 h) hm (fun N I_99 H_100 e_101 s_102 hm => ?_) (fun N I_103 H_104 e_105 s_106 hm => ?_) (fun z_107 σ2 I_139 C_140 H_141 e_142 s_143 ⟨v_115, hs_108, ⟨vs_111, hc_112, hl_113, hr_114⟩, r_116, hc_117, fr_118⟩ hm => ?_)
      · refine q_asg (E := E) (K := K) (σ := [some v_parents, some v_wanted, some v_costs, some (.ref p_2), some (.ref p_17), some v_58, some v_59, some v_82]) (i := 7) (x_op o_sub (x_int (i := 1)) (x_var (i := 7) rfl (Rp.mono _ e_101 exz r_83))) s_102 (fun _ _ h => PX.mono (e_7.trans (e_22.trans (e_54.trans (e_67.trans (e_97.trans e_101))))) fr_86 h) hm fun state_119 v_120 I_121 H_122 e_123 s_124 r_125 hm => ?_
        refine q_app (E := E) (K := K) (σ := [some v_parents, some v_wanted, some v_costs, some (.ref p_2), some (.ref p_17), some v_58, some v_59, some v_120]) (i := 4) rfl hc_85 (a2up (e_67.trans (e_97.trans (e_101.trans e_123))) hr_47) (x_tup (a_cons (x_var (i := 5) rfl (Rp.mono _ (e_67.trans (e_97.trans (e_101.trans e_123))) exz r_60)) (a_one (x_op o_ixQ (x_c (R := (pQ K pS)) (a := ([("without" : Str), ("with" : Str)] : (List Str))) fun _ _ => ⟨_, _, rfl, T.gt_WORDS.2 _, (by decide), (A2.cons ⟨rfl, by decide +kernel⟩ (A2.cons ⟨rfl, by decide +kernel⟩ A2.nil))⟩) (x_var (i := 7) rfl (Rp.mono _ (Ex.refl _) exz r_125))))) (Nat.le_of_ble_eq_true rfl)) s_124 (fun _ _ h => PX.mono (e_7.trans (e_22.trans (e_54.trans (e_67.trans (e_97.trans (e_101.trans e_123)))))) fr_86 h) hm fun marks_126 vs_127 I_128 C_129 H_130 e_131 s_132 hc_133 k_134 hl_135 hr_136 hm => ?_
        have hc_137 := (k_134 _ ne_29).trans hc_84
        have fr_138 := fr_keep fr_86 hB_30 k_134
        exact hm _ _ _ _ (e_101.trans (e_123.trans e_131)) s_132 ⟨v_120, rfl, ⟨_, hc_133, hl_135, a2up (Ex.refl _) hr_136⟩, Rp.mono _ e_131 exz r_125, hc_137, fr_138⟩
      · exact hm _ _ _ _ e_105 s_106 ⟨v_82, rfl, ⟨_, hc_85, hl_46, a2up (e_67.trans (e_97.trans e_105)) hr_47⟩, Rp.mono _ e_105 exz r_83, hc_84, fr_86⟩
      subst hs_108
      refine q_app (E := E) (K := K) (σ := [some v_parents, some v_wanted, some v_costs, some (.ref p_2), some (.ref p_17), some v_58, some v_59, some v_115]) (i := 3) rfl hc_117 (a2up (e_67.trans (e_97.trans e_142)) hr_43) (x_var (i := 7) rfl (Rp.mono _ (Ex.refl _) exz r_116)) s_143 (fun _ _ h => PX.mono (e_7.trans (e_22.trans (e_54.trans (e_67.trans (e_97.trans e_142))))) fr_118 h) hm fun states_144 vs_145 I_146 C_147 H_148 e_149 s_150 hc_151 k_152 hl_153 hr_154 hm => ?_
      have hc_155 := (k_152 _ (Ne.symm ne_29)).trans hc_112
      have fr_156 := fr_keep fr_118 hB_14 k_152
      exact hm _ _ _ _ (e_67.trans (e_97.trans (e_142.trans e_149))) s_150 ⟨some v_58, some v_59, some v_115, rfl, ⟨_, hc_151, hl_153, a2up (Ex.refl _) hr_154⟩, ⟨_, hc_155, hl_113, a2up e_149 hr_114⟩, fr_156⟩
    subst hs_163
    refine q_retO (i := 4) rfl s_161 fr_177 hB_30 hc_174 hl_175 (a2up (Ex.refl _) hr_176) fun s hr => ?_
    exact hm _ _ _ _ (e_7.trans (e_22.trans e_160)) hB_30 s hl_175 hr
def m_bound_holds (ar_parents : (List Int)) (ar_wanted : (List Int)) (ar_bounds : (List (Int × Int))) (ar_k : Int) : Res Bool :=
  ((un (fun (p : ((List Int) × Int)) => m_children p.1 p.2) (pair (Res.ok ar_parents) (Res.ok ar_k))).bind fun (kids_1 : (List Int)) => (ifR (un notR (un neR' (Res.ok kids_1))) ((pair (Res.ok (0 : Int)) (Res.ok (1 : Int))).bind fun (highest_16 : (Int × Int)) => ((ifR (bin inR (Res.ok ar_k) (Res.ok ar_wanted)) ((pair (Res.ok (1 : Int)) (Res.ok (0 : Int))).bind fun (highest_38 : (Int × Int)) => (Res.ok highest_38)) (Res.ok highest_16)).bind fun (z_31 : (Int × Int)) => ((andR (bin rLe (un (fun p => Res.ok p.1) (bin ix (Res.ok ar_bounds) (Res.ok ar_k))) (un (fun p => Res.ok p.1) (Res.ok z_31))) (bin rLe (un (fun p => Res.ok p.2) (bin ix (Res.ok ar_bounds) (Res.ok ar_k))) (un (fun p => Res.ok p.2) (Res.ok z_31)))).bind fun a_50 => Res.ok a_50))) ((un (fun (p : ((List (Int × Int)) × (List Int) × Int)) => m_side_sum p.1 p.2.1 p.2.2) (pair (Res.ok ar_bounds) (pair (Res.ok kids_1) (Res.ok (0 : Int))))).bind fun (out_57 : Int) => ((un (fun (p : ((List (Int × Int)) × (List Int) × Int)) => m_side_sum p.1 p.2.1 p.2.2) (pair (Res.ok ar_bounds) (pair (Res.ok kids_1) (Res.ok (1 : Int))))).bind fun (inside_64 : Int) => (ifR (orR (bin rGt (un (fun p => Res.ok p.1) (bin ix (Res.ok ar_bounds) (Res.ok ar_k))) (Res.ok out_57)) (bin rGt (un (fun p => Res.ok p.1) (bin ix (Res.ok ar_bounds) (Res.ok ar_k))) (bin rAdd (Res.ok (1 : Int)) (Res.ok inside_64)))) ((Res.ok false).bind fun a_79 => Res.ok a_79) ((andR (bin rLe (un (fun p => Res.ok p.2) (bin ix (Res.ok ar_bounds) (Res.ok ar_k))) (Res.ok inside_64)) (bin rLe (un (fun p => Res.ok p.2) (bin ix (Res.ok ar_bounds) (Res.ok ar_k))) (bin rAdd (Res.ok (1 : Int)) (Res.ok out_57)))).bind fun a_86 => Res.ok a_86))))))
abbrev N_bound_holds : List Str := ["parents", "wanted", "bounds", "k", "kids", "highest", "out", "inside"]
theorem sc_bound_holds : FnScope N_bound_holds ["parents", "wanted", "bounds", "k"] (defScope s_bound_holds) := ⟨rfl, rfl, rfl, by decide +kernel, rfl, by decide +kernel, by decide +kernel⟩
theorem bind_bound_holds {K : PySem.W.Frag} {mg : Str → Option Value} {T : Tx K mg} : Binds K T.d_bound_holds ["parents", "wanted", "bounds", "k"] [] := FunD.bindsN T.F_bound_holds fun _ _ _ _ _ _ us hl => match us, hl with | [_, _, _, _], _ => rfl
abbrev sp_bound_holds (K : PySem.W.Frag) : Sp := spP K (tc (pL pI) (tc (pL pI) (tc (pL (pT (tc pI (t1 pI)))) (t1 pI)))) (fun (p : ((List Int) × (List Int) × (List (Int × Int)) × Int)) => m_bound_holds p.1 p.2.1 p.2.2.1 p.2.2.2) pB
theorem ok_bound_holds (T : Tx K mg) : FnOk P w K mg base (L2.CX P w) 2 T.f_bound_holds T.d_bound_holds ["parents", "wanted", "bounds", "k"] (sp_bound_holds K) := by
  refine T.F_bound_holds.ok sc_bound_holds (fun vs H Q E h => ?_) (fun cdv A outer s H vs Q E hr h => ?_)
  · obtain ⟨I, C, a, _, hr, _⟩ := h
    exact Rt.len _ hr
  · obtain ⟨I0, C0, ⟨ar_parents, ar_wanted, ar_bounds, ar_k⟩, hs, ⟨v_parents, us0, rfl, r_parents, v_wanted, us1, rfl, r_wanted, v_bounds, us2, rfl, r_bounds, v_k, rfl, r_k⟩, hm⟩ := h
    have hm : Post (m_bound_holds ar_parents ar_wanted ar_bounds ar_k) (PQ pB I0 C0 Q) (PX E K I0 C0) := hm
    replace r_parents : Rp.r (pL pI) ar_parents v_parents I0 Z := Im.im r_parents
    replace r_wanted : Rp.r (pL pI) ar_wanted v_wanted I0 Z := Im.im r_wanted
    replace r_bounds : Rp.r (pL (pT (tc pI (t1 pI)))) ar_bounds v_bounds I0 Z := Im.im r_bounds
    replace r_k : Rp.r pI ar_k v_k I0 Z := Im.im r_k
    unfold m_bound_holds at hm
    refine ⟨_, (pss_cons (ps_set (i := 4) sc_bound_holds.nd rfl (Or.inl rfl) (pe_call (ok_children T) (hr.mono (by decide)) rfl T.g_children T.F_children.kp bind_children .nil passE (pa_cons (pv 0) (pa_cons (pv 3) pa_nil)))) (pss_cons (ps_if (pt_not (pt_truth (pv 4) (fun _ => rfl))) (pss_cons (ps_set (i := 5) sc_bound_holds.nd rfl (Or.inl rfl) (pe_tup (pa_cons pe_int (pa_cons pe_int pa_nil)))) (Evl.pss_cut (ps_if (pt_cmpR (r := rIn K false) op_in_seq (pv 3) (pv 1) rfl) (pss_cons (ps_set (i := 5) sc_bound_holds.nd rfl (Or.inl rfl) (pe_tup (pa_cons pe_int (pa_cons pe_int pa_nil)))) pss_nil) pss_nil) (pss_cons (ps_ret (pe_and (pe_cmpR op_le (pe_ix (r := rIxT K) ix_tup (pe_ix (r := rIxL K) ix_list (pv 2) (pv 3) (fun _ _ => rfl)) pe_int (fun _ _ => rfl)) (pe_ix (r := rIxT K) ix_tup (pv 5) pe_int (fun _ _ => rfl)) (nomark _)) (pe_one (pe_cmpR op_le (pe_ix (r := rIxT K) ix_tup (pe_ix (r := rIxL K) ix_list (pv 2) (pv 3) (fun _ _ => rfl)) pe_int (fun _ _ => rfl)) (pe_ix (r := rIxT K) ix_tup (pv 5) pe_int (fun _ _ => rfl)) (nomark _))))) pss_nil))) pss_nil) (pss_cons (ps_set (i := 6) sc_bound_holds.nd rfl (Or.inl rfl) (pe_call (ok_side_sum T) (hr.mono (by decide)) rfl T.g_side_sum T.F_side_sum.kp bind_side_sum .nil passE (pa_cons (pv 2) (pa_cons (pv 4) (pa_cons pe_int pa_nil))))) (pss_cons (ps_set (i := 7) sc_bound_holds.nd rfl (Or.inl rfl) (pe_call (ok_side_sum T) (hr.mono (by decide)) rfl T.g_side_sum T.F_side_sum.kp bind_side_sum .nil passE (pa_cons (pv 2) (pa_cons (pv 4) (pa_cons pe_int pa_nil))))) (pss_cons (ps_if (PW.pt (pw_or (pt_cmpR op_gt (pe_ix (r := rIxT K) ix_tup (pe_ix (r := rIxL K) ix_list (pv 2) (pv 3) (fun _ _ => rfl)) pe_int (fun _ _ => rfl)) (pv 6) (nomark _)) (pw_or1 (pt_cmpR op_gt (pe_ix (r := rIxT K) ix_tup (pe_ix (r := rIxL K) ix_list (pv 2) (pv 3) (fun _ _ => rfl)) pe_int (fun _ _ => rfl)) (pe_op op_add pe_int (pv 7)) (nomark _))))) (pss_cons (ps_ret pe_bl) pss_nil) pss_nil) (pss_cons (ps_ret (pe_and (pe_cmpR op_le (pe_ix (r := rIxT K) ix_tup (pe_ix (r := rIxL K) ix_list (pv 2) (pv 3) (fun _ _ => rfl)) pe_int (fun _ _ => rfl)) (pv 7) (nomark _)) (pe_one (pe_cmpR op_le (pe_ix (r := rIxT K) ix_tup (pe_ix (r := rIxL K) ix_list (pv 2) (pv 3) (fun _ _ => rfl)) pe_int (fun _ _ => rfl)) (pe_op op_add pe_int (pv 6)) (nomark _))))) pss_nil)))))), ?_⟩
    refine q_asg (E := E) (K := K) (σ := [some v_parents, some v_wanted, some v_bounds, some v_k, none, none, none, none]) (i := 4) (x_call (a_cons (x_var (i := 0) rfl (Rp.mono _ (Ex.refl _) exz r_parents)) (a_one (x_var (i := 3) rfl (Rp.mono _ (Ex.refl _) exz r_k))))) hs (fun _ _ h => PX.mono (Ex.refl _) (Ex.refl _) h) hm fun kids_1 v_2 I_3 H_4 e_5 s_6 r_7 hm => ?_
    refine s_if (E := E) (K := K) (σ := [some v_parents, some v_wanted, some v_bounds, some v_k, some v_2, none, none, none]) (t_not (t_lst (x_v (x_var (i := 4) rfl (Rp.mono _ (Ex.refl _) exz r_7))))) s_6 (fun _ _ h => PX.mono e_5 (Ex.refl _) h) hm (fun I_8 H_9 e_10 s_11 hm => ?_) (fun I_12 H_13 e_14 s_15 hm => ?_)
    · refine q_asg (E := E) (K := K) (σ := [some v_parents, some v_wanted, some v_bounds, some v_k, some v_2, none, none, none]) (i := 5) (x_tup (a_cons (x_int (i := 0)) (a_one (x_int (i := 1)))) (Nat.le_of_ble_eq_true rfl)) s_11 (fun _ _ h => PX.mono (e_5.trans e_10) (Ex.refl _) h) hm fun highest_16 v_17 I_18 H_19 e_20 s_21 r_22 hm => ?_
      refine s_ifj (E := E) (K := K) (σ := [some v_parents, some v_wanted, some v_bounds, some v_k, some v_2, some v_17, none, none]) (fun (z_31 : (Int × Int)) σ2 I_33 C_34 => ∃ v_35 : V, σ2 = [some v_parents, some v_wanted, some v_bounds, some v_k, some v_2, some v_35, none, none] ∧ Rp.r (pT (tc pI (t1 pI))) z_31 v_35 I_33 Z ∧ Ex C0 C_34) (t_test (x_op (o_in fl_int) (x_var (i := 3) rfl (Rp.mono _ (e_5.trans (e_10.trans e_20)) exz r_k)) (x_v (x_var (i := 1) rfl (Rp.mono _ (e_5.trans (e_10.trans e_20)) exz r_wanted))))) s_21 (fun _ _ h => PX.mono (e_5.trans (e_10.trans e_20)) (Ex.refl _) h) hm (fun N I_23 H_24 e_25 s_26 hm => ?_) (fun N I_27 H_28 e_29 s_30 hm => ?_) (fun z_31 σ2 I_45 C_46 H_47 e_48 s_49 ⟨v_35, hs_32, r_36, fr_37⟩ hm => ?_)
      · refine q_asg (E := E) (K := K) (σ := [some v_parents, some v_wanted, some v_bounds, some v_k, some v_2, some v_17, none, none]) (i := 5) (x_tup (a_cons (x_int (i := 1)) (a_one (x_int (i := 0)))) (Nat.le_of_ble_eq_true rfl)) s_26 (fun _ _ h => PX.mono (e_5.trans (e_10.trans (e_20.trans e_25))) (Ex.refl _) h) hm fun highest_38 v_39 I_40 H_41 e_42 s_43 r_44 hm => ?_
        exact hm _ _ _ _ (e_25.trans e_42) s_43 ⟨v_39, rfl, Rp.mono _ (Ex.refl _) exz r_44, (Ex.refl _)⟩
      · exact hm _ _ _ _ e_29 s_30 ⟨v_17, rfl, Rp.mono _ e_29 exz r_22, (Ex.refl _)⟩
      subst hs_32
      refine q_ret (tz := tNext) (E := E) (K := K) (σ := [some v_parents, some v_wanted, some v_bounds, some v_k, some v_2, some v_35, none, none]) (x_andV (x_op o_le (x_k (k := ((0 : Nat) : Int)) (o_pj pj0) (x_op o_ix (x_v (x_var (i := 2) rfl (Rp.mono _ (e_5.trans (e_10.trans (e_20.trans e_48))) exz r_bounds))) (x_var (i := 3) rfl (Rp.mono _ (e_5.trans (e_10.trans (e_20.trans e_48))) exz r_k)))) (x_k (k := ((0 : Nat) : Int)) (o_pj pj0) (x_var (i := 5) rfl (Rp.mono _ (Ex.refl _) exz r_36)))) (x_op o_le (x_k (k := ((1 : Nat) : Int)) (o_pj (pjs pj1)) (x_op o_ix (x_v (x_var (i := 2) rfl (Rp.mono _ (e_5.trans (e_10.trans (e_20.trans e_48))) exz r_bounds))) (x_var (i := 3) rfl (Rp.mono _ (e_5.trans (e_10.trans (e_20.trans e_48))) exz r_k)))) (x_k (k := ((1 : Nat) : Int)) (o_pj (pjs pj1)) (x_var (i := 5) rfl (Rp.mono _ (Ex.refl _) exz r_36))))) s_49 (fun _ _ h => PX.mono (e_5.trans (e_10.trans (e_20.trans e_48))) fr_37 h) hm fun a_50 v_51 I_52 H_53 e_54 s_55 r_56 hm => ?_
      exact hm v_51 I_52 H_53 (e_5.trans (e_10.trans (e_20.trans (e_48.trans e_54)))) (St.less s_55 fr_37) (Im.im r_56)
    · refine q_asg (E := E) (K := K) (σ := [some v_parents, some v_wanted, some v_bounds, some v_k, some v_2, none, none, none]) (i := 6) (x_call (a_cons (x_v (x_var (i := 2) rfl (Rp.mono _ (e_5.trans e_14) exz r_bounds))) (a_cons (x_var (i := 4) rfl (Rp.mono _ e_14 exz r_7)) (a_one (x_int (i := 0)))))) s_15 (fun _ _ h => PX.mono (e_5.trans e_14) (Ex.refl _) h) hm fun out_57 v_58 I_59 H_60 e_61 s_62 r_63 hm => ?_
      refine q_asg (E := E) (K := K) (σ := [some v_parents, some v_wanted, some v_bounds, some v_k, some v_2, none, some v_58, none]) (i := 7) (x_call (a_cons (x_v (x_var (i := 2) rfl (Rp.mono _ (e_5.trans (e_14.trans e_61)) exz r_bounds))) (a_cons (x_var (i := 4) rfl (Rp.mono _ (e_14.trans e_61) exz r_7)) (a_one (x_int (i := 1)))))) s_62 (fun _ _ h => PX.mono (e_5.trans (e_14.trans e_61)) (Ex.refl _) h) hm fun inside_64 v_65 I_66 H_67 e_68 s_69 r_70 hm => ?_
      refine s_if (E := E) (K := K) (σ := [some v_parents, some v_wanted, some v_bounds, some v_k, some v_2, none, some v_58, some v_65]) (t_or (t_test (x_op o_gt (x_k (k := ((0 : Nat) : Int)) (o_pj pj0) (x_op o_ix (x_v (x_var (i := 2) rfl (Rp.mono _ (e_5.trans (e_14.trans (e_61.trans e_68))) exz r_bounds))) (x_var (i := 3) rfl (Rp.mono _ (e_5.trans (e_14.trans (e_61.trans e_68))) exz r_k)))) (x_var (i := 6) rfl (Rp.mono _ e_68 exz r_63)))) (t_test (x_op o_gt (x_k (k := ((0 : Nat) : Int)) (o_pj pj0) (x_op o_ix (x_v (x_var (i := 2) rfl (Rp.mono _ (e_5.trans (e_14.trans (e_61.trans e_68))) exz r_bounds))) (x_var (i := 3) rfl (Rp.mono _ (e_5.trans (e_14.trans (e_61.trans e_68))) exz r_k)))) (x_op o_add (x_int (i := 1)) (x_var (i := 7) rfl (Rp.mono _ (Ex.refl _) exz r_70)))))) s_69 (fun _ _ h => PX.mono (e_5.trans (e_14.trans (e_61.trans e_68))) (Ex.refl _) h) hm (fun I_71 H_72 e_73 s_74 hm => ?_) (fun I_75 H_76 e_77 s_78 hm => ?_)
      · refine q_ret (tz := tNext) (E := E) (K := K) (σ := [some v_parents, some v_wanted, some v_bounds, some v_k, some v_2, none, some v_58, some v_65]) x_bl s_74 (fun _ _ h => PX.mono (e_5.trans (e_14.trans (e_61.trans (e_68.trans e_73)))) (Ex.refl _) h) hm fun a_79 v_80 I_81 H_82 e_83 s_84 r_85 hm => ?_
        exact hm v_80 I_81 H_82 (e_5.trans (e_14.trans (e_61.trans (e_68.trans (e_73.trans e_83))))) (St.less s_84 (Ex.refl _)) (Im.im r_85)
      · refine q_ret (tz := tNext) (E := E) (K := K) (σ := [some v_parents, some v_wanted, some v_bounds, some v_k, some v_2, none, some v_58, some v_65]) (x_andV (x_op o_le (x_k (k := ((1 : Nat) : Int)) (o_pj (pjs pj1)) (x_op o_ix (x_v (x_var (i := 2) rfl (Rp.mono _ (e_5.trans (e_14.trans (e_61.trans (e_68.trans e_77)))) exz r_bounds))) (x_var (i := 3) rfl (Rp.mono _ (e_5.trans (e_14.trans (e_61.trans (e_68.trans e_77)))) exz r_k)))) (x_var (i := 7) rfl (Rp.mono _ e_77 exz r_70))) (x_op o_le (x_k (k := ((1 : Nat) : Int)) (o_pj (pjs pj1)) (x_op o_ix (x_v (x_var (i := 2) rfl (Rp.mono _ (e_5.trans (e_14.trans (e_61.trans (e_68.trans e_77)))) exz r_bounds))) (x_var (i := 3) rfl (Rp.mono _ (e_5.trans (e_14.trans (e_61.trans (e_68.trans e_77)))) exz r_k)))) (x_op o_add (x_int (i := 1)) (x_var (i := 6) rfl (Rp.mono _ (e_68.trans e_77) exz r_63))))) s_78 (fun _ _ h => PX.mono (e_5.trans (e_14.trans (e_61.trans (e_68.trans e_77)))) (Ex.refl _) h) hm fun a_86 v_87 I_88 H_89 e_90 s_91 r_92 hm => ?_
        exact hm v_87 I_88 H_89 (e_5.trans (e_14.trans (e_61.trans (e_68.trans (e_77.trans e_90))))) (St.less s_91 (Ex.refl _)) (Im.im r_92)
def m_is_marks_bound (ar_parents : (List Int)) (ar_wanted : (List Int)) (ar_bounds : (List (Int × Int))) (ar_many : Int) : Res Bool :=
  ((un (fun (p : ((List Int) × (List Int))) => m_check_wanted p.1 p.2) (pair (Res.ok ar_parents) (Res.ok ar_wanted))).bind fun (b_1 : Unit) => (ifR (bin neR (un rLen (Res.ok ar_bounds)) (un rLen (Res.ok ar_parents))) ((Res.ok false).bind fun a_14 => Res.ok a_14) (((un rng1 (un rLen (Res.ok ar_parents))).bind fun xs => loopR (fun (x_27 : Int) (z_21 : Unit) => (ifR (un notR (un (fun (p : ((List Int) × (List Int) × (List (Int × Int)) × Int)) => m_bound_holds p.1 p.2.1 p.2.2.1 p.2.2.2) (pair (Res.ok ar_parents) (pair (Res.ok ar_wanted) (pair (Res.ok ar_bounds) (Res.ok x_27)))))) ((Res.ok false).bind fun a_47 => Res.ok (Out.rt a_47)) (Res.ok (Out.nx ())))) xs ()).bind fun (o : Out Unit Bool) => match o with | .nx z_59 => ((bin rGt (un (fun (p : ((List (Int × Int)) × (List Int) × Int)) => m_side_sum p.1 p.2.1 p.2.2) (pair (Res.ok ar_bounds) (pair (un (fun (p : ((List Int) × Int)) => m_children p.1 p.2) (pair (Res.ok ar_parents) (un rNeg (Res.ok (1 : Int))))) (Res.ok (0 : Int))))) (Res.ok ar_many)).bind fun a_65 => Res.ok a_65) | .br _ => Res.bad | .rt r => Res.ok r)))
abbrev N_is_marks_bound : List Str := ["parents", "wanted", "bounds", "many", "k"]
theorem sc_is_marks_bound : FnScope N_is_marks_bound ["parents", "wanted", "bounds", "many"] (defScope s_is_marks_bound) := ⟨rfl, rfl, rfl, by decide +kernel, rfl, by decide +kernel, by decide +kernel⟩
theorem bind_is_marks_bound {K : PySem.W.Frag} {mg : Str → Option Value} {T : Tx K mg} : Binds K T.d_is_marks_bound ["parents", "wanted", "bounds", "many"] [] := FunD.bindsN T.F_is_marks_bound fun _ _ _ _ _ _ us hl => match us, hl with | [_, _, _, _], _ => rfl
abbrev sp_is_marks_bound (K : PySem.W.Frag) : Sp := spP K (tc (pL pI) (tc (pL pI) (tc (pL (pT (tc pI (t1 pI)))) (t1 pI)))) (fun (p : ((List Int) × (List Int) × (List (Int × Int)) × Int)) => m_is_marks_bound p.1 p.2.1 p.2.2.1 p.2.2.2) pB
theorem ok_is_marks_bound (T : Tx K mg) : FnOk P w K mg base (L2.CX P w) 4 T.f_is_marks_bound T.d_is_marks_bound ["parents", "wanted", "bounds", "many"] (sp_is_marks_bound K) := by
  refine T.F_is_marks_bound.ok sc_is_marks_bound (fun vs H Q E h => ?_) (fun cdv A outer s H vs Q E hr h => ?_)
  · obtain ⟨I, C, a, _, hr, _⟩ := h
    exact Rt.len _ hr
  · obtain ⟨I0, C0, ⟨ar_parents, ar_wanted, ar_bounds, ar_many⟩, hs, ⟨v_parents, us0, rfl, r_parents, v_wanted, us1, rfl, r_wanted, v_bounds, us2, rfl, r_bounds, v_many, rfl, r_many⟩, hm⟩ := h
    have hm : Post (m_is_marks_bound ar_parents ar_wanted ar_bounds ar_many) (PQ pB I0 C0 Q) (PX E K I0 C0) := hm
    replace r_parents : Rp.r (pL pI) ar_parents v_parents I0 Z := Im.im r_parents
    replace r_wanted : Rp.r (pL pI) ar_wanted v_wanted I0 Z := Im.im r_wanted
    replace r_bounds : Rp.r (pL (pT (tc pI (t1 pI)))) ar_bounds v_bounds I0 Z := Im.im r_bounds
    replace r_many : Rp.r pI ar_many v_many I0 Z := Im.im r_many
    unfold m_is_marks_bound at hm
    refine ⟨_, (pss_cons (ps_expr (pe_call (ok_check_wanted T) (hr.mono (by decide)) rfl T.g_check_wanted T.F_check_wanted.kp bind_check_wanted .nil passE (pa_cons (pv 0) (pa_cons (pv 1) pa_nil)))) (pss_cons (ps_if (pt_cmpR op_ne (pe_callB (r := rLen1 K) call_len_seq (by rfl) T.gb_len bt_len (pa_cons (pv 2) pa_nil)) (pe_callB (r := rLen1 K) call_len_seq (by rfl) T.gb_len bt_len (pa_cons (pv 0) pa_nil)) (nomark _)) (pss_cons (ps_ret pe_bl) pss_nil) pss_nil) (pss_cons (ps_for (passes_of rfl) rfl (pi_range1 (by rfl) T.gb_range (pa_cons (pe_callB (r := rLen1 K) call_len_seq (by rfl) T.gb_len bt_len (pa_cons (pv 0) pa_nil)) pa_nil)) (pg_name (i := 4) sc_is_marks_bound.nd rfl (Or.inl rfl)) (pss_cons (ps_if (pt_not (pt_val (pe_call (ok_bound_holds T) (hr.mono (by decide)) rfl T.g_bound_holds T.F_bound_holds.kp bind_bound_holds .nil passE (pa_cons (pv 0) (pa_cons (pv 1) (pa_cons (pv 2) (pa_cons (pv 4) pa_nil))))))) (pss_cons (ps_ret pe_bl) pss_nil) pss_nil) pss_nil)) (pss_cons (ps_ret (pe_cmpR op_gt (pe_call (ok_side_sum T) (hr.mono (by decide)) rfl T.g_side_sum T.F_side_sum.kp bind_side_sum .nil passE (pa_cons (pv 2) (pa_cons (pe_call (ok_children T) (hr.mono (by decide)) rfl T.g_children T.F_children.kp bind_children .nil passE (pa_cons (pv 0) (pa_cons (pe_un un_neg pe_int) pa_nil))) (pa_cons pe_int pa_nil)))) (pv 3) (nomark _))) pss_nil)))), ?_⟩
    refine s_expr (E := E) (K := K) (σ := [some v_parents, some v_wanted, some v_bounds, some v_many, none]) (x_call (a_cons (x_var (i := 0) rfl (Rp.mono _ (Ex.refl _) exz r_parents)) (a_one (x_var (i := 1) rfl (Rp.mono _ (Ex.refl _) exz r_wanted))))) hs (fun _ _ h => PX.mono (Ex.refl _) (Ex.refl _) h) hm fun b_1 I_2 H_3 e_4 s_5 hm => ?_
    refine s_if (E := E) (K := K) (σ := [some v_parents, some v_wanted, some v_bounds, some v_many, none]) (t_test (x_op o_neI (x_cb o_len (a_one (x_v (x_var (i := 2) rfl (Rp.mono _ e_4 exz r_bounds))))) (x_cb o_len (a_one (x_v (x_var (i := 0) rfl (Rp.mono _ e_4 exz r_parents))))))) s_5 (fun _ _ h => PX.mono e_4 (Ex.refl _) h) hm (fun I_6 H_7 e_8 s_9 hm => ?_) (fun I_10 H_11 e_12 s_13 hm => ?_)
    · refine q_ret (tz := tNext) (E := E) (K := K) (σ := [some v_parents, some v_wanted, some v_bounds, some v_many, none]) x_bl s_9 (fun _ _ h => PX.mono (e_4.trans e_8) (Ex.refl _) h) hm fun a_14 v_15 I_16 H_17 e_18 s_19 r_20 hm => ?_
      exact hm v_15 I_16 H_17 (e_4.trans (e_8.trans e_18)) (St.less s_19 (Ex.refl _)) (Im.im r_20)
    · refine s_forR (E := E) (K := K) (σ := [some v_parents, some v_wanted, some v_bounds, some v_many, none]) (fun (z_21 : Unit) σ2 I_24 C_25 => ∃ w_23 : Option V, σ2 = [some v_parents, some v_wanted, some v_bounds, some v_many, w_23] ∧ Ex C0 C_25) (i_rng1 (a_one (x_cb o_len (a_one (x_v (x_var (i := 0) rfl (Rp.mono _ (e_4.trans e_12) exz r_parents))))))) s_13 (fun _ _ h => PX.mono (e_4.trans e_12) (Ex.refl _) h) hm (fun _ e_35 => ⟨none, rfl, (Ex.refl _)⟩) (fun _ _ _ _ _ => trivial) (fun _ _ _ _ _ e ⟨w_23, hs_22, fr_26⟩ => ⟨w_23, hs_22, fr_26⟩) (fun N x_27 v_28 z_21 σ2 I_29 C_30 H_31 e_32 s_33 ⟨w_23, hs_22, fr_26⟩ r_34 hm => ?_) (fun z_59 σ2 I_54 C_55 H_56 e_57 s_58 ⟨w_61, hs_60, fr_64⟩ hm => ?_)
      · subst hs_22
        refine g1 (K := K) x_27 v_28 I_29 C_30 H_31 _ s_33 r_34 fun σ2 ⟨v_36, hs_38, r_37⟩ => ?_
        subst hs_38
        refine s_if (E := E) (K := K) (σ := [some v_parents, some v_wanted, some v_bounds, some v_many, some v_36]) (t_not (t_B (x_call (a_cons (x_var (i := 0) rfl (Rp.mono _ (e_4.trans (e_12.trans e_32)) exz r_parents)) (a_cons (x_var (i := 1) rfl (Rp.mono _ (e_4.trans (e_12.trans e_32)) exz r_wanted)) (a_cons (x_var (i := 2) rfl (Rp.mono _ (e_4.trans (e_12.trans e_32)) exz r_bounds)) (a_one (x_var (i := 4) rfl (Rp.mono _ (Ex.refl _) exz r_37))))))))) s_33 (fun _ _ h => PX.mono (e_4.trans (e_12.trans e_32)) fr_26 h) hm (fun I_39 H_40 e_41 s_42 hm => ?_) (fun I_43 H_44 e_45 s_46 hm => ?_)
        · refine q_ret (tz := tNext) (E := E) (K := K) (σ := [some v_parents, some v_wanted, some v_bounds, some v_many, some v_36]) x_bl s_42 (fun _ _ h => PX.mono (e_4.trans (e_12.trans (e_32.trans e_41))) fr_26 h) hm fun a_47 v_48 I_49 H_50 e_51 s_52 r_53 hm => ?_
          exact hm v_48 I_49 H_50 (e_4.trans (e_12.trans (e_32.trans (e_41.trans e_51)))) (St.less s_52 fr_26) (Im.im r_53)
        · exact hm _ _ _ _ e_45 s_46 ⟨some v_36, rfl, fr_26⟩
      subst hs_60
      refine q_ret (tz := tNext) (E := E) (K := K) (σ := [some v_parents, some v_wanted, some v_bounds, some v_many, w_61]) (x_op o_gt (x_call (a_cons (x_v (x_var (i := 2) rfl (Rp.mono _ (e_4.trans (e_12.trans e_57)) exz r_bounds))) (a_cons (x_call (a_cons (x_var (i := 0) rfl (Rp.mono _ (e_4.trans (e_12.trans e_57)) exz r_parents)) (a_one (x_un o_neg (x_int (i := 1)))))) (a_one (x_int (i := 0)))))) (x_var (i := 3) rfl (Rp.mono _ (e_4.trans (e_12.trans e_57)) exz r_many))) s_58 (fun _ _ h => PX.mono (e_4.trans (e_12.trans e_57)) fr_64 h) hm fun a_65 v_66 I_67 H_68 e_69 s_70 r_71 hm => ?_
      exact hm v_66 I_67 H_68 (e_4.trans (e_12.trans (e_57.trans e_69))) (St.less s_70 fr_64) (Im.im r_71)
def m_naming_paper (ar_parents : (List Int)) (ar_wanted : (List Int)) (ar_many : Int) : Res ((Str × (List (Int × Str))) ⊕ (Str × (List (Int × Int)))) :=
  ((un (fun (p : ((List Int) × (List Int))) => m_check_wanted p.1 p.2) (pair (Res.ok ar_parents) (Res.ok ar_wanted))).bind fun (b_1 : Unit) => ((un (fun (p : ((List Int) × (List Int))) => m_mark_costs p.1 p.2) (pair (Res.ok ar_parents) (Res.ok ar_wanted))).bind fun (costs_6 : (List (Int × Int))) => (ifR (bin rLe (un (fun (p : ((List (Int × Int)) × (List Int) × Int)) => m_side_sum p.1 p.2.1 p.2.2) (pair (Res.ok costs_6) (pair (un (fun (p : ((List Int) × Int)) => m_children p.1 p.2) (pair (Res.ok ar_parents) (un rNeg (Res.ok (1 : Int))))) (Res.ok (0 : Int))))) (Res.ok ar_many)) ((un inlR (pair (Res.ok ("marks" : Str)) (un (fun (p : ((List Int) × (List Int) × (List (Int × Int)))) => m_cheapest_marks p.1 p.2.1 p.2.2) (pair (Res.ok ar_parents) (pair (Res.ok ar_wanted) (Res.ok costs_6)))))).bind fun a_21 => Res.ok a_21) ((un inrR (pair (Res.ok ("bounds" : Str)) (Res.ok costs_6))).bind fun a_28 => Res.ok a_28))))
abbrev N_naming_paper : List Str := ["parents", "wanted", "many", "costs"]
theorem sc_naming_paper : FnScope N_naming_paper ["parents", "wanted", "many"] (defScope s_naming_paper) := ⟨rfl, rfl, rfl, by decide +kernel, rfl, by decide +kernel, by decide +kernel⟩
theorem bind_naming_paper {K : PySem.W.Frag} {mg : Str → Option Value} {T : Tx K mg} : Binds K T.d_naming_paper ["parents", "wanted", "many"] [] := FunD.bindsN T.F_naming_paper fun _ _ _ _ _ _ us hl => match us, hl with | [_, _, _], _ => rfl
abbrev sp_naming_paper (K : PySem.W.Frag) : Sp := spP K (tc (pL pI) (tc (pL pI) (t1 pI))) (fun (p : ((List Int) × (List Int) × Int)) => m_naming_paper p.1 p.2.1 p.2.2) (pX (pT (tc pS (t1 (pL (pT (tc pI (t1 pS))))))) (pT (tc pS (t1 (pL (pT (tc pI (t1 pI))))))))
theorem ok_naming_paper (T : Tx K mg) : FnOk P w K mg base (L2.CX P w) 4 T.f_naming_paper T.d_naming_paper ["parents", "wanted", "many"] (sp_naming_paper K) := by
  refine T.F_naming_paper.ok sc_naming_paper (fun vs H Q E h => ?_) (fun cdv A outer s H vs Q E hr h => ?_)
  · obtain ⟨I, C, a, _, hr, _⟩ := h
    exact Rt.len _ hr
  · obtain ⟨I0, C0, ⟨ar_parents, ar_wanted, ar_many⟩, hs, ⟨v_parents, us0, rfl, r_parents, v_wanted, us1, rfl, r_wanted, v_many, rfl, r_many⟩, hm⟩ := h
    have hm : Post (m_naming_paper ar_parents ar_wanted ar_many) (PQ (pX (pT (tc pS (t1 (pL (pT (tc pI (t1 pS))))))) (pT (tc pS (t1 (pL (pT (tc pI (t1 pI)))))))) I0 C0 Q) (PX E K I0 C0) := hm
    replace r_parents : Rp.r (pL pI) ar_parents v_parents I0 Z := Im.im r_parents
    replace r_wanted : Rp.r (pL pI) ar_wanted v_wanted I0 Z := Im.im r_wanted
    replace r_many : Rp.r pI ar_many v_many I0 Z := Im.im r_many
    unfold m_naming_paper at hm
    refine ⟨_, (pss_cons (ps_expr (pe_call (ok_check_wanted T) (hr.mono (by decide)) rfl T.g_check_wanted T.F_check_wanted.kp bind_check_wanted .nil passE (pa_cons (pv 0) (pa_cons (pv 1) pa_nil)))) (pss_cons (ps_set (i := 3) sc_naming_paper.nd rfl (Or.inl rfl) (pe_call (ok_mark_costs T) (hr.mono (by decide)) rfl T.g_mark_costs T.F_mark_costs.kp bind_mark_costs .nil passE (pa_cons (pv 0) (pa_cons (pv 1) pa_nil)))) (pss_cons (ps_if (pt_cmpR op_le (pe_call (ok_side_sum T) (hr.mono (by decide)) rfl T.g_side_sum T.F_side_sum.kp bind_side_sum .nil passE (pa_cons (pv 3) (pa_cons (pe_call (ok_children T) (hr.mono (by decide)) rfl T.g_children T.F_children.kp bind_children .nil passE (pa_cons (pv 0) (pa_cons (pe_un un_neg pe_int) pa_nil))) (pa_cons pe_int pa_nil)))) (pv 2) (nomark _)) (pss_cons (ps_ret (pe_tup (pa_cons pe_str (pa_cons (pe_call (ok_cheapest_marks T) (hr.mono (by decide)) rfl T.g_cheapest_marks T.F_cheapest_marks.kp bind_cheapest_marks .nil passE (pa_cons (pv 0) (pa_cons (pv 1) (pa_cons (pv 3) pa_nil)))) pa_nil)))) pss_nil) pss_nil) (pss_cons (ps_ret (pe_tup (pa_cons pe_str (pa_cons (pv 3) pa_nil)))) pss_nil)))), ?_⟩
    refine s_expr (E := E) (K := K) (σ := [some v_parents, some v_wanted, some v_many, none]) (x_call (a_cons (x_var (i := 0) rfl (Rp.mono _ (Ex.refl _) exz r_parents)) (a_one (x_var (i := 1) rfl (Rp.mono _ (Ex.refl _) exz r_wanted))))) hs (fun _ _ h => PX.mono (Ex.refl _) (Ex.refl _) h) hm fun b_1 I_2 H_3 e_4 s_5 hm => ?_
    refine q_asg (E := E) (K := K) (σ := [some v_parents, some v_wanted, some v_many, none]) (i := 3) (x_own (n_call (a_cons (x_var (i := 0) rfl (Rp.mono _ e_4 exz r_parents)) (a_one (x_var (i := 1) rfl (Rp.mono _ e_4 exz r_wanted)))))) s_5 (fun _ _ h => PX.mono e_4 (Ex.refl _) h) hm fun costs_6 v_7 I_8 H_9 e_10 s_11 r_12 hm => ?_
    refine s_if (E := E) (K := K) (σ := [some v_parents, some v_wanted, some v_many, some v_7]) (t_test (x_op o_le (x_call (a_cons (x_v (x_var (i := 3) rfl (Rp.mono _ (Ex.refl _) exz r_12))) (a_cons (x_call (a_cons (x_var (i := 0) rfl (Rp.mono _ (e_4.trans e_10) exz r_parents)) (a_one (x_un o_neg (x_int (i := 1)))))) (a_one (x_int (i := 0)))))) (x_var (i := 2) rfl (Rp.mono _ (e_4.trans e_10) exz r_many)))) s_11 (fun _ _ h => PX.mono (e_4.trans e_10) (Ex.refl _) h) hm (fun I_13 H_14 e_15 s_16 hm => ?_) (fun I_17 H_18 e_19 s_20 hm => ?_)
    · refine q_ret (tz := tNext) (E := E) (K := K) (σ := [some v_parents, some v_wanted, some v_many, some v_7]) (x_inl (S1 := (pT (tc pS (t1 (pL (pT (tc pI (t1 pI)))))))) (x_tup (a_cons (x_str (by decide +kernel)) (a_one (x_own (n_call (a_cons (x_var (i := 0) rfl (Rp.mono _ (e_4.trans (e_10.trans e_15)) exz r_parents)) (a_cons (x_var (i := 1) rfl (Rp.mono _ (e_4.trans (e_10.trans e_15)) exz r_wanted)) (a_one (x_var (i := 3) rfl (Rp.mono _ e_15 exz r_12))))))))) (Nat.le_of_ble_eq_true rfl))) s_16 (fun _ _ h => PX.mono (e_4.trans (e_10.trans e_15)) (Ex.refl _) h) hm fun a_21 v_22 I_23 H_24 e_25 s_26 r_27 hm => ?_
      exact hm v_22 I_23 H_24 (e_4.trans (e_10.trans (e_15.trans e_25))) (St.less s_26 (Ex.refl _)) (Im.im r_27)
    · refine q_ret (tz := tNext) (E := E) (K := K) (σ := [some v_parents, some v_wanted, some v_many, some v_7]) (x_inr (R := (pT (tc pS (t1 (pL (pT (tc pI (t1 pS)))))))) (x_tup (a_cons (x_str (by decide +kernel)) (a_one (x_var (i := 3) rfl (Rp.mono _ e_19 exz r_12)))) (Nat.le_of_ble_eq_true rfl))) s_20 (fun _ _ h => PX.mono (e_4.trans (e_10.trans e_19)) (Ex.refl _) h) hm fun a_28 v_29 I_30 H_31 e_32 s_33 r_34 hm => ?_
      exact hm v_29 I_30 H_31 (e_4.trans (e_10.trans (e_19.trans e_32))) (St.less s_33 (Ex.refl _)) (Im.im r_34)
def m__law_mix (ar_cell : Int) (ar_turn : Int) : Res Int :=
  ((bin rMod (un idR (bin rAdd (bin rAdd (bin rMul (Res.ok ar_cell) (Res.ok (69621 : Int))) (bin rMul (Res.ok ar_turn) (Res.ok (48271 : Int)))) (Res.ok (12345 : Int)))) (Res.ok (2147483647 : Int))).bind fun (x_1 : Int) => ((bin rMod (un idR (bin rAdd (bin rMul (Res.ok x_1) (Res.ok (16807 : Int))) (Res.ok (97 : Int)))) (Res.ok (2147483629 : Int))).bind fun (x_8 : Int) => ((bin rMod (un idR (bin rAdd (bin rAdd (bin rMul (Res.ok x_8) (Res.ok (69069 : Int))) (Res.ok ar_cell)) (bin rMul (Res.ok ar_turn) (Res.ok (7 : Int))))) (Res.ok (2147483587 : Int))).bind fun (y_15 : Int) => ((bin rMod (un idR (bin rAdd (bin rMul (Res.ok y_15) (Res.ok (39373 : Int))) (Res.ok (7 : Int)))) (Res.ok (2147483579 : Int))).bind fun (y_22 : Int) => ((bin rAdd (bin rMul (Res.ok x_8) (Res.ok (2147483647 : Int))) (Res.ok y_22)).bind fun a_29 => Res.ok a_29)))))
abbrev N__law_mix : List Str := ["cell", "turn", "x", "y"]
theorem sc__law_mix : FnScope N__law_mix ["cell", "turn"] (defScope s__law_mix) := ⟨rfl, rfl, rfl, by decide +kernel, rfl, by decide +kernel, by decide +kernel⟩
theorem bind__law_mix {K : PySem.W.Frag} {mg : Str → Option Value} {T : Tx K mg} : Binds K T.d__law_mix ["cell", "turn"] [] := FunD.bindsN T.F__law_mix fun _ _ _ _ _ _ us hl => match us, hl with | [_, _], _ => rfl
abbrev sp__law_mix (K : PySem.W.Frag) : Sp := spP K (tc pI (t1 pI)) (fun (p : (Int × Int)) => m__law_mix p.1 p.2) pI
theorem ok__law_mix (T : Tx K mg) : FnOk P w K mg base (L2.CX P w) 1 T.f__law_mix T.d__law_mix ["cell", "turn"] (sp__law_mix K) := by
  refine T.F__law_mix.ok sc__law_mix (fun vs H Q E h => ?_) (fun cdv A outer s H vs Q E hr h => ?_)
  · obtain ⟨I, C, a, _, hr, _⟩ := h
    exact Rt.len _ hr
  · obtain ⟨I0, C0, ⟨ar_cell, ar_turn⟩, hs, ⟨v_cell, us0, rfl, r_cell, v_turn, rfl, r_turn⟩, hm⟩ := h
    have hm : Post (m__law_mix ar_cell ar_turn) (PQ pI I0 C0 Q) (PX E K I0 C0) := hm
    replace r_cell : Rp.r pI ar_cell v_cell I0 Z := Im.im r_cell
    replace r_turn : Rp.r pI ar_turn v_turn I0 Z := Im.im r_turn
    unfold m__law_mix at hm
    refine ⟨_, (pss_cons (ps_set (i := 2) sc__law_mix.nd rfl (Or.inl rfl) (pe_op op_mod (pe_callTy call_int1 (by rfl) T.gb_int bt_int (pa_cons (pe_op op_add (pe_op op_add (pe_op op_mul (pv 0) pe_int) (pe_op op_mul (pv 1) pe_int)) pe_int) pa_nil)) pe_int)) (pss_cons (ps_set (i := 2) sc__law_mix.nd rfl (Or.inl rfl) (pe_op op_mod (pe_callTy call_int1 (by rfl) T.gb_int bt_int (pa_cons (pe_op op_add (pe_op op_mul (pv 2) pe_int) pe_int) pa_nil)) pe_int)) (pss_cons (ps_set (i := 3) sc__law_mix.nd rfl (Or.inl rfl) (pe_op op_mod (pe_callTy call_int1 (by rfl) T.gb_int bt_int (pa_cons (pe_op op_add (pe_op op_add (pe_op op_mul (pv 2) pe_int) (pv 0)) (pe_op op_mul (pv 1) pe_int)) pa_nil)) pe_int)) (pss_cons (ps_set (i := 3) sc__law_mix.nd rfl (Or.inl rfl) (pe_op op_mod (pe_callTy call_int1 (by rfl) T.gb_int bt_int (pa_cons (pe_op op_add (pe_op op_mul (pv 3) pe_int) pe_int) pa_nil)) pe_int)) (pss_cons (ps_ret (pe_op op_add (pe_op op_mul (pv 2) pe_int) (pv 3))) pss_nil))))), ?_⟩
    refine q_asg (E := E) (K := K) (σ := [some v_cell, some v_turn, none, none]) (i := 2) (x_op o_mod (x_cb o_int (a_one (x_op o_add (x_op o_add (x_op o_mul (x_var (i := 0) rfl (Rp.mono _ (Ex.refl _) exz r_cell)) (x_int (i := 69621))) (x_op o_mul (x_var (i := 1) rfl (Rp.mono _ (Ex.refl _) exz r_turn)) (x_int (i := 48271)))) (x_int (i := 12345))))) (x_int (i := 2147483647))) hs (fun _ _ h => PX.mono (Ex.refl _) (Ex.refl _) h) hm fun x_1 v_2 I_3 H_4 e_5 s_6 r_7 hm => ?_
    refine q_asg (E := E) (K := K) (σ := [some v_cell, some v_turn, some v_2, none]) (i := 2) (x_op o_mod (x_cb o_int (a_one (x_op o_add (x_op o_mul (x_var (i := 2) rfl (Rp.mono _ (Ex.refl _) exz r_7)) (x_int (i := 16807))) (x_int (i := 97))))) (x_int (i := 2147483629))) s_6 (fun _ _ h => PX.mono e_5 (Ex.refl _) h) hm fun x_8 v_9 I_10 H_11 e_12 s_13 r_14 hm => ?_
    refine q_asg (E := E) (K := K) (σ := [some v_cell, some v_turn, some v_9, none]) (i := 3) (x_op o_mod (x_cb o_int (a_one (x_op o_add (x_op o_add (x_op o_mul (x_var (i := 2) rfl (Rp.mono _ (Ex.refl _) exz r_14)) (x_int (i := 69069))) (x_var (i := 0) rfl (Rp.mono _ (e_5.trans e_12) exz r_cell))) (x_op o_mul (x_var (i := 1) rfl (Rp.mono _ (e_5.trans e_12) exz r_turn)) (x_int (i := 7)))))) (x_int (i := 2147483587))) s_13 (fun _ _ h => PX.mono (e_5.trans e_12) (Ex.refl _) h) hm fun y_15 v_16 I_17 H_18 e_19 s_20 r_21 hm => ?_
    refine q_asg (E := E) (K := K) (σ := [some v_cell, some v_turn, some v_9, some v_16]) (i := 3) (x_op o_mod (x_cb o_int (a_one (x_op o_add (x_op o_mul (x_var (i := 3) rfl (Rp.mono _ (Ex.refl _) exz r_21)) (x_int (i := 39373))) (x_int (i := 7))))) (x_int (i := 2147483579))) s_20 (fun _ _ h => PX.mono (e_5.trans (e_12.trans e_19)) (Ex.refl _) h) hm fun y_22 v_23 I_24 H_25 e_26 s_27 r_28 hm => ?_
    refine q_ret (tz := tNext) (E := E) (K := K) (σ := [some v_cell, some v_turn, some v_9, some v_23]) (x_op o_add (x_op o_mul (x_var (i := 2) rfl (Rp.mono _ (e_19.trans e_26) exz r_14)) (x_int (i := 2147483647))) (x_var (i := 3) rfl (Rp.mono _ (Ex.refl _) exz r_28))) s_27 (fun _ _ h => PX.mono (e_5.trans (e_12.trans (e_19.trans e_26))) (Ex.refl _) h) hm fun a_29 v_30 I_31 H_32 e_33 s_34 r_35 hm => ?_
    exact hm v_30 I_31 H_32 (e_5.trans (e_12.trans (e_19.trans (e_26.trans e_33)))) (St.less s_34 (Ex.refl _)) (Im.im r_35)
abbrev N__law_pool : List Str := ["script"]
theorem sc__law_pool : FnScope N__law_pool ["script"] (defScope s__law_pool) := ⟨rfl, rfl, rfl, by decide +kernel, rfl, by decide +kernel, by decide +kernel⟩
theorem bind__law_pool {K : PySem.W.Frag} {mg : Str → Option Value} {T : Tx K mg} : Binds K T.d__law_pool ["script"] [] := FunD.bindsN T.F__law_pool fun _ _ _ _ _ _ us hl => match us, hl with | [_], _ => rfl
theorem ok__law_pool (T : Tx K mg) : FnOk P w K mg base (L2.CX P w) 1 T.f__law_pool T.d__law_pool ["script"] (spPool K) := by
  refine T.F__law_pool.ok sc__law_pool (fun vs H Q E h => ?_) (fun cdv A outer s H vs Q E hr h => ?_)
  · obtain ⟨I, C, ns, v, rfl, _⟩ := h
    rfl
  · obtain ⟨I0, C0, ns, v, rfl, hs, r, hm⟩ := h
    refine ⟨_, pss_cons (ps_ret (pe_lst (pa_cons pe_int (pa_cons pe_int (pa_cons pe_int (pa_cons (pe_callTy (r := rList1 K) call_list_of (by rfl) T.gb_list bt_list (pa_cons (pe_slice (r := rSlL K) sl_list (pv 0) po_none (po_some pe_int)) pa_nil)) pa_nil)))))) pss_nil, ?_⟩
    exact n_lstP (E := E) (A := pM) (m := .ok (0, 0, 0, cut ns none (some 63))) (x_is' (a_cons x_int (a_cons x_int (a_cons x_int (a_one (x_cb o_list (a_one (x_v (x_slS (x_var (i := 0) rfl (Im.im r)) p_none (p_some x_int))))))))) rfl) (by decide) hs fun p ws I2 H2 e hp s2 hx => hm p ws I2 H2 e hp s2 hx
def m__law_fill (_ : Unit) (a_pool : Pl) : Res (Unit × Pl) :=
  ((Res.ok a_pool.2.2.2).bind fun (numbers_1 : (List Int)) => ((Res.ok (0 : Int)).bind fun (cell_8 : Int) => ((ifR (bin rLt (Res.ok a_pool.2.1) (un rLen (Res.ok numbers_1))) ((bin ix (Res.ok numbers_1) (Res.ok a_pool.2.1)).bind fun (cell_33 : Int) => (Res.ok (a_pool, cell_33))) (ifR (bin rGt (un rLen (Res.ok numbers_1)) (Res.ok (0 : Int))) ((bin ix (Res.ok numbers_1) (bin rMod (un idR (Res.ok a_pool.2.2.1)) (un rLen (Res.ok numbers_1)))).bind fun (cell_48 : Int) => (Res.ok (a_pool, cell_48))) (Res.ok (a_pool, cell_8)))).bind fun (z_23 : (Pl × Int)) => ((ifR (bin rLt (Res.ok z_23.2) (Res.ok (0 : Int))) ((bin rSub (Res.ok (1 : Int)) (bin rMul (Res.ok (2 : Int)) (Res.ok z_23.2))).bind fun (cell_76 : Int) => (Res.ok cell_76)) (Res.ok z_23.2)).bind fun (z_68 : Int) => (thenR (bin rAdd (Res.ok z_23.1.2.1) (Res.ok (1 : Int))) (fun (a_98 : Int) => (z_23.1.1, (a_98, z_23.1.2.2))) (fun (y_88 : Pl) => (thenR (bin rAdd (Res.ok y_88.2.2.1) (Res.ok (1 : Int))) (fun (a_110 : Int) => (y_88.1, (y_88.2.1, (a_110, y_88.2.2.2)))) (fun (y_100 : Pl) => (ifR (andR (bin rGe (Res.ok z_68) (bin rPow (Res.ok (10 : Int)) (Res.ok (18 : Int)))) (bin rLe (Res.ok y_100.2.1) (un rLen (Res.ok numbers_1)))) (thenR (Res.ok z_68) (fun (a_130 : Int) => (a_130, y_100.2)) (fun (y_120 : Pl) => (Res.ok ((), y_120)))) (thenR (un (fun (p : (Int × Int)) => m__law_mix p.1 p.2) (pair (Res.ok z_68) (Res.ok y_100.2.2.1))) (fun (a_142 : Int) => (a_142, y_100.2)) (fun (y_132 : Pl) => (Res.ok ((), y_132)))))))))))))
abbrev N__law_fill : List Str := ["pool", "numbers", "cell"]
theorem sc__law_fill : FnScope N__law_fill ["pool"] (defScope s__law_fill) := ⟨rfl, rfl, rfl, by decide +kernel, rfl, by decide +kernel, by decide +kernel⟩
theorem bind__law_fill {K : PySem.W.Frag} {mg : Str → Option Value} {T : Tx K mg} : Binds K T.d__law_fill ["pool"] [] := FunD.bindsN T.F__law_fill fun _ _ _ _ _ _ us hl => match us, hl with | [_], _ => rfl
abbrev sp__law_fill (K : PySem.W.Frag) : Sp := spM pM t0 m__law_fill pN
theorem ok__law_fill (T : Tx K mg) : FnOk P w K mg base (L2.CX P w) 2 T.f__law_fill T.d__law_fill ["pool"] (sp__law_fill K) := by
  refine T.F__law_fill.ok sc__law_fill (fun vs H Q E h => ?_) (fun cdv A outer s H vs Q E hr h => ?_)
  · obtain ⟨I, C, p, ws, us, x, a, rfl, _, _, _, hr, _⟩ := h
    exact congrArg (· + 1) (Rt.len _ hr)
  · obtain ⟨I0, C0, p0, ws0, us, a_pool, ⟨⟩, rfl, hs, hc0, hx1, rfl, hm⟩ := h
    have hx0 := It.im (C' := Z) hx1
    have hm : Post (m__law_fill () a_pool) (PM p0 pM pN I0 C0 Q) XF := hm
    unfold m__law_fill at hm
    refine ⟨_, (pss_cons (ps_set (i := 1) sc__law_fill.nd rfl (Or.inl rfl) (pe_ix (r := rIxL K) ix_list (pv 0) pe_int (fun _ _ => rfl))) (pss_cons (ps_set (i := 2) sc__law_fill.nd rfl (Or.inl rfl) pe_int) (Evl.pss_cut (ps_if (pt_cmpR op_lt (pe_ix (r := rIxL K) ix_list (pv 0) pe_int (fun _ _ => rfl)) (pe_callB (r := rLen1 K) call_len_seq (by rfl) T.gb_len bt_len (pa_cons (pv 1) pa_nil)) (nomark _)) (pss_cons (ps_set (i := 2) sc__law_fill.nd rfl (Or.inl rfl) (pe_ix (r := rIxL K) ix_list (pv 1) (pe_ix (r := rIxL K) ix_list (pv 0) pe_int (fun _ _ => rfl)) (fun _ _ => rfl))) pss_nil) (pss_cons (ps_if (pt_cmpR op_gt (pe_callB (r := rLen1 K) call_len_seq (by rfl) T.gb_len bt_len (pa_cons (pv 1) pa_nil)) pe_int (nomark _)) (pss_cons (ps_set (i := 2) sc__law_fill.nd rfl (Or.inl rfl) (pe_ix (r := rIxL K) ix_list (pv 1) (pe_op op_mod (pe_callTy call_int1 (by rfl) T.gb_int bt_int (pa_cons (pe_ix (r := rIxL K) ix_list (pv 0) pe_int (fun _ _ => rfl)) pa_nil)) (pe_callB (r := rLen1 K) call_len_seq (by rfl) T.gb_len bt_len (pa_cons (pv 1) pa_nil))) (fun _ _ => rfl))) pss_nil) pss_nil) pss_nil)) (Evl.pss_cut (ps_if (pt_cmpR op_lt (pv 2) pe_int (nomark _)) (pss_cons (ps_set (i := 2) sc__law_fill.nd rfl (Or.inl rfl) (pe_op op_sub pe_int (pe_op op_mul pe_int (pv 2)))) pss_nil) pss_nil) (pss_cons (ps_asg (pe_op op_add (pe_ix (r := rIxL K) ix_list (pv 0) pe_int (fun _ _ => rfl)) pe_int) (pg_sub (pv 0) pe_int set_list)) (pss_cons (ps_asg (pe_op op_add (pe_ix (r := rIxL K) ix_list (pv 0) pe_int (fun _ _ => rfl)) pe_int) (pg_sub (pv 0) pe_int set_list)) (pss_cons (ps_if (PW.pt (pw_and (pt_cmpR op_ge (pv 2) (pe_op op_pow pe_int pe_int) (nomark _)) (pw_and1 (pt_cmpR op_le (pe_ix (r := rIxL K) ix_list (pv 0) pe_int (fun _ _ => rfl)) (pe_callB (r := rLen1 K) call_len_seq (by rfl) T.gb_len bt_len (pa_cons (pv 1) pa_nil)) (nomark _))))) (pss_cons (ps_asg (pv 2) (pg_sub (pv 0) pe_int set_list)) pss_nil) (pss_cons (ps_asg (pe_call (ok__law_mix T) (hr.mono (by decide)) rfl T.g__law_mix T.F__law_mix.kp bind__law_mix .nil passE (pa_cons (pv 2) (pa_cons (pe_ix (r := rIxL K) ix_list (pv 0) pe_int (fun _ _ => rfl)) pa_nil))) (pg_sub (pv 0) pe_int set_list)) pss_nil)) pss_nil))))))), ?_⟩
    refine q_asg (E := E) (K := K) (σ := [some (.ref p0), none, none]) (i := 1) (q_pool (i := 0) (k := 3) rfl hc0 (Rt.mono _ (Ex.refl _) exz hx0) (pjs (pjs (pjs pj1)))) hs (fun _ _ h => h.elim) hm fun numbers_1 v_2 I_3 H_4 e_5 s_6 r_7 hm => ?_
    refine q_asg (E := E) (K := K) (σ := [some (.ref p0), some v_2, none]) (i := 2) (x_int (i := 0)) s_6 (fun _ _ h => h.elim) hm fun cell_8 v_9 I_10 H_11 e_12 s_13 r_14 hm => ?_
    refine s_ifj (E := E) (K := K) (σ := [some (.ref p0), some v_2, some v_9]) (fun (z_23 : (Pl × Int)) σ2 I_25 C_26 => ∃ v_30 : V, σ2 = [some (.ref p0), some v_2, some v_30] ∧ (∃ ws_27 : List V, C_26 p0 = some (.lst ws_27) ∧ Rt.r pM z_23.1 ws_27 I_25 Z) ∧ Rp.r pI z_23.2 v_30 I_25 Z ∧ Ex (off C0 p0) C_26) (t_test (x_op o_lt (q_pool (i := 0) (k := 1) rfl hc0 (Rt.mono _ (e_5.trans e_12) exz hx0) (pjs pj0)) (x_cb o_len (a_one (x_v (x_var (i := 1) rfl (Rp.mono _ e_12 exz r_7))))))) s_13 (fun _ _ h => h.elim) hm (fun N I_15 H_16 e_17 s_18 hm => ?_) (fun N I_19 H_20 e_21 s_22 hm => ?_) (fun z_23 σ2 I_55 C_56 H_57 e_58 s_59 ⟨v_30, hs_24, ⟨ws_27, hc_28, hx_29⟩, r_31, fr_32⟩ hm => ?_)
    · refine q_asg (E := E) (K := K) (σ := [some (.ref p0), some v_2, some v_9]) (i := 2) (x_op o_ix (x_v (x_var (i := 1) rfl (Rp.mono _ (e_12.trans e_17) exz r_7))) (q_pool (i := 0) (k := 1) rfl hc0 (Rt.mono _ (e_5.trans (e_12.trans e_17)) exz hx0) (pjs pj0))) s_18 (fun _ _ h => h.elim) hm fun cell_33 v_34 I_35 H_36 e_37 s_38 r_39 hm => ?_
      exact hm _ _ _ _ (e_17.trans e_37) s_38 ⟨v_34, rfl, ⟨_, hc0, Rt.mono _ (e_5.trans (e_12.trans (e_17.trans e_37))) exz hx0⟩, Rp.mono _ (Ex.refl _) exz r_39, (off_ex (C := C0) (p := p0))⟩
    · refine s_if (E := E) (K := K) (σ := [some (.ref p0), some v_2, some v_9]) (t_test (x_op o_gt (x_cb o_len (a_one (x_v (x_var (i := 1) rfl (Rp.mono _ (e_12.trans e_21) exz r_7))))) (x_int (i := 0)))) s_22 (fun _ _ h => h.elim) hm (fun I_40 H_41 e_42 s_43 hm => ?_) (fun I_44 H_45 e_46 s_47 hm => ?_)
      · refine q_asg (E := E) (K := K) (σ := [some (.ref p0), some v_2, some v_9]) (i := 2) (x_op o_ix (x_v (x_var (i := 1) rfl (Rp.mono _ (e_12.trans (e_21.trans e_42)) exz r_7))) (x_op o_mod (x_cb o_int (a_one (q_pool (i := 0) (k := 2) rfl hc0 (Rt.mono _ (e_5.trans (e_12.trans (e_21.trans e_42))) exz hx0) (pjs (pjs pj0))))) (x_cb o_len (a_one (x_v (x_var (i := 1) rfl (Rp.mono _ (e_12.trans (e_21.trans e_42)) exz r_7))))))) s_43 (fun _ _ h => h.elim) hm fun cell_48 v_49 I_50 H_51 e_52 s_53 r_54 hm => ?_
        exact hm _ _ _ _ (e_21.trans (e_42.trans e_52)) s_53 ⟨v_49, rfl, ⟨_, hc0, Rt.mono _ (e_5.trans (e_12.trans (e_21.trans (e_42.trans e_52)))) exz hx0⟩, Rp.mono _ (Ex.refl _) exz r_54, (off_ex (C := C0) (p := p0))⟩
      · exact hm _ _ _ _ (e_21.trans e_46) s_47 ⟨v_9, rfl, ⟨_, hc0, Rt.mono _ (e_5.trans (e_12.trans (e_21.trans e_46))) exz hx0⟩, Rp.mono _ (e_21.trans e_46) exz r_14, (off_ex (C := C0) (p := p0))⟩
    subst hs_24
    refine s_ifj (E := E) (K := K) (σ := [some (.ref p0), some v_2, some v_30]) (fun (z_68 : Int) σ2 I_70 C_71 => ∃ v_72 : V, σ2 = [some (.ref p0), some v_2, some v_72] ∧ Rp.r pI z_68 v_72 I_70 Z ∧ C_71 p0 = some (.lst ws_27) ∧ Ex (off C0 p0) C_71) (t_test (x_op o_lt (x_var (i := 2) rfl (Rp.mono _ (Ex.refl _) exz r_31)) (x_int (i := 0)))) s_59 (fun _ _ h => h.elim) hm (fun N I_60 H_61 e_62 s_63 hm => ?_) (fun N I_64 H_65 e_66 s_67 hm => ?_) (fun z_68 σ2 I_83 C_84 H_85 e_86 s_87 ⟨v_72, hs_69, r_73, hc_74, fr_75⟩ hm => ?_)
    · refine q_asg (E := E) (K := K) (σ := [some (.ref p0), some v_2, some v_30]) (i := 2) (x_op o_sub (x_int (i := 1)) (x_op o_mul (x_int (i := 2)) (x_var (i := 2) rfl (Rp.mono _ e_62 exz r_31)))) s_63 (fun _ _ h => h.elim) hm fun cell_76 v_77 I_78 H_79 e_80 s_81 r_82 hm => ?_
      exact hm _ _ _ _ (e_62.trans e_80) s_81 ⟨v_77, rfl, Rp.mono _ (Ex.refl _) exz r_82, hc_28, fr_32⟩
    · exact hm _ _ _ _ e_66 s_67 ⟨v_30, rfl, Rp.mono _ e_66 exz r_31, hc_28, fr_32⟩
    subst hs_69
    refine q_setT (E := E) (K := K) (σ := [some (.ref p0), some v_2, some v_72]) (i := 0) (k := 1) rfl (x_op o_add (q_pool (i := 0) (k := 1) rfl hc_74 (Rt.mono _ e_86 exz hx_29) (pjs pj0)) (x_int (i := 1))) (pks pk0) s_87 hc_74 (Rt.mono _ e_86 exz hx_29) hm fun y_88 ws_89 I_90 C_91 H_92 e_93 s_94 hc_95 k_96 hx_97 hm => ?_
    have fr_99 := fr_pool fr_75 k_96
    refine q_setT (E := E) (K := K) (σ := [some (.ref p0), some v_2, some v_72]) (i := 0) (k := 2) rfl (x_op o_add (q_pool (i := 0) (k := 2) rfl hc_95 (Rt.mono _ (Ex.refl _) exz hx_97) (pjs (pjs pj0))) (x_int (i := 1))) (pks (pks pk0)) s_94 hc_95 (Rt.mono _ (Ex.refl _) exz hx_97) hm fun y_100 ws_101 I_102 C_103 H_104 e_105 s_106 hc_107 k_108 hx_109 hm => ?_
    have fr_111 := fr_pool fr_99 k_108
    refine s_if (E := E) (K := K) (σ := [some (.ref p0), some v_2, some v_72]) (t_and (t_test (x_op o_ge (x_var (i := 2) rfl (Rp.mono _ (e_93.trans e_105) exz r_73)) (x_op o_pow (x_int (i := 10)) (x_int (i := 18))))) (t_test (x_op o_le (q_pool (i := 0) (k := 1) rfl hc_107 (Rt.mono _ (Ex.refl _) exz hx_109) (pjs pj0)) (x_cb o_len (a_one (x_v (x_var (i := 1) rfl (Rp.mono _ (e_12.trans (e_58.trans (e_86.trans (e_93.trans e_105)))) exz r_7)))))))) s_106 (fun _ _ h => h.elim) hm (fun I_112 H_113 e_114 s_115 hm => ?_) (fun I_116 H_117 e_118 s_119 hm => ?_)
    · refine q_setT (E := E) (K := K) (σ := [some (.ref p0), some v_2, some v_72]) (i := 0) (k := 0) rfl (x_var (i := 2) rfl (Rp.mono _ (e_93.trans (e_105.trans e_114)) exz r_73)) pk0 s_115 hc_107 (Rt.mono _ e_114 exz hx_109) hm fun y_120 ws_121 I_122 C_123 H_124 e_125 s_126 hc_127 k_128 hx_129 hm => ?_
      have fr_131 := fr_pool fr_111 k_128
      exact ret_poolN hm (e_5.trans (e_12.trans (e_58.trans (e_86.trans (e_93.trans (e_105.trans (e_114.trans e_125))))))) fr_131 s_126 hc_127 (Rt.mono _ (Ex.refl _) exz hx_129)
    · refine q_setT (E := E) (K := K) (σ := [some (.ref p0), some v_2, some v_72]) (i := 0) (k := 0) rfl (x_call (a_cons (x_var (i := 2) rfl (Rp.mono _ (e_93.trans (e_105.trans e_118)) exz r_73)) (a_one (q_pool (i := 0) (k := 2) rfl hc_107 (Rt.mono _ e_118 exz hx_109) (pjs (pjs pj0)))))) pk0 s_119 hc_107 (Rt.mono _ e_118 exz hx_109) hm fun y_132 ws_133 I_134 C_135 H_136 e_137 s_138 hc_139 k_140 hx_141 hm => ?_
      have fr_143 := fr_pool fr_111 k_140
      exact ret_poolN hm (e_5.trans (e_12.trans (e_58.trans (e_86.trans (e_93.trans (e_105.trans (e_118.trans e_137))))))) fr_143 s_138 hc_139 (Rt.mono _ (Ex.refl _) exz hx_141)
def m__law_take (ar_many : Int) (a_pool : Pl) : Res (Int × Pl) :=
  ((ifR (bin rLt (Res.ok a_pool.1) (Res.ok ar_many)) (((m__law_fill ()) a_pool).bind fun (b_17 : Unit × Pl) => (Res.ok b_17.2)) (Res.ok a_pool)).bind fun (z_9 : Pl) => ((bin rMod (un idR (Res.ok z_9.1)) (Res.ok ar_many)).bind fun (value_33 : Int) => (thenR (bin rDiv (Res.ok z_9.1) (Res.ok ar_many)) (fun (a_50 : Int) => (a_50, z_9.2)) (fun (y_40 : Pl) => ((Res.ok value_33).bind fun a_52 => Res.ok (a_52, y_40))))))
abbrev N__law_take : List Str := ["pool", "many", "value"]
theorem sc__law_take : FnScope N__law_take ["pool", "many"] (defScope s__law_take) := ⟨rfl, rfl, rfl, by decide +kernel, rfl, by decide +kernel, by decide +kernel⟩
theorem bind__law_take {K : PySem.W.Frag} {mg : Str → Option Value} {T : Tx K mg} : Binds K T.d__law_take ["pool", "many"] [] := FunD.bindsN T.F__law_take fun _ _ _ _ _ _ us hl => match us, hl with | [_, _], _ => rfl
abbrev sp__law_take (K : PySem.W.Frag) : Sp := spM pM (t1 pI) m__law_take pI
theorem ok__law_take (T : Tx K mg) : FnOk P w K mg base (L2.CX P w) 3 T.f__law_take T.d__law_take ["pool", "many"] (sp__law_take K) := by
  refine T.F__law_take.ok sc__law_take (fun vs H Q E h => ?_) (fun cdv A outer s H vs Q E hr h => ?_)
  · obtain ⟨I, C, p, ws, us, x, a, rfl, _, _, _, hr, _⟩ := h
    exact congrArg (· + 1) (Rt.len _ hr)
  · obtain ⟨I0, C0, p0, ws0, us, a_pool, ar_many, rfl, hs, hc0, hx1, ⟨v_many, rfl, r_many⟩, hm⟩ := h
    have hx0 := It.im (C' := Z) hx1
    have hm : Post (m__law_take ar_many a_pool) (PM p0 pM pI I0 C0 Q) XF := hm
    replace r_many : Rp.r pI ar_many v_many I0 Z := Im.im r_many
    unfold m__law_take at hm
    refine ⟨_, (Evl.pss_cut (ps_if (pt_cmpR op_lt (pe_ix (r := rIxL K) ix_list (pv 0) pe_int (fun _ _ => rfl)) (pv 1) (nomark _)) (pss_cons (ps_expr (pe_call (ok__law_fill T) (hr.mono (by decide)) rfl T.g__law_fill T.F__law_fill.kp bind__law_fill .nil passE (pa_cons (pv 0) pa_nil))) pss_nil) pss_nil) (pss_cons (ps_set (i := 2) sc__law_take.nd rfl (Or.inl rfl) (pe_op op_mod (pe_callTy call_int1 (by rfl) T.gb_int bt_int (pa_cons (pe_ix (r := rIxL K) ix_list (pv 0) pe_int (fun _ _ => rfl)) pa_nil)) (pv 1))) (pss_cons (ps_asg (pe_op op_fdiv (pe_ix (r := rIxL K) ix_list (pv 0) pe_int (fun _ _ => rfl)) (pv 1)) (pg_sub (pv 0) pe_int set_list)) (pss_cons (ps_ret (pv 2)) pss_nil)))), ?_⟩
    refine s_ifj (E := E) (K := K) (σ := [some (.ref p0), some v_many, none]) (fun (z_9 : Pl) σ2 I_11 C_12 => σ2 = [some (.ref p0), some v_many, none] ∧ (∃ ws_13 : List V, C_12 p0 = some (.lst ws_13) ∧ Rt.r pM z_9 ws_13 I_11 Z) ∧ Ex (off C0 p0) C_12) (t_test (x_op o_lt (q_pool (i := 0) (k := 0) rfl hc0 (Rt.mono _ (Ex.refl _) exz hx0) pj0) (x_var (i := 1) rfl (Rp.mono _ (Ex.refl _) exz r_many)))) hs (fun _ _ h => h.elim) hm (fun N I_1 H_2 e_3 s_4 hm => ?_) (fun N I_5 H_6 e_7 s_8 hm => ?_) (fun z_9 σ2 I_28 C_29 H_30 e_31 s_32 ⟨hs_10, ⟨ws_13, hc_14, hx_15⟩, fr_16⟩ hm => ?_)
    · refine qm_expr (E := E) (K := K) (σ := [some (.ref p0), some v_many, none]) (m_callM0 (i := 0) rfl) s_4 hc0 (Rt.mono _ e_3 exz hx0) hm fun b_17 ws_18 I_19 C_20 H_21 e_22 s_23 hc_24 k_25 hx_26 hm => ?_
      have fr_27 := fr_pool (off_ex (C := C0) (p := p0)) k_25
      exact hm _ _ _ _ (e_3.trans e_22) s_23 ⟨rfl, ⟨_, hc_24, Rt.mono _ (Ex.refl _) exz hx_26⟩, fr_27⟩
    · exact hm _ _ _ _ e_7 s_8 ⟨rfl, ⟨_, hc0, Rt.mono _ e_7 exz hx0⟩, (off_ex (C := C0) (p := p0))⟩
    subst hs_10
    refine q_asg (E := E) (K := K) (σ := [some (.ref p0), some v_many, none]) (i := 2) (x_op o_mod (x_cb o_int (a_one (q_pool (i := 0) (k := 0) rfl hc_14 (Rt.mono _ (Ex.refl _) exz hx_15) pj0))) (x_var (i := 1) rfl (Rp.mono _ e_31 exz r_many))) s_32 (fun _ _ h => h.elim) hm fun value_33 v_34 I_35 H_36 e_37 s_38 r_39 hm => ?_
    refine q_setT (E := E) (K := K) (σ := [some (.ref p0), some v_many, some v_34]) (i := 0) (k := 0) rfl (x_op o_fdiv (q_pool (i := 0) (k := 0) rfl hc_14 (Rt.mono _ e_37 exz hx_15) pj0) (x_var (i := 1) rfl (Rp.mono _ (e_31.trans e_37) exz r_many))) pk0 s_38 hc_14 (Rt.mono _ e_37 exz hx_15) hm fun y_40 ws_41 I_42 C_43 H_44 e_45 s_46 hc_47 k_48 hx_49 hm => ?_
    have fr_51 := fr_pool fr_16 k_48
    refine q_ret (tz := tNext) (E := E) (K := K) (σ := [some (.ref p0), some v_many, some v_34]) (x_var (i := 2) rfl (Rp.mono _ e_45 exz r_39)) s_46 (fun _ _ h => h.elim) hm fun a_52 v_53 I_54 H_55 e_56 s_57 r_58 hm => ?_
    exact ret_pool hm (e_31.trans (e_37.trans (e_45.trans e_56))) fr_51 s_57 hc_47 (Rt.mono _ e_56 exz hx_49) r_58
def m__law_named (ar_parents : (List Int)) (ar_marks : (List (Int × Str))) : Res (List Int) :=
  (((Res.ok ar_parents).bind (mapR (fun (x_1 : Int) => (Res.ok ("" : Str))))).bind fun (words_8 : (List Str)) => (((Res.ok ar_marks).bind fun xs => loopN (fun (x_33 : (Int × Str)) (z_23 : (List Str)) => (((un (fun p => Res.ok p.2) (Res.ok x_33)).bind fun x => (un (fun p => Res.ok p.1) (Res.ok x_33)).bind fun j => setR z_23 j x).bind fun (words_45 : (List Str)) => (Res.ok words_45))) xs words_8).bind fun (z_62 : (List Str)) => ((Res.ok ([] : List Int)).bind fun (found_72 : (List Int)) => (((un rng1 (un rLen (Res.ok ar_parents))).bind fun xs => loopN (fun (x_111 : Int) (z_99 : (List Int)) => (ifR (bin ninR (Res.ok x_111) (Res.ok ar_parents)) ((Res.ok x_111).bind fun (k_131 : Int) => (((un rng1 (un rLen (Res.ok ar_parents))).bind fun xs => loopN (fun (x_147 : Int) (z_138 : Int) => (ifR (andR (bin rGe (Res.ok z_138) (Res.ok (0 : Int))) (bin eqR (bin ix (Res.ok z_62) (Res.ok z_138)) (Res.ok ("" : Str)))) ((bin ix (Res.ok ar_parents) (Res.ok z_138)).bind fun (k_167 : Int) => (Res.ok k_167)) (Res.ok z_138))) xs k_131).bind fun (z_179 : Int) => (ifR (andR (bin rGe (Res.ok z_179) (Res.ok (0 : Int))) (bin eqR (bin ix (Res.ok z_62) (Res.ok z_179)) (Res.ok ("with" : Str)))) (((Res.ok x_111).bind fun x => push z_99 x).bind fun (found_196 : (List Int)) => (Res.ok found_196)) (Res.ok z_99)))) (Res.ok z_99))) xs found_72).bind fun (z_213 : (List Int)) => (Res.ok z_213)))))
abbrev N__law_named : List Str := ["parents", "marks", "words", "mark", "found", "leaf", "k", "step"]
theorem sc__law_named : FnScope N__law_named ["parents", "marks"] (defScope s__law_named) := ⟨rfl, rfl, rfl, by decide +kernel, rfl, by decide +kernel, by decide +kernel⟩
theorem bind__law_named {K : PySem.W.Frag} {mg : Str → Option Value} {T : Tx K mg} : Binds K T.d__law_named ["parents", "marks"] [] := FunD.bindsN T.F__law_named fun _ _ _ _ _ _ us hl => match us, hl with | [_, _], _ => rfl
abbrev sp__law_named (K : PySem.W.Frag) : Sp := spO K (tc (pL pI) (t1 (pL (pT (tc pI (t1 pS)))))) (fun (p : ((List Int) × (List (Int × Str)))) => m__law_named p.1 p.2) pI
theorem ok__law_named (T : Tx K mg) : FnOk P w K mg base (L2.CX P w) 1 T.f__law_named T.d__law_named ["parents", "marks"] (sp__law_named K) := by
  refine T.F__law_named.ok sc__law_named (fun vs H Q E h => ?_) (fun cdv A outer s H vs Q E hr h => ?_)
  · obtain ⟨I, C, a, _, hr, _⟩ := h
    exact Rt.len _ hr
  · obtain ⟨I0, C0, ⟨ar_parents, ar_marks⟩, hs, ⟨v_parents, us0, rfl, r_parents, v_marks, rfl, r_marks⟩, hm⟩ := h
    have hm : Post (m__law_named ar_parents ar_marks) (PN pI I0 C0 Q) (PX E K I0 C0) := hm
    replace r_parents : Rp.r (pL pI) ar_parents v_parents I0 Z := Im.im r_parents
    replace r_marks : Rp.r (pL (pT (tc pI (t1 pS)))) ar_marks v_marks I0 Z := Im.im r_marks
    unfold m__law_named at hm
    refine ⟨_, (pss_cons (ps_setLc (i := 2) (own := [("k", 6)]) rfl sc__law_named.nd rfl rfl (sw_true rfl rfl rfl (by decide +kernel)) (show PI _ _ _ (iList K _) from pi_list (pv 0)) (blkOk_by (own := [("k", 6)]) (N := N__law_named) (sc := defScope s__law_named) (by decide +kernel)) (fun _ _ _ _ _ => (pg_name (i := 6) sc__law_named.nd rfl (Or.inl rfl))) (fun _ _ _ _ _ => pts_nil) (fun _ _ _ _ _ => pe_str)) (pss_cons (ps_for (passes_of rfl) rfl (show PI _ _ _ (iList K _) from pi_list (pv 1)) (pg_name (i := 3) sc__law_named.nd rfl (Or.inl rfl)) (pss_cons (ps_asg (pe_ix (r := rIxT K) ix_tup (pv 3) pe_int (fun _ _ => rfl)) (pg_sub (pv 2) (pe_ix (r := rIxT K) ix_tup (pv 3) pe_int (fun _ _ => rfl)) set_list)) pss_nil)) (pss_cons (ps_set (i := 4) sc__law_named.nd rfl (Or.inl rfl) (pe_lst pa_nil)) (pss_cons (ps_for (passes_of rfl) rfl (pi_range1 (by rfl) T.gb_range (pa_cons (pe_callB (r := rLen1 K) call_len_seq (by rfl) T.gb_len bt_len (pa_cons (pv 0) pa_nil)) pa_nil)) (pg_name (i := 5) sc__law_named.nd rfl (Or.inl rfl)) (pss_cons (ps_if (pt_cmpR (r := rIn K true) op_notIn_seq (pv 5) (pv 0) rfl) (pss_cons (ps_set (i := 6) sc__law_named.nd rfl (Or.inl rfl) (pv 5)) (pss_cons (ps_for (passes_of rfl) rfl (pi_range1 (by rfl) T.gb_range (pa_cons (pe_callB (r := rLen1 K) call_len_seq (by rfl) T.gb_len bt_len (pa_cons (pv 0) pa_nil)) pa_nil)) (pg_name (i := 7) sc__law_named.nd rfl (Or.inl rfl)) (pss_cons (ps_if (PW.pt (pw_and (pt_cmpR op_ge (pv 6) pe_int (nomark _)) (pw_and1 (pt_cmpR op_eq (pe_ix (r := rIxL K) ix_list (pv 2) (pv 6) (fun _ _ => rfl)) pe_str (nomark _))))) (pss_cons (ps_set (i := 6) sc__law_named.nd rfl (Or.inl rfl) (pe_ix (r := rIxL K) ix_list (pv 0) (pv 6) (fun _ _ => rfl))) pss_nil) pss_nil) pss_nil)) (pss_cons (ps_if (PW.pt (pw_and (pt_cmpR op_ge (pv 6) pe_int (nomark _)) (pw_and1 (pt_cmpR op_eq (pe_ix (r := rIxL K) ix_list (pv 2) (pv 6) (fun _ _ => rfl)) pe_str (nomark _))))) (pss_cons (ps_expr (show PE _ _ (tBM K "list" rAppend _ _) from pe_bm PySem.F.plainAttrs_list PySem.F.slot_list_append PySem.F.type_list_append mt_append (pv 4) (pa_cons (pv 5) pa_nil))) pss_nil) pss_nil) pss_nil))) pss_nil) pss_nil)) (pss_cons (ps_ret (pv 4)) pss_nil))))), ?_⟩
    refine q_asgN (E := E) (K := K) (σ := [some v_parents, some v_marks, none, none, none, none, none, none]) (i := 2) (n_lc (i_list (x_var (i := 0) rfl (Rp.mono _ (Ex.refl _) exz r_parents))) g1 (fun _ _ _ _ ⟨_, h, _⟩ => by rw [h]; rfl) (fun x_1 σ2 I_2 C_3 e_4 c_5 ⟨v_6, h, r_7⟩ => by subst h; exact (x_str (by decide +kernel))) (fun _ _ _ _ _ e ⟨v_6, h, r_7⟩ => ⟨v_6, h, Rp.mono _ e exz r_7⟩)) hs (fun _ _ h => PX.mono (Ex.refl _) (Ex.refl _) h) hm fun words_8 p_9 vs_10 I_11 C_12 H_13 e_14 hp_15 s_16 hc_17 k_18 hl_19 hr_20 hm => ?_
    have hB_21 := Ex.free (Ex.refl _) hp_15
    have fr_22 := fr_keep (Ex.refl _) hB_21 k_18
    refine s_forN (E := E) (K := K) (σ := [some v_parents, some v_marks, some (.ref p_9), none, none, none, none, none]) (fun (z_23 : (List Str)) σ2 I_26 C_27 => ∃ w_25 : Option V, σ2 = [some v_parents, some v_marks, some (.ref p_9), w_25, none, none, none, none] ∧ (∃ vs_28 : List V, C_27 p_9 = some (.lst vs_28) ∧ vs_28.length ≤ sizeLine ∧ A2 (fun x u => Rp.r pS x u I_26 Z) z_23 vs_28) ∧ Ex C0 C_27) (i_list (x_var (i := 1) rfl (Rp.mono _ e_14 exz r_marks))) s_16 (fun _ _ h => PX.mono e_14 fr_22 h) hm (fun _ e_41 => ⟨none, rfl, ⟨_, hc_17, hl_19, a2up (Ex.trans (Ex.refl _) e_41) hr_20⟩, fr_22⟩) (fun _ _ _ _ _ => trivial) (fun _ _ _ _ _ e ⟨w_25, hs_24, ⟨vs_28, hc_29, hl_30, hr_31⟩, fr_32⟩ => ⟨w_25, hs_24, ⟨vs_28, hc_29, hl_30, a2up e hr_31⟩, fr_32⟩) (fun N x_33 v_34 z_23 σ2 I_35 C_36 H_37 e_38 s_39 ⟨w_25, hs_24, ⟨vs_28, hc_29, hl_30, hr_31⟩, fr_32⟩ r_40 hm => ?_) (fun z_62 σ2 I_57 C_58 H_59 e_60 s_61 ⟨w_64, hs_63, ⟨vs_67, hc_68, hl_69, hr_70⟩, fr_71⟩ hm => ?_)
    · subst hs_24
      refine g1 (K := K) x_33 v_34 I_35 C_36 H_37 _ s_39 r_40 fun σ2 ⟨v_42, hs_44, r_43⟩ => ?_
      subst hs_44
      refine q_setL (E := E) (K := K) (σ := [some v_parents, some v_marks, some (.ref p_9), some v_42, none, none, none, none]) (i := 2) rfl hc_29 hl_30 (a2up (Ex.refl _) hr_31) (x_k (k := ((1 : Nat) : Int)) (o_pj (pjs pj1)) (x_var (i := 3) rfl (Rp.mono _ (Ex.refl _) exz r_43))) (x_k (k := ((0 : Nat) : Int)) (o_pj pj0) (x_var (i := 3) rfl (Rp.mono _ (Ex.refl _) exz r_43))) s_39 (fun _ _ h => PX.mono (e_14.trans e_38) fr_32 h) hm fun words_45 vs_46 I_47 C_48 H_49 e_50 s_51 hc_52 k_53 hl_54 hr_55 hm => ?_
      have fr_56 := fr_keep fr_32 hB_21 k_53
      exact hm _ _ _ _ e_50 s_51 ⟨some v_42, rfl, ⟨_, hc_52, hl_54, a2up (Ex.refl _) hr_55⟩, fr_56⟩
    subst hs_63
    refine q_asgN (E := E) (K := K) (σ := [some v_parents, some v_marks, some (.ref p_9), w_64, none, none, none, none]) (i := 4) (n_lst (R := pI) al_nil (by decide)) s_61 (fun _ _ h => PX.mono (e_14.trans e_60) fr_71 h) hm fun found_72 p_73 vs_74 I_75 C_76 H_77 e_78 hp_79 s_80 hc_81 k_82 hl_83 hr_84 hm => ?_
    have ne_85 := ne_new hc_68 hp_79
    have hB_86 := Ex.free fr_71 hp_79
    have hc_87 := (k_82 _ ne_85).trans hc_68
    have fr_88 := fr_keep fr_71 hB_86 k_82
    obtain ⟨I_89, C_90, e_91, s_92, h_93, k_94⟩ := freeze s_80 hc_87
    have r_96 := frz_list (e_78.trans e_91) h_93 hl_69 hr_70
    have hc_97 := (k_94 _ (Ne.symm ne_85)).trans hc_81
    have fr_98 := fr_keep fr_88 hB_21 k_94
    refine s_forN (E := E) (K := K) (σ := [some v_parents, some v_marks, some (.ref p_9), w_64, some (.ref p_73), none, none, none]) (fun (z_99 : (List Int)) σ2 I_104 C_105 => ∃ w_101 : Option V, ∃ w_102 : Option V, ∃ w_103 : Option V, σ2 = [some v_parents, some v_marks, some (.ref p_9), w_64, some (.ref p_73), w_101, w_102, w_103] ∧ (∃ vs_106 : List V, C_105 p_73 = some (.lst vs_106) ∧ vs_106.length ≤ sizeLine ∧ A2 (fun x u => Rp.r pI x u I_104 Z) z_99 vs_106) ∧ Ex C0 C_105) (i_rng1 (a_one (x_cb o_len (a_one (x_v (x_var (i := 0) rfl (Rp.mono _ (e_14.trans (e_60.trans (e_78.trans e_91))) exz r_parents))))))) s_92 (fun _ _ h => PX.mono (e_14.trans (e_60.trans (e_78.trans e_91))) fr_98 h) hm (fun _ e_119 => ⟨none, none, none, rfl, ⟨_, hc_97, hl_83, a2up (Ex.trans e_91 e_119) hr_84⟩, fr_98⟩) (fun _ _ _ _ _ => trivial) (fun _ _ _ _ _ e ⟨w_101, w_102, w_103, hs_100, ⟨vs_106, hc_107, hl_108, hr_109⟩, fr_110⟩ => ⟨w_101, w_102, w_103, hs_100, ⟨vs_106, hc_107, hl_108, a2up e hr_109⟩, fr_110⟩) (fun N x_111 v_112 z_99 σ2 I_113 C_114 H_115 e_116 s_117 ⟨w_101, w_102, w_103, hs_100, ⟨vs_106, hc_107, hl_108, hr_109⟩, fr_110⟩ r_118 hm => ?_) (fun z_213 σ2 I_208 C_209 H_210 e_211 s_212 ⟨w_215, w_216, w_217, hs_214, ⟨vs_220, hc_221, hl_222, hr_223⟩, fr_224⟩ hm => ?_)
    · subst hs_100
      refine g1 (K := K) x_111 v_112 I_113 C_114 H_115 _ s_117 r_118 fun σ2 ⟨v_120, hs_122, r_121⟩ => ?_
      subst hs_122
      refine s_if (E := E) (K := K) (σ := [some v_parents, some v_marks, some (.ref p_9), w_64, some (.ref p_73), some v_120, w_102, w_103]) (t_test (x_op (o_nin fl_int) (x_var (i := 5) rfl (Rp.mono _ (Ex.refl _) exz r_121)) (x_v (x_var (i := 0) rfl (Rp.mono _ (e_14.trans (e_60.trans (e_78.trans (e_91.trans e_116)))) exz r_parents))))) s_117 (fun _ _ h => PX.mono (e_14.trans (e_60.trans (e_78.trans (e_91.trans e_116)))) fr_110 h) hm (fun I_123 H_124 e_125 s_126 hm => ?_) (fun I_127 H_128 e_129 s_130 hm => ?_)
      · refine q_asg (E := E) (K := K) (σ := [some v_parents, some v_marks, some (.ref p_9), w_64, some (.ref p_73), some v_120, w_102, w_103]) (i := 6) (x_var (i := 5) rfl (Rp.mono _ e_125 exz r_121)) s_126 (fun _ _ h => PX.mono (e_14.trans (e_60.trans (e_78.trans (e_91.trans (e_116.trans e_125))))) fr_110 h) hm fun k_131 v_132 I_133 H_134 e_135 s_136 r_137 hm => ?_
        refine s_forN (E := E) (K := K) (σ := [some v_parents, some v_marks, some (.ref p_9), w_64, some (.ref p_73), some v_120, some v_132, w_103]) (fun (z_138 : Int) σ2 I_141 C_142 => ∃ w_140 : Option V, ∃ v_143 : V, σ2 = [some v_parents, some v_marks, some (.ref p_9), w_64, some (.ref p_73), some v_120, some v_143, w_140] ∧ Rp.r pI z_138 v_143 I_141 Z ∧ C_142 p_73 = some (.lst vs_106) ∧ Ex C0 C_142) (i_rng1 (a_one (x_cb o_len (a_one (x_v (x_var (i := 0) rfl (Rp.mono _ (e_14.trans (e_60.trans (e_78.trans (e_91.trans (e_116.trans (e_125.trans e_135)))))) exz r_parents))))))) s_136 (fun _ _ h => PX.mono (e_14.trans (e_60.trans (e_78.trans (e_91.trans (e_116.trans (e_125.trans e_135)))))) fr_110 h) hm (fun _ e_155 => ⟨w_103, v_132, rfl, Rp.mono _ (Ex.trans (Ex.refl _) e_155) exz r_137, hc_107, fr_110⟩) (fun _ _ _ _ _ => trivial) (fun _ _ _ _ _ e ⟨w_140, v_143, hs_139, r_144, hc_145, fr_146⟩ => ⟨w_140, v_143, hs_139, Rp.mono _ e exz r_144, hc_145, fr_146⟩) (fun N x_147 v_148 z_138 σ2 I_149 C_150 H_151 e_152 s_153 ⟨w_140, v_143, hs_139, r_144, hc_145, fr_146⟩ r_154 hm => ?_) (fun z_179 σ2 I_174 C_175 H_176 e_177 s_178 ⟨w_181, v_184, hs_180, r_185, hc_186, fr_187⟩ hm => ?_)
        · subst hs_139
          refine g1 (K := K) x_147 v_148 I_149 C_150 H_151 _ s_153 r_154 fun σ2 ⟨v_156, hs_158, r_157⟩ => ?_
          subst hs_158
          refine s_if (E := E) (K := K) (σ := [some v_parents, some v_marks, some (.ref p_9), w_64, some (.ref p_73), some v_120, some v_143, some v_156]) (t_and (t_test (x_op o_ge (x_var (i := 6) rfl (Rp.mono _ (Ex.refl _) exz r_144)) (x_int (i := 0)))) (t_test (x_op o_eqS (x_op o_ix (x_v (x_var (i := 2) rfl (Rp.mono _ (e_116.trans (e_125.trans (e_135.trans e_152))) exz r_96))) (x_var (i := 6) rfl (Rp.mono _ (Ex.refl _) exz r_144))) (x_str (by decide +kernel))))) s_153 (fun _ _ h => PX.mono (e_14.trans (e_60.trans (e_78.trans (e_91.trans (e_116.trans (e_125.trans (e_135.trans e_152))))))) fr_146 h) hm (fun I_159 H_160 e_161 s_162 hm => ?_) (fun I_163 H_164 e_165 s_166 hm => ?_)
          · refine q_asg (E := E) (K := K) (σ := [some v_parents, some v_marks, some (.ref p_9), w_64, some (.ref p_73), some v_120, some v_143, some v_156]) (i := 6) (x_op o_ix (x_v (x_var (i := 0) rfl (Rp.mono _ (e_14.trans (e_60.trans (e_78.trans (e_91.trans (e_116.trans (e_125.trans (e_135.trans (e_152.trans e_161)))))))) exz r_parents))) (x_var (i := 6) rfl (Rp.mono _ e_161 exz r_144))) s_162 (fun _ _ h => PX.mono (e_14.trans (e_60.trans (e_78.trans (e_91.trans (e_116.trans (e_125.trans (e_135.trans (e_152.trans e_161)))))))) fr_146 h) hm fun k_167 v_168 I_169 H_170 e_171 s_172 r_173 hm => ?_
            exact hm _ _ _ _ (e_161.trans e_171) s_172 ⟨some v_156, v_168, rfl, Rp.mono _ (Ex.refl _) exz r_173, hc_145, fr_146⟩
          · exact hm _ _ _ _ e_165 s_166 ⟨some v_156, v_143, rfl, Rp.mono _ e_165 exz r_144, hc_145, fr_146⟩
        subst hs_180
        refine s_if (E := E) (K := K) (σ := [some v_parents, some v_marks, some (.ref p_9), w_64, some (.ref p_73), some v_120, some v_184, w_181]) (t_and (t_test (x_op o_ge (x_var (i := 6) rfl (Rp.mono _ (Ex.refl _) exz r_185)) (x_int (i := 0)))) (t_test (x_op o_eqS (x_op o_ix (x_v (x_var (i := 2) rfl (Rp.mono _ (e_116.trans (e_125.trans (e_135.trans e_177))) exz r_96))) (x_var (i := 6) rfl (Rp.mono _ (Ex.refl _) exz r_185))) (x_str (by decide +kernel))))) s_178 (fun _ _ h => PX.mono (e_14.trans (e_60.trans (e_78.trans (e_91.trans (e_116.trans (e_125.trans (e_135.trans e_177))))))) fr_187 h) hm (fun I_188 H_189 e_190 s_191 hm => ?_) (fun I_192 H_193 e_194 s_195 hm => ?_)
        · refine q_app (E := E) (K := K) (σ := [some v_parents, some v_marks, some (.ref p_9), w_64, some (.ref p_73), some v_120, some v_184, w_181]) (i := 4) rfl hc_186 (a2up (e_125.trans (e_135.trans (e_177.trans e_190))) hr_109) (x_var (i := 5) rfl (Rp.mono _ (e_125.trans (e_135.trans (e_177.trans e_190))) exz r_121)) s_191 (fun _ _ h => PX.mono (e_14.trans (e_60.trans (e_78.trans (e_91.trans (e_116.trans (e_125.trans (e_135.trans (e_177.trans e_190)))))))) fr_187 h) hm fun found_196 vs_197 I_198 C_199 H_200 e_201 s_202 hc_203 k_204 hl_205 hr_206 hm => ?_
          have fr_207 := fr_keep fr_187 hB_86 k_204
          exact hm _ _ _ _ (e_125.trans (e_135.trans (e_177.trans (e_190.trans e_201)))) s_202 ⟨some v_120, some v_184, w_181, rfl, ⟨_, hc_203, hl_205, a2up (Ex.refl _) hr_206⟩, fr_207⟩
        · exact hm _ _ _ _ (e_125.trans (e_135.trans (e_177.trans e_194))) s_195 ⟨some v_120, some v_184, w_181, rfl, ⟨_, hc_186, hl_108, a2up (e_125.trans (e_135.trans (e_177.trans e_194))) hr_109⟩, fr_187⟩
      · exact hm _ _ _ _ e_129 s_130 ⟨some v_120, w_102, w_103, rfl, ⟨_, hc_107, hl_108, a2up e_129 hr_109⟩, fr_110⟩
    subst hs_214
    refine q_retO (i := 4) rfl s_212 fr_224 hB_86 hc_221 hl_222 (a2up (Ex.refl _) hr_223) fun s hr => ?_
    exact hm _ _ _ _ (e_14.trans (e_60.trans (e_78.trans (e_91.trans e_211)))) hB_86 s hl_222 hr
def m__law_costs (ar_parents : (List Int)) (ar_wanted : (List Int)) : Res (List (Int × Int)) :=
  (((Res.ok ar_parents).bind (mapR (fun (x_1 : Int) => (pair (Res.ok (0 : Int)) (Res.ok (0 : Int)))))).bind fun (costs_8 : (List (Int × Int))) => (((un rng1 (un rLen (Res.ok ar_parents))).bind fun xs => loopN (fun (x_37 : Int) (z_23 : (List (Int × Int))) => ((bin rSub (bin rSub (un rLen (Res.ok ar_parents)) (Res.ok (1 : Int))) (Res.ok x_37)).bind fun (k_49 : Int) => (((un rng1 (un rLen (Res.ok ar_parents))).bind (filR (fun (x_56 : Int) => (bin eqR (bin ix (Res.ok ar_parents) (Res.ok x_56)) (Res.ok k_49))) (fun (x_56 : Int) => (Res.ok x_56)))).bind fun (kids_63 : (List Int)) => ((un sumR ((Res.ok kids_63).bind (mapR (fun (x_70 : Int) => (un (fun p => Res.ok p.1) (bin ix (Res.ok z_23) (Res.ok x_70))))))).bind fun (out_77 : Int) => ((un sumR ((Res.ok kids_63).bind (mapR (fun (x_84 : Int) => (un (fun p => Res.ok p.2) (bin ix (Res.ok z_23) (Res.ok x_84))))))).bind fun (inside_91 : Int) => (ifR (bin rGt (un rLen (Res.ok kids_63)) (Res.ok (0 : Int))) (((pair (un min2 (pair (Res.ok out_77) (bin rAdd (Res.ok (1 : Int)) (Res.ok inside_91)))) (un min2 (pair (Res.ok inside_91) (bin rAdd (Res.ok (1 : Int)) (Res.ok out_77))))).bind fun x => (Res.ok k_49).bind fun j => setR z_23 j x).bind fun (costs_106 : (List (Int × Int))) => (Res.ok costs_106)) (ifR (bin inR (Res.ok k_49) (Res.ok ar_wanted)) (((pair (Res.ok (1 : Int)) (Res.ok (0 : Int))).bind fun x => (Res.ok k_49).bind fun j => setR z_23 j x).bind fun (costs_126 : (List (Int × Int))) => (Res.ok costs_126)) (((pair (Res.ok (0 : Int)) (Res.ok (1 : Int))).bind fun x => (Res.ok k_49).bind fun j => setR z_23 j x).bind fun (costs_138 : (List (Int × Int))) => (Res.ok costs_138))))))))) xs costs_8).bind fun (z_155 : (List (Int × Int))) => (Res.ok z_155)))
abbrev N__law_costs : List Str := ["parents", "wanted", "costs", "back", "k", "kids", "out", "inside", "j"]
theorem sc__law_costs : FnScope N__law_costs ["parents", "wanted"] (defScope s__law_costs) := ⟨rfl, rfl, rfl, by decide +kernel, rfl, by decide +kernel, by decide +kernel⟩
theorem bind__law_costs {K : PySem.W.Frag} {mg : Str → Option Value} {T : Tx K mg} : Binds K T.d__law_costs ["parents", "wanted"] [] := FunD.bindsN T.F__law_costs fun _ _ _ _ _ _ us hl => match us, hl with | [_, _], _ => rfl
abbrev sp__law_costs (K : PySem.W.Frag) : Sp := spO K (tc (pL pI) (t1 (pL pI))) (fun (p : ((List Int) × (List Int))) => m__law_costs p.1 p.2) (pT (tc pI (t1 pI)))
theorem ok__law_costs (T : Tx K mg) : FnOk P w K mg base (L2.CX P w) 1 T.f__law_costs T.d__law_costs ["parents", "wanted"] (sp__law_costs K) := by
  refine T.F__law_costs.ok sc__law_costs (fun vs H Q E h => ?_) (fun cdv A outer s H vs Q E hr h => ?_)
  · obtain ⟨I, C, a, _, hr, _⟩ := h
    exact Rt.len _ hr
  · obtain ⟨I0, C0, ⟨ar_parents, ar_wanted⟩, hs, ⟨v_parents, us0, rfl, r_parents, v_wanted, rfl, r_wanted⟩, hm⟩ := h
    have hm : Post (m__law_costs ar_parents ar_wanted) (PN (pT (tc pI (t1 pI))) I0 C0 Q) (PX E K I0 C0) := hm
    replace r_parents : Rp.r (pL pI) ar_parents v_parents I0 Z := Im.im r_parents
    replace r_wanted : Rp.r (pL pI) ar_wanted v_wanted I0 Z := Im.im r_wanted
    unfold m__law_costs at hm
    refine ⟨_, (pss_cons (ps_set (i := 2) sc__law_costs.nd rfl (Or.inr rfl) (pe_lc (own := [("k", 4)]) rfl sc__law_costs.nd (show PI _ _ _ (iList K _) from pi_list (pv 0)) (blkOk_by (own := [("k", 4)]) (N := N__law_costs) (sc := defScope s__law_costs) (by decide +kernel)) (fun _ _ _ _ _ => (pg_name (i := 4) sc__law_costs.nd rfl (Or.inl rfl))) (fun _ _ _ _ _ => pts_nil) (fun _ _ _ _ _ => (pe_tup (pa_cons pe_int (pa_cons pe_int pa_nil)))))) (pss_cons (ps_for (passes_of rfl) rfl (pi_range1 (by rfl) T.gb_range (pa_cons (pe_callB (r := rLen1 K) call_len_seq (by rfl) T.gb_len bt_len (pa_cons (pv 0) pa_nil)) pa_nil)) (pg_name (i := 3) sc__law_costs.nd rfl (Or.inl rfl)) (pss_cons (ps_set (i := 4) sc__law_costs.nd rfl (Or.inr rfl) (pe_op op_sub (pe_op op_sub (pe_callB (r := rLen1 K) call_len_seq (by rfl) T.gb_len bt_len (pa_cons (pv 0) pa_nil)) pe_int) (pv 3))) (pss_cons (ps_setLc (i := 5) (own := [("j", 8)]) rfl sc__law_costs.nd rfl rfl (sw_true rfl rfl rfl (by decide +kernel)) (pi_range1 (by rfl) T.gb_range (pa_cons (pe_callB (r := rLen1 K) call_len_seq (by rfl) T.gb_len bt_len (pa_cons (pv 0) pa_nil)) pa_nil)) (blkOk_by (own := [("j", 8)]) (N := N__law_costs) (sc := defScope s__law_costs) (by decide +kernel)) (fun _ _ _ _ _ => (pg_name (i := 8) sc__law_costs.nd rfl (Or.inl rfl))) (fun _ _ _ _ _ => (pts_one (pt_cmpR op_eq (pe_ix (r := rIxL K) ix_list (pv 0) (pv 8) (fun _ _ => rfl)) (pv 4) (nomark _)))) (fun _ _ _ _ _ => (pv 8))) (pss_cons (ps_set (i := 6) sc__law_costs.nd rfl (Or.inl rfl) (pe_callB (r := rSum K) (cr_sum rfl) (by rfl) T.gb_sum bt_sum (pa_cons (pe_lc (own := [("j", 8)]) rfl sc__law_costs.nd (show PI _ _ _ (iList K _) from pi_list (pv 5)) (blkOk_by (own := [("j", 8)]) (N := N__law_costs) (sc := defScope s__law_costs) (by decide +kernel)) (fun _ _ _ _ _ => (pg_name (i := 8) sc__law_costs.nd rfl (Or.inl rfl))) (fun _ _ _ _ _ => pts_nil) (fun _ _ _ _ _ => (pe_ix (r := rIxT K) ix_tup (pe_ix (r := rIxL K) ix_list (pv 2) (pv 8) (fun _ _ => rfl)) pe_int (fun _ _ => rfl)))) pa_nil))) (pss_cons (ps_set (i := 7) sc__law_costs.nd rfl (Or.inl rfl) (pe_callB (r := rSum K) (cr_sum rfl) (by rfl) T.gb_sum bt_sum (pa_cons (pe_lc (own := [("j", 8)]) rfl sc__law_costs.nd (show PI _ _ _ (iList K _) from pi_list (pv 5)) (blkOk_by (own := [("j", 8)]) (N := N__law_costs) (sc := defScope s__law_costs) (by decide +kernel)) (fun _ _ _ _ _ => (pg_name (i := 8) sc__law_costs.nd rfl (Or.inl rfl))) (fun _ _ _ _ _ => pts_nil) (fun _ _ _ _ _ => (pe_ix (r := rIxT K) ix_tup (pe_ix (r := rIxL K) ix_list (pv 2) (pv 8) (fun _ _ => rfl)) pe_int (fun _ _ => rfl)))) pa_nil))) (pss_cons (ps_if (pt_cmpR op_gt (pe_callB (r := rLen1 K) call_len_seq (by rfl) T.gb_len bt_len (pa_cons (pv 5) pa_nil)) pe_int (nomark _)) (pss_cons (ps_asg (pe_tup (pa_cons (pe_callB (call_min2 rfl) (by rfl) T.gb_min bt_min (pa_cons (pv 6) (pa_cons (pe_op op_add pe_int (pv 7)) pa_nil))) (pa_cons (pe_callB (call_min2 rfl) (by rfl) T.gb_min bt_min (pa_cons (pv 7) (pa_cons (pe_op op_add pe_int (pv 6)) pa_nil))) pa_nil))) (pg_sub (pv 2) (pv 4) set_list)) pss_nil) (pss_cons (ps_if (pt_cmpR (r := rIn K false) op_in_seq (pv 4) (pv 1) rfl) (pss_cons (ps_asg (pe_tup (pa_cons pe_int (pa_cons pe_int pa_nil))) (pg_sub (pv 2) (pv 4) set_list)) pss_nil) (pss_cons (ps_asg (pe_tup (pa_cons pe_int (pa_cons pe_int pa_nil))) (pg_sub (pv 2) (pv 4) set_list)) pss_nil)) pss_nil)) pss_nil)))))) (pss_cons (ps_ret (pv 2)) pss_nil))), ?_⟩
    refine q_asgN (E := E) (K := K) (σ := [some v_parents, some v_wanted, none, none, none, none, none, none, none]) (i := 2) (n_lc (i_list (x_var (i := 0) rfl (Rp.mono _ (Ex.refl _) exz r_parents))) g1 (fun _ _ _ _ ⟨_, h, _⟩ => by rw [h]; rfl) (fun x_1 σ2 I_2 C_3 e_4 c_5 ⟨v_6, h, r_7⟩ => by subst h; exact (x_tup (a_cons (x_int (i := 0)) (a_one (x_int (i := 0)))) (Nat.le_of_ble_eq_true rfl))) (fun _ _ _ _ _ e ⟨v_6, h, r_7⟩ => ⟨v_6, h, Rp.mono _ e exz r_7⟩)) hs (fun _ _ h => PX.mono (Ex.refl _) (Ex.refl _) h) hm fun costs_8 p_9 vs_10 I_11 C_12 H_13 e_14 hp_15 s_16 hc_17 k_18 hl_19 hr_20 hm => ?_
    have hB_21 := Ex.free (Ex.refl _) hp_15
    have fr_22 := fr_keep (Ex.refl _) hB_21 k_18
    refine s_forN (E := E) (K := K) (σ := [some v_parents, some v_wanted, some (.ref p_9), none, none, none, none, none, none]) (fun (z_23 : (List (Int × Int))) σ2 I_30 C_31 => ∃ w_25 : Option V, ∃ w_26 : Option V, ∃ w_27 : Option V, ∃ w_28 : Option V, ∃ w_29 : Option V, σ2 = [some v_parents, some v_wanted, some (.ref p_9), w_25, w_26, w_27, w_28, w_29, none] ∧ (∃ vs_32 : List V, C_31 p_9 = some (.lst vs_32) ∧ vs_32.length ≤ sizeLine ∧ A2 (fun x u => Rp.r (pT (tc pI (t1 pI))) x u I_30 Z) z_23 vs_32) ∧ Ex C0 C_31) (i_rng1 (a_one (x_cb o_len (a_one (x_v (x_var (i := 0) rfl (Rp.mono _ e_14 exz r_parents))))))) s_16 (fun _ _ h => PX.mono e_14 fr_22 h) hm (fun _ e_45 => ⟨none, none, none, none, none, rfl, ⟨_, hc_17, hl_19, a2up (Ex.trans (Ex.refl _) e_45) hr_20⟩, fr_22⟩) (fun _ _ _ _ _ => trivial) (fun _ _ _ _ _ e ⟨w_25, w_26, w_27, w_28, w_29, hs_24, ⟨vs_32, hc_33, hl_34, hr_35⟩, fr_36⟩ => ⟨w_25, w_26, w_27, w_28, w_29, hs_24, ⟨vs_32, hc_33, hl_34, a2up e hr_35⟩, fr_36⟩) (fun N x_37 v_38 z_23 σ2 I_39 C_40 H_41 e_42 s_43 ⟨w_25, w_26, w_27, w_28, w_29, hs_24, ⟨vs_32, hc_33, hl_34, hr_35⟩, fr_36⟩ r_44 hm => ?_) (fun z_155 σ2 I_150 C_151 H_152 e_153 s_154 ⟨w_157, w_158, w_159, w_160, w_161, hs_156, ⟨vs_164, hc_165, hl_166, hr_167⟩, fr_168⟩ hm => ?_)
    · subst hs_24
      refine g1 (K := K) x_37 v_38 I_39 C_40 H_41 _ s_43 r_44 fun σ2 ⟨v_46, hs_48, r_47⟩ => ?_
      subst hs_48
      refine q_asg (E := E) (K := K) (σ := [some v_parents, some v_wanted, some (.ref p_9), some v_46, w_26, w_27, w_28, w_29, none]) (i := 4) (x_op o_sub (x_op o_sub (x_cb o_len (a_one (x_v (x_var (i := 0) rfl (Rp.mono _ (e_14.trans e_42) exz r_parents))))) (x_int (i := 1))) (x_var (i := 3) rfl (Rp.mono _ (Ex.refl _) exz r_47))) s_43 (fun _ _ h => PX.mono (e_14.trans e_42) fr_36 h) hm fun k_49 v_50 I_51 H_52 e_53 s_54 r_55 hm => ?_
      refine q_asg (E := E) (K := K) (σ := [some v_parents, some v_wanted, some (.ref p_9), some v_46, some v_50, w_27, w_28, w_29, none]) (i := 5) (x_lcg (i_rng1 (a_one (x_cb o_len (a_one (x_v (x_var (i := 0) rfl (Rp.mono _ (e_14.trans (e_42.trans e_53)) exz r_parents))))))) g1 (fun _ _ _ _ ⟨_, h, _⟩ => by rw [h]; rfl) (fun x_56 σ2 I_57 C_58 e_59 c_60 ⟨v_61, h, r_62⟩ => by subst h; exact (t_test (x_op o_eqI (x_op o_ix (x_v (x_var (i := 0) rfl (Rp.mono _ (e_14.trans (e_42.trans (e_53.trans e_59))) exz r_parents))) (x_var (i := 8) rfl (Rp.mono _ (Ex.refl _) exz r_62))) (x_var (i := 4) rfl (Rp.mono _ e_59 exz r_55))))) (fun x_56 σ2 I_57 C_58 e_59 c_60 ⟨v_61, h, r_62⟩ => by subst h; exact (x_var (i := 8) rfl (Rp.mono _ (Ex.refl _) exz r_62))) (fun _ _ _ _ _ e ⟨v_61, h, r_62⟩ => ⟨v_61, h, Rp.mono _ e exz r_62⟩)) s_54 (fun _ _ h => PX.mono (e_14.trans (e_42.trans e_53)) fr_36 h) hm fun kids_63 v_64 I_65 H_66 e_67 s_68 r_69 hm => ?_
      refine q_asg (E := E) (K := K) (σ := [some v_parents, some v_wanted, some (.ref p_9), some v_46, some v_50, some v_64, w_28, w_29, none]) (i := 6) (x_cb o_sum (a_one (x_v (x_lc (i_list (x_var (i := 5) rfl (Rp.mono _ (Ex.refl _) exz r_69))) g1 (fun _ _ _ _ ⟨_, h, _⟩ => by rw [h]; rfl) (fun x_70 σ2 I_71 C_72 e_73 c_74 ⟨v_75, h, r_76⟩ => by subst h; exact (x_k (k := ((0 : Nat) : Int)) (o_pj pj0) (x_op o_ix (x_cell (i := 2) rfl (c_74 _ _ hc_33) hl_34 (a2up (e_53.trans (e_67.trans e_73)) hr_35)) (x_var (i := 8) rfl (Rp.mono _ (Ex.refl _) exz r_76))))) (fun _ _ _ _ _ e ⟨v_75, h, r_76⟩ => ⟨v_75, h, Rp.mono _ e exz r_76⟩))))) s_68 (fun _ _ h => PX.mono (e_14.trans (e_42.trans (e_53.trans e_67))) fr_36 h) hm fun out_77 v_78 I_79 H_80 e_81 s_82 r_83 hm => ?_
      refine q_asg (E := E) (K := K) (σ := [some v_parents, some v_wanted, some (.ref p_9), some v_46, some v_50, some v_64, some v_78, w_29, none]) (i := 7) (x_cb o_sum (a_one (x_v (x_lc (i_list (x_var (i := 5) rfl (Rp.mono _ e_81 exz r_69))) g1 (fun _ _ _ _ ⟨_, h, _⟩ => by rw [h]; rfl) (fun x_84 σ2 I_85 C_86 e_87 c_88 ⟨v_89, h, r_90⟩ => by subst h; exact (x_k (k := ((1 : Nat) : Int)) (o_pj (pjs pj1)) (x_op o_ix (x_cell (i := 2) rfl (c_88 _ _ hc_33) hl_34 (a2up (e_53.trans (e_67.trans (e_81.trans e_87))) hr_35)) (x_var (i := 8) rfl (Rp.mono _ (Ex.refl _) exz r_90))))) (fun _ _ _ _ _ e ⟨v_89, h, r_90⟩ => ⟨v_89, h, Rp.mono _ e exz r_90⟩))))) s_82 (fun _ _ h => PX.mono (e_14.trans (e_42.trans (e_53.trans (e_67.trans e_81)))) fr_36 h) hm fun inside_91 v_92 I_93 H_94 e_95 s_96 r_97 hm => ?_
      refine s_if (E := E) (K := K) (σ := [some v_parents, some v_wanted, some (.ref p_9), some v_46, some v_50, some v_64, some v_78, some v_92, none]) (t_test (x_op o_gt (x_cb o_len (a_one (x_v (x_var (i := 5) rfl (Rp.mono _ (e_81.trans e_95) exz r_69))))) (x_int (i := 0)))) s_96 (fun _ _ h => PX.mono (e_14.trans (e_42.trans (e_53.trans (e_67.trans (e_81.trans e_95))))) fr_36 h) hm (fun I_98 H_99 e_100 s_101 hm => ?_) (fun I_102 H_103 e_104 s_105 hm => ?_)
      · refine q_setL (E := E) (K := K) (σ := [some v_parents, some v_wanted, some (.ref p_9), some v_46, some v_50, some v_64, some v_78, some v_92, none]) (i := 2) rfl hc_33 hl_34 (a2up (e_53.trans (e_67.trans (e_81.trans (e_95.trans e_100)))) hr_35) (x_tup (a_cons (x_cb o_min2 (a_cons (x_var (i := 6) rfl (Rp.mono _ (e_95.trans e_100) exz r_83)) (a_one (x_op o_add (x_int (i := 1)) (x_var (i := 7) rfl (Rp.mono _ e_100 exz r_97)))))) (a_one (x_cb o_min2 (a_cons (x_var (i := 7) rfl (Rp.mono _ e_100 exz r_97)) (a_one (x_op o_add (x_int (i := 1)) (x_var (i := 6) rfl (Rp.mono _ (e_95.trans e_100) exz r_83)))))))) (Nat.le_of_ble_eq_true rfl)) (x_var (i := 4) rfl (Rp.mono _ (e_67.trans (e_81.trans (e_95.trans e_100))) exz r_55)) s_101 (fun _ _ h => PX.mono (e_14.trans (e_42.trans (e_53.trans (e_67.trans (e_81.trans (e_95.trans e_100)))))) fr_36 h) hm fun costs_106 vs_107 I_108 C_109 H_110 e_111 s_112 hc_113 k_114 hl_115 hr_116 hm => ?_
        have fr_117 := fr_keep fr_36 hB_21 k_114
        exact hm _ _ _ _ (e_53.trans (e_67.trans (e_81.trans (e_95.trans (e_100.trans e_111))))) s_112 ⟨some v_46, some v_50, some v_64, some v_78, some v_92, rfl, ⟨_, hc_113, hl_115, a2up (Ex.refl _) hr_116⟩, fr_117⟩
      · refine s_if (E := E) (K := K) (σ := [some v_parents, some v_wanted, some (.ref p_9), some v_46, some v_50, some v_64, some v_78, some v_92, none]) (t_test (x_op (o_in fl_int) (x_var (i := 4) rfl (Rp.mono _ (e_67.trans (e_81.trans (e_95.trans e_104))) exz r_55)) (x_v (x_var (i := 1) rfl (Rp.mono _ (e_14.trans (e_42.trans (e_53.trans (e_67.trans (e_81.trans (e_95.trans e_104)))))) exz r_wanted))))) s_105 (fun _ _ h => PX.mono (e_14.trans (e_42.trans (e_53.trans (e_67.trans (e_81.trans (e_95.trans e_104)))))) fr_36 h) hm (fun I_118 H_119 e_120 s_121 hm => ?_) (fun I_122 H_123 e_124 s_125 hm => ?_)
        · refine q_setL (E := E) (K := K) (σ := [some v_parents, some v_wanted, some (.ref p_9), some v_46, some v_50, some v_64, some v_78, some v_92, none]) (i := 2) rfl hc_33 hl_34 (a2up (e_53.trans (e_67.trans (e_81.trans (e_95.trans (e_104.trans e_120))))) hr_35) (x_tup (a_cons (x_int (i := 1)) (a_one (x_int (i := 0)))) (Nat.le_of_ble_eq_true rfl)) (x_var (i := 4) rfl (Rp.mono _ (e_67.trans (e_81.trans (e_95.trans (e_104.trans e_120)))) exz r_55)) s_121 (fun _ _ h => PX.mono (e_14.trans (e_42.trans (e_53.trans (e_67.trans (e_81.trans (e_95.trans (e_104.trans e_120))))))) fr_36 h) hm fun costs_126 vs_127 I_128 C_129 H_130 e_131 s_132 hc_133 k_134 hl_135 hr_136 hm => ?_
          have fr_137 := fr_keep fr_36 hB_21 k_134
          exact hm _ _ _ _ (e_53.trans (e_67.trans (e_81.trans (e_95.trans (e_104.trans (e_120.trans e_131)))))) s_132 ⟨some v_46, some v_50, some v_64, some v_78, some v_92, rfl, ⟨_, hc_133, hl_135, a2up (Ex.refl _) hr_136⟩, fr_137⟩
        · refine q_setL (E := E) (K := K) (σ := [some v_parents, some v_wanted, some (.ref p_9), some v_46, some v_50, some v_64, some v_78, some v_92, none]) (i := 2) rfl hc_33 hl_34 (a2up (e_53.trans (e_67.trans (e_81.trans (e_95.trans (e_104.trans e_124))))) hr_35) (x_tup (a_cons (x_int (i := 0)) (a_one (x_int (i := 1)))) (Nat.le_of_ble_eq_true rfl)) (x_var (i := 4) rfl (Rp.mono _ (e_67.trans (e_81.trans (e_95.trans (e_104.trans e_124)))) exz r_55)) s_125 (fun _ _ h => PX.mono (e_14.trans (e_42.trans (e_53.trans (e_67.trans (e_81.trans (e_95.trans (e_104.trans e_124))))))) fr_36 h) hm fun costs_138 vs_139 I_140 C_141 H_142 e_143 s_144 hc_145 k_146 hl_147 hr_148 hm => ?_
          have fr_149 := fr_keep fr_36 hB_21 k_146
          exact hm _ _ _ _ (e_53.trans (e_67.trans (e_81.trans (e_95.trans (e_104.trans (e_124.trans e_143)))))) s_144 ⟨some v_46, some v_50, some v_64, some v_78, some v_92, rfl, ⟨_, hc_145, hl_147, a2up (Ex.refl _) hr_148⟩, fr_149⟩
    subst hs_156
    refine q_retO (i := 2) rfl s_154 fr_168 hB_21 hc_165 hl_166 (a2up (Ex.refl _) hr_167) fun s hr => ?_
    exact hm _ _ _ _ (e_14.trans e_153) hB_21 s hl_166 hr
def m__law_bound (ar_parents : (List Int)) (ar_wanted : (List Int)) (ar_bounds : (List (Int × Int))) (ar_many : Int) : Res Bool :=
  (ifR (bin neR (un rLen (Res.ok ar_bounds)) (un rLen (Res.ok ar_parents))) ((Res.ok false).bind fun a_9 => Res.ok a_9) (((un rng1 (un rLen (Res.ok ar_parents))).bind fun xs => loopR (fun (x_26 : Int) (z_16 : Unit) => (((un rng1 (un rLen (Res.ok ar_parents))).bind (filR (fun (x_38 : Int) => (bin eqR (bin ix (Res.ok ar_parents) (Res.ok x_38)) (Res.ok x_26))) (fun (x_38 : Int) => (Res.ok x_38)))).bind fun (kids_45 : (List Int)) => ((un sumR ((Res.ok kids_45).bind (mapR (fun (x_52 : Int) => (un (fun p => Res.ok p.1) (bin ix (Res.ok ar_bounds) (Res.ok x_52))))))).bind fun (out_59 : Int) => ((un sumR ((Res.ok kids_45).bind (mapR (fun (x_66 : Int) => (un (fun p => Res.ok p.2) (bin ix (Res.ok ar_bounds) (Res.ok x_66))))))).bind fun (inside_73 : Int) => ((ifR (bin rGt (un rLen (Res.ok kids_45)) (Res.ok (0 : Int))) ((pair (un min2 (pair (Res.ok out_59) (bin rAdd (Res.ok (1 : Int)) (Res.ok inside_73)))) (un min2 (pair (Res.ok inside_73) (bin rAdd (Res.ok (1 : Int)) (Res.ok out_59))))).bind fun (tops_95 : (Int × Int)) => (Res.ok tops_95)) (ifR (bin inR (Res.ok x_26) (Res.ok ar_wanted)) ((pair (Res.ok (1 : Int)) (Res.ok (0 : Int))).bind fun (tops_110 : (Int × Int)) => (Res.ok tops_110)) ((pair (Res.ok (0 : Int)) (Res.ok (1 : Int))).bind fun (tops_117 : (Int × Int)) => (Res.ok tops_117)))).bind fun (z_88 : (Int × Int)) => (ifR (orR (bin rGt (un (fun p => Res.ok p.1) (bin ix (Res.ok ar_bounds) (Res.ok x_26))) (un (fun p => Res.ok p.1) (Res.ok z_88))) (bin rGt (un (fun p => Res.ok p.2) (bin ix (Res.ok ar_bounds) (Res.ok x_26))) (un (fun p => Res.ok p.2) (Res.ok z_88)))) ((Res.ok false).bind fun a_137 => Res.ok (Out.rt a_137)) (Res.ok (Out.nx ())))))))) xs ()).bind fun (o : Out Unit Bool) => match o with | .nx z_149 => ((bin rGt (un sumR ((un rng1 (un rLen (Res.ok ar_parents))).bind (filR (fun (x_159 : Int) => (bin rLt (bin ix (Res.ok ar_parents) (Res.ok x_159)) (Res.ok (0 : Int)))) (fun (x_159 : Int) => (un (fun p => Res.ok p.1) (bin ix (Res.ok ar_bounds) (Res.ok x_159))))))) (Res.ok ar_many)).bind fun a_166 => Res.ok a_166) | .br _ => Res.bad | .rt r => Res.ok r))
abbrev N__law_bound : List Str := ["parents", "wanted", "bounds", "many", "k", "kids", "out", "inside", "tops", "j"]
theorem sc__law_bound : FnScope N__law_bound ["parents", "wanted", "bounds", "many"] (defScope s__law_bound) := ⟨rfl, rfl, rfl, by decide +kernel, rfl, by decide +kernel, by decide +kernel⟩
theorem bind__law_bound {K : PySem.W.Frag} {mg : Str → Option Value} {T : Tx K mg} : Binds K T.d__law_bound ["parents", "wanted", "bounds", "many"] [] := FunD.bindsN T.F__law_bound fun _ _ _ _ _ _ us hl => match us, hl with | [_, _, _, _], _ => rfl
abbrev sp__law_bound (K : PySem.W.Frag) : Sp := spP K (tc (pL pI) (tc (pL pI) (tc (pL (pT (tc pI (t1 pI)))) (t1 pI)))) (fun (p : ((List Int) × (List Int) × (List (Int × Int)) × Int)) => m__law_bound p.1 p.2.1 p.2.2.1 p.2.2.2) pB
theorem ok__law_bound (T : Tx K mg) : FnOk P w K mg base (L2.CX P w) 1 T.f__law_bound T.d__law_bound ["parents", "wanted", "bounds", "many"] (sp__law_bound K) := by
  refine T.F__law_bound.ok sc__law_bound (fun vs H Q E h => ?_) (fun cdv A outer s H vs Q E hr h => ?_)
  · obtain ⟨I, C, a, _, hr, _⟩ := h
    exact Rt.len _ hr
  · obtain ⟨I0, C0, ⟨ar_parents, ar_wanted, ar_bounds, ar_many⟩, hs, ⟨v_parents, us0, rfl, r_parents, v_wanted, us1, rfl, r_wanted, v_bounds, us2, rfl, r_bounds, v_many, rfl, r_many⟩, hm⟩ := h
    have hm : Post (m__law_bound ar_parents ar_wanted ar_bounds ar_many) (PQ pB I0 C0 Q) (PX E K I0 C0) := hm
    replace r_parents : Rp.r (pL pI) ar_parents v_parents I0 Z := Im.im r_parents
    replace r_wanted : Rp.r (pL pI) ar_wanted v_wanted I0 Z := Im.im r_wanted
    replace r_bounds : Rp.r (pL (pT (tc pI (t1 pI)))) ar_bounds v_bounds I0 Z := Im.im r_bounds
    replace r_many : Rp.r pI ar_many v_many I0 Z := Im.im r_many
    unfold m__law_bound at hm
    refine ⟨_, (pss_cons (ps_if (pt_cmpR op_ne (pe_callB (r := rLen1 K) call_len_seq (by rfl) T.gb_len bt_len (pa_cons (pv 2) pa_nil)) (pe_callB (r := rLen1 K) call_len_seq (by rfl) T.gb_len bt_len (pa_cons (pv 0) pa_nil)) (nomark _)) (pss_cons (ps_ret pe_bl) pss_nil) pss_nil) (pss_cons (ps_for (passes_of rfl) rfl (pi_range1 (by rfl) T.gb_range (pa_cons (pe_callB (r := rLen1 K) call_len_seq (by rfl) T.gb_len bt_len (pa_cons (pv 0) pa_nil)) pa_nil)) (pg_name (i := 4) sc__law_bound.nd rfl (Or.inr rfl)) (pss_cons (ps_setLc (i := 5) (own := [("j", 9)]) rfl sc__law_bound.nd rfl rfl (sw_true rfl rfl rfl (by decide +kernel)) (pi_range1 (by rfl) T.gb_range (pa_cons (pe_callB (r := rLen1 K) call_len_seq (by rfl) T.gb_len bt_len (pa_cons (pv 0) pa_nil)) pa_nil)) (blkOk_by (own := [("j", 9)]) (N := N__law_bound) (sc := defScope s__law_bound) (by decide +kernel)) (fun _ _ _ _ _ => (pg_name (i := 9) sc__law_bound.nd rfl (Or.inl rfl))) (fun _ _ _ _ _ => (pts_one (pt_cmpR op_eq (pe_ix (r := rIxL K) ix_list (pv 0) (pv 9) (fun _ _ => rfl)) (pv 4) (nomark _)))) (fun _ _ _ _ _ => (pv 9))) (pss_cons (ps_set (i := 6) sc__law_bound.nd rfl (Or.inl rfl) (pe_callB (r := rSum K) (cr_sum rfl) (by rfl) T.gb_sum bt_sum (pa_cons (pe_lc (own := [("j", 9)]) rfl sc__law_bound.nd (show PI _ _ _ (iList K _) from pi_list (pv 5)) (blkOk_by (own := [("j", 9)]) (N := N__law_bound) (sc := defScope s__law_bound) (by decide +kernel)) (fun _ _ _ _ _ => (pg_name (i := 9) sc__law_bound.nd rfl (Or.inl rfl))) (fun _ _ _ _ _ => pts_nil) (fun _ _ _ _ _ => (pe_ix (r := rIxT K) ix_tup (pe_ix (r := rIxL K) ix_list (pv 2) (pv 9) (fun _ _ => rfl)) pe_int (fun _ _ => rfl)))) pa_nil))) (pss_cons (ps_set (i := 7) sc__law_bound.nd rfl (Or.inl rfl) (pe_callB (r := rSum K) (cr_sum rfl) (by rfl) T.gb_sum bt_sum (pa_cons (pe_lc (own := [("j", 9)]) rfl sc__law_bound.nd (show PI _ _ _ (iList K _) from pi_list (pv 5)) (blkOk_by (own := [("j", 9)]) (N := N__law_bound) (sc := defScope s__law_bound) (by decide +kernel)) (fun _ _ _ _ _ => (pg_name (i := 9) sc__law_bound.nd rfl (Or.inl rfl))) (fun _ _ _ _ _ => pts_nil) (fun _ _ _ _ _ => (pe_ix (r := rIxT K) ix_tup (pe_ix (r := rIxL K) ix_list (pv 2) (pv 9) (fun _ _ => rfl)) pe_int (fun _ _ => rfl)))) pa_nil))) (Evl.pss_cut (ps_if (pt_cmpR op_gt (pe_callB (r := rLen1 K) call_len_seq (by rfl) T.gb_len bt_len (pa_cons (pv 5) pa_nil)) pe_int (nomark _)) (pss_cons (ps_set (i := 8) sc__law_bound.nd rfl (Or.inl rfl) (pe_tup (pa_cons (pe_callB (call_min2 rfl) (by rfl) T.gb_min bt_min (pa_cons (pv 6) (pa_cons (pe_op op_add pe_int (pv 7)) pa_nil))) (pa_cons (pe_callB (call_min2 rfl) (by rfl) T.gb_min bt_min (pa_cons (pv 7) (pa_cons (pe_op op_add pe_int (pv 6)) pa_nil))) pa_nil)))) pss_nil) (pss_cons (ps_if (pt_cmpR (r := rIn K false) op_in_seq (pv 4) (pv 1) rfl) (pss_cons (ps_set (i := 8) sc__law_bound.nd rfl (Or.inl rfl) (pe_tup (pa_cons pe_int (pa_cons pe_int pa_nil)))) pss_nil) (pss_cons (ps_set (i := 8) sc__law_bound.nd rfl (Or.inl rfl) (pe_tup (pa_cons pe_int (pa_cons pe_int pa_nil)))) pss_nil)) pss_nil)) (pss_cons (ps_if (PW.pt (pw_or (pt_cmpR op_gt (pe_ix (r := rIxT K) ix_tup (pe_ix (r := rIxL K) ix_list (pv 2) (pv 4) (fun _ _ => rfl)) pe_int (fun _ _ => rfl)) (pe_ix (r := rIxT K) ix_tup (pv 8) pe_int (fun _ _ => rfl)) (nomark _)) (pw_or1 (pt_cmpR op_gt (pe_ix (r := rIxT K) ix_tup (pe_ix (r := rIxL K) ix_list (pv 2) (pv 4) (fun _ _ => rfl)) pe_int (fun _ _ => rfl)) (pe_ix (r := rIxT K) ix_tup (pv 8) pe_int (fun _ _ => rfl)) (nomark _))))) (pss_cons (ps_ret pe_bl) pss_nil) pss_nil) pss_nil)))))) (pss_cons (ps_ret (pe_cmpR op_gt (pe_callB (r := rSum K) (cr_sum rfl) (by rfl) T.gb_sum bt_sum (pa_cons (pe_lc (own := [("k", 4)]) rfl sc__law_bound.nd (pi_range1 (by rfl) T.gb_range (pa_cons (pe_callB (r := rLen1 K) call_len_seq (by rfl) T.gb_len bt_len (pa_cons (pv 0) pa_nil)) pa_nil)) (blkOk_by (own := [("k", 4)]) (N := N__law_bound) (sc := defScope s__law_bound) (by decide +kernel)) (fun _ _ _ _ _ => (pg_name (i := 4) sc__law_bound.nd rfl (Or.inl rfl))) (fun _ _ _ _ _ => (pts_one (pt_cmpR op_lt (pe_ix (r := rIxL K) ix_list (pv 0) (pv 4) (fun _ _ => rfl)) pe_int (nomark _)))) (fun _ _ _ _ _ => (pe_ix (r := rIxT K) ix_tup (pe_ix (r := rIxL K) ix_list (pv 2) (pv 4) (fun _ _ => rfl)) pe_int (fun _ _ => rfl)))) pa_nil)) (pv 3) (nomark _))) pss_nil))), ?_⟩
    refine s_if (E := E) (K := K) (σ := [some v_parents, some v_wanted, some v_bounds, some v_many, none, none, none, none, none, none]) (t_test (x_op o_neI (x_cb o_len (a_one (x_v (x_var (i := 2) rfl (Rp.mono _ (Ex.refl _) exz r_bounds))))) (x_cb o_len (a_one (x_v (x_var (i := 0) rfl (Rp.mono _ (Ex.refl _) exz r_parents))))))) hs (fun _ _ h => PX.mono (Ex.refl _) (Ex.refl _) h) hm (fun I_1 H_2 e_3 s_4 hm => ?_) (fun I_5 H_6 e_7 s_8 hm => ?_)
    · refine q_ret (tz := tNext) (E := E) (K := K) (σ := [some v_parents, some v_wanted, some v_bounds, some v_many, none, none, none, none, none, none]) x_bl s_4 (fun _ _ h => PX.mono e_3 (Ex.refl _) h) hm fun a_9 v_10 I_11 H_12 e_13 s_14 r_15 hm => ?_
      exact hm v_10 I_11 H_12 (e_3.trans e_13) (St.less s_14 (Ex.refl _)) (Im.im r_15)
    · refine s_forR (E := E) (K := K) (σ := [some v_parents, some v_wanted, some v_bounds, some v_many, none, none, none, none, none, none]) (fun (z_16 : Unit) σ2 I_23 C_24 => ∃ w_18 : Option V, ∃ w_19 : Option V, ∃ w_20 : Option V, ∃ w_21 : Option V, ∃ w_22 : Option V, σ2 = [some v_parents, some v_wanted, some v_bounds, some v_many, w_18, w_19, w_20, w_21, w_22, none] ∧ Ex C0 C_24) (i_rng1 (a_one (x_cb o_len (a_one (x_v (x_var (i := 0) rfl (Rp.mono _ e_7 exz r_parents))))))) s_8 (fun _ _ h => PX.mono e_7 (Ex.refl _) h) hm (fun _ e_34 => ⟨none, none, none, none, none, rfl, (Ex.refl _)⟩) (fun _ _ _ _ _ => trivial) (fun _ _ _ _ _ e ⟨w_18, w_19, w_20, w_21, w_22, hs_17, fr_25⟩ => ⟨w_18, w_19, w_20, w_21, w_22, hs_17, fr_25⟩) (fun N x_26 v_27 z_16 σ2 I_28 C_29 H_30 e_31 s_32 ⟨w_18, w_19, w_20, w_21, w_22, hs_17, fr_25⟩ r_33 hm => ?_) (fun z_149 σ2 I_144 C_145 H_146 e_147 s_148 ⟨w_151, w_152, w_153, w_154, w_155, hs_150, fr_158⟩ hm => ?_)
      · subst hs_17
        refine g1 (K := K) x_26 v_27 I_28 C_29 H_30 _ s_32 r_33 fun σ2 ⟨v_35, hs_37, r_36⟩ => ?_
        subst hs_37
        refine q_asg (E := E) (K := K) (σ := [some v_parents, some v_wanted, some v_bounds, some v_many, some v_35, w_19, w_20, w_21, w_22, none]) (i := 5) (x_lcg (i_rng1 (a_one (x_cb o_len (a_one (x_v (x_var (i := 0) rfl (Rp.mono _ (e_7.trans e_31) exz r_parents))))))) g1 (fun _ _ _ _ ⟨_, h, _⟩ => by rw [h]; rfl) (fun x_38 σ2 I_39 C_40 e_41 c_42 ⟨v_43, h, r_44⟩ => by subst h; exact (t_test (x_op o_eqI (x_op o_ix (x_v (x_var (i := 0) rfl (Rp.mono _ (e_7.trans (e_31.trans e_41)) exz r_parents))) (x_var (i := 9) rfl (Rp.mono _ (Ex.refl _) exz r_44))) (x_var (i := 4) rfl (Rp.mono _ e_41 exz r_36))))) (fun x_38 σ2 I_39 C_40 e_41 c_42 ⟨v_43, h, r_44⟩ => by subst h; exact (x_var (i := 9) rfl (Rp.mono _ (Ex.refl _) exz r_44))) (fun _ _ _ _ _ e ⟨v_43, h, r_44⟩ => ⟨v_43, h, Rp.mono _ e exz r_44⟩)) s_32 (fun _ _ h => PX.mono (e_7.trans e_31) fr_25 h) hm fun kids_45 v_46 I_47 H_48 e_49 s_50 r_51 hm => ?_
        refine q_asg (E := E) (K := K) (σ := [some v_parents, some v_wanted, some v_bounds, some v_many, some v_35, some v_46, w_20, w_21, w_22, none]) (i := 6) (x_cb o_sum (a_one (x_v (x_lc (i_list (x_var (i := 5) rfl (Rp.mono _ (Ex.refl _) exz r_51))) g1 (fun _ _ _ _ ⟨_, h, _⟩ => by rw [h]; rfl) (fun x_52 σ2 I_53 C_54 e_55 c_56 ⟨v_57, h, r_58⟩ => by subst h; exact (x_k (k := ((0 : Nat) : Int)) (o_pj pj0) (x_op o_ix (x_v (x_var (i := 2) rfl (Rp.mono _ (e_7.trans (e_31.trans (e_49.trans e_55))) exz r_bounds))) (x_var (i := 9) rfl (Rp.mono _ (Ex.refl _) exz r_58))))) (fun _ _ _ _ _ e ⟨v_57, h, r_58⟩ => ⟨v_57, h, Rp.mono _ e exz r_58⟩))))) s_50 (fun _ _ h => PX.mono (e_7.trans (e_31.trans e_49)) fr_25 h) hm fun out_59 v_60 I_61 H_62 e_63 s_64 r_65 hm => ?_
        refine q_asg (E := E) (K := K) (σ := [some v_parents, some v_wanted, some v_bounds, some v_many, some v_35, some v_46, some v_60, w_21, w_22, none]) (i := 7) (x_cb o_sum (a_one (x_v (x_lc (i_list (x_var (i := 5) rfl (Rp.mono _ e_63 exz r_51))) g1 (fun _ _ _ _ ⟨_, h, _⟩ => by rw [h]; rfl) (fun x_66 σ2 I_67 C_68 e_69 c_70 ⟨v_71, h, r_72⟩ => by subst h; exact (x_k (k := ((1 : Nat) : Int)) (o_pj (pjs pj1)) (x_op o_ix (x_v (x_var (i := 2) rfl (Rp.mono _ (e_7.trans (e_31.trans (e_49.trans (e_63.trans e_69)))) exz r_bounds))) (x_var (i := 9) rfl (Rp.mono _ (Ex.refl _) exz r_72))))) (fun _ _ _ _ _ e ⟨v_71, h, r_72⟩ => ⟨v_71, h, Rp.mono _ e exz r_72⟩))))) s_64 (fun _ _ h => PX.mono (e_7.trans (e_31.trans (e_49.trans e_63))) fr_25 h) hm fun inside_73 v_74 I_75 H_76 e_77 s_78 r_79 hm => ?_
        refine s_ifj (E := E) (K := K) (σ := [some v_parents, some v_wanted, some v_bounds, some v_many, some v_35, some v_46, some v_60, some v_74, w_22, none]) (fun (z_88 : (Int × Int)) σ2 I_90 C_91 => ∃ v_92 : V, σ2 = [some v_parents, some v_wanted, some v_bounds, some v_many, some v_35, some v_46, some v_60, some v_74, some v_92, none] ∧ Rp.r (pT (tc pI (t1 pI))) z_88 v_92 I_90 Z ∧ Ex C0 C_91) (t_test (x_op o_gt (x_cb o_len (a_one (x_v (x_var (i := 5) rfl (Rp.mono _ (e_63.trans e_77) exz r_51))))) (x_int (i := 0)))) s_78 (fun _ _ h => PX.mono (e_7.trans (e_31.trans (e_49.trans (e_63.trans e_77)))) fr_25 h) hm (fun N I_80 H_81 e_82 s_83 hm => ?_) (fun N I_84 H_85 e_86 s_87 hm => ?_) (fun z_88 σ2 I_124 C_125 H_126 e_127 s_128 ⟨v_92, hs_89, r_93, fr_94⟩ hm => ?_)
        · refine q_asg (E := E) (K := K) (σ := [some v_parents, some v_wanted, some v_bounds, some v_many, some v_35, some v_46, some v_60, some v_74, w_22, none]) (i := 8) (x_tup (a_cons (x_cb o_min2 (a_cons (x_var (i := 6) rfl (Rp.mono _ (e_77.trans e_82) exz r_65)) (a_one (x_op o_add (x_int (i := 1)) (x_var (i := 7) rfl (Rp.mono _ e_82 exz r_79)))))) (a_one (x_cb o_min2 (a_cons (x_var (i := 7) rfl (Rp.mono _ e_82 exz r_79)) (a_one (x_op o_add (x_int (i := 1)) (x_var (i := 6) rfl (Rp.mono _ (e_77.trans e_82) exz r_65)))))))) (Nat.le_of_ble_eq_true rfl)) s_83 (fun _ _ h => PX.mono (e_7.trans (e_31.trans (e_49.trans (e_63.trans (e_77.trans e_82))))) fr_25 h) hm fun tops_95 v_96 I_97 H_98 e_99 s_100 r_101 hm => ?_
          exact hm _ _ _ _ (e_82.trans e_99) s_100 ⟨v_96, rfl, Rp.mono _ (Ex.refl _) exz r_101, fr_25⟩
        · refine s_if (E := E) (K := K) (σ := [some v_parents, some v_wanted, some v_bounds, some v_many, some v_35, some v_46, some v_60, some v_74, w_22, none]) (t_test (x_op (o_in fl_int) (x_var (i := 4) rfl (Rp.mono _ (e_49.trans (e_63.trans (e_77.trans e_86))) exz r_36)) (x_v (x_var (i := 1) rfl (Rp.mono _ (e_7.trans (e_31.trans (e_49.trans (e_63.trans (e_77.trans e_86))))) exz r_wanted))))) s_87 (fun _ _ h => PX.mono (e_7.trans (e_31.trans (e_49.trans (e_63.trans (e_77.trans e_86))))) fr_25 h) hm (fun I_102 H_103 e_104 s_105 hm => ?_) (fun I_106 H_107 e_108 s_109 hm => ?_)
          · refine q_asg (E := E) (K := K) (σ := [some v_parents, some v_wanted, some v_bounds, some v_many, some v_35, some v_46, some v_60, some v_74, w_22, none]) (i := 8) (x_tup (a_cons (x_int (i := 1)) (a_one (x_int (i := 0)))) (Nat.le_of_ble_eq_true rfl)) s_105 (fun _ _ h => PX.mono (e_7.trans (e_31.trans (e_49.trans (e_63.trans (e_77.trans (e_86.trans e_104)))))) fr_25 h) hm fun tops_110 v_111 I_112 H_113 e_114 s_115 r_116 hm => ?_
            exact hm _ _ _ _ (e_86.trans (e_104.trans e_114)) s_115 ⟨v_111, rfl, Rp.mono _ (Ex.refl _) exz r_116, fr_25⟩
          · refine q_asg (E := E) (K := K) (σ := [some v_parents, some v_wanted, some v_bounds, some v_many, some v_35, some v_46, some v_60, some v_74, w_22, none]) (i := 8) (x_tup (a_cons (x_int (i := 0)) (a_one (x_int (i := 1)))) (Nat.le_of_ble_eq_true rfl)) s_109 (fun _ _ h => PX.mono (e_7.trans (e_31.trans (e_49.trans (e_63.trans (e_77.trans (e_86.trans e_108)))))) fr_25 h) hm fun tops_117 v_118 I_119 H_120 e_121 s_122 r_123 hm => ?_
            exact hm _ _ _ _ (e_86.trans (e_108.trans e_121)) s_122 ⟨v_118, rfl, Rp.mono _ (Ex.refl _) exz r_123, fr_25⟩
        subst hs_89
        refine s_if (E := E) (K := K) (σ := [some v_parents, some v_wanted, some v_bounds, some v_many, some v_35, some v_46, some v_60, some v_74, some v_92, none]) (t_or (t_test (x_op o_gt (x_k (k := ((0 : Nat) : Int)) (o_pj pj0) (x_op o_ix (x_v (x_var (i := 2) rfl (Rp.mono _ (e_7.trans (e_31.trans (e_49.trans (e_63.trans (e_77.trans e_127))))) exz r_bounds))) (x_var (i := 4) rfl (Rp.mono _ (e_49.trans (e_63.trans (e_77.trans e_127))) exz r_36)))) (x_k (k := ((0 : Nat) : Int)) (o_pj pj0) (x_var (i := 8) rfl (Rp.mono _ (Ex.refl _) exz r_93))))) (t_test (x_op o_gt (x_k (k := ((1 : Nat) : Int)) (o_pj (pjs pj1)) (x_op o_ix (x_v (x_var (i := 2) rfl (Rp.mono _ (e_7.trans (e_31.trans (e_49.trans (e_63.trans (e_77.trans e_127))))) exz r_bounds))) (x_var (i := 4) rfl (Rp.mono _ (e_49.trans (e_63.trans (e_77.trans e_127))) exz r_36)))) (x_k (k := ((1 : Nat) : Int)) (o_pj (pjs pj1)) (x_var (i := 8) rfl (Rp.mono _ (Ex.refl _) exz r_93)))))) s_128 (fun _ _ h => PX.mono (e_7.trans (e_31.trans (e_49.trans (e_63.trans (e_77.trans e_127))))) fr_94 h) hm (fun I_129 H_130 e_131 s_132 hm => ?_) (fun I_133 H_134 e_135 s_136 hm => ?_)
        · refine q_ret (tz := tNext) (E := E) (K := K) (σ := [some v_parents, some v_wanted, some v_bounds, some v_many, some v_35, some v_46, some v_60, some v_74, some v_92, none]) x_bl s_132 (fun _ _ h => PX.mono (e_7.trans (e_31.trans (e_49.trans (e_63.trans (e_77.trans (e_127.trans e_131)))))) fr_94 h) hm fun a_137 v_138 I_139 H_140 e_141 s_142 r_143 hm => ?_
          exact hm v_138 I_139 H_140 (e_7.trans (e_31.trans (e_49.trans (e_63.trans (e_77.trans (e_127.trans (e_131.trans e_141))))))) (St.less s_142 fr_94) (Im.im r_143)
        · exact hm _ _ _ _ (e_49.trans (e_63.trans (e_77.trans (e_127.trans e_135)))) s_136 ⟨some v_35, some v_46, some v_60, some v_74, some v_92, rfl, fr_94⟩
      subst hs_150
      refine q_ret (tz := tNext) (E := E) (K := K) (σ := [some v_parents, some v_wanted, some v_bounds, some v_many, w_151, w_152, w_153, w_154, w_155, none]) (x_op o_gt (x_cb o_sum (a_one (x_v (x_lcg (i_rng1 (a_one (x_cb o_len (a_one (x_v (x_var (i := 0) rfl (Rp.mono _ (e_7.trans e_147) exz r_parents))))))) g1 (fun _ _ _ _ ⟨_, h, _⟩ => by rw [h]; rfl) (fun x_159 σ2 I_160 C_161 e_162 c_163 ⟨v_164, h, r_165⟩ => by subst h; exact (t_test (x_op o_lt (x_op o_ix (x_v (x_var (i := 0) rfl (Rp.mono _ (e_7.trans (e_147.trans e_162)) exz r_parents))) (x_var (i := 4) rfl (Rp.mono _ (Ex.refl _) exz r_165))) (x_int (i := 0))))) (fun x_159 σ2 I_160 C_161 e_162 c_163 ⟨v_164, h, r_165⟩ => by subst h; exact (x_k (k := ((0 : Nat) : Int)) (o_pj pj0) (x_op o_ix (x_v (x_var (i := 2) rfl (Rp.mono _ (e_7.trans (e_147.trans e_162)) exz r_bounds))) (x_var (i := 4) rfl (Rp.mono _ (Ex.refl _) exz r_165))))) (fun _ _ _ _ _ e ⟨v_164, h, r_165⟩ => ⟨v_164, h, Rp.mono _ e exz r_165⟩))))) (x_var (i := 3) rfl (Rp.mono _ (e_7.trans e_147) exz r_many))) s_148 (fun _ _ h => PX.mono (e_7.trans e_147) fr_158 h) hm fun a_166 v_167 I_168 H_169 e_170 s_171 r_172 hm => ?_
      exact hm v_167 I_168 H_169 (e_7.trans (e_147.trans e_170)) (St.less s_171 fr_158) (Im.im r_172)
def m__law_are_marks (ar_parents : (List Int)) (ar_marks : (List (Int × Str))) : Res Bool :=
  (ifR (un notR (un (fun _ => Res.ok true) (pair (Res.ok ar_marks) (Res.ok ())))) ((Res.ok false).bind fun a_9 => Res.ok a_9) ((un rNeg (Res.ok (1 : Int))).bind fun (last_16 : Int) => (((Res.ok ar_marks).bind fun xs => loopR (fun (x_31 : (Int × Str)) (z_23 : Int) => (ifR (orR (un notR (un (fun _ => Res.ok true) (pair (Res.ok x_31) (Res.ok ())))) (orR (bin neR (un (fun _ => Res.ok (2 : Int)) (Res.ok x_31)) (Res.ok (2 : Int))) (un notR (un (fun _ => Res.ok true) (pair (un (fun p => Res.ok p.1) (Res.ok x_31)) (Res.ok ())))))) ((Res.ok false).bind fun a_51 => Res.ok (Out.rt a_51)) (ifR (orR (bin rLe (un (fun p => Res.ok p.1) (Res.ok x_31)) (Res.ok z_23)) (orR (bin rGe (un (fun p => Res.ok p.1) (Res.ok x_31)) (un rLen (Res.ok ar_parents))) (bin ninR (un (fun p => Res.ok p.2) (Res.ok x_31)) (consR (Res.ok ("with" : Str)) (consR (Res.ok ("without" : Str)) (Res.ok [])))))) ((Res.ok false).bind fun a_66 => Res.ok (Out.rt a_66)) ((un (fun p => Res.ok p.1) (Res.ok x_31)).bind fun (last_73 : Int) => (Res.ok (Out.nx last_73)))))) xs last_16).bind fun (o : Out Int Bool) => match o with | .nx z_85 => ((Res.ok true).bind fun a_93 => Res.ok a_93) | .br _ => Res.bad | .rt r => Res.ok r)))
abbrev N__law_are_marks : List Str := ["parents", "marks", "last", "mark"]
theorem sc__law_are_marks : FnScope N__law_are_marks ["parents", "marks"] (defScope s__law_are_marks) := ⟨rfl, rfl, rfl, by decide +kernel, rfl, by decide +kernel, by decide +kernel⟩
theorem bind__law_are_marks {K : PySem.W.Frag} {mg : Str → Option Value} {T : Tx K mg} : Binds K T.d__law_are_marks ["parents", "marks"] [] := FunD.bindsN T.F__law_are_marks fun _ _ _ _ _ _ us hl => match us, hl with | [_, _], _ => rfl
abbrev sp__law_are_marks (K : PySem.W.Frag) : Sp := spP K (tc (pL pI) (t1 (pL (pT (tc pI (t1 pS)))))) (fun (p : ((List Int) × (List (Int × Str)))) => m__law_are_marks p.1 p.2) pB
theorem ok__law_are_marks (T : Tx K mg) : FnOk P w K mg base (L2.CX P w) 1 T.f__law_are_marks T.d__law_are_marks ["parents", "marks"] (sp__law_are_marks K) := by
  refine T.F__law_are_marks.ok sc__law_are_marks (fun vs H Q E h => ?_) (fun cdv A outer s H vs Q E hr h => ?_)
  · obtain ⟨I, C, a, _, hr, _⟩ := h
    exact Rt.len _ hr
  · obtain ⟨I0, C0, ⟨ar_parents, ar_marks⟩, hs, ⟨v_parents, us0, rfl, r_parents, v_marks, rfl, r_marks⟩, hm⟩ := h
    have hm : Post (m__law_are_marks ar_parents ar_marks) (PQ pB I0 C0 Q) (PX E K I0 C0) := hm
    replace r_parents : Rp.r (pL pI) ar_parents v_parents I0 Z := Im.im r_parents
    replace r_marks : Rp.r (pL (pT (tc pI (t1 pS)))) ar_marks v_marks I0 Z := Im.im r_marks
    unfold m__law_are_marks at hm
    refine ⟨_, (pss_cons (ps_if (pt_not (pt_val (pe_callB (r := rIsi K) call_isi (by rfl) T.gb_isinstance bt_isinstance (pa_cons (pv 1) (pa_cons (pe_bltn (v := .ty "list") rfl T.gb_list bt_list rfl) pa_nil))))) (pss_cons (ps_ret pe_bl) pss_nil) pss_nil) (pss_cons (ps_set (i := 2) sc__law_are_marks.nd rfl (Or.inl rfl) (pe_un un_neg pe_int)) (pss_cons (ps_for (passes_of rfl) rfl (show PI _ _ _ (iList K _) from pi_list (pv 1)) (pg_name (i := 3) sc__law_are_marks.nd rfl (Or.inl rfl)) (pss_cons (ps_if (PW.pt (pw_or (pt_not (pt_val (pe_callB (r := rIsi K) call_isi (by rfl) T.gb_isinstance bt_isinstance (pa_cons (pv 3) (pa_cons (pe_bltn (v := .ty "tuple") rfl T.gb_tuple bt_tuple rfl) pa_nil))))) (pw_or (pt_cmpR op_ne (pe_callB (r := rLen1 K) call_len_seq (by rfl) T.gb_len bt_len (pa_cons (pv 3) pa_nil)) pe_int (nomark _)) (pw_or1 (pt_not (pt_val (pe_callB (r := rIsi K) call_isi (by rfl) T.gb_isinstance bt_isinstance (pa_cons (pe_ix (r := rIxT K) ix_tup (pv 3) pe_int (fun _ _ => rfl)) (pa_cons (pe_bltn (v := .ty "int") rfl T.gb_int bt_int rfl) pa_nil))))))))) (pss_cons (ps_ret pe_bl) pss_nil) pss_nil) (pss_cons (ps_if (PW.pt (pw_or (pt_cmpR op_le (pe_ix (r := rIxT K) ix_tup (pv 3) pe_int (fun _ _ => rfl)) (pv 2) (nomark _)) (pw_or (pt_cmpR op_ge (pe_ix (r := rIxT K) ix_tup (pv 3) pe_int (fun _ _ => rfl)) (pe_callB (r := rLen1 K) call_len_seq (by rfl) T.gb_len bt_len (pa_cons (pv 0) pa_nil)) (nomark _)) (pw_or1 (pt_cmpR (r := rIn K true) op_notIn_seq (pe_ix (r := rIxT K) ix_tup (pv 3) pe_int (fun _ _ => rfl)) (pe_lst (pa_cons pe_str (pa_cons pe_str pa_nil))) rfl))))) (pss_cons (ps_ret pe_bl) pss_nil) pss_nil) (pss_cons (ps_set (i := 2) sc__law_are_marks.nd rfl (Or.inl rfl) (pe_ix (r := rIxT K) ix_tup (pv 3) pe_int (fun _ _ => rfl))) pss_nil)))) (pss_cons (ps_ret pe_bl) pss_nil)))), ?_⟩
    refine s_if (E := E) (K := K) (σ := [some v_parents, some v_marks, none, none]) (t_not (t_B (x_cb (o_isi (n := "list") (by decide +kernel)) (a_cons (x_var (i := 1) rfl (Rp.mono _ (Ex.refl _) exz r_marks)) (a_one (x_c (R := pY "list") (a := ()) fun _ _ => rfl)))))) hs (fun _ _ h => PX.mono (Ex.refl _) (Ex.refl _) h) hm (fun I_1 H_2 e_3 s_4 hm => ?_) (fun I_5 H_6 e_7 s_8 hm => ?_)
    · refine q_ret (tz := tNext) (E := E) (K := K) (σ := [some v_parents, some v_marks, none, none]) x_bl s_4 (fun _ _ h => PX.mono e_3 (Ex.refl _) h) hm fun a_9 v_10 I_11 H_12 e_13 s_14 r_15 hm => ?_
      exact hm v_10 I_11 H_12 (e_3.trans e_13) (St.less s_14 (Ex.refl _)) (Im.im r_15)
    · refine q_asg (E := E) (K := K) (σ := [some v_parents, some v_marks, none, none]) (i := 2) (x_un o_neg (x_int (i := 1))) s_8 (fun _ _ h => PX.mono e_7 (Ex.refl _) h) hm fun last_16 v_17 I_18 H_19 e_20 s_21 r_22 hm => ?_
      refine s_forR (E := E) (K := K) (σ := [some v_parents, some v_marks, some v_17, none]) (fun (z_23 : Int) σ2 I_26 C_27 => ∃ w_25 : Option V, ∃ v_28 : V, σ2 = [some v_parents, some v_marks, some v_28, w_25] ∧ Rp.r pI z_23 v_28 I_26 Z ∧ Ex C0 C_27) (i_list (x_var (i := 1) rfl (Rp.mono _ (e_7.trans e_20) exz r_marks))) s_21 (fun _ _ h => PX.mono (e_7.trans e_20) (Ex.refl _) h) hm (fun _ e_39 => ⟨none, v_17, rfl, Rp.mono _ (Ex.trans (Ex.refl _) e_39) exz r_22, (Ex.refl _)⟩) (fun _ _ _ _ _ => trivial) (fun _ _ _ _ _ e ⟨w_25, v_28, hs_24, r_29, fr_30⟩ => ⟨w_25, v_28, hs_24, Rp.mono _ e exz r_29, fr_30⟩) (fun N x_31 v_32 z_23 σ2 I_33 C_34 H_35 e_36 s_37 ⟨w_25, v_28, hs_24, r_29, fr_30⟩ r_38 hm => ?_) (fun z_85 σ2 I_80 C_81 H_82 e_83 s_84 ⟨w_87, v_90, hs_86, r_91, fr_92⟩ hm => ?_)
      · subst hs_24
        refine g1 (K := K) x_31 v_32 I_33 C_34 H_35 _ s_37 r_38 fun σ2 ⟨v_40, hs_42, r_41⟩ => ?_
        subst hs_42
        refine s_if (E := E) (K := K) (σ := [some v_parents, some v_marks, some v_28, some v_40]) (t_or (t_not (t_B (x_cb (o_isi (n := "tuple") (by decide +kernel)) (a_cons (x_var (i := 3) rfl (Rp.mono _ (Ex.refl _) exz r_41)) (a_one (x_c (R := pY "tuple") (a := ()) fun _ _ => rfl)))))) (t_or (t_test (x_op o_neI (x_cb o_lenT (a_one (x_var (i := 3) rfl (Rp.mono _ (Ex.refl _) exz r_41)))) (x_int (i := 2)))) (t_not (t_B (x_cb (o_isi (n := "int") (by decide +kernel)) (a_cons (x_k (k := ((0 : Nat) : Int)) (o_pj pj0) (x_var (i := 3) rfl (Rp.mono _ (Ex.refl _) exz r_41))) (a_one (x_c (R := pY "int") (a := ()) fun _ _ => rfl)))))))) s_37 (fun _ _ h => PX.mono (e_7.trans (e_20.trans e_36)) fr_30 h) hm (fun I_43 H_44 e_45 s_46 hm => ?_) (fun I_47 H_48 e_49 s_50 hm => ?_)
        · refine q_ret (tz := tNext) (E := E) (K := K) (σ := [some v_parents, some v_marks, some v_28, some v_40]) x_bl s_46 (fun _ _ h => PX.mono (e_7.trans (e_20.trans (e_36.trans e_45))) fr_30 h) hm fun a_51 v_52 I_53 H_54 e_55 s_56 r_57 hm => ?_
          exact hm v_52 I_53 H_54 (e_7.trans (e_20.trans (e_36.trans (e_45.trans e_55)))) (St.less s_56 fr_30) (Im.im r_57)
        · refine s_if (E := E) (K := K) (σ := [some v_parents, some v_marks, some v_28, some v_40]) (t_or (t_test (x_op o_le (x_k (k := ((0 : Nat) : Int)) (o_pj pj0) (x_var (i := 3) rfl (Rp.mono _ e_49 exz r_41))) (x_var (i := 2) rfl (Rp.mono _ e_49 exz r_29)))) (t_or (t_test (x_op o_ge (x_k (k := ((0 : Nat) : Int)) (o_pj pj0) (x_var (i := 3) rfl (Rp.mono _ e_49 exz r_41))) (x_cb o_len (a_one (x_v (x_var (i := 0) rfl (Rp.mono _ (e_7.trans (e_20.trans (e_36.trans e_49))) exz r_parents))))))) (t_test (x_op (o_nin fl_str) (x_k (k := ((1 : Nat) : Int)) (o_pj (pjs pj1)) (x_var (i := 3) rfl (Rp.mono _ e_49 exz r_41))) (x_v (x_lst (al_cons (x_str (by decide +kernel)) (al_cons (x_str (by decide +kernel)) al_nil)) (Nat.le_of_ble_eq_true rfl))))))) s_50 (fun _ _ h => PX.mono (e_7.trans (e_20.trans (e_36.trans e_49))) fr_30 h) hm (fun I_58 H_59 e_60 s_61 hm => ?_) (fun I_62 H_63 e_64 s_65 hm => ?_)
          · refine q_ret (tz := tNext) (E := E) (K := K) (σ := [some v_parents, some v_marks, some v_28, some v_40]) x_bl s_61 (fun _ _ h => PX.mono (e_7.trans (e_20.trans (e_36.trans (e_49.trans e_60)))) fr_30 h) hm fun a_66 v_67 I_68 H_69 e_70 s_71 r_72 hm => ?_
            exact hm v_67 I_68 H_69 (e_7.trans (e_20.trans (e_36.trans (e_49.trans (e_60.trans e_70))))) (St.less s_71 fr_30) (Im.im r_72)
          · refine q_asg (E := E) (K := K) (σ := [some v_parents, some v_marks, some v_28, some v_40]) (i := 2) (x_k (k := ((0 : Nat) : Int)) (o_pj pj0) (x_var (i := 3) rfl (Rp.mono _ (e_49.trans e_64) exz r_41))) s_65 (fun _ _ h => PX.mono (e_7.trans (e_20.trans (e_36.trans (e_49.trans e_64)))) fr_30 h) hm fun last_73 v_74 I_75 H_76 e_77 s_78 r_79 hm => ?_
            exact hm _ _ _ _ (e_49.trans (e_64.trans e_77)) s_78 ⟨some v_40, v_74, rfl, Rp.mono _ (Ex.refl _) exz r_79, fr_30⟩
      subst hs_86
      refine q_ret (tz := tNext) (E := E) (K := K) (σ := [some v_parents, some v_marks, some v_90, w_87]) x_bl s_84 (fun _ _ h => PX.mono (e_7.trans (e_20.trans e_83)) fr_92 h) hm fun a_93 v_94 I_95 H_96 e_97 s_98 r_99 hm => ?_
      exact hm v_94 I_95 H_96 (e_7.trans (e_20.trans (e_83.trans e_97))) (St.less s_98 fr_92) (Im.im r_99)
def m__law_fault (ar_parents : (List Int)) (ar_marks : (List (Int × Str))) : Res (Int × (List Int)) :=
  ((tryR knE (fun c => isaE c .BadArea) ((un (fun (p : ((List Int) × (List (Int × Str)))) => m_named p.1 p.2) (pair (Res.ok ar_parents) (Res.ok ar_marks))).bind fun (told_16 : (List Int)) => (Res.ok (Out.nx told_16))) (fun c_30 j_31 => ((pair (Res.ok j_31) (Res.ok ([] : List Int))).bind fun a_35 => Res.ok (Out.rt a_35)))).bind fun (o : Out (List Int) (Int × (List Int))) => match o with | .nx z_2 => ((pair (un rNeg (Res.ok (1 : Int))) (Res.ok z_2)).bind fun a_47 => Res.ok a_47) | .br _ => Res.bad | .rt r => Res.ok r)
abbrev N__law_fault : List Str := ["parents", "marks", "told", "e"]
theorem sc__law_fault : FnScope N__law_fault ["parents", "marks"] (defScope s__law_fault) := ⟨rfl, rfl, rfl, by decide +kernel, rfl, by decide +kernel, by decide +kernel⟩
theorem bind__law_fault {K : PySem.W.Frag} {mg : Str → Option Value} {T : Tx K mg} : Binds K T.d__law_fault ["parents", "marks"] [] := FunD.bindsN T.F__law_fault fun _ _ _ _ _ _ us hl => match us, hl with | [_, _], _ => rfl
abbrev sp__law_fault (K : PySem.W.Frag) : Sp := spP K (tc (pL pI) (t1 (pL (pT (tc pI (t1 pS)))))) (fun (p : ((List Int) × (List (Int × Str)))) => m__law_fault p.1 p.2) (pT (tc pI (t1 (pL pI))))
theorem ok__law_fault (T : Tx K mg) : FnOk P w K mg base (L2.CX P w) 5 T.f__law_fault T.d__law_fault ["parents", "marks"] (sp__law_fault K) := by
  refine T.F__law_fault.ok sc__law_fault (fun vs H Q E h => ?_) (fun cdv A outer s H vs Q E hr h => ?_)
  · obtain ⟨I, C, a, _, hr, _⟩ := h
    exact Rt.len _ hr
  · obtain ⟨I0, C0, ⟨ar_parents, ar_marks⟩, hs, ⟨v_parents, us0, rfl, r_parents, v_marks, rfl, r_marks⟩, hm⟩ := h
    have hm : Post (m__law_fault ar_parents ar_marks) (PQ (pT (tc pI (t1 (pL pI)))) I0 C0 Q) (PX E K I0 C0) := hm
    replace r_parents : Rp.r (pL pI) ar_parents v_parents I0 Z := Im.im r_parents
    replace r_marks : Rp.r (pL (pT (tc pI (t1 pS)))) ar_marks v_marks I0 Z := Im.im r_marks
    unfold m__law_fault at hm
    refine ⟨_, (Evl.pss_cut (ps_tryS (c := .ref (He.ga K "BadArea")) (i := 3) rfl rfl sc__law_fault.nd rfl rfl ⟨rfl, by decide, Or.inl (T.xs .BadArea (by decide)).g⟩ (takes_of rfl rfl rfl rfl) (fun W pn xe tk hp => (pss_cons (ps_set (i := 2) sc__law_fault.nd rfl (Or.inl rfl) (by exact (pe_callS (ok_named T) (hr.mono (by decide)) rfl T.g_named T.F_named.kp bind_named (fun σ => passAt tk σ) (by exact (pa_cons (pv 0) (pa_cons (pv 1) pa_nil)))))) pss_nil)) (fun a oe cls d pn hz hf => (pss_cons (ps_ret (pe_tup (pa_cons (pe_xfX hz hf (pv 3)) (pa_cons (pe_lst pa_nil) pa_nil)))) pss_nil))) (pss_cons (ps_ret (pe_tup (pa_cons (pe_un un_neg pe_int) (pa_cons (pv 2) pa_nil)))) pss_nil)), ?_⟩
    refine s_try (E := E) (K := K) (σ := [some v_parents, some v_marks, none, none]) (mg := mg) (fun (z_2 : (List Int)) σ2 I_10 C_11 => ∃ w_9 : Option V, ∃ v_12 : V, σ2 = [some v_parents, some v_marks, some v_12, w_9] ∧ Rp.r (pL pI) z_2 v_12 I_10 Z ∧ Ex C0 C_11) ((fun (z_1 : Unit) σ2 I_5 C_6 => ∃ w_4 : Option V, σ2 = [some v_parents, some v_marks, w_4, none] ∧ Ex C0 C_6) ()) (fun c h => ⟨T.ex c .BadArea h (by decide), T.xs c h⟩) (fun _ _ _ e ⟨w_4, hs_3, fr_7⟩ => fun _ _ h => PX.mono (Ex.trans (Ex.refl _) e) fr_7 h) (fun _ _ _ _ e ⟨w_4, hs_3, fr_7⟩ => ⟨w_4, hs_3, fr_7⟩) hm (fun N W hW_15 hm => ?_) (fun N c_30 j_31 a_32 cls_34 d_33 σ2 I_23 C_24 H_25 kn_29 cg_28 e_26 s_27 ⟨w_4, hs_3, fr_7⟩ hm => ?_) (fun z_2 σ2 I_42 C_43 H_44 e_45 s_46 ⟨w_9, v_12, hs_8, r_13, fr_14⟩ hm => ?_)
    · refine q_asg (E := WE W _) (K := K) (σ := [some v_parents, some v_marks, none, none]) (i := 2) (x_callS (a_cons (x_var (i := 0) rfl (Rp.mono _ (Ex.refl _) exz r_parents)) (a_one (x_var (i := 1) rfl (Rp.mono _ (Ex.refl _) exz r_marks))))) hs (hW_15 _ _ _ (Ex.refl _) ⟨none, rfl, (Ex.refl _)⟩) hm fun told_16 v_17 I_18 H_19 e_20 s_21 r_22 hm => ?_
      exact hm _ _ _ _ e_20 s_21 ⟨none, v_17, rfl, Rp.mono _ (Ex.refl _) exz r_22, (Ex.refl _)⟩
    · subst hs_3
      refine q_ret (tz := tNext) (E := E) (K := K) (σ := [some v_parents, some v_marks, w_4, some (.ref a_32)]) (x_tup (a_cons (x_at (Cg.up (Ex.refl _) cg_28) (by rfl)) (a_one (x_lst (R := pI) al_nil (by decide)))) (Nat.le_of_ble_eq_true rfl)) s_27 (fun _ _ h => PX.mono e_26 fr_7 h) hm fun a_35 v_36 I_37 H_38 e_39 s_40 r_41 hm => ?_
      exact hm v_36 I_37 H_38 (e_26.trans e_39) (St.less s_40 fr_7) (Im.im r_41)
    subst hs_8
    refine q_ret (tz := tNext) (E := E) (K := K) (σ := [some v_parents, some v_marks, some v_12, w_9]) (x_tup (a_cons (x_un o_neg (x_int (i := 1))) (a_one (x_var (i := 2) rfl (Rp.mono _ (Ex.refl _) exz r_13)))) (Nat.le_of_ble_eq_true rfl)) s_46 (fun _ _ h => PX.mono e_45 fr_14 h) hm fun a_47 v_48 I_49 H_50 e_51 s_52 r_53 hm => ?_
    exact hm v_48 I_49 H_50 (e_45.trans e_51) (St.less s_52 fr_14) (Im.im r_53)
def m__law_wanted_fault (ar_parents : (List Int)) (ar_wanted : (List Int)) (ar_which : Int) : Res Int :=
  ((tryR knE (fun c => isaE c .BadArea) ((ifR (bin eqR (Res.ok ar_which) (Res.ok (0 : Int))) ((un (fun (p : ((List Int) × (List Int))) => m_least_marks p.1 p.2) (pair (Res.ok ar_parents) (Res.ok ar_wanted))).bind fun (b_26 : Int) => (Res.ok ())) (Res.ok ())).bind fun (z_21 : Unit) => ((ifR (bin eqR (Res.ok ar_which) (Res.ok (1 : Int))) ((un (fun (p : ((List Int) × (List Int) × Int)) => m_naming_paper p.1 p.2.1 p.2.2) (pair (Res.ok ar_parents) (pair (Res.ok ar_wanted) (Res.ok (3 : Int))))).bind fun (b_49 : ((Str × (List (Int × Str))) ⊕ (Str × (List (Int × Int))))) => (Res.ok ())) (Res.ok ())).bind fun (z_44 : Unit) => ((ifR (bin eqR (Res.ok ar_which) (Res.ok (2 : Int))) ((un (fun (p : ((List Int) × (List Int) × (List (Int × Str)))) => m_is_naming p.1 p.2.1 p.2.2) (pair (Res.ok ar_parents) (pair (Res.ok ar_wanted) (Res.ok ([] : List (Int × Str)))))).bind fun (b_72 : Bool) => (Res.ok ())) (Res.ok ())).bind fun (z_67 : Unit) => (ifR (bin eqR (Res.ok ar_which) (Res.ok (3 : Int))) ((un (fun (p : ((List Int) × (List Int) × (List (Int × Int)) × Int)) => m_is_marks_bound p.1 p.2.1 p.2.2.1 p.2.2.2) (pair (Res.ok ar_parents) (pair (Res.ok ar_wanted) (pair (Res.ok ([] : List (Int × Int))) (Res.ok (0 : Int)))))).bind fun (b_90 : Bool) => (Res.ok (Out.nx ()))) (Res.ok (Out.nx ())))))) (fun c_102 j_103 => ((Res.ok j_103).bind fun a_107 => Res.ok (Out.rt a_107)))).bind fun (o : Out Unit Int) => match o with | .nx z_2 => ((un rNeg (Res.ok (1 : Int))).bind fun a_119 => Res.ok a_119) | .br _ => Res.bad | .rt r => Res.ok r)
abbrev N__law_wanted_fault : List Str := ["parents", "wanted", "which", "e"]
theorem sc__law_wanted_fault : FnScope N__law_wanted_fault ["parents", "wanted", "which"] (defScope s__law_wanted_fault) := ⟨rfl, rfl, rfl, by decide +kernel, rfl, by decide +kernel, by decide +kernel⟩
theorem bind__law_wanted_fault {K : PySem.W.Frag} {mg : Str → Option Value} {T : Tx K mg} : Binds K T.d__law_wanted_fault ["parents", "wanted", "which"] [] := FunD.bindsN T.F__law_wanted_fault fun _ _ _ _ _ _ us hl => match us, hl with | [_, _, _], _ => rfl
abbrev sp__law_wanted_fault (K : PySem.W.Frag) : Sp := spP K (tc (pL pI) (tc (pL pI) (t1 pI))) (fun (p : ((List Int) × (List Int) × Int)) => m__law_wanted_fault p.1 p.2.1 p.2.2) pI
theorem ok__law_wanted_fault (T : Tx K mg) : FnOk P w K mg base (L2.CX P w) 5 T.f__law_wanted_fault T.d__law_wanted_fault ["parents", "wanted", "which"] (sp__law_wanted_fault K) := by
  refine T.F__law_wanted_fault.ok sc__law_wanted_fault (fun vs H Q E h => ?_) (fun cdv A outer s H vs Q E hr h => ?_)
  · obtain ⟨I, C, a, _, hr, _⟩ := h
    exact Rt.len _ hr
  · obtain ⟨I0, C0, ⟨ar_parents, ar_wanted, ar_which⟩, hs, ⟨v_parents, us0, rfl, r_parents, v_wanted, us1, rfl, r_wanted, v_which, rfl, r_which⟩, hm⟩ := h
    have hm : Post (m__law_wanted_fault ar_parents ar_wanted ar_which) (PQ pI I0 C0 Q) (PX E K I0 C0) := hm
    replace r_parents : Rp.r (pL pI) ar_parents v_parents I0 Z := Im.im r_parents
    replace r_wanted : Rp.r (pL pI) ar_wanted v_wanted I0 Z := Im.im r_wanted
    replace r_which : Rp.r pI ar_which v_which I0 Z := Im.im r_which
    unfold m__law_wanted_fault at hm
    refine ⟨_, (Evl.pss_cut (ps_tryS (c := .ref (He.ga K "BadArea")) (i := 3) rfl rfl sc__law_wanted_fault.nd rfl rfl ⟨rfl, by decide, Or.inl (T.xs .BadArea (by decide)).g⟩ (takes_of rfl rfl rfl rfl) (fun W pn xe tk hp => (Evl.pss_cut (ps_if (pt_cmpR op_eq (pv 2) pe_int (nomark _)) (pss_cons (ps_expr (by exact (pe_callS (ok_least_marks T) (hr.mono (by decide)) rfl T.g_least_marks T.F_least_marks.kp bind_least_marks (fun σ => passAt tk σ) (by exact (pa_cons (pv 0) (pa_cons (pv 1) pa_nil)))))) pss_nil) pss_nil) (Evl.pss_cut (ps_if (pt_cmpR op_eq (pv 2) pe_int (nomark _)) (pss_cons (ps_expr (by exact (pe_callS (ok_naming_paper T) (hr.mono (by decide)) rfl T.g_naming_paper T.F_naming_paper.kp bind_naming_paper (fun σ => passAt tk σ) (by exact (pa_cons (pv 0) (pa_cons (pv 1) (pa_cons pe_int pa_nil))))))) pss_nil) pss_nil) (Evl.pss_cut (ps_if (pt_cmpR op_eq (pv 2) pe_int (nomark _)) (pss_cons (ps_expr (by exact (pe_callS (ok_is_naming T) (hr.mono (by decide)) rfl T.g_is_naming T.F_is_naming.kp bind_is_naming (fun σ => passAt tk σ) (by exact (pa_cons (pv 0) (pa_cons (pv 1) (pa_cons (pe_lst pa_nil) pa_nil))))))) pss_nil) pss_nil) (pss_cons (ps_if (pt_cmpR op_eq (pv 2) pe_int (nomark _)) (pss_cons (ps_expr (by exact (pe_callS (ok_is_marks_bound T) (hr.mono (by decide)) rfl T.g_is_marks_bound T.F_is_marks_bound.kp bind_is_marks_bound (fun σ => passAt tk σ) (by exact (pa_cons (pv 0) (pa_cons (pv 1) (pa_cons (pe_lst pa_nil) (pa_cons pe_int pa_nil)))))))) pss_nil) pss_nil) pss_nil))))) (fun a oe cls d pn hz hf => (pss_cons (ps_ret (pe_xfX hz hf (pv 3))) pss_nil))) (pss_cons (ps_ret (pe_un un_neg pe_int)) pss_nil)), ?_⟩
    refine s_try (E := E) (K := K) (σ := [some v_parents, some v_wanted, some v_which, none]) (mg := mg) (fun (z_2 : Unit) σ2 I_9 C_10 => ∃ w_8 : Option V, σ2 = [some v_parents, some v_wanted, some v_which, w_8] ∧ Ex C0 C_10) ((fun (z_1 : Unit) σ2 I_4 C_5 => σ2 = [some v_parents, some v_wanted, some v_which, none] ∧ Ex C0 C_5) ()) (fun c h => ⟨T.ex c .BadArea h (by decide), T.xs c h⟩) (fun _ _ _ e ⟨hs_3, fr_6⟩ => fun _ _ h => PX.mono (Ex.trans (Ex.refl _) e) fr_6 h) (fun _ _ _ _ e ⟨hs_3, fr_6⟩ => ⟨hs_3, fr_6⟩) hm (fun N W hW_12 hm => ?_) (fun N c_102 j_103 a_104 cls_106 d_105 σ2 I_95 C_96 H_97 kn_101 cg_100 e_98 s_99 ⟨hs_3, fr_6⟩ hm => ?_) (fun z_2 σ2 I_114 C_115 H_116 e_117 s_118 ⟨w_8, hs_7, fr_11⟩ hm => ?_)
    · refine s_ifj (E := WE W _) (K := K) (σ := [some v_parents, some v_wanted, some v_which, none]) (fun (z_21 : Unit) σ2 I_23 C_24 => σ2 = [some v_parents, some v_wanted, some v_which, none] ∧ Ex C0 C_24) (t_test (x_op o_eqI (x_var (i := 2) rfl (Rp.mono _ (Ex.refl _) exz r_which)) (x_int (i := 0)))) hs (hW_12 _ _ _ (Ex.refl _) ⟨rfl, (Ex.refl _)⟩) hm (fun N I_13 H_14 e_15 s_16 hm => ?_) (fun N I_17 H_18 e_19 s_20 hm => ?_) (fun z_21 σ2 I_31 C_32 H_33 e_34 s_35 ⟨hs_22, fr_25⟩ hm => ?_)
      · refine s_expr (E := WE W _) (K := K) (σ := [some v_parents, some v_wanted, some v_which, none]) (x_callS (a_cons (x_var (i := 0) rfl (Rp.mono _ e_15 exz r_parents)) (a_one (x_var (i := 1) rfl (Rp.mono _ e_15 exz r_wanted))))) s_16 (hW_12 _ _ _ e_15 ⟨rfl, (Ex.refl _)⟩) hm fun b_26 I_27 H_28 e_29 s_30 hm => ?_
        exact hm _ _ _ _ (e_15.trans e_29) s_30 ⟨rfl, (Ex.refl _)⟩
      · exact hm _ _ _ _ e_19 s_20 ⟨rfl, (Ex.refl _)⟩
      subst hs_22
      refine s_ifj (E := WE W _) (K := K) (σ := [some v_parents, some v_wanted, some v_which, none]) (fun (z_44 : Unit) σ2 I_46 C_47 => σ2 = [some v_parents, some v_wanted, some v_which, none] ∧ Ex C0 C_47) (t_test (x_op o_eqI (x_var (i := 2) rfl (Rp.mono _ e_34 exz r_which)) (x_int (i := 1)))) s_35 (hW_12 _ _ _ e_34 ⟨rfl, fr_25⟩) hm (fun N I_36 H_37 e_38 s_39 hm => ?_) (fun N I_40 H_41 e_42 s_43 hm => ?_) (fun z_44 σ2 I_54 C_55 H_56 e_57 s_58 ⟨hs_45, fr_48⟩ hm => ?_)
      · refine s_expr (E := WE W _) (K := K) (σ := [some v_parents, some v_wanted, some v_which, none]) (x_callS (a_cons (x_var (i := 0) rfl (Rp.mono _ (e_34.trans e_38) exz r_parents)) (a_cons (x_var (i := 1) rfl (Rp.mono _ (e_34.trans e_38) exz r_wanted)) (a_one (x_int (i := 3)))))) s_39 (hW_12 _ _ _ (e_34.trans e_38) ⟨rfl, fr_25⟩) hm fun b_49 I_50 H_51 e_52 s_53 hm => ?_
        exact hm _ _ _ _ (e_38.trans e_52) s_53 ⟨rfl, fr_25⟩
      · exact hm _ _ _ _ e_42 s_43 ⟨rfl, fr_25⟩
      subst hs_45
      refine s_ifj (E := WE W _) (K := K) (σ := [some v_parents, some v_wanted, some v_which, none]) (fun (z_67 : Unit) σ2 I_69 C_70 => σ2 = [some v_parents, some v_wanted, some v_which, none] ∧ Ex C0 C_70) (t_test (x_op o_eqI (x_var (i := 2) rfl (Rp.mono _ (e_34.trans e_57) exz r_which)) (x_int (i := 2)))) s_58 (hW_12 _ _ _ (e_34.trans e_57) ⟨rfl, fr_48⟩) hm (fun N I_59 H_60 e_61 s_62 hm => ?_) (fun N I_63 H_64 e_65 s_66 hm => ?_) (fun z_67 σ2 I_77 C_78 H_79 e_80 s_81 ⟨hs_68, fr_71⟩ hm => ?_)
      · refine s_expr (E := WE W _) (K := K) (σ := [some v_parents, some v_wanted, some v_which, none]) (x_callS (a_cons (x_var (i := 0) rfl (Rp.mono _ (e_34.trans (e_57.trans e_61)) exz r_parents)) (a_cons (x_var (i := 1) rfl (Rp.mono _ (e_34.trans (e_57.trans e_61)) exz r_wanted)) (a_one (x_lst (R := (pT (tc pI (t1 pS)))) al_nil (by decide)))))) s_62 (hW_12 _ _ _ (e_34.trans (e_57.trans e_61)) ⟨rfl, fr_48⟩) hm fun b_72 I_73 H_74 e_75 s_76 hm => ?_
        exact hm _ _ _ _ (e_61.trans e_75) s_76 ⟨rfl, fr_48⟩
      · exact hm _ _ _ _ e_65 s_66 ⟨rfl, fr_48⟩
      subst hs_68
      refine s_if (E := WE W _) (K := K) (σ := [some v_parents, some v_wanted, some v_which, none]) (t_test (x_op o_eqI (x_var (i := 2) rfl (Rp.mono _ (e_34.trans (e_57.trans e_80)) exz r_which)) (x_int (i := 3)))) s_81 (hW_12 _ _ _ (e_34.trans (e_57.trans e_80)) ⟨rfl, fr_71⟩) hm (fun I_82 H_83 e_84 s_85 hm => ?_) (fun I_86 H_87 e_88 s_89 hm => ?_)
      · refine s_expr (E := WE W _) (K := K) (σ := [some v_parents, some v_wanted, some v_which, none]) (x_callS (a_cons (x_var (i := 0) rfl (Rp.mono _ (e_34.trans (e_57.trans (e_80.trans e_84))) exz r_parents)) (a_cons (x_var (i := 1) rfl (Rp.mono _ (e_34.trans (e_57.trans (e_80.trans e_84))) exz r_wanted)) (a_cons (x_lst (R := (pT (tc pI (t1 pI)))) al_nil (by decide)) (a_one (x_int (i := 0))))))) s_85 (hW_12 _ _ _ (e_34.trans (e_57.trans (e_80.trans e_84))) ⟨rfl, fr_71⟩) hm fun b_90 I_91 H_92 e_93 s_94 hm => ?_
        exact hm _ _ _ _ (e_34.trans (e_57.trans (e_80.trans (e_84.trans e_93)))) s_94 ⟨none, rfl, fr_71⟩
      · exact hm _ _ _ _ (e_34.trans (e_57.trans (e_80.trans e_88))) s_89 ⟨none, rfl, fr_71⟩
    · subst hs_3
      refine q_ret (tz := tNext) (E := E) (K := K) (σ := [some v_parents, some v_wanted, some v_which, some (.ref a_104)]) (x_at (Cg.up (Ex.refl _) cg_100) (by rfl)) s_99 (fun _ _ h => PX.mono e_98 fr_6 h) hm fun a_107 v_108 I_109 H_110 e_111 s_112 r_113 hm => ?_
      exact hm v_108 I_109 H_110 (e_98.trans e_111) (St.less s_112 fr_6) (Im.im r_113)
    subst hs_7
    refine q_ret (tz := tNext) (E := E) (K := K) (σ := [some v_parents, some v_wanted, some v_which, w_8]) (x_un o_neg (x_int (i := 1))) s_118 (fun _ _ h => PX.mono e_117 fr_11 h) hm fun a_119 v_120 I_121 H_122 e_123 s_124 r_125 hm => ?_
    exact hm v_120 I_121 H_122 (e_117.trans e_123) (St.less s_124 fr_11) (Im.im r_125)
def m__law_drawn_marks_right (ar_parents : (List Int)) (a_pool : Pl) : Res (Bool × Pl) :=
  ((Res.ok ([] : List (Int × Str))).bind fun (marks_1 : (List (Int × Str))) => (((un rng1 (un rLen (Res.ok ar_parents))).bind fun xs => loopN (fun (x_31 : Int) (z_18 : ((List (Int × Str)) × Pl)) => (ifMR (binM eqR (callM m__law_take (liftM (Res.ok (3 : Int)))) (liftM (Res.ok (0 : Int)))) z_18.2 (fun (y_51 : Pl) => ((((pairM (liftM (Res.ok x_31)) (binM ix (liftM (consR (Res.ok ("with" : Str)) (consR (Res.ok ("without" : Str)) (Res.ok [])))) (callM m__law_take (liftM (Res.ok (2 : Int)))))) y_51).bind fun b => (push z_18.1 b.1).bind fun ys => Res.ok (ys, b.2)).bind fun (marks_65 : (List (Int × Str)) × Pl) => (Res.ok (marks_65.1, marks_65.2)))) (fun (y_57 : Pl) => (Res.ok (z_18.1, y_57))))) xs (marks_1, a_pool)).bind fun (z_87 : ((List (Int × Str)) × Pl)) => ((un (fun (p : ((List Int) × (List (Int × Str)))) => m__law_named p.1 p.2) (pair (Res.ok ar_parents) (Res.ok z_87.1))).bind fun (due_110 : (List Int)) => (ifR (orR (bin neR (un (fun (p : ((List Int) × (List (Int × Str)))) => m__law_fault p.1 p.2) (pair (Res.ok ar_parents) (Res.ok z_87.1))) (pair (un rNeg (Res.ok (1 : Int))) (Res.ok due_110))) (bin neR (un (fun (p : ((List Int) × (List Int) × (List (Int × Str)))) => m_is_naming p.1 p.2.1 p.2.2) (pair (Res.ok ar_parents) (pair (Res.ok due_110) (Res.ok z_87.1)))) (Res.ok true))) ((Res.ok false).bind fun a_125 => Res.ok (a_125, z_87.2)) (((binM ix (liftM (consR (pair (un rLen (Res.ok ar_parents)) (Res.ok ("with" : Str))) (consR (pair (un rNeg (Res.ok (1 : Int))) (Res.ok ("with" : Str))) (consR (pair (Res.ok (0 : Int)) (Res.ok ("wit" : Str))) (Res.ok []))))) (callM m__law_take (liftM (Res.ok (3 : Int))))) z_87.2).bind fun (wrong_132 : (Int × Str) × Pl) => (((callM m__law_take (liftM (bin rAdd (un rLen (Res.ok z_87.1)) (Res.ok (1 : Int))))) wrong_132.2).bind fun (place_145 : Int × Pl) => ((ifR (bin eqR (un (fun p => Res.ok p.1) (Res.ok wrong_132.1)) (Res.ok (0 : Int))) ((Res.ok (0 : Int)).bind fun (place_174 : Int) => (Res.ok place_174)) (Res.ok place_145.1)).bind fun (z_166 : Int) => ((bin rCatR (bin rCatR (slR (Res.ok z_87.1) (Res.ok none) (someR (Res.ok z_166))) (consR (Res.ok wrong_132.1) (Res.ok []))) (slR (Res.ok z_87.1) (someR (Res.ok z_166)) (Res.ok none))).bind fun (bad_186 : (List (Int × Str))) => (ifR (orR (bin neR (un (fun (p : ((List Int) × (List (Int × Str)))) => m__law_fault p.1 p.2) (pair (Res.ok ar_parents) (Res.ok bad_186))) (pair (Res.ok z_166) (Res.ok ([] : List Int)))) (bin neR (un (fun (p : ((List Int) × (List Int) × (List (Int × Str)))) => m_is_naming p.1 p.2.1 p.2.2) (pair (Res.ok ar_parents) (pair (Res.ok due_110) (Res.ok bad_186)))) (Res.ok false))) ((Res.ok false).bind fun a_201 => Res.ok (a_201, place_145.2)) (ifR (bin rGt (un rLen (Res.ok z_87.1)) (Res.ok (0 : Int))) (((callM m__law_take (liftM (un rLen (Res.ok z_87.1)))) place_145.2).bind fun (at_216 : Int × Pl) => ((bin rCatR (slR (Res.ok z_87.1) (Res.ok none) (someR (bin rAdd (Res.ok at_216.1) (Res.ok (1 : Int))))) (slR (Res.ok z_87.1) (someR (Res.ok at_216.1)) (Res.ok none))).bind fun (doubled_229 : (List (Int × Str))) => ((bin eqR (un (fun (p : ((List Int) × (List (Int × Str)))) => m__law_fault p.1 p.2) (pair (Res.ok ar_parents) (Res.ok doubled_229))) (pair (bin rAdd (Res.ok at_216.1) (Res.ok (1 : Int))) (Res.ok ([] : List Int)))).bind fun a_236 => Res.ok (a_236, at_216.2)))) ((Res.ok true).bind fun a_243 => Res.ok (a_243, place_145.2))))))))))))
abbrev N__law_drawn_marks_right : List Str := ["pool", "parents", "marks", "k", "due", "wrong", "place", "bad", "at", "doubled"]
theorem sc__law_drawn_marks_right : FnScope N__law_drawn_marks_right ["pool", "parents"] (defScope s__law_drawn_marks_right) := ⟨rfl, rfl, rfl, by decide +kernel, rfl, by decide +kernel, by decide +kernel⟩
theorem bind__law_drawn_marks_right {K : PySem.W.Frag} {mg : Str → Option Value} {T : Tx K mg} : Binds K T.d__law_drawn_marks_right ["pool", "parents"] [] := FunD.bindsN T.F__law_drawn_marks_right fun _ _ _ _ _ _ us hl => match us, hl with | [_, _], _ => rfl
abbrev sp__law_drawn_marks_right (K : PySem.W.Frag) : Sp := spM pM (t1 (pL pI)) m__law_drawn_marks_right pB
theorem ok__law_drawn_marks_right (T : Tx K mg) : FnOk P w K mg base (L2.CX P w) 6 T.f__law_drawn_marks_right T.d__law_drawn_marks_right ["pool", "parents"] (sp__law_drawn_marks_right K) := by
  refine T.F__law_drawn_marks_right.ok sc__law_drawn_marks_right (fun vs H Q E h => ?_) (fun cdv A outer s H vs Q E hr h => ?_)
  · obtain ⟨I, C, p, ws, us, x, a, rfl, _, _, _, hr, _⟩ := h
    exact congrArg (· + 1) (Rt.len _ hr)
  · obtain ⟨I0, C0, p0, ws0, us, a_pool, ar_parents, rfl, hs, hc0, hx1, ⟨v_parents, rfl, r_parents⟩, hm⟩ := h
    have hx0 := It.im (C' := Z) hx1
    have hm : Post (m__law_drawn_marks_right ar_parents a_pool) (PM p0 pM pB I0 C0 Q) XF := hm
    replace r_parents : Rp.r (pL pI) ar_parents v_parents I0 Z := Im.im r_parents
    unfold m__law_drawn_marks_right at hm
    refine ⟨_, (pss_cons (ps_set (i := 2) sc__law_drawn_marks_right.nd rfl (Or.inl rfl) (pe_lst pa_nil)) (pss_cons (ps_for (passes_of rfl) rfl (pi_range1 (by rfl) T.gb_range (pa_cons (pe_callB (r := rLen1 K) call_len_seq (by rfl) T.gb_len bt_len (pa_cons (pv 1) pa_nil)) pa_nil)) (pg_name (i := 3) sc__law_drawn_marks_right.nd rfl (Or.inl rfl)) (pss_cons (ps_if (pt_cmpR op_eq (pe_call (ok__law_take T) (hr.mono (by decide)) rfl T.g__law_take T.F__law_take.kp bind__law_take .nil passE (pa_cons (pv 0) (pa_cons pe_int pa_nil))) pe_int (nomark _)) (pss_cons (ps_expr (show PE _ _ (tBM K "list" rAppend _ _) from pe_bm PySem.F.plainAttrs_list PySem.F.slot_list_append PySem.F.type_list_append mt_append (pv 2) (pa_cons (pe_tup (pa_cons (pv 3) (pa_cons (pe_ix (r := rIxL K) ix_list (pe_lst (pa_cons pe_str (pa_cons pe_str pa_nil))) (pe_call (ok__law_take T) (hr.mono (by decide)) rfl T.g__law_take T.F__law_take.kp bind__law_take .nil passE (pa_cons (pv 0) (pa_cons pe_int pa_nil))) (fun _ _ => rfl)) pa_nil))) pa_nil))) pss_nil) pss_nil) pss_nil)) (pss_cons (ps_set (i := 4) sc__law_drawn_marks_right.nd rfl (Or.inl rfl) (pe_call (ok__law_named T) (hr.mono (by decide)) rfl T.g__law_named T.F__law_named.kp bind__law_named .nil passE (pa_cons (pv 1) (pa_cons (pv 2) pa_nil)))) (pss_cons (ps_if (PW.pt (pw_or (pt_cmpR (r := rNeD K) (op_neD hr.units) (pe_call (ok__law_fault T) (hr.mono (by decide)) rfl T.g__law_fault T.F__law_fault.kp bind__law_fault .nil passE (pa_cons (pv 1) (pa_cons (pv 2) pa_nil))) (pe_tup (pa_cons (pe_un un_neg pe_int) (pa_cons (pv 4) pa_nil))) (nomark _)) (pw_or1 (pt_cmpR op_notBl (pe_call (ok_is_naming T) (hr.mono (by decide)) rfl T.g_is_naming T.F_is_naming.kp bind_is_naming .nil passE (pa_cons (pv 1) (pa_cons (pv 4) (pa_cons (pv 2) pa_nil)))) pe_bl (nomark _))))) (pss_cons (ps_ret pe_bl) pss_nil) pss_nil) (pss_cons (ps_set (i := 5) sc__law_drawn_marks_right.nd rfl (Or.inl rfl) (pe_ix (r := rIxL K) ix_list (pe_lst (pa_cons (pe_tup (pa_cons (pe_callB (r := rLen1 K) call_len_seq (by rfl) T.gb_len bt_len (pa_cons (pv 1) pa_nil)) (pa_cons pe_str pa_nil))) (pa_cons (pe_tup (pa_cons (pe_un un_neg pe_int) (pa_cons pe_str pa_nil))) (pa_cons (pe_tup (pa_cons pe_int (pa_cons pe_str pa_nil))) pa_nil)))) (pe_call (ok__law_take T) (hr.mono (by decide)) rfl T.g__law_take T.F__law_take.kp bind__law_take .nil passE (pa_cons (pv 0) (pa_cons pe_int pa_nil))) (fun _ _ => rfl))) (pss_cons (ps_set (i := 6) sc__law_drawn_marks_right.nd rfl (Or.inl rfl) (pe_call (ok__law_take T) (hr.mono (by decide)) rfl T.g__law_take T.F__law_take.kp bind__law_take .nil passE (pa_cons (pv 0) (pa_cons (pe_op op_add (pe_callB (r := rLen1 K) call_len_seq (by rfl) T.gb_len bt_len (pa_cons (pv 2) pa_nil)) pe_int) pa_nil)))) (Evl.pss_cut (ps_if (pt_cmpR op_eq (pe_ix (r := rIxT K) ix_tup (pv 5) pe_int (fun _ _ => rfl)) pe_int (nomark _)) (pss_cons (ps_set (i := 6) sc__law_drawn_marks_right.nd rfl (Or.inl rfl) pe_int) pss_nil) pss_nil) (pss_cons (ps_set (i := 7) sc__law_drawn_marks_right.nd rfl (Or.inl rfl) (pe_op op_cat (pe_op op_cat (pe_slice (r := rSlL K) sl_list (pv 2) po_none (po_some (pv 6))) (pe_lst (pa_cons (pv 5) pa_nil))) (pe_slice (r := rSlL K) sl_list (pv 2) (po_some (pv 6)) po_none))) (pss_cons (ps_if (PW.pt (pw_or (pt_cmpR (r := rNeD K) (op_neD hr.units) (pe_call (ok__law_fault T) (hr.mono (by decide)) rfl T.g__law_fault T.F__law_fault.kp bind__law_fault .nil passE (pa_cons (pv 1) (pa_cons (pv 7) pa_nil))) (pe_tup (pa_cons (pv 6) (pa_cons (pe_lst pa_nil) pa_nil))) (nomark _)) (pw_or1 (pt_cmpR op_notBl (pe_call (ok_is_naming T) (hr.mono (by decide)) rfl T.g_is_naming T.F_is_naming.kp bind_is_naming .nil passE (pa_cons (pv 1) (pa_cons (pv 4) (pa_cons (pv 7) pa_nil)))) pe_bl (nomark _))))) (pss_cons (ps_ret pe_bl) pss_nil) pss_nil) (pss_cons (ps_if (pt_cmpR op_gt (pe_callB (r := rLen1 K) call_len_seq (by rfl) T.gb_len bt_len (pa_cons (pv 2) pa_nil)) pe_int (nomark _)) (pss_cons (ps_set (i := 8) sc__law_drawn_marks_right.nd rfl (Or.inl rfl) (pe_call (ok__law_take T) (hr.mono (by decide)) rfl T.g__law_take T.F__law_take.kp bind__law_take .nil passE (pa_cons (pv 0) (pa_cons (pe_callB (r := rLen1 K) call_len_seq (by rfl) T.gb_len bt_len (pa_cons (pv 2) pa_nil)) pa_nil)))) (pss_cons (ps_set (i := 9) sc__law_drawn_marks_right.nd rfl (Or.inl rfl) (pe_op op_cat (pe_slice (r := rSlL K) sl_list (pv 2) po_none (po_some (pe_op op_add (pv 8) pe_int))) (pe_slice (r := rSlL K) sl_list (pv 2) (po_some (pv 8)) po_none))) (pss_cons (ps_ret (pe_cmpR (r := rEqD K) (op_eqD hr.units) (pe_call (ok__law_fault T) (hr.mono (by decide)) rfl T.g__law_fault T.F__law_fault.kp bind__law_fault .nil passE (pa_cons (pv 1) (pa_cons (pv 9) pa_nil))) (pe_tup (pa_cons (pe_op op_add (pv 8) pe_int) (pa_cons (pe_lst pa_nil) pa_nil))) (nomark _))) pss_nil))) pss_nil) (pss_cons (ps_ret pe_bl) pss_nil))))))))))), ?_⟩
    refine q_asgN (E := E) (K := K) (σ := [some (.ref p0), some v_parents, none, none, none, none, none, none, none, none]) (i := 2) (n_lst (R := (pT (tc pI (t1 pS)))) al_nil (by decide)) hs (fun _ _ h => h.elim) hm fun marks_1 p_2 vs_3 I_4 C_5 H_6 e_7 hp_8 s_9 hc_10 k_11 hl_12 hr_13 hm => ?_
    have ne_14 := ne_new hc0 hp_8
    have hB_15 := Ex.free (off_ex (C := C0) (p := p0)) hp_8
    have hc_16 := (k_11 _ ne_14).trans hc0
    have fr_17 := fr_keep (off_ex (C := C0) (p := p0)) hB_15 k_11
    refine s_forN (E := E) (K := K) (σ := [some (.ref p0), some v_parents, some (.ref p_2), none, none, none, none, none, none, none]) (fun (z_18 : ((List (Int × Str)) × Pl)) σ2 I_21 C_22 => ∃ w_20 : Option V, σ2 = [some (.ref p0), some v_parents, some (.ref p_2), w_20, none, none, none, none, none, none] ∧ (∃ vs_23 : List V, C_22 p_2 = some (.lst vs_23) ∧ vs_23.length ≤ sizeLine ∧ A2 (fun x u => Rp.r (pT (tc pI (t1 pS))) x u I_21 Z) z_18.1 vs_23) ∧ (∃ ws_27 : List V, C_22 p0 = some (.lst ws_27) ∧ Rt.r pM z_18.2 ws_27 I_21 Z) ∧ Ex (off C0 p0) C_22) (i_rng1 (a_one (x_cb o_len (a_one (x_v (x_var (i := 1) rfl (Rp.mono _ e_7 exz r_parents))))))) s_9 (fun _ _ h => h.elim) hm (fun _ e_39 => ⟨none, rfl, ⟨_, hc_10, hl_12, a2up (Ex.trans (Ex.refl _) e_39) hr_13⟩, ⟨_, hc_16, Rt.mono _ (Ex.trans e_7 e_39) exz hx0⟩, fr_17⟩) (fun _ _ _ _ _ => trivial) (fun _ _ _ _ _ e ⟨w_20, hs_19, ⟨vs_23, hc_24, hl_25, hr_26⟩, ⟨ws_27, hc_28, hx_29⟩, fr_30⟩ => ⟨w_20, hs_19, ⟨vs_23, hc_24, hl_25, a2up e hr_26⟩, ⟨ws_27, hc_28, Rt.mono _ e exz hx_29⟩, fr_30⟩) (fun N x_31 v_32 z_18 σ2 I_33 C_34 H_35 e_36 s_37 ⟨w_20, hs_19, ⟨vs_23, hc_24, hl_25, hr_26⟩, ⟨ws_27, hc_28, hx_29⟩, fr_30⟩ r_38 hm => ?_) (fun z_87 σ2 I_82 C_83 H_84 e_85 s_86 ⟨w_89, hs_88, ⟨vs_92, hc_93, hl_94, hr_95⟩, ⟨ws_96, hc_97, hx_98⟩, fr_99⟩ hm => ?_)
    · subst hs_19
      refine g1 (K := K) x_31 v_32 I_33 C_34 H_35 _ s_37 r_38 fun σ2 ⟨v_40, hs_42, r_41⟩ => ?_
      subst hs_42
      refine qm_if (E := E) (K := K) (σ := [some (.ref p0), some v_parents, some (.ref p_2), some v_40, none, none, none, none, none, none]) (tm_test (m_op (fun _ => o_eqI) off_same (m_callM (i := 0) rfl (am_pure (a_one (x_int (i := 3))))) (m_pure (x_int (i := 0))))) s_37 hc_28 (Rt.mono _ (Ex.refl _) exz hx_29) hm (fun y_51 ws_52 I_43 C_53 H_44 e_45 s_46 hc_54 k_55 hx_56 hm => ?_) (fun y_57 ws_58 I_47 C_59 H_48 e_49 s_50 hc_60 k_61 hx_62 hm => ?_)
      · have hc_63 := (k_55 _ (Ne.symm ne_14)).trans hc_24
        have fr_64 := fr_pool fr_30 k_55
        refine qm_app (E := E) (K := K) (σ := [some (.ref p0), some v_parents, some (.ref p_2), some v_40, none, none, none, none, none, none]) (i := 2) rfl hc_63 (Ne.symm ne_14) (a2up e_45 hr_26) (m_tup (am_cons off_same (m_pure (x_var (i := 3) rfl (Rp.mono _ e_45 exz r_41))) (am_one (m_op (fun _ => (Op2.ofL o_ix)) off_same (m_pure (x_lst (al_cons (x_str (by decide +kernel)) (al_cons (x_str (by decide +kernel)) al_nil)) (Nat.le_of_ble_eq_true rfl))) (m_callM (i := 0) rfl (am_pure (a_one (x_int (i := 2)))))))) (Nat.le_of_ble_eq_true rfl)) s_46 hc_54 (Rt.mono _ (Ex.refl _) exz hx_56) hm fun marks_65 vs_66 ws_67 I_68 C_69 H_70 e_71 s_72 hc_73 hc_74 k_75 hl_76 hr_77 hx_78 hm => ?_
        have fr_79 := fr_pool2 fr_64 hB_15 k_75
        exact hm _ _ _ _ (e_45.trans e_71) s_72 ⟨some v_40, rfl, ⟨_, hc_73, hl_76, a2up (Ex.refl _) hr_77⟩, ⟨_, hc_74, Rt.mono _ (Ex.refl _) exz hx_78⟩, fr_79⟩
      · have hc_80 := (k_61 _ (Ne.symm ne_14)).trans hc_24
        have fr_81 := fr_pool fr_30 k_61
        exact hm _ _ _ _ e_49 s_50 ⟨some v_40, rfl, ⟨_, hc_80, hl_25, a2up e_49 hr_26⟩, ⟨_, hc_60, Rt.mono _ (Ex.refl _) exz hx_62⟩, fr_81⟩
    subst hs_88
    obtain ⟨I_100, C_101, e_102, s_103, h_104, k_105⟩ := freeze s_86 hc_93
    have r_107 := frz_list e_102 h_104 hl_94 hr_95
    have hc_108 := (k_105 _ ne_14).trans hc_97
    have fr_109 := fr_keep fr_99 hB_15 k_105
    refine q_asg (E := E) (K := K) (σ := [some (.ref p0), some v_parents, some (.ref p_2), w_89, none, none, none, none, none, none]) (i := 4) (x_own (n_call (a_cons (x_var (i := 1) rfl (Rp.mono _ (e_7.trans (e_85.trans e_102)) exz r_parents)) (a_one (x_var (i := 2) rfl (Rp.mono _ (Ex.refl _) exz r_107)))))) s_103 (fun _ _ h => h.elim) hm fun due_110 v_111 I_112 H_113 e_114 s_115 r_116 hm => ?_
    refine s_if (E := E) (K := K) (σ := [some (.ref p0), some v_parents, some (.ref p_2), w_89, some v_111, none, none, none, none, none]) (t_or (t_test (x_op (o_neD (de_tup (dt_cons de_int (dt_one (de_lst de_int)))) (de_tup (dt_cons de_int (dt_one (de_lst de_int)))) (by decide)) (x_call (a_cons (x_var (i := 1) rfl (Rp.mono _ (e_7.trans (e_85.trans (e_102.trans e_114))) exz r_parents)) (a_one (x_var (i := 2) rfl (Rp.mono _ e_114 exz r_107))))) (x_tup (a_cons (x_un o_neg (x_int (i := 1))) (a_one (x_var (i := 4) rfl (Rp.mono _ (Ex.refl _) exz r_116)))) (Nat.le_of_ble_eq_true rfl)))) (t_test (x_op o_notB (x_call (a_cons (x_var (i := 1) rfl (Rp.mono _ (e_7.trans (e_85.trans (e_102.trans e_114))) exz r_parents)) (a_cons (x_var (i := 4) rfl (Rp.mono _ (Ex.refl _) exz r_116)) (a_one (x_var (i := 2) rfl (Rp.mono _ e_114 exz r_107)))))) x_bl))) s_115 (fun _ _ h => h.elim) hm (fun I_117 H_118 e_119 s_120 hm => ?_) (fun I_121 H_122 e_123 s_124 hm => ?_)
    · refine q_ret (tz := tNext) (E := E) (K := K) (σ := [some (.ref p0), some v_parents, some (.ref p_2), w_89, some v_111, none, none, none, none, none]) x_bl s_120 (fun _ _ h => h.elim) hm fun a_125 v_126 I_127 H_128 e_129 s_130 r_131 hm => ?_
      exact ret_pool hm (e_7.trans (e_85.trans (e_102.trans (e_114.trans (e_119.trans e_129))))) fr_109 s_130 hc_108 (Rt.mono _ (e_102.trans (e_114.trans (e_119.trans e_129))) exz hx_98) r_131
    · refine qm_asg (E := E) (K := K) (σ := [some (.ref p0), some v_parents, some (.ref p_2), w_89, some v_111, none, none, none, none, none]) (i := 5) (m_op (fun _ => (Op2.ofL o_ix)) off_same (m_pure (x_lst (al_cons (x_tup (a_cons (x_cb o_len (a_one (x_v (x_var (i := 1) rfl (Rp.mono _ (e_7.trans (e_85.trans (e_102.trans (e_114.trans e_123)))) exz r_parents))))) (a_one (x_str (by decide +kernel)))) (Nat.le_of_ble_eq_true rfl)) (al_cons (x_tup (a_cons (x_un o_neg (x_int (i := 1))) (a_one (x_str (by decide +kernel)))) (Nat.le_of_ble_eq_true rfl)) (al_cons (x_tup (a_cons (x_int (i := 0)) (a_one (x_str (by decide +kernel)))) (Nat.le_of_ble_eq_true rfl)) al_nil))) (Nat.le_of_ble_eq_true rfl))) (m_callM (i := 0) rfl (am_pure (a_one (x_int (i := 3)))))) s_124 hc_108 (Rt.mono _ (e_102.trans (e_114.trans e_123)) exz hx_98) hm fun wrong_132 v_133 ws_139 I_134 C_140 H_135 e_136 s_137 hc_141 k_142 hx_143 r_138 hm => ?_
      have fr_144 := fr_pool fr_109 k_142
      refine qm_asg (E := E) (K := K) (σ := [some (.ref p0), some v_parents, some (.ref p_2), w_89, some v_111, some v_133, none, none, none, none]) (i := 6) (m_callM (i := 0) rfl (am_pure (a_one (x_op o_add (x_cb o_len (a_one (x_v (x_var (i := 2) rfl (Rp.mono _ (e_114.trans (e_123.trans e_136)) exz r_107))))) (x_int (i := 1)))))) s_137 hc_141 (Rt.mono _ (Ex.refl _) exz hx_143) hm fun place_145 v_146 ws_152 I_147 C_153 H_148 e_149 s_150 hc_154 k_155 hx_156 r_151 hm => ?_
      have fr_157 := fr_pool fr_144 k_155
      refine s_ifj (E := E) (K := K) (σ := [some (.ref p0), some v_parents, some (.ref p_2), w_89, some v_111, some v_133, some v_146, none, none, none]) (fun (z_166 : Int) σ2 I_168 C_169 => ∃ v_170 : V, σ2 = [some (.ref p0), some v_parents, some (.ref p_2), w_89, some v_111, some v_133, some v_170, none, none, none] ∧ Rp.r pI z_166 v_170 I_168 Z ∧ C_169 p0 = some (.lst ws_152) ∧ Ex (off C0 p0) C_169) (t_test (x_op o_eqI (x_k (k := ((0 : Nat) : Int)) (o_pj pj0) (x_var (i := 5) rfl (Rp.mono _ e_149 exz r_138))) (x_int (i := 0)))) s_150 (fun _ _ h => h.elim) hm (fun N I_158 H_159 e_160 s_161 hm => ?_) (fun N I_162 H_163 e_164 s_165 hm => ?_) (fun z_166 σ2 I_181 C_182 H_183 e_184 s_185 ⟨v_170, hs_167, r_171, hc_172, fr_173⟩ hm => ?_)
      · refine q_asg (E := E) (K := K) (σ := [some (.ref p0), some v_parents, some (.ref p_2), w_89, some v_111, some v_133, some v_146, none, none, none]) (i := 6) (x_int (i := 0)) s_161 (fun _ _ h => h.elim) hm fun place_174 v_175 I_176 H_177 e_178 s_179 r_180 hm => ?_
        exact hm _ _ _ _ (e_160.trans e_178) s_179 ⟨v_175, rfl, Rp.mono _ (Ex.refl _) exz r_180, hc_154, fr_157⟩
      · exact hm _ _ _ _ e_164 s_165 ⟨v_146, rfl, Rp.mono _ e_164 exz r_151, hc_154, fr_157⟩
      subst hs_167
      refine q_asg (E := E) (K := K) (σ := [some (.ref p0), some v_parents, some (.ref p_2), w_89, some v_111, some v_133, some v_170, none, none, none]) (i := 7) (x_op o_cat (x_v (x_op o_cat (x_v (x_sl (x_v (x_var (i := 2) rfl (Rp.mono _ (e_114.trans (e_123.trans (e_136.trans (e_149.trans e_184)))) exz r_107))) p_none (p_some (x_var (i := 6) rfl (Rp.mono _ (Ex.refl _) exz r_171))))) (x_v (x_lst (al_cons (x_var (i := 5) rfl (Rp.mono _ (e_149.trans e_184) exz r_138)) al_nil) (Nat.le_of_ble_eq_true rfl))))) (x_v (x_sl (x_v (x_var (i := 2) rfl (Rp.mono _ (e_114.trans (e_123.trans (e_136.trans (e_149.trans e_184)))) exz r_107))) (p_some (x_var (i := 6) rfl (Rp.mono _ (Ex.refl _) exz r_171))) p_none))) s_185 (fun _ _ h => h.elim) hm fun bad_186 v_187 I_188 H_189 e_190 s_191 r_192 hm => ?_
      refine s_if (E := E) (K := K) (σ := [some (.ref p0), some v_parents, some (.ref p_2), w_89, some v_111, some v_133, some v_170, some v_187, none, none]) (t_or (t_test (x_op (o_neD (de_tup (dt_cons de_int (dt_one (de_lst de_int)))) (de_tup (dt_cons de_int (dt_one (de_lst de_int)))) (by decide)) (x_call (a_cons (x_var (i := 1) rfl (Rp.mono _ (e_7.trans (e_85.trans (e_102.trans (e_114.trans (e_123.trans (e_136.trans (e_149.trans (e_184.trans e_190)))))))) exz r_parents)) (a_one (x_var (i := 7) rfl (Rp.mono _ (Ex.refl _) exz r_192))))) (x_tup (a_cons (x_var (i := 6) rfl (Rp.mono _ e_190 exz r_171)) (a_one (x_lst (R := pI) al_nil (by decide)))) (Nat.le_of_ble_eq_true rfl)))) (t_test (x_op o_notB (x_call (a_cons (x_var (i := 1) rfl (Rp.mono _ (e_7.trans (e_85.trans (e_102.trans (e_114.trans (e_123.trans (e_136.trans (e_149.trans (e_184.trans e_190)))))))) exz r_parents)) (a_cons (x_var (i := 4) rfl (Rp.mono _ (e_123.trans (e_136.trans (e_149.trans (e_184.trans e_190)))) exz r_116)) (a_one (x_var (i := 7) rfl (Rp.mono _ (Ex.refl _) exz r_192)))))) x_bl))) s_191 (fun _ _ h => h.elim) hm (fun I_193 H_194 e_195 s_196 hm => ?_) (fun I_197 H_198 e_199 s_200 hm => ?_)
      · refine q_ret (tz := tNext) (E := E) (K := K) (σ := [some (.ref p0), some v_parents, some (.ref p_2), w_89, some v_111, some v_133, some v_170, some v_187, none, none]) x_bl s_196 (fun _ _ h => h.elim) hm fun a_201 v_202 I_203 H_204 e_205 s_206 r_207 hm => ?_
        exact ret_pool hm (e_7.trans (e_85.trans (e_102.trans (e_114.trans (e_123.trans (e_136.trans (e_149.trans (e_184.trans (e_190.trans (e_195.trans e_205)))))))))) fr_173 s_206 hc_172 (Rt.mono _ (e_184.trans (e_190.trans (e_195.trans e_205))) exz hx_156) r_207
      · refine s_if (E := E) (K := K) (σ := [some (.ref p0), some v_parents, some (.ref p_2), w_89, some v_111, some v_133, some v_170, some v_187, none, none]) (t_test (x_op o_gt (x_cb o_len (a_one (x_v (x_var (i := 2) rfl (Rp.mono _ (e_114.trans (e_123.trans (e_136.trans (e_149.trans (e_184.trans (e_190.trans e_199)))))) exz r_107))))) (x_int (i := 0)))) s_200 (fun _ _ h => h.elim) hm (fun I_208 H_209 e_210 s_211 hm => ?_) (fun I_212 H_213 e_214 s_215 hm => ?_)
        · refine qm_asg (E := E) (K := K) (σ := [some (.ref p0), some v_parents, some (.ref p_2), w_89, some v_111, some v_133, some v_170, some v_187, none, none]) (i := 8) (m_callM (i := 0) rfl (am_pure (a_one (x_cb o_len (a_one (x_v (x_var (i := 2) rfl (Rp.mono _ (e_114.trans (e_123.trans (e_136.trans (e_149.trans (e_184.trans (e_190.trans (e_199.trans e_210))))))) exz r_107)))))))) s_211 hc_172 (Rt.mono _ (e_184.trans (e_190.trans (e_199.trans e_210))) exz hx_156) hm fun at_216 v_217 ws_223 I_218 C_224 H_219 e_220 s_221 hc_225 k_226 hx_227 r_222 hm => ?_
          have fr_228 := fr_pool fr_173 k_226
          refine q_asg (E := E) (K := K) (σ := [some (.ref p0), some v_parents, some (.ref p_2), w_89, some v_111, some v_133, some v_170, some v_187, some v_217, none]) (i := 9) (x_op o_cat (x_v (x_sl (x_v (x_var (i := 2) rfl (Rp.mono _ (e_114.trans (e_123.trans (e_136.trans (e_149.trans (e_184.trans (e_190.trans (e_199.trans (e_210.trans e_220)))))))) exz r_107))) p_none (p_some (x_op o_add (x_var (i := 8) rfl (Rp.mono _ (Ex.refl _) exz r_222)) (x_int (i := 1)))))) (x_v (x_sl (x_v (x_var (i := 2) rfl (Rp.mono _ (e_114.trans (e_123.trans (e_136.trans (e_149.trans (e_184.trans (e_190.trans (e_199.trans (e_210.trans e_220)))))))) exz r_107))) (p_some (x_var (i := 8) rfl (Rp.mono _ (Ex.refl _) exz r_222))) p_none))) s_221 (fun _ _ h => h.elim) hm fun doubled_229 v_230 I_231 H_232 e_233 s_234 r_235 hm => ?_
          refine q_ret (tz := tNext) (E := E) (K := K) (σ := [some (.ref p0), some v_parents, some (.ref p_2), w_89, some v_111, some v_133, some v_170, some v_187, some v_217, some v_230]) (x_op (o_eqD (de_tup (dt_cons de_int (dt_one (de_lst de_int)))) (de_tup (dt_cons de_int (dt_one (de_lst de_int)))) (by decide)) (x_call (a_cons (x_var (i := 1) rfl (Rp.mono _ (e_7.trans (e_85.trans (e_102.trans (e_114.trans (e_123.trans (e_136.trans (e_149.trans (e_184.trans (e_190.trans (e_199.trans (e_210.trans (e_220.trans e_233)))))))))))) exz r_parents)) (a_one (x_var (i := 9) rfl (Rp.mono _ (Ex.refl _) exz r_235))))) (x_tup (a_cons (x_op o_add (x_var (i := 8) rfl (Rp.mono _ e_233 exz r_222)) (x_int (i := 1))) (a_one (x_lst (R := pI) al_nil (by decide)))) (Nat.le_of_ble_eq_true rfl))) s_234 (fun _ _ h => h.elim) hm fun a_236 v_237 I_238 H_239 e_240 s_241 r_242 hm => ?_
          exact ret_pool hm (e_7.trans (e_85.trans (e_102.trans (e_114.trans (e_123.trans (e_136.trans (e_149.trans (e_184.trans (e_190.trans (e_199.trans (e_210.trans (e_220.trans (e_233.trans e_240))))))))))))) fr_228 s_241 hc_225 (Rt.mono _ (e_233.trans e_240) exz hx_227) r_242
        · refine q_ret (tz := tNext) (E := E) (K := K) (σ := [some (.ref p0), some v_parents, some (.ref p_2), w_89, some v_111, some v_133, some v_170, some v_187, none, none]) x_bl s_215 (fun _ _ h => h.elim) hm fun a_243 v_244 I_245 H_246 e_247 s_248 r_249 hm => ?_
          exact ret_pool hm (e_7.trans (e_85.trans (e_102.trans (e_114.trans (e_123.trans (e_136.trans (e_149.trans (e_184.trans (e_190.trans (e_199.trans (e_214.trans e_247))))))))))) fr_173 s_248 hc_172 (Rt.mono _ (e_184.trans (e_190.trans (e_199.trans (e_214.trans e_247)))) exz hx_156) r_249
def m__law_changes_right (ar_parents : (List Int)) (ar_wanted : (List Int)) (ar_marks : (List (Int × Str))) (a_pool : Pl) : Res (Bool × Pl) :=
  ((consR (Res.ok ("with" : Str)) (consR (Res.ok ("without" : Str)) (Res.ok []))).bind fun (other_1 : (List Str)) => (((un rng1 (un rLen (Res.ok ar_marks))).bind fun xs => loopR (fun (x_18 : Int) (z_8 : Unit) => ((pair (un (fun p => Res.ok p.1) (bin ix (Res.ok ar_marks) (Res.ok x_18))) (bin ix (Res.ok other_1) (bin rSub (Res.ok (1 : Int)) (bin idxR (Res.ok other_1) (un (fun p => Res.ok p.2) (bin ix (Res.ok ar_marks) (Res.ok x_18))))))).bind fun (turned_30 : (Int × Str)) => (((consR (bin rCatR (slR (Res.ok ar_marks) (Res.ok none) (someR (Res.ok x_18))) (slR (Res.ok ar_marks) (someR (bin rAdd (Res.ok x_18) (Res.ok (1 : Int)))) (Res.ok none))) (consR (bin rCatR (bin rCatR (slR (Res.ok ar_marks) (Res.ok none) (someR (Res.ok x_18))) (consR (Res.ok turned_30) (Res.ok []))) (slR (Res.ok ar_marks) (someR (bin rAdd (Res.ok x_18) (Res.ok (1 : Int)))) (Res.ok none))) (Res.ok []))).bind fun xs => loopR (fun (x_45 : (List (Int × Str))) (z_37 : Unit) => ((un (fun (p : ((List Int) × (List Int) × (List (Int × Str)))) => m_is_naming p.1 p.2.1 p.2.2) (pair (Res.ok ar_parents) (pair (Res.ok ar_wanted) (Res.ok x_45)))).bind fun (told_57 : Bool) => (ifR (orR (un notR (un (fun _ => Res.ok true) (pair (Res.ok told_57) (Res.ok ())))) (bin neR (Res.ok told_57) (bin eqR (un (fun (p : ((List Int) × (List (Int × Str)))) => m__law_named p.1 p.2) (pair (Res.ok ar_parents) (Res.ok x_45))) (Res.ok ar_wanted)))) ((Res.ok false).bind fun a_72 => Res.ok (Out.rt (a_72, a_pool))) (Res.ok (Out.nx ()))))) xs ()).bind fun (o : Out Unit (Bool × Pl)) => match o with | .nx z_84 => (Res.ok (Out.nx ())) | .br _ => Res.bad | .rt r => Res.ok (Out.rt r)))) xs ()).bind fun (o : Out Unit (Bool × Pl)) => match o with | .nx z_97 => ((Res.ok true).bind fun a_107 => Res.ok (a_107, a_pool)) | .br _ => Res.bad | .rt r => Res.ok r))
abbrev N__law_changes_right : List Str := ["pool", "parents", "wanted", "marks", "other", "at", "turned", "bad", "told"]
theorem sc__law_changes_right : FnScope N__law_changes_right ["pool", "parents", "wanted", "marks"] (defScope s__law_changes_right) := ⟨rfl, rfl, rfl, by decide +kernel, rfl, by decide +kernel, by decide +kernel⟩
theorem bind__law_changes_right {K : PySem.W.Frag} {mg : Str → Option Value} {T : Tx K mg} : Binds K T.d__law_changes_right ["pool", "parents", "wanted", "marks"] [] := FunD.bindsN T.F__law_changes_right fun _ _ _ _ _ _ us hl => match us, hl with | [_, _, _, _], _ => rfl
abbrev sp__law_changes_right (K : PySem.W.Frag) : Sp := spM pM (tc (pL pI) (tc (pL pI) (t1 (pL (pT (tc pI (t1 pS))))))) (fun (p : ((List Int) × (List Int) × (List (Int × Str)))) => m__law_changes_right p.1 p.2.1 p.2.2) pB
theorem ok__law_changes_right (T : Tx K mg) : FnOk P w K mg base (L2.CX P w) 5 T.f__law_changes_right T.d__law_changes_right ["pool", "parents", "wanted", "marks"] (sp__law_changes_right K) := by
  refine T.F__law_changes_right.ok sc__law_changes_right (fun vs H Q E h => ?_) (fun cdv A outer s H vs Q E hr h => ?_)
  · obtain ⟨I, C, p, ws, us, x, a, rfl, _, _, _, hr, _⟩ := h
    exact congrArg (· + 1) (Rt.len _ hr)
  · obtain ⟨I0, C0, p0, ws0, us, a_pool, ⟨ar_parents, ar_wanted, ar_marks⟩, rfl, hs, hc0, hx1, ⟨v_parents, us0, rfl, r_parents, v_wanted, us1, rfl, r_wanted, v_marks, rfl, r_marks⟩, hm⟩ := h
    have hx0 := It.im (C' := Z) hx1
    have hm : Post (m__law_changes_right ar_parents ar_wanted ar_marks a_pool) (PM p0 pM pB I0 C0 Q) XF := hm
    replace r_parents : Rp.r (pL pI) ar_parents v_parents I0 Z := Im.im r_parents
    replace r_wanted : Rp.r (pL pI) ar_wanted v_wanted I0 Z := Im.im r_wanted
    replace r_marks : Rp.r (pL (pT (tc pI (t1 pS)))) ar_marks v_marks I0 Z := Im.im r_marks
    unfold m__law_changes_right at hm
    refine ⟨_, (pss_cons (ps_set (i := 4) sc__law_changes_right.nd rfl (Or.inl rfl) (pe_lst (pa_cons pe_str (pa_cons pe_str pa_nil)))) (pss_cons (ps_for (passes_of rfl) rfl (pi_range1 (by rfl) T.gb_range (pa_cons (pe_callB (r := rLen1 K) call_len_seq (by rfl) T.gb_len bt_len (pa_cons (pv 3) pa_nil)) pa_nil)) (pg_name (i := 5) sc__law_changes_right.nd rfl (Or.inl rfl)) (pss_cons (ps_set (i := 6) sc__law_changes_right.nd rfl (Or.inl rfl) (pe_tup (pa_cons (pe_ix (r := rIxT K) ix_tup (pe_ix (r := rIxL K) ix_list (pv 3) (pv 5) (fun _ _ => rfl)) pe_int (fun _ _ => rfl)) (pa_cons (pe_ix (r := rIxL K) ix_list (pv 4) (pe_op op_sub pe_int (show PE _ _ (tBM K "list" (rIndex K) _ _) from pe_bm PySem.F.plainAttrs_list PySem.F.slot_list_index PySem.F.type_list_index mt_index (pv 4) (pa_cons (pe_ix (r := rIxT K) ix_tup (pe_ix (r := rIxL K) ix_list (pv 3) (pv 5) (fun _ _ => rfl)) pe_int (fun _ _ => rfl)) pa_nil))) (fun _ _ => rfl)) pa_nil)))) (pss_cons (ps_for (passes_of rfl) rfl (show PI _ _ _ (iList K _) from pi_list (pe_lst (pa_cons (pe_op op_cat (pe_slice (r := rSlL K) sl_list (pv 3) po_none (po_some (pv 5))) (pe_slice (r := rSlL K) sl_list (pv 3) (po_some (pe_op op_add (pv 5) pe_int)) po_none)) (pa_cons (pe_op op_cat (pe_op op_cat (pe_slice (r := rSlL K) sl_list (pv 3) po_none (po_some (pv 5))) (pe_lst (pa_cons (pv 6) pa_nil))) (pe_slice (r := rSlL K) sl_list (pv 3) (po_some (pe_op op_add (pv 5) pe_int)) po_none)) pa_nil)))) (pg_name (i := 7) sc__law_changes_right.nd rfl (Or.inl rfl)) (pss_cons (ps_set (i := 8) sc__law_changes_right.nd rfl (Or.inl rfl) (pe_call (ok_is_naming T) (hr.mono (by decide)) rfl T.g_is_naming T.F_is_naming.kp bind_is_naming .nil passE (pa_cons (pv 1) (pa_cons (pv 2) (pa_cons (pv 7) pa_nil))))) (pss_cons (ps_if (PW.pt (pw_or (pt_not (pt_val (pe_callB (r := rIsi K) call_isi (by rfl) T.gb_isinstance bt_isinstance (pa_cons (pv 8) (pa_cons (pe_bltn (v := .ty "bool") rfl T.gb_bool bt_bool rfl) pa_nil))))) (pw_or1 (pt_cmpR op_ne (pv 8) (pe_cmpR (r := rEqD K) (op_eqD hr.units) (pe_call (ok__law_named T) (hr.mono (by decide)) rfl T.g__law_named T.F__law_named.kp bind__law_named .nil passE (pa_cons (pv 1) (pa_cons (pv 7) pa_nil))) (pv 2) (nomark _)) (nomark _))))) (pss_cons (ps_ret pe_bl) pss_nil) pss_nil) pss_nil))) pss_nil))) (pss_cons (ps_ret pe_bl) pss_nil))), ?_⟩
    refine q_asg (E := E) (K := K) (σ := [some (.ref p0), some v_parents, some v_wanted, some v_marks, none, none, none, none, none]) (i := 4) (x_lst (al_cons (x_str (by decide +kernel)) (al_cons (x_str (by decide +kernel)) al_nil)) (Nat.le_of_ble_eq_true rfl)) hs (fun _ _ h => h.elim) hm fun other_1 v_2 I_3 H_4 e_5 s_6 r_7 hm => ?_
    refine s_forR (E := E) (K := K) (σ := [some (.ref p0), some v_parents, some v_wanted, some v_marks, some v_2, none, none, none, none]) (fun (z_8 : Unit) σ2 I_14 C_15 => ∃ w_10 : Option V, ∃ w_11 : Option V, ∃ w_12 : Option V, ∃ w_13 : Option V, σ2 = [some (.ref p0), some v_parents, some v_wanted, some v_marks, some v_2, w_10, w_11, w_12, w_13] ∧ C_15 p0 = some (.lst ws0) ∧ Ex (off C0 p0) C_15) (i_rng1 (a_one (x_cb o_len (a_one (x_v (x_var (i := 3) rfl (Rp.mono _ e_5 exz r_marks))))))) s_6 (fun _ _ h => h.elim) hm (fun _ e_26 => ⟨none, none, none, none, rfl, hc0, (off_ex (C := C0) (p := p0))⟩) (fun _ _ _ _ _ => trivial) (fun _ _ _ _ _ e ⟨w_10, w_11, w_12, w_13, hs_9, hc_16, fr_17⟩ => ⟨w_10, w_11, w_12, w_13, hs_9, hc_16, fr_17⟩) (fun N x_18 v_19 z_8 σ2 I_20 C_21 H_22 e_23 s_24 ⟨w_10, w_11, w_12, w_13, hs_9, hc_16, fr_17⟩ r_25 hm => ?_) (fun z_97 σ2 I_92 C_93 H_94 e_95 s_96 ⟨w_99, w_100, w_101, w_102, hs_98, hc_105, fr_106⟩ hm => ?_)
    · subst hs_9
      refine g1 (K := K) x_18 v_19 I_20 C_21 H_22 _ s_24 r_25 fun σ2 ⟨v_27, hs_29, r_28⟩ => ?_
      subst hs_29
      refine q_asg (E := E) (K := K) (σ := [some (.ref p0), some v_parents, some v_wanted, some v_marks, some v_2, some v_27, w_11, w_12, w_13]) (i := 6) (x_tup (a_cons (x_k (k := ((0 : Nat) : Int)) (o_pj pj0) (x_op o_ix (x_v (x_var (i := 3) rfl (Rp.mono _ (e_5.trans e_23) exz r_marks))) (x_var (i := 5) rfl (Rp.mono _ (Ex.refl _) exz r_28)))) (a_one (x_op o_ix (x_v (x_var (i := 4) rfl (Rp.mono _ e_23 exz r_7))) (x_op o_sub (x_int (i := 1)) (x_index fl_str (x_var (i := 4) rfl (Rp.mono _ e_23 exz r_7)) (x_k (k := ((1 : Nat) : Int)) (o_pj (pjs pj1)) (x_op o_ix (x_v (x_var (i := 3) rfl (Rp.mono _ (e_5.trans e_23) exz r_marks))) (x_var (i := 5) rfl (Rp.mono _ (Ex.refl _) exz r_28))))))))) (Nat.le_of_ble_eq_true rfl)) s_24 (fun _ _ h => h.elim) hm fun turned_30 v_31 I_32 H_33 e_34 s_35 r_36 hm => ?_
      refine s_forR (E := E) (K := K) (σ := [some (.ref p0), some v_parents, some v_wanted, some v_marks, some v_2, some v_27, some v_31, w_12, w_13]) (fun (z_37 : Unit) σ2 I_41 C_42 => ∃ w_39 : Option V, ∃ w_40 : Option V, σ2 = [some (.ref p0), some v_parents, some v_wanted, some v_marks, some v_2, some v_27, some v_31, w_39, w_40] ∧ C_42 p0 = some (.lst ws0) ∧ Ex (off C0 p0) C_42) (i_list (x_lst (al_cons (x_op o_cat (x_v (x_sl (x_v (x_var (i := 3) rfl (Rp.mono _ (e_5.trans (e_23.trans e_34)) exz r_marks))) p_none (p_some (x_var (i := 5) rfl (Rp.mono _ e_34 exz r_28))))) (x_v (x_sl (x_v (x_var (i := 3) rfl (Rp.mono _ (e_5.trans (e_23.trans e_34)) exz r_marks))) (p_some (x_op o_add (x_var (i := 5) rfl (Rp.mono _ e_34 exz r_28)) (x_int (i := 1)))) p_none))) (al_cons (x_op o_cat (x_v (x_op o_cat (x_v (x_sl (x_v (x_var (i := 3) rfl (Rp.mono _ (e_5.trans (e_23.trans e_34)) exz r_marks))) p_none (p_some (x_var (i := 5) rfl (Rp.mono _ e_34 exz r_28))))) (x_v (x_lst (al_cons (x_var (i := 6) rfl (Rp.mono _ (Ex.refl _) exz r_36)) al_nil) (Nat.le_of_ble_eq_true rfl))))) (x_v (x_sl (x_v (x_var (i := 3) rfl (Rp.mono _ (e_5.trans (e_23.trans e_34)) exz r_marks))) (p_some (x_op o_add (x_var (i := 5) rfl (Rp.mono _ e_34 exz r_28)) (x_int (i := 1)))) p_none))) al_nil)) (Nat.le_of_ble_eq_true rfl))) s_35 (fun _ _ h => h.elim) hm (fun _ e_53 => ⟨w_12, w_13, rfl, hc_16, fr_17⟩) (fun _ _ _ _ _ => trivial) (fun _ _ _ _ _ e ⟨w_39, w_40, hs_38, hc_43, fr_44⟩ => ⟨w_39, w_40, hs_38, hc_43, fr_44⟩) (fun N x_45 v_46 z_37 σ2 I_47 C_48 H_49 e_50 s_51 ⟨w_39, w_40, hs_38, hc_43, fr_44⟩ r_52 hm => ?_) (fun z_84 σ2 I_79 C_80 H_81 e_82 s_83 ⟨w_86, w_87, hs_85, hc_90, fr_91⟩ hm => ?_)
      · subst hs_38
        refine g1 (K := K) x_45 v_46 I_47 C_48 H_49 _ s_51 r_52 fun σ2 ⟨v_54, hs_56, r_55⟩ => ?_
        subst hs_56
        refine q_asg (E := E) (K := K) (σ := [some (.ref p0), some v_parents, some v_wanted, some v_marks, some v_2, some v_27, some v_31, some v_54, w_40]) (i := 8) (x_call (a_cons (x_var (i := 1) rfl (Rp.mono _ (e_5.trans (e_23.trans (e_34.trans e_50))) exz r_parents)) (a_cons (x_var (i := 2) rfl (Rp.mono _ (e_5.trans (e_23.trans (e_34.trans e_50))) exz r_wanted)) (a_one (x_var (i := 7) rfl (Rp.mono _ (Ex.refl _) exz r_55)))))) s_51 (fun _ _ h => h.elim) hm fun told_57 v_58 I_59 H_60 e_61 s_62 r_63 hm => ?_
        refine s_if (E := E) (K := K) (σ := [some (.ref p0), some v_parents, some v_wanted, some v_marks, some v_2, some v_27, some v_31, some v_54, some v_58]) (t_or (t_not (t_B (x_cb (o_isi (n := "bool") (by decide +kernel)) (a_cons (x_var (i := 8) rfl (Rp.mono _ (Ex.refl _) exz r_63)) (a_one (x_c (R := pY "bool") (a := ()) fun _ _ => rfl)))))) (t_test (x_op o_neB (x_var (i := 8) rfl (Rp.mono _ (Ex.refl _) exz r_63)) (x_op (o_eqD (de_lst de_int) (de_lst de_int) (by decide)) (x_own (n_call (a_cons (x_var (i := 1) rfl (Rp.mono _ (e_5.trans (e_23.trans (e_34.trans (e_50.trans e_61)))) exz r_parents)) (a_one (x_var (i := 7) rfl (Rp.mono _ e_61 exz r_55)))))) (x_var (i := 2) rfl (Rp.mono _ (e_5.trans (e_23.trans (e_34.trans (e_50.trans e_61)))) exz r_wanted)))))) s_62 (fun _ _ h => h.elim) hm (fun I_64 H_65 e_66 s_67 hm => ?_) (fun I_68 H_69 e_70 s_71 hm => ?_)
        · refine q_ret (tz := tNext) (E := E) (K := K) (σ := [some (.ref p0), some v_parents, some v_wanted, some v_marks, some v_2, some v_27, some v_31, some v_54, some v_58]) x_bl s_67 (fun _ _ h => h.elim) hm fun a_72 v_73 I_74 H_75 e_76 s_77 r_78 hm => ?_
          exact ret_pool hm (e_5.trans (e_23.trans (e_34.trans (e_50.trans (e_61.trans (e_66.trans e_76)))))) fr_44 s_77 hc_43 (Rt.mono _ (e_5.trans (e_23.trans (e_34.trans (e_50.trans (e_61.trans (e_66.trans e_76)))))) exz hx0) r_78
        · exact hm _ _ _ _ (e_61.trans e_70) s_71 ⟨some v_54, some v_58, rfl, hc_43, fr_44⟩
      subst hs_85
      exact hm _ _ _ _ (e_34.trans e_82) s_83 ⟨some v_27, some v_31, w_86, w_87, rfl, hc_90, fr_91⟩
    subst hs_98
    refine q_ret (tz := tNext) (E := E) (K := K) (σ := [some (.ref p0), some v_parents, some v_wanted, some v_marks, some v_2, w_99, w_100, w_101, w_102]) x_bl s_96 (fun _ _ h => h.elim) hm fun a_107 v_108 I_109 H_110 e_111 s_112 r_113 hm => ?_
    exact ret_pool hm (e_5.trans (e_95.trans e_111)) fr_106 s_112 hc_105 (Rt.mono _ (e_5.trans (e_95.trans e_111)) exz hx0) r_113
def m__law_bounds_right (ar_parents : (List Int)) (ar_wanted : (List Int)) (ar_bounds : (List (Int × Int))) (ar_many : Int) (a_pool : Pl) : Res (Bool × Pl) :=
  (ifR (orR (un notR (un (fun _ => Res.ok true) (pair (Res.ok ar_bounds) (Res.ok ())))) (un notR (un (fun (p : ((List Int) × (List Int) × (List (Int × Int)) × Int)) => m__law_bound p.1 p.2.1 p.2.2.1 p.2.2.2) (pair (Res.ok ar_parents) (pair (Res.ok ar_wanted) (pair (Res.ok ar_bounds) (Res.ok ar_many))))))) ((Res.ok false).bind fun a_9 => Res.ok (a_9, a_pool)) (ifR (bin neR (un (fun (p : ((List Int) × (List Int) × (List (Int × Int)) × Int)) => m_is_marks_bound p.1 p.2.1 p.2.2.1 p.2.2.2) (pair (Res.ok ar_parents) (pair (Res.ok ar_wanted) (pair (Res.ok ar_bounds) (Res.ok ar_many))))) (Res.ok true)) ((Res.ok false).bind fun a_24 => Res.ok (a_24, a_pool)) (ifR (bin neR (un (fun (p : ((List Int) × (List Int) × (List (Int × Int)) × Int)) => m_is_marks_bound p.1 p.2.1 p.2.2.1 p.2.2.2) (pair (Res.ok ar_parents) (pair (Res.ok ar_wanted) (pair (slR (Res.ok ar_bounds) (Res.ok none) (someR (un rNeg (Res.ok (1 : Int))))) (Res.ok ar_many))))) (Res.ok false)) ((Res.ok false).bind fun a_39 => Res.ok (a_39, a_pool)) (((un rng1 (Res.ok (6 : Int))).bind fun xs => loopR (fun (x_60 : Int) (z_46 : Pl) => (((callM m__law_take (liftM (un rLen (Res.ok ar_parents)))) z_46).bind fun (k_72 : Int × Pl) => (((consM (binM rSub (callM m__law_take (liftM (Res.ok (3 : Int)))) (liftM (Res.ok (1 : Int)))) (consM (binM rSub (callM m__law_take (liftM (Res.ok (3 : Int)))) (liftM (Res.ok (1 : Int)))) (liftM (Res.ok [])))) k_72.2).bind fun (more_85 : (List Int) × Pl) => ((pair (bin rAdd (un (fun p => Res.ok p.1) (bin ix (Res.ok ar_bounds) (Res.ok k_72.1))) (bin ix (Res.ok more_85.1) (Res.ok (0 : Int)))) (bin rAdd (un (fun p => Res.ok p.2) (bin ix (Res.ok ar_bounds) (Res.ok k_72.1))) (bin ix (Res.ok more_85.1) (Res.ok (1 : Int))))).bind fun (pair_98 : (Int × Int)) => ((bin rCatR (bin rCatR (slR (Res.ok ar_bounds) (Res.ok none) (someR (Res.ok k_72.1))) (consR (Res.ok pair_98) (Res.ok []))) (slR (Res.ok ar_bounds) (someR (bin rAdd (Res.ok k_72.1) (Res.ok (1 : Int)))) (Res.ok none))).bind fun (bad_105 : (List (Int × Int))) => ((un (fun (p : ((List Int) × (List Int) × (List (Int × Int)) × Int)) => m_is_marks_bound p.1 p.2.1 p.2.2.1 p.2.2.2) (pair (Res.ok ar_parents) (pair (Res.ok ar_wanted) (pair (Res.ok bad_105) (Res.ok ar_many))))).bind fun (told_112 : Bool) => (ifR (orR (un notR (un (fun _ => Res.ok true) (pair (Res.ok told_112) (Res.ok ())))) (bin neR (Res.ok told_112) (un (fun (p : ((List Int) × (List Int) × (List (Int × Int)) × Int)) => m__law_bound p.1 p.2.1 p.2.2.1 p.2.2.2) (pair (Res.ok ar_parents) (pair (Res.ok ar_wanted) (pair (Res.ok bad_105) (Res.ok ar_many))))))) ((Res.ok false).bind fun a_127 => Res.ok (Out.rt (a_127, more_85.2))) (Res.ok (Out.nx more_85.2))))))))) xs a_pool).bind fun (o : Out Pl (Bool × Pl)) => match o with | .nx z_139 => ((Res.ok true).bind fun a_153 => Res.ok (a_153, z_139)) | .br _ => Res.bad | .rt r => Res.ok r))))
abbrev N__law_bounds_right : List Str := ["pool", "parents", "wanted", "bounds", "many", "turn", "k", "more", "pair", "bad", "told"]
theorem sc__law_bounds_right : FnScope N__law_bounds_right ["pool", "parents", "wanted", "bounds", "many"] (defScope s__law_bounds_right) := ⟨rfl, rfl, rfl, by decide +kernel, rfl, by decide +kernel, by decide +kernel⟩
theorem bind__law_bounds_right {K : PySem.W.Frag} {mg : Str → Option Value} {T : Tx K mg} : Binds K T.d__law_bounds_right ["pool", "parents", "wanted", "bounds", "many"] [] := FunD.bindsN T.F__law_bounds_right fun _ _ _ _ _ _ us hl => match us, hl with | [_, _, _, _, _], _ => rfl
abbrev sp__law_bounds_right (K : PySem.W.Frag) : Sp := spM pM (tc (pL pI) (tc (pL pI) (tc (pL (pT (tc pI (t1 pI)))) (t1 pI)))) (fun (p : ((List Int) × (List Int) × (List (Int × Int)) × Int)) => m__law_bounds_right p.1 p.2.1 p.2.2.1 p.2.2.2) pB
theorem ok__law_bounds_right (T : Tx K mg) : FnOk P w K mg base (L2.CX P w) 5 T.f__law_bounds_right T.d__law_bounds_right ["pool", "parents", "wanted", "bounds", "many"] (sp__law_bounds_right K) := by
  refine T.F__law_bounds_right.ok sc__law_bounds_right (fun vs H Q E h => ?_) (fun cdv A outer s H vs Q E hr h => ?_)
  · obtain ⟨I, C, p, ws, us, x, a, rfl, _, _, _, hr, _⟩ := h
    exact congrArg (· + 1) (Rt.len _ hr)
  · obtain ⟨I0, C0, p0, ws0, us, a_pool, ⟨ar_parents, ar_wanted, ar_bounds, ar_many⟩, rfl, hs, hc0, hx1, ⟨v_parents, us0, rfl, r_parents, v_wanted, us1, rfl, r_wanted, v_bounds, us2, rfl, r_bounds, v_many, rfl, r_many⟩, hm⟩ := h
    have hx0 := It.im (C' := Z) hx1
    have hm : Post (m__law_bounds_right ar_parents ar_wanted ar_bounds ar_many a_pool) (PM p0 pM pB I0 C0 Q) XF := hm
    replace r_parents : Rp.r (pL pI) ar_parents v_parents I0 Z := Im.im r_parents
    replace r_wanted : Rp.r (pL pI) ar_wanted v_wanted I0 Z := Im.im r_wanted
    replace r_bounds : Rp.r (pL (pT (tc pI (t1 pI)))) ar_bounds v_bounds I0 Z := Im.im r_bounds
    replace r_many : Rp.r pI ar_many v_many I0 Z := Im.im r_many
    unfold m__law_bounds_right at hm
    refine ⟨_, (pss_cons (ps_if (PW.pt (pw_or (pt_not (pt_val (pe_callB (r := rIsi K) call_isi (by rfl) T.gb_isinstance bt_isinstance (pa_cons (pv 3) (pa_cons (pe_bltn (v := .ty "list") rfl T.gb_list bt_list rfl) pa_nil))))) (pw_or1 (pt_not (pt_val (pe_call (ok__law_bound T) (hr.mono (by decide)) rfl T.g__law_bound T.F__law_bound.kp bind__law_bound .nil passE (pa_cons (pv 1) (pa_cons (pv 2) (pa_cons (pv 3) (pa_cons (pv 4) pa_nil)))))))))) (pss_cons (ps_ret pe_bl) pss_nil) pss_nil) (pss_cons (ps_if (pt_cmpR op_notBl (pe_call (ok_is_marks_bound T) (hr.mono (by decide)) rfl T.g_is_marks_bound T.F_is_marks_bound.kp bind_is_marks_bound .nil passE (pa_cons (pv 1) (pa_cons (pv 2) (pa_cons (pv 3) (pa_cons (pv 4) pa_nil))))) pe_bl (nomark _)) (pss_cons (ps_ret pe_bl) pss_nil) pss_nil) (pss_cons (ps_if (pt_cmpR op_notBl (pe_call (ok_is_marks_bound T) (hr.mono (by decide)) rfl T.g_is_marks_bound T.F_is_marks_bound.kp bind_is_marks_bound .nil passE (pa_cons (pv 1) (pa_cons (pv 2) (pa_cons (pe_slice (r := rSlL K) sl_list (pv 3) po_none (po_some (pe_un un_neg pe_int))) (pa_cons (pv 4) pa_nil))))) pe_bl (nomark _)) (pss_cons (ps_ret pe_bl) pss_nil) pss_nil) (pss_cons (ps_for (passes_of rfl) rfl (pi_range1 (by rfl) T.gb_range (pa_cons pe_int pa_nil)) (pg_name (i := 5) sc__law_bounds_right.nd rfl (Or.inl rfl)) (pss_cons (ps_set (i := 6) sc__law_bounds_right.nd rfl (Or.inl rfl) (pe_call (ok__law_take T) (hr.mono (by decide)) rfl T.g__law_take T.F__law_take.kp bind__law_take .nil passE (pa_cons (pv 0) (pa_cons (pe_callB (r := rLen1 K) call_len_seq (by rfl) T.gb_len bt_len (pa_cons (pv 1) pa_nil)) pa_nil)))) (pss_cons (ps_set (i := 7) sc__law_bounds_right.nd rfl (Or.inl rfl) (pe_lst (pa_cons (pe_op op_sub (pe_call (ok__law_take T) (hr.mono (by decide)) rfl T.g__law_take T.F__law_take.kp bind__law_take .nil passE (pa_cons (pv 0) (pa_cons pe_int pa_nil))) pe_int) (pa_cons (pe_op op_sub (pe_call (ok__law_take T) (hr.mono (by decide)) rfl T.g__law_take T.F__law_take.kp bind__law_take .nil passE (pa_cons (pv 0) (pa_cons pe_int pa_nil))) pe_int) pa_nil)))) (pss_cons (ps_set (i := 8) sc__law_bounds_right.nd rfl (Or.inl rfl) (pe_tup (pa_cons (pe_op op_add (pe_ix (r := rIxT K) ix_tup (pe_ix (r := rIxL K) ix_list (pv 3) (pv 6) (fun _ _ => rfl)) pe_int (fun _ _ => rfl)) (pe_ix (r := rIxL K) ix_list (pv 7) pe_int (fun _ _ => rfl))) (pa_cons (pe_op op_add (pe_ix (r := rIxT K) ix_tup (pe_ix (r := rIxL K) ix_list (pv 3) (pv 6) (fun _ _ => rfl)) pe_int (fun _ _ => rfl)) (pe_ix (r := rIxL K) ix_list (pv 7) pe_int (fun _ _ => rfl))) pa_nil)))) (pss_cons (ps_set (i := 9) sc__law_bounds_right.nd rfl (Or.inl rfl) (pe_op op_cat (pe_op op_cat (pe_slice (r := rSlL K) sl_list (pv 3) po_none (po_some (pv 6))) (pe_lst (pa_cons (pv 8) pa_nil))) (pe_slice (r := rSlL K) sl_list (pv 3) (po_some (pe_op op_add (pv 6) pe_int)) po_none))) (pss_cons (ps_set (i := 10) sc__law_bounds_right.nd rfl (Or.inl rfl) (pe_call (ok_is_marks_bound T) (hr.mono (by decide)) rfl T.g_is_marks_bound T.F_is_marks_bound.kp bind_is_marks_bound .nil passE (pa_cons (pv 1) (pa_cons (pv 2) (pa_cons (pv 9) (pa_cons (pv 4) pa_nil)))))) (pss_cons (ps_if (PW.pt (pw_or (pt_not (pt_val (pe_callB (r := rIsi K) call_isi (by rfl) T.gb_isinstance bt_isinstance (pa_cons (pv 10) (pa_cons (pe_bltn (v := .ty "bool") rfl T.gb_bool bt_bool rfl) pa_nil))))) (pw_or1 (pt_cmpR op_ne (pv 10) (pe_call (ok__law_bound T) (hr.mono (by decide)) rfl T.g__law_bound T.F__law_bound.kp bind__law_bound .nil passE (pa_cons (pv 1) (pa_cons (pv 2) (pa_cons (pv 9) (pa_cons (pv 4) pa_nil))))) (nomark _))))) (pss_cons (ps_ret pe_bl) pss_nil) pss_nil) pss_nil))))))) (pss_cons (ps_ret pe_bl) pss_nil))))), ?_⟩
    refine s_if (E := E) (K := K) (σ := [some (.ref p0), some v_parents, some v_wanted, some v_bounds, some v_many, none, none, none, none, none, none]) (t_or (t_not (t_B (x_cb (o_isi (n := "list") (by decide +kernel)) (a_cons (x_var (i := 3) rfl (Rp.mono _ (Ex.refl _) exz r_bounds)) (a_one (x_c (R := pY "list") (a := ()) fun _ _ => rfl)))))) (t_not (t_B (x_call (a_cons (x_var (i := 1) rfl (Rp.mono _ (Ex.refl _) exz r_parents)) (a_cons (x_var (i := 2) rfl (Rp.mono _ (Ex.refl _) exz r_wanted)) (a_cons (x_var (i := 3) rfl (Rp.mono _ (Ex.refl _) exz r_bounds)) (a_one (x_var (i := 4) rfl (Rp.mono _ (Ex.refl _) exz r_many)))))))))) hs (fun _ _ h => h.elim) hm (fun I_1 H_2 e_3 s_4 hm => ?_) (fun I_5 H_6 e_7 s_8 hm => ?_)
    · refine q_ret (tz := tNext) (E := E) (K := K) (σ := [some (.ref p0), some v_parents, some v_wanted, some v_bounds, some v_many, none, none, none, none, none, none]) x_bl s_4 (fun _ _ h => h.elim) hm fun a_9 v_10 I_11 H_12 e_13 s_14 r_15 hm => ?_
      exact ret_pool hm (e_3.trans e_13) (off_ex (C := C0) (p := p0)) s_14 hc0 (Rt.mono _ (e_3.trans e_13) exz hx0) r_15
    · refine s_if (E := E) (K := K) (σ := [some (.ref p0), some v_parents, some v_wanted, some v_bounds, some v_many, none, none, none, none, none, none]) (t_test (x_op o_notB (x_call (a_cons (x_var (i := 1) rfl (Rp.mono _ e_7 exz r_parents)) (a_cons (x_var (i := 2) rfl (Rp.mono _ e_7 exz r_wanted)) (a_cons (x_var (i := 3) rfl (Rp.mono _ e_7 exz r_bounds)) (a_one (x_var (i := 4) rfl (Rp.mono _ e_7 exz r_many))))))) x_bl)) s_8 (fun _ _ h => h.elim) hm (fun I_16 H_17 e_18 s_19 hm => ?_) (fun I_20 H_21 e_22 s_23 hm => ?_)
      · refine q_ret (tz := tNext) (E := E) (K := K) (σ := [some (.ref p0), some v_parents, some v_wanted, some v_bounds, some v_many, none, none, none, none, none, none]) x_bl s_19 (fun _ _ h => h.elim) hm fun a_24 v_25 I_26 H_27 e_28 s_29 r_30 hm => ?_
        exact ret_pool hm (e_7.trans (e_18.trans e_28)) (off_ex (C := C0) (p := p0)) s_29 hc0 (Rt.mono _ (e_7.trans (e_18.trans e_28)) exz hx0) r_30
      · refine s_if (E := E) (K := K) (σ := [some (.ref p0), some v_parents, some v_wanted, some v_bounds, some v_many, none, none, none, none, none, none]) (t_test (x_op o_notB (x_call (a_cons (x_var (i := 1) rfl (Rp.mono _ (e_7.trans e_22) exz r_parents)) (a_cons (x_var (i := 2) rfl (Rp.mono _ (e_7.trans e_22) exz r_wanted)) (a_cons (x_sl (x_v (x_var (i := 3) rfl (Rp.mono _ (e_7.trans e_22) exz r_bounds))) p_none (p_some (x_un o_neg (x_int (i := 1))))) (a_one (x_var (i := 4) rfl (Rp.mono _ (e_7.trans e_22) exz r_many))))))) x_bl)) s_23 (fun _ _ h => h.elim) hm (fun I_31 H_32 e_33 s_34 hm => ?_) (fun I_35 H_36 e_37 s_38 hm => ?_)
        · refine q_ret (tz := tNext) (E := E) (K := K) (σ := [some (.ref p0), some v_parents, some v_wanted, some v_bounds, some v_many, none, none, none, none, none, none]) x_bl s_34 (fun _ _ h => h.elim) hm fun a_39 v_40 I_41 H_42 e_43 s_44 r_45 hm => ?_
          exact ret_pool hm (e_7.trans (e_22.trans (e_33.trans e_43))) (off_ex (C := C0) (p := p0)) s_44 hc0 (Rt.mono _ (e_7.trans (e_22.trans (e_33.trans e_43))) exz hx0) r_45
        · refine s_forR (E := E) (K := K) (σ := [some (.ref p0), some v_parents, some v_wanted, some v_bounds, some v_many, none, none, none, none, none, none]) (fun (z_46 : Pl) σ2 I_54 C_55 => ∃ w_48 : Option V, ∃ w_49 : Option V, ∃ w_50 : Option V, ∃ w_51 : Option V, ∃ w_52 : Option V, ∃ w_53 : Option V, σ2 = [some (.ref p0), some v_parents, some v_wanted, some v_bounds, some v_many, w_48, w_49, w_50, w_51, w_52, w_53] ∧ (∃ ws_56 : List V, C_55 p0 = some (.lst ws_56) ∧ Rt.r pM z_46 ws_56 I_54 Z) ∧ Ex (off C0 p0) C_55) (i_rng1 (a_one (x_int (i := 6)))) s_38 (fun _ _ h => h.elim) hm (fun _ e_68 => ⟨none, none, none, none, none, none, rfl, ⟨_, hc0, Rt.mono _ (Ex.trans (e_7.trans (e_22.trans e_37)) e_68) exz hx0⟩, (off_ex (C := C0) (p := p0))⟩) (fun _ _ _ _ _ => trivial) (fun _ _ _ _ _ e ⟨w_48, w_49, w_50, w_51, w_52, w_53, hs_47, ⟨ws_56, hc_57, hx_58⟩, fr_59⟩ => ⟨w_48, w_49, w_50, w_51, w_52, w_53, hs_47, ⟨ws_56, hc_57, Rt.mono _ e exz hx_58⟩, fr_59⟩) (fun N x_60 v_61 z_46 σ2 I_62 C_63 H_64 e_65 s_66 ⟨w_48, w_49, w_50, w_51, w_52, w_53, hs_47, ⟨ws_56, hc_57, hx_58⟩, fr_59⟩ r_67 hm => ?_) (fun z_139 σ2 I_134 C_135 H_136 e_137 s_138 ⟨w_141, w_142, w_143, w_144, w_145, w_146, hs_140, ⟨ws_149, hc_150, hx_151⟩, fr_152⟩ hm => ?_)
          · subst hs_47
            refine g1 (K := K) x_60 v_61 I_62 C_63 H_64 _ s_66 r_67 fun σ2 ⟨v_69, hs_71, r_70⟩ => ?_
            subst hs_71
            refine qm_asg (E := E) (K := K) (σ := [some (.ref p0), some v_parents, some v_wanted, some v_bounds, some v_many, some v_69, w_49, w_50, w_51, w_52, w_53]) (i := 6) (m_callM (i := 0) rfl (am_pure (a_one (x_cb o_len (a_one (x_v (x_var (i := 1) rfl (Rp.mono _ (e_7.trans (e_22.trans (e_37.trans e_65))) exz r_parents)))))))) s_66 hc_57 (Rt.mono _ (Ex.refl _) exz hx_58) hm fun k_72 v_73 ws_79 I_74 C_80 H_75 e_76 s_77 hc_81 k_82 hx_83 r_78 hm => ?_
            have fr_84 := fr_pool fr_59 k_82
            refine qm_asg (E := E) (K := K) (σ := [some (.ref p0), some v_parents, some v_wanted, some v_bounds, some v_many, some v_69, some v_73, w_50, w_51, w_52, w_53]) (i := 7) (m_lst (alm_cons off_same (m_op (fun _ => o_sub) off_same (m_callM (i := 0) rfl (am_pure (a_one (x_int (i := 3))))) (m_pure (x_int (i := 1)))) (alm_cons off_same (m_op (fun _ => o_sub) off_same (m_callM (i := 0) rfl (am_pure (a_one (x_int (i := 3))))) (m_pure (x_int (i := 1)))) alm_nil)) (Nat.le_of_ble_eq_true rfl)) s_77 hc_81 (Rt.mono _ (Ex.refl _) exz hx_83) hm fun more_85 v_86 ws_92 I_87 C_93 H_88 e_89 s_90 hc_94 k_95 hx_96 r_91 hm => ?_
            have fr_97 := fr_pool fr_84 k_95
            refine q_asg (E := E) (K := K) (σ := [some (.ref p0), some v_parents, some v_wanted, some v_bounds, some v_many, some v_69, some v_73, some v_86, w_51, w_52, w_53]) (i := 8) (x_tup (a_cons (x_op o_add (x_k (k := ((0 : Nat) : Int)) (o_pj pj0) (x_op o_ix (x_v (x_var (i := 3) rfl (Rp.mono _ (e_7.trans (e_22.trans (e_37.trans (e_65.trans (e_76.trans e_89))))) exz r_bounds))) (x_var (i := 6) rfl (Rp.mono _ e_89 exz r_78)))) (x_op o_ix (x_v (x_var (i := 7) rfl (Rp.mono _ (Ex.refl _) exz r_91))) (x_int (i := 0)))) (a_one (x_op o_add (x_k (k := ((1 : Nat) : Int)) (o_pj (pjs pj1)) (x_op o_ix (x_v (x_var (i := 3) rfl (Rp.mono _ (e_7.trans (e_22.trans (e_37.trans (e_65.trans (e_76.trans e_89))))) exz r_bounds))) (x_var (i := 6) rfl (Rp.mono _ e_89 exz r_78)))) (x_op o_ix (x_v (x_var (i := 7) rfl (Rp.mono _ (Ex.refl _) exz r_91))) (x_int (i := 1)))))) (Nat.le_of_ble_eq_true rfl)) s_90 (fun _ _ h => h.elim) hm fun pair_98 v_99 I_100 H_101 e_102 s_103 r_104 hm => ?_
            refine q_asg (E := E) (K := K) (σ := [some (.ref p0), some v_parents, some v_wanted, some v_bounds, some v_many, some v_69, some v_73, some v_86, some v_99, w_52, w_53]) (i := 9) (x_op o_cat (x_v (x_op o_cat (x_v (x_sl (x_v (x_var (i := 3) rfl (Rp.mono _ (e_7.trans (e_22.trans (e_37.trans (e_65.trans (e_76.trans (e_89.trans e_102)))))) exz r_bounds))) p_none (p_some (x_var (i := 6) rfl (Rp.mono _ (e_89.trans e_102) exz r_78))))) (x_v (x_lst (al_cons (x_var (i := 8) rfl (Rp.mono _ (Ex.refl _) exz r_104)) al_nil) (Nat.le_of_ble_eq_true rfl))))) (x_v (x_sl (x_v (x_var (i := 3) rfl (Rp.mono _ (e_7.trans (e_22.trans (e_37.trans (e_65.trans (e_76.trans (e_89.trans e_102)))))) exz r_bounds))) (p_some (x_op o_add (x_var (i := 6) rfl (Rp.mono _ (e_89.trans e_102) exz r_78)) (x_int (i := 1)))) p_none))) s_103 (fun _ _ h => h.elim) hm fun bad_105 v_106 I_107 H_108 e_109 s_110 r_111 hm => ?_
            refine q_asg (E := E) (K := K) (σ := [some (.ref p0), some v_parents, some v_wanted, some v_bounds, some v_many, some v_69, some v_73, some v_86, some v_99, some v_106, w_53]) (i := 10) (x_call (a_cons (x_var (i := 1) rfl (Rp.mono _ (e_7.trans (e_22.trans (e_37.trans (e_65.trans (e_76.trans (e_89.trans (e_102.trans e_109))))))) exz r_parents)) (a_cons (x_var (i := 2) rfl (Rp.mono _ (e_7.trans (e_22.trans (e_37.trans (e_65.trans (e_76.trans (e_89.trans (e_102.trans e_109))))))) exz r_wanted)) (a_cons (x_var (i := 9) rfl (Rp.mono _ (Ex.refl _) exz r_111)) (a_one (x_var (i := 4) rfl (Rp.mono _ (e_7.trans (e_22.trans (e_37.trans (e_65.trans (e_76.trans (e_89.trans (e_102.trans e_109))))))) exz r_many))))))) s_110 (fun _ _ h => h.elim) hm fun told_112 v_113 I_114 H_115 e_116 s_117 r_118 hm => ?_
            refine s_if (E := E) (K := K) (σ := [some (.ref p0), some v_parents, some v_wanted, some v_bounds, some v_many, some v_69, some v_73, some v_86, some v_99, some v_106, some v_113]) (t_or (t_not (t_B (x_cb (o_isi (n := "bool") (by decide +kernel)) (a_cons (x_var (i := 10) rfl (Rp.mono _ (Ex.refl _) exz r_118)) (a_one (x_c (R := pY "bool") (a := ()) fun _ _ => rfl)))))) (t_test (x_op o_neB (x_var (i := 10) rfl (Rp.mono _ (Ex.refl _) exz r_118)) (x_call (a_cons (x_var (i := 1) rfl (Rp.mono _ (e_7.trans (e_22.trans (e_37.trans (e_65.trans (e_76.trans (e_89.trans (e_102.trans (e_109.trans e_116)))))))) exz r_parents)) (a_cons (x_var (i := 2) rfl (Rp.mono _ (e_7.trans (e_22.trans (e_37.trans (e_65.trans (e_76.trans (e_89.trans (e_102.trans (e_109.trans e_116)))))))) exz r_wanted)) (a_cons (x_var (i := 9) rfl (Rp.mono _ e_116 exz r_111)) (a_one (x_var (i := 4) rfl (Rp.mono _ (e_7.trans (e_22.trans (e_37.trans (e_65.trans (e_76.trans (e_89.trans (e_102.trans (e_109.trans e_116)))))))) exz r_many)))))))))) s_117 (fun _ _ h => h.elim) hm (fun I_119 H_120 e_121 s_122 hm => ?_) (fun I_123 H_124 e_125 s_126 hm => ?_)
            · refine q_ret (tz := tNext) (E := E) (K := K) (σ := [some (.ref p0), some v_parents, some v_wanted, some v_bounds, some v_many, some v_69, some v_73, some v_86, some v_99, some v_106, some v_113]) x_bl s_122 (fun _ _ h => h.elim) hm fun a_127 v_128 I_129 H_130 e_131 s_132 r_133 hm => ?_
              exact ret_pool hm (e_7.trans (e_22.trans (e_37.trans (e_65.trans (e_76.trans (e_89.trans (e_102.trans (e_109.trans (e_116.trans (e_121.trans e_131)))))))))) fr_97 s_132 hc_94 (Rt.mono _ (e_102.trans (e_109.trans (e_116.trans (e_121.trans e_131)))) exz hx_96) r_133
            · exact hm _ _ _ _ (e_76.trans (e_89.trans (e_102.trans (e_109.trans (e_116.trans e_125))))) s_126 ⟨some v_69, some v_73, some v_86, some v_99, some v_106, some v_113, rfl, ⟨_, hc_94, Rt.mono _ (e_102.trans (e_109.trans (e_116.trans e_125))) exz hx_96⟩, fr_97⟩
          subst hs_140
          refine q_ret (tz := tNext) (E := E) (K := K) (σ := [some (.ref p0), some v_parents, some v_wanted, some v_bounds, some v_many, w_141, w_142, w_143, w_144, w_145, w_146]) x_bl s_138 (fun _ _ h => h.elim) hm fun a_153 v_154 I_155 H_156 e_157 s_158 r_159 hm => ?_
          exact ret_pool hm (e_7.trans (e_22.trans (e_37.trans (e_137.trans e_157)))) fr_152 s_158 hc_150 (Rt.mono _ e_157 exz hx_151) r_159
def m_law (a_script : List Int) : Res Bool :=
  ((poolR a_script).bind fun (pool_10 : Pl) => (((callM m__law_take (liftM (Res.ok (15 : Int)))) pool_10).bind fun (size_11 : Int × Pl) => ((ifMR (binM eqR (callM m__law_take (liftM (Res.ok (8 : Int)))) (liftM (Res.ok (0 : Int)))) size_11.2 (fun (y_31 : Pl) => ((Res.ok (40 : Int)).bind fun (size_53 : Int) => (Res.ok (y_31, size_53)))) (fun (y_37 : Pl) => (Res.ok (y_37, size_11.1)))).bind fun (z_43 : (Pl × Int)) => (((fun y_80 => ((liftM (un rng1 (Res.ok z_43.2))) y_80).bind fun b => mapM (fun (x_73 : Int) => (binM rSub (callM m__law_take (liftM (bin rAdd (Res.ok x_73) (Res.ok (1 : Int))))) (liftM (Res.ok (1 : Int))))) b.1 b.2) z_43.1).bind fun (parents_81 : (List Int) × Pl) => (((un rng1 (Res.ok z_43.2)).bind (filR (fun (x_93 : Int) => (bin ninR (Res.ok x_93) (Res.ok parents_81.1))) (fun (x_93 : Int) => (Res.ok x_93)))).bind fun (ends_100 : (List Int)) => (ifR (bin neR (un m_leaves (Res.ok parents_81.1)) (Res.ok ends_100)) ((Res.ok false).bind fun a_115 => Res.ok a_115) (((fun y_137 => ((liftM (Res.ok ends_100)) y_137).bind fun b => filM (fun (x_130 : Int) => (binM eqR (callM m__law_take (liftM (Res.ok (2 : Int)))) (liftM (Res.ok (0 : Int))))) (fun (x_130 : Int) => (liftM (Res.ok x_130))) b.1 b.2) parents_81.2).bind fun (wanted_138 : (List Int) × Pl) => ((un idR (Res.ok wanted_138.1)).bind fun (copy_150 : (List Int)) => ((un (fun (p : ((List Int) × (List Int))) => m__law_costs p.1 p.2) (pair (Res.ok parents_81.1) (Res.ok wanted_138.1))).bind fun (costs_157 : (List (Int × Int))) => ((un sumR ((un rng1 (Res.ok z_43.2)).bind (filR (fun (x_164 : Int) => (bin rLt (bin ix (Res.ok parents_81.1) (Res.ok x_164)) (Res.ok (0 : Int)))) (fun (x_164 : Int) => (un (fun p => Res.ok p.1) (bin ix (Res.ok costs_157) (Res.ok x_164))))))).bind fun (least_171 : Int) => ((un (fun (p : ((List Int) × (List Int))) => m_least_marks p.1 p.2) (pair (Res.ok parents_81.1) (Res.ok wanted_138.1))).bind fun (told_178 : Int) => (ifR (orR (un notR (un (fun _ => Res.ok true) (pair (Res.ok told_178) (Res.ok ())))) (orR (bin neR (Res.ok told_178) (Res.ok least_171)) (bin neR (Res.ok wanted_138.1) (Res.ok copy_150)))) ((Res.ok false).bind fun a_193 => Res.ok a_193) (((binM ix (consM (liftM (Res.ok least_171)) (consM (liftM (un max2 (pair (Res.ok (0 : Int)) (bin rSub (Res.ok least_171) (Res.ok (1 : Int)))))) (consM (callM m__law_take (liftM (Res.ok (41 : Int)))) (liftM (Res.ok []))))) (callM m__law_take (liftM (Res.ok (3 : Int))))) wanted_138.2).bind fun (many_200 : Int × Pl) => ((un (fun (p : ((List Int) × (List Int) × Int)) => m_naming_paper p.1 p.2.1 p.2.2) (pair (Res.ok parents_81.1) (pair (Res.ok wanted_138.1) (Res.ok many_200.1)))).bind fun (paper_212 : ((Str × (List (Int × Str))) ⊕ (Str × (List (Int × Int))))) => (ifR (orR (un notR (un (fun p => Res.ok (isX true (fun _ => true) p.1)) (pair (Res.ok paper_212) (Res.ok ())))) (orR (bin neR (un (fun _ => Res.ok (2 : Int)) (Res.ok paper_212)) (Res.ok (2 : Int))) (bin neR (un (pjS (fun p => p.1) (fun p => p.1)) (Res.ok paper_212)) (bin ix (consR (Res.ok ("bounds" : Str)) (consR (Res.ok ("marks" : Str)) (Res.ok []))) (un b2iR (bin rLe (Res.ok least_171) (Res.ok many_200.1))))))) ((Res.ok false).bind fun a_227 => Res.ok a_227) (((un rng1 (Res.ok (4 : Int))).bind fun xs => loopR (fun (x_241 : Int) (z_234 : Unit) => (ifR (bin neR (un (fun (p : ((List Int) × (List Int) × Int)) => m__law_wanted_fault p.1 p.2.1 p.2.2) (pair (Res.ok parents_81.1) (pair (bin rCatR (Res.ok wanted_138.1) (consR (Res.ok z_43.2) (Res.ok []))) (Res.ok x_241)))) (un rLen (Res.ok wanted_138.1))) ((Res.ok false).bind fun a_261 => Res.ok (Out.rt a_261)) (ifR (andR (bin rGt (un rLen (Res.ok wanted_138.1)) (Res.ok (0 : Int))) (bin neR (un (fun (p : ((List Int) × (List Int) × Int)) => m__law_wanted_fault p.1 p.2.1 p.2.2) (pair (Res.ok parents_81.1) (pair (bin rCatR (Res.ok wanted_138.1) (slR (Res.ok wanted_138.1) (someR (un rNeg (Res.ok (1 : Int)))) (Res.ok none))) (Res.ok x_241)))) (un rLen (Res.ok wanted_138.1)))) ((Res.ok false).bind fun a_276 => Res.ok (Out.rt a_276)) (Res.ok (Out.nx ()))))) xs ()).bind fun (o : Out Unit Bool) => match o with | .nx z_288 => (ifR (bin rGt (Res.ok least_171) (Res.ok many_200.1)) (((callM (fun (p : ((List Int) × (List Int) × (List (Int × Int)) × Int)) => m__law_bounds_right p.1 p.2.1 p.2.2.1 p.2.2.2) (liftM (pair (Res.ok parents_81.1) (pair (Res.ok wanted_138.1) (pair (un (fun p => Res.ok p.2) (un getR (Res.ok paper_212))) (Res.ok many_200.1)))))) many_200.2).bind fun a_303 => Res.ok a_303.1) ((un (fun p => Res.ok p.2) (un getL (Res.ok paper_212))).bind fun (marks_315 : (List (Int × Str))) => (ifR (orR (un notR (un (fun (p : ((List Int) × (List (Int × Str)))) => m__law_are_marks p.1 p.2) (pair (Res.ok parents_81.1) (Res.ok marks_315)))) (orR (bin rGt (un rLen (Res.ok marks_315)) (Res.ok many_200.1)) (bin neR (un (fun (p : ((List Int) × (List (Int × Str)))) => m__law_named p.1 p.2) (pair (Res.ok parents_81.1) (Res.ok marks_315))) (Res.ok wanted_138.1)))) ((Res.ok false).bind fun a_330 => Res.ok a_330) (ifR (orR (bin neR (un (fun (p : ((List Int) × (List Int) × (List (Int × Str)))) => m_is_naming p.1 p.2.1 p.2.2) (pair (Res.ok parents_81.1) (pair (Res.ok wanted_138.1) (Res.ok marks_315)))) (Res.ok true)) (bin neR (un (fun (p : ((List Int) × (List Int) × (List (Int × Int)) × Int)) => m_is_marks_bound p.1 p.2.1 p.2.2.1 p.2.2.2) (pair (Res.ok parents_81.1) (pair (Res.ok wanted_138.1) (pair (Res.ok costs_157) (Res.ok many_200.1))))) (Res.ok false))) ((Res.ok false).bind fun a_345 => Res.ok a_345) (((andM (callM (fun (p : ((List Int) × (List Int) × (List (Int × Str)))) => m__law_changes_right p.1 p.2.1 p.2.2) (liftM (pair (Res.ok parents_81.1) (pair (Res.ok wanted_138.1) (Res.ok marks_315))))) (callM m__law_drawn_marks_right (liftM (Res.ok parents_81.1)))) many_200.2).bind fun a_352 => Res.ok a_352.1))))) | .br _ => Res.bad | .rt r => Res.ok r))))))))))))))))
abbrev N_law : List Str := ["script", "pool", "size", "parents", "ends", "wanted", "copy", "costs", "least", "told", "many", "paper", "which", "marks", "k"]
theorem sc_law : FnScope N_law ["script"] (defScope s_law) := ⟨rfl, rfl, rfl, by decide +kernel, rfl, by decide +kernel, by decide +kernel⟩
theorem ok_law (T : Tx K mg) : FnOk P w K mg base CX0 7 T.f_law T.d_law ["script"] (spLaw K m_law) := by
  refine T.F_law.ok sc_law (fun vs H Q E h => ?_) (fun cdv A outer s H vs Q E hr h => ?_)
  · obtain ⟨a, ns, rfl, _⟩ := h
    rfl
  · obtain ⟨a0, a_script, rfl, hS, hz, hm⟩ := h
    obtain ⟨I0, hs, r_script⟩ := law_start hS hz
    unfold m_law at hm
    refine ⟨_, (pss_cons (ps_set (i := 1) sc_law.nd rfl (Or.inr rfl) (pe_call (ok__law_pool T) (hr.mono (by decide)) rfl T.g__law_pool T.F__law_pool.kp bind__law_pool .nil passL (pa_cons (pv 0) pa_nil))) (pss_cons (ps_set (i := 2) sc_law.nd rfl (Or.inl rfl) (pe_call (ok__law_take T) (hr.mono (by decide)) rfl T.g__law_take T.F__law_take.kp bind__law_take .nil passL (pa_cons (pv 1) (pa_cons pe_int pa_nil)))) (Evl.pss_cut (ps_if (pt_cmpR op_eq (pe_call (ok__law_take T) (hr.mono (by decide)) rfl T.g__law_take T.F__law_take.kp bind__law_take .nil passL (pa_cons (pv 1) (pa_cons pe_int pa_nil))) pe_int (nomark _)) (pss_cons (ps_set (i := 2) sc_law.nd rfl (Or.inl rfl) pe_int) pss_nil) pss_nil) (pss_cons (ps_set (i := 3) sc_law.nd rfl (Or.inr rfl) (pe_lc (own := [("k", 14)]) rfl sc_law.nd (pi_range1 (by rfl) T.gb_range (pa_cons (pv 2) pa_nil)) (blkOk_by (own := [("k", 14)]) (N := N_law) (sc := defScope s_law) (by decide +kernel)) (fun _ _ _ _ _ => (pg_name (i := 14) sc_law.nd rfl (Or.inl rfl))) (fun _ _ _ _ _ => pts_nil) (fun _ _ _ _ _ => (pe_op op_sub (pe_call (ok__law_take T) (hr.mono (by decide)) rfl T.g__law_take T.F__law_take.kp bind__law_take .nil passL (pa_cons (pv 1) (pa_cons (pe_op op_add (pv 14) pe_int) pa_nil))) pe_int)))) (pss_cons (ps_setLc (i := 4) (own := [("k", 14)]) rfl sc_law.nd rfl rfl (sw_true rfl rfl rfl (by decide +kernel)) (pi_range1 (by rfl) T.gb_range (pa_cons (pv 2) pa_nil)) (blkOk_by (own := [("k", 14)]) (N := N_law) (sc := defScope s_law) (by decide +kernel)) (fun _ _ _ _ _ => (pg_name (i := 14) sc_law.nd rfl (Or.inl rfl))) (fun _ _ _ _ _ => (pts_one (pt_cmpR (r := rIn K true) op_notIn_seq (pv 14) (pv 3) rfl))) (fun _ _ _ _ _ => (pv 14))) (pss_cons (ps_if (pt_cmpR (r := rNeD K) (op_neD hr.units) (pe_call (ok_leaves T) (hr.mono (by decide)) rfl T.g_leaves T.F_leaves.kp bind_leaves .nil passL (pa_cons (pv 3) pa_nil)) (pv 4) (nomark _)) (pss_cons (ps_ret pe_bl) pss_nil) pss_nil) (pss_cons (ps_setLc (i := 5) (own := [("k", 14)]) rfl sc_law.nd rfl rfl (sw_true rfl rfl rfl (by decide +kernel)) (show PI _ _ _ (iList K _) from pi_list (pv 4)) (blkOk_by (own := [("k", 14)]) (N := N_law) (sc := defScope s_law) (by decide +kernel)) (fun _ _ _ _ _ => (pg_name (i := 14) sc_law.nd rfl (Or.inl rfl))) (fun _ _ _ _ _ => (pts_one (pt_cmpR op_eq (pe_call (ok__law_take T) (hr.mono (by decide)) rfl T.g__law_take T.F__law_take.kp bind__law_take .nil passL (pa_cons (pv 1) (pa_cons pe_int pa_nil))) pe_int (nomark _)))) (fun _ _ _ _ _ => (pv 14))) (pss_cons (ps_set (i := 6) sc_law.nd rfl (Or.inl rfl) (pe_callTy (r := rList1 K) call_list_of (by rfl) T.gb_list bt_list (pa_cons (pv 5) pa_nil))) (pss_cons (ps_set (i := 7) sc_law.nd rfl (Or.inr rfl) (pe_call (ok__law_costs T) (hr.mono (by decide)) rfl T.g__law_costs T.F__law_costs.kp bind__law_costs .nil passL (pa_cons (pv 3) (pa_cons (pv 5) pa_nil)))) (pss_cons (ps_set (i := 8) sc_law.nd rfl (Or.inl rfl) (pe_callB (r := rSum K) (cr_sum rfl) (by rfl) T.gb_sum bt_sum (pa_cons (pe_lc (own := [("k", 14)]) rfl sc_law.nd (pi_range1 (by rfl) T.gb_range (pa_cons (pv 2) pa_nil)) (blkOk_by (own := [("k", 14)]) (N := N_law) (sc := defScope s_law) (by decide +kernel)) (fun _ _ _ _ _ => (pg_name (i := 14) sc_law.nd rfl (Or.inl rfl))) (fun _ _ _ _ _ => (pts_one (pt_cmpR op_lt (pe_ix (r := rIxL K) ix_list (pv 3) (pv 14) (fun _ _ => rfl)) pe_int (nomark _)))) (fun _ _ _ _ _ => (pe_ix (r := rIxT K) ix_tup (pe_ix (r := rIxL K) ix_list (pv 7) (pv 14) (fun _ _ => rfl)) pe_int (fun _ _ => rfl)))) pa_nil))) (pss_cons (ps_set (i := 9) sc_law.nd rfl (Or.inl rfl) (pe_call (ok_least_marks T) (hr.mono (by decide)) rfl T.g_least_marks T.F_least_marks.kp bind_least_marks .nil passL (pa_cons (pv 3) (pa_cons (pv 5) pa_nil)))) (pss_cons (ps_if (PW.pt (pw_or (pt_not (pt_val (pe_callB (r := rIsi K) call_isi (by rfl) T.gb_isinstance bt_isinstance (pa_cons (pv 9) (pa_cons (pe_bltn (v := .ty "int") rfl T.gb_int bt_int rfl) pa_nil))))) (pw_or (pt_cmpR op_ne (pv 9) (pv 8) (nomark _)) (pw_or1 (pt_cmpR (r := rNeD K) (op_neD hr.units) (pv 5) (pv 6) (nomark _)))))) (pss_cons (ps_ret pe_bl) pss_nil) pss_nil) (pss_cons (ps_set (i := 10) sc_law.nd rfl (Or.inl rfl) (pe_ix (r := rIxL K) ix_list (pe_lst (pa_cons (pv 8) (pa_cons (pe_callB (call_max2 rfl) (by rfl) T.gb_max bt_max (pa_cons pe_int (pa_cons (pe_op op_sub (pv 8) pe_int) pa_nil))) (pa_cons (pe_call (ok__law_take T) (hr.mono (by decide)) rfl T.g__law_take T.F__law_take.kp bind__law_take .nil passL (pa_cons (pv 1) (pa_cons pe_int pa_nil))) pa_nil)))) (pe_call (ok__law_take T) (hr.mono (by decide)) rfl T.g__law_take T.F__law_take.kp bind__law_take .nil passL (pa_cons (pv 1) (pa_cons pe_int pa_nil))) (fun _ _ => rfl))) (pss_cons (ps_set (i := 11) sc_law.nd rfl (Or.inl rfl) (pe_call (ok_naming_paper T) (hr.mono (by decide)) rfl T.g_naming_paper T.F_naming_paper.kp bind_naming_paper .nil passL (pa_cons (pv 3) (pa_cons (pv 5) (pa_cons (pv 10) pa_nil))))) (pss_cons (ps_if (PW.pt (pw_or (pt_not (pt_val (pe_callB (r := rIsi K) call_isi (by rfl) T.gb_isinstance bt_isinstance (pa_cons (pv 11) (pa_cons (pe_bltn (v := .ty "tuple") rfl T.gb_tuple bt_tuple rfl) pa_nil))))) (pw_or (pt_cmpR op_ne (pe_callB (r := rLen1 K) call_len_seq (by rfl) T.gb_len bt_len (pa_cons (pv 11) pa_nil)) pe_int (nomark _)) (pw_or1 (pt_cmpR op_ne (pe_ix (r := rIxT K) ix_tup (pv 11) pe_int (fun _ _ => rfl)) (pe_ix (r := rIxL K) ix_list (pe_lst (pa_cons pe_str (pa_cons pe_str pa_nil))) (pe_callTy call_int1 (by rfl) T.gb_int bt_int (pa_cons (pe_cmpR op_le (pv 8) (pv 10) (nomark _)) pa_nil)) (fun _ _ => rfl)) (nomark _)))))) (pss_cons (ps_ret pe_bl) pss_nil) pss_nil) (pss_cons (ps_for (passes_of rfl) rfl (pi_range1 (by rfl) T.gb_range (pa_cons pe_int pa_nil)) (pg_name (i := 12) sc_law.nd rfl (Or.inl rfl)) (pss_cons (ps_if (pt_cmpR op_ne (pe_call (ok__law_wanted_fault T) (hr.mono (by decide)) rfl T.g__law_wanted_fault T.F__law_wanted_fault.kp bind__law_wanted_fault .nil passL (pa_cons (pv 3) (pa_cons (pe_op op_cat (pv 5) (pe_lst (pa_cons (pv 2) pa_nil))) (pa_cons (pv 12) pa_nil)))) (pe_callB (r := rLen1 K) call_len_seq (by rfl) T.gb_len bt_len (pa_cons (pv 5) pa_nil)) (nomark _)) (pss_cons (ps_ret pe_bl) pss_nil) pss_nil) (pss_cons (ps_if (PW.pt (pw_and (pt_cmpR op_gt (pe_callB (r := rLen1 K) call_len_seq (by rfl) T.gb_len bt_len (pa_cons (pv 5) pa_nil)) pe_int (nomark _)) (pw_and1 (pt_cmpR op_ne (pe_call (ok__law_wanted_fault T) (hr.mono (by decide)) rfl T.g__law_wanted_fault T.F__law_wanted_fault.kp bind__law_wanted_fault .nil passL (pa_cons (pv 3) (pa_cons (pe_op op_cat (pv 5) (pe_slice (r := rSlL K) sl_list (pv 5) (po_some (pe_un un_neg pe_int)) po_none)) (pa_cons (pv 12) pa_nil)))) (pe_callB (r := rLen1 K) call_len_seq (by rfl) T.gb_len bt_len (pa_cons (pv 5) pa_nil)) (nomark _))))) (pss_cons (ps_ret pe_bl) pss_nil) pss_nil) pss_nil))) (pss_cons (ps_if (pt_cmpR op_gt (pv 8) (pv 10) (nomark _)) (pss_cons (ps_ret (pe_call (ok__law_bounds_right T) (hr.mono (by decide)) rfl T.g__law_bounds_right T.F__law_bounds_right.kp bind__law_bounds_right .nil passL (pa_cons (pv 1) (pa_cons (pv 3) (pa_cons (pv 5) (pa_cons (pe_ix (r := rIxT K) ix_tup (pv 11) pe_int (fun _ _ => rfl)) (pa_cons (pv 10) pa_nil))))))) pss_nil) pss_nil) (pss_cons (ps_set (i := 13) sc_law.nd rfl (Or.inl rfl) (pe_ix (r := rIxT K) ix_tup (pv 11) pe_int (fun _ _ => rfl))) (pss_cons (ps_if (PW.pt (pw_or (pt_not (pt_val (pe_call (ok__law_are_marks T) (hr.mono (by decide)) rfl T.g__law_are_marks T.F__law_are_marks.kp bind__law_are_marks .nil passL (pa_cons (pv 3) (pa_cons (pv 13) pa_nil))))) (pw_or (pt_cmpR op_gt (pe_callB (r := rLen1 K) call_len_seq (by rfl) T.gb_len bt_len (pa_cons (pv 13) pa_nil)) (pv 10) (nomark _)) (pw_or1 (pt_cmpR (r := rNeD K) (op_neD hr.units) (pe_call (ok__law_named T) (hr.mono (by decide)) rfl T.g__law_named T.F__law_named.kp bind__law_named .nil passL (pa_cons (pv 3) (pa_cons (pv 13) pa_nil))) (pv 5) (nomark _)))))) (pss_cons (ps_ret pe_bl) pss_nil) pss_nil) (pss_cons (ps_if (PW.pt (pw_or (pt_cmpR op_notBl (pe_call (ok_is_naming T) (hr.mono (by decide)) rfl T.g_is_naming T.F_is_naming.kp bind_is_naming .nil passL (pa_cons (pv 3) (pa_cons (pv 5) (pa_cons (pv 13) pa_nil)))) pe_bl (nomark _)) (pw_or1 (pt_cmpR op_notBl (pe_call (ok_is_marks_bound T) (hr.mono (by decide)) rfl T.g_is_marks_bound T.F_is_marks_bound.kp bind_is_marks_bound .nil passL (pa_cons (pv 3) (pa_cons (pv 5) (pa_cons (pv 7) (pa_cons (pv 10) pa_nil))))) pe_bl (nomark _))))) (pss_cons (ps_ret pe_bl) pss_nil) pss_nil) (pss_cons (ps_ret (pe_and (pe_call (ok__law_changes_right T) (hr.mono (by decide)) rfl T.g__law_changes_right T.F__law_changes_right.kp bind__law_changes_right .nil passL (pa_cons (pv 1) (pa_cons (pv 3) (pa_cons (pv 5) (pa_cons (pv 13) pa_nil))))) (pe_one (pe_call (ok__law_drawn_marks_right T) (hr.mono (by decide)) rfl T.g__law_drawn_marks_right T.F__law_drawn_marks_right.kp bind__law_drawn_marks_right .nil passL (pa_cons (pv 1) (pa_cons (pv 3) pa_nil)))))) pss_nil))))))))))))))))))))), ?_⟩
    refine q_mkpool (E := EZ) (K := K) (σ := [some (.ref a0), none, none, none, none, none, none, none, none, none, none, none, none, none, none]) (i := 1) (j := 0) rfl (Rp.mono _ (Ex.refl _) exz r_script) hs hm fun pool_10 p_1 ws_2 I_3 C_4 H_5 e_6 s_7 hc_8 hx_9 hm => ?_
    refine qm_asg (E := EZ) (K := K) (σ := [some (.ref a0), some (.ref p_1), none, none, none, none, none, none, none, none, none, none, none, none, none]) (i := 2) (m_callM (i := 1) rfl (am_pure (a_one (x_int (i := 15))))) s_7 hc_8 (Rt.mono _ (Ex.refl _) exz hx_9) hm fun size_11 v_12 ws_18 I_13 C_19 H_14 e_15 s_16 hc_20 k_21 hx_22 r_17 hm => ?_
    refine qm_ifj (E := EZ) (K := K) (σ := [some (.ref a0), some (.ref p_1), some v_12, none, none, none, none, none, none, none, none, none, none, none, none]) (fun (z_43 : (Pl × Int)) σ2 I_45 C_46 => ∃ v_50 : V, σ2 = [some (.ref a0), some (.ref p_1), some v_50, none, none, none, none, none, none, none, none, none, none, none, none] ∧ (∃ ws_47 : List V, C_46 p_1 = some (.lst ws_47) ∧ Rt.r pM z_43.1 ws_47 I_45 Z) ∧ Rp.r pI z_43.2 v_50 I_45 Z) (tm_test (m_op (fun _ => o_eqI) off_same (m_callM (i := 1) rfl (am_pure (a_one (x_int (i := 8))))) (m_pure (x_int (i := 0))))) s_16 hc_20 (Rt.mono _ (Ex.refl _) exz hx_22) hm (fun N y_31 ws_32 I_23 C_33 H_24 e_25 s_26 hc_34 k_35 hx_36 hm => ?_) (fun N y_37 ws_38 I_27 C_39 H_28 e_29 s_30 hc_40 k_41 hx_42 hm => ?_) (fun z_43 σ2 I_60 C_61 H_62 e_63 s_64 ⟨v_50, hs_44, ⟨ws_47, hc_48, hx_49⟩, r_51⟩ hm => ?_)
    · refine q_asg (E := EZ) (K := K) (σ := [some (.ref a0), some (.ref p_1), some v_12, none, none, none, none, none, none, none, none, none, none, none, none]) (i := 2) (x_int (i := 40)) s_26 (fun _ _ h => h.elim) hm fun size_53 v_54 I_55 H_56 e_57 s_58 r_59 hm => ?_
      exact hm _ _ _ _ (e_25.trans e_57) s_58 ⟨v_54, rfl, ⟨_, hc_34, Rt.mono _ e_57 exz hx_36⟩, Rp.mono _ (Ex.refl _) exz r_59⟩
    · exact hm _ _ _ _ e_29 s_30 ⟨v_12, rfl, ⟨_, hc_40, Rt.mono _ (Ex.refl _) exz hx_42⟩, Rp.mono _ e_29 exz r_17⟩
    subst hs_44
    refine qm_asg (E := EZ) (K := K) (σ := [some (.ref a0), some (.ref p_1), some v_50, none, none, none, none, none, none, none, none, none, none, none, none]) (i := 3) (m_lc off_same (im_pure (i_rng1 (a_one (x_var (i := 2) rfl (Rp.mono _ (Ex.refl _) exz r_51))))) g1 (fun _ _ _ _ ⟨_, h, _⟩ => by rw [h]; rfl) (fun x_73 σ2 I_74 C_75 e_76 c_77 ⟨v_78, h, r_79⟩ => by subst h; exact (m_op (fun _ => o_sub) off_same (m_callM (i := 1) rfl (am_pure (a_one (x_op o_add (x_var (i := 14) rfl (Rp.mono _ (Ex.refl _) exz r_79)) (x_int (i := 1)))))) (m_pure (x_int (i := 1)))))) s_64 hc_48 (Rt.mono _ (Ex.refl _) exz hx_49) hm fun parents_81 v_82 ws_88 I_83 C_89 H_84 e_85 s_86 hc_90 k_91 hx_92 r_87 hm => ?_
    refine q_asg (E := EZ) (K := K) (σ := [some (.ref a0), some (.ref p_1), some v_50, some v_82, none, none, none, none, none, none, none, none, none, none, none]) (i := 4) (x_lcg (i_rng1 (a_one (x_var (i := 2) rfl (Rp.mono _ e_85 exz r_51)))) g1 (fun _ _ _ _ ⟨_, h, _⟩ => by rw [h]; rfl) (fun x_93 σ2 I_94 C_95 e_96 c_97 ⟨v_98, h, r_99⟩ => by subst h; exact (t_test (x_op (o_nin fl_int) (x_var (i := 14) rfl (Rp.mono _ (Ex.refl _) exz r_99)) (x_v (x_var (i := 3) rfl (Rp.mono _ e_96 exz r_87)))))) (fun x_93 σ2 I_94 C_95 e_96 c_97 ⟨v_98, h, r_99⟩ => by subst h; exact (x_var (i := 14) rfl (Rp.mono _ (Ex.refl _) exz r_99))) (fun _ _ _ _ _ e ⟨v_98, h, r_99⟩ => ⟨v_98, h, Rp.mono _ e exz r_99⟩)) s_86 (fun _ _ h => h.elim) hm fun ends_100 v_101 I_102 H_103 e_104 s_105 r_106 hm => ?_
    refine s_if (E := EZ) (K := K) (σ := [some (.ref a0), some (.ref p_1), some v_50, some v_82, some v_101, none, none, none, none, none, none, none, none, none, none]) (t_test (x_op (o_neD (de_lst de_int) (de_lst de_int) (by decide)) (x_call (a_one (x_var (i := 3) rfl (Rp.mono _ e_104 exz r_87)))) (x_var (i := 4) rfl (Rp.mono _ (Ex.refl _) exz r_106)))) s_105 (fun _ _ h => h.elim) hm (fun I_107 H_108 e_109 s_110 hm => ?_) (fun I_111 H_112 e_113 s_114 hm => ?_)
    · refine q_ret (tz := tNext) (E := EZ) (K := K) (σ := [some (.ref a0), some (.ref p_1), some v_50, some v_82, some v_101, none, none, none, none, none, none, none, none, none, none]) x_bl s_110 (fun _ _ h => h.elim) hm fun a_115 v_116 I_117 H_118 e_119 s_120 r_121 hm => ?_
      exact hm v_116 H_118 r_121
    · refine qm_asg (E := EZ) (K := K) (σ := [some (.ref a0), some (.ref p_1), some v_50, some v_82, some v_101, none, none, none, none, none, none, none, none, none, none]) (i := 5) (m_lcg off_same (im_pure (i_list (x_var (i := 4) rfl (Rp.mono _ e_113 exz r_106)))) g1 (fun _ _ _ _ ⟨_, h, _⟩ => by rw [h]; rfl) (fun x_130 σ2 I_131 C_132 e_133 c_134 ⟨v_135, h, r_136⟩ => by subst h; exact (tm_test (m_op (fun _ => o_eqI) off_same (m_callM (i := 1) rfl (am_pure (a_one (x_int (i := 2))))) (m_pure (x_int (i := 0)))))) (fun x_130 σ2 I_131 C_132 e_133 c_134 ⟨v_135, h, r_136⟩ => by subst h; exact (m_pure (x_var (i := 14) rfl (Rp.mono _ (Ex.refl _) exz r_136)))) (fun _ _ _ _ _ _ e ⟨v_135, h, r_136⟩ => ⟨v_135, h, Rp.to _ e r_136⟩)) s_114 hc_90 (Rt.mono _ (e_104.trans e_113) exz hx_92) hm fun wanted_138 v_139 ws_145 I_140 C_146 H_141 e_142 s_143 hc_147 k_148 hx_149 r_144 hm => ?_
      refine q_asg (E := EZ) (K := K) (σ := [some (.ref a0), some (.ref p_1), some v_50, some v_82, some v_101, some v_139, none, none, none, none, none, none, none, none, none]) (i := 6) (x_cb o_list (a_one (x_v (x_var (i := 5) rfl (Rp.mono _ (Ex.refl _) exz r_144))))) s_143 (fun _ _ h => h.elim) hm fun copy_150 v_151 I_152 H_153 e_154 s_155 r_156 hm => ?_
      refine q_asg (E := EZ) (K := K) (σ := [some (.ref a0), some (.ref p_1), some v_50, some v_82, some v_101, some v_139, some v_151, none, none, none, none, none, none, none, none]) (i := 7) (x_own (n_call (a_cons (x_var (i := 3) rfl (Rp.mono _ (e_104.trans (e_113.trans (e_142.trans e_154))) exz r_87)) (a_one (x_var (i := 5) rfl (Rp.mono _ e_154 exz r_144)))))) s_155 (fun _ _ h => h.elim) hm fun costs_157 v_158 I_159 H_160 e_161 s_162 r_163 hm => ?_
      refine q_asg (E := EZ) (K := K) (σ := [some (.ref a0), some (.ref p_1), some v_50, some v_82, some v_101, some v_139, some v_151, some v_158, none, none, none, none, none, none, none]) (i := 8) (x_cb o_sum (a_one (x_v (x_lcg (i_rng1 (a_one (x_var (i := 2) rfl (Rp.mono _ (e_85.trans (e_104.trans (e_113.trans (e_142.trans (e_154.trans e_161))))) exz r_51)))) g1 (fun _ _ _ _ ⟨_, h, _⟩ => by rw [h]; rfl) (fun x_164 σ2 I_165 C_166 e_167 c_168 ⟨v_169, h, r_170⟩ => by subst h; exact (t_test (x_op o_lt (x_op o_ix (x_v (x_var (i := 3) rfl (Rp.mono _ (e_104.trans (e_113.trans (e_142.trans (e_154.trans (e_161.trans e_167))))) exz r_87))) (x_var (i := 14) rfl (Rp.mono _ (Ex.refl _) exz r_170))) (x_int (i := 0))))) (fun x_164 σ2 I_165 C_166 e_167 c_168 ⟨v_169, h, r_170⟩ => by subst h; exact (x_k (k := ((0 : Nat) : Int)) (o_pj pj0) (x_op o_ix (x_v (x_var (i := 7) rfl (Rp.mono _ e_167 exz r_163))) (x_var (i := 14) rfl (Rp.mono _ (Ex.refl _) exz r_170))))) (fun _ _ _ _ _ e ⟨v_169, h, r_170⟩ => ⟨v_169, h, Rp.mono _ e exz r_170⟩))))) s_162 (fun _ _ h => h.elim) hm fun least_171 v_172 I_173 H_174 e_175 s_176 r_177 hm => ?_
      refine q_asg (E := EZ) (K := K) (σ := [some (.ref a0), some (.ref p_1), some v_50, some v_82, some v_101, some v_139, some v_151, some v_158, some v_172, none, none, none, none, none, none]) (i := 9) (x_call (a_cons (x_var (i := 3) rfl (Rp.mono _ (e_104.trans (e_113.trans (e_142.trans (e_154.trans (e_161.trans e_175))))) exz r_87)) (a_one (x_var (i := 5) rfl (Rp.mono _ (e_154.trans (e_161.trans e_175)) exz r_144))))) s_176 (fun _ _ h => h.elim) hm fun told_178 v_179 I_180 H_181 e_182 s_183 r_184 hm => ?_
      refine s_if (E := EZ) (K := K) (σ := [some (.ref a0), some (.ref p_1), some v_50, some v_82, some v_101, some v_139, some v_151, some v_158, some v_172, some v_179, none, none, none, none, none]) (t_or (t_not (t_B (x_cb (o_isi (n := "int") (by decide +kernel)) (a_cons (x_var (i := 9) rfl (Rp.mono _ (Ex.refl _) exz r_184)) (a_one (x_c (R := pY "int") (a := ()) fun _ _ => rfl)))))) (t_or (t_test (x_op o_neI (x_var (i := 9) rfl (Rp.mono _ (Ex.refl _) exz r_184)) (x_var (i := 8) rfl (Rp.mono _ e_182 exz r_177)))) (t_test (x_op (o_neD (de_lst de_int) (de_lst de_int) (by decide)) (x_var (i := 5) rfl (Rp.mono _ (e_154.trans (e_161.trans (e_175.trans e_182))) exz r_144)) (x_var (i := 6) rfl (Rp.mono _ (e_161.trans (e_175.trans e_182)) exz r_156)))))) s_183 (fun _ _ h => h.elim) hm (fun I_185 H_186 e_187 s_188 hm => ?_) (fun I_189 H_190 e_191 s_192 hm => ?_)
      · refine q_ret (tz := tNext) (E := EZ) (K := K) (σ := [some (.ref a0), some (.ref p_1), some v_50, some v_82, some v_101, some v_139, some v_151, some v_158, some v_172, some v_179, none, none, none, none, none]) x_bl s_188 (fun _ _ h => h.elim) hm fun a_193 v_194 I_195 H_196 e_197 s_198 r_199 hm => ?_
        exact hm v_194 H_196 r_199
      · refine qm_asg (E := EZ) (K := K) (σ := [some (.ref a0), some (.ref p_1), some v_50, some v_82, some v_101, some v_139, some v_151, some v_158, some v_172, some v_179, none, none, none, none, none]) (i := 10) (m_op (fun _ => (Op2.ofL o_ix)) off_same (m_lst (alm_cons off_same (m_pure (x_var (i := 8) rfl (Rp.mono _ (e_182.trans e_191) exz r_177))) (alm_cons off_same (m_pure (x_cb o_max2 (a_cons (x_int (i := 0)) (a_one (x_op o_sub (x_var (i := 8) rfl (Rp.mono _ (e_182.trans e_191) exz r_177)) (x_int (i := 1))))))) (alm_cons off_same (m_callM (i := 1) rfl (am_pure (a_one (x_int (i := 41))))) alm_nil))) (Nat.le_of_ble_eq_true rfl)) (m_callM (i := 1) rfl (am_pure (a_one (x_int (i := 3)))))) s_192 hc_147 (Rt.mono _ (e_154.trans (e_161.trans (e_175.trans (e_182.trans e_191)))) exz hx_149) hm fun many_200 v_201 ws_207 I_202 C_208 H_203 e_204 s_205 hc_209 k_210 hx_211 r_206 hm => ?_
        refine q_asg (E := EZ) (K := K) (σ := [some (.ref a0), some (.ref p_1), some v_50, some v_82, some v_101, some v_139, some v_151, some v_158, some v_172, some v_179, some v_201, none, none, none, none]) (i := 11) (x_call (a_cons (x_var (i := 3) rfl (Rp.mono _ (e_104.trans (e_113.trans (e_142.trans (e_154.trans (e_161.trans (e_175.trans (e_182.trans (e_191.trans e_204)))))))) exz r_87)) (a_cons (x_var (i := 5) rfl (Rp.mono _ (e_154.trans (e_161.trans (e_175.trans (e_182.trans (e_191.trans e_204))))) exz r_144)) (a_one (x_var (i := 10) rfl (Rp.mono _ (Ex.refl _) exz r_206)))))) s_205 (fun _ _ h => h.elim) hm fun paper_212 v_213 I_214 H_215 e_216 s_217 r_218 hm => ?_
        refine s_if (E := EZ) (K := K) (σ := [some (.ref a0), some (.ref p_1), some v_50, some v_82, some v_101, some v_139, some v_151, some v_158, some v_172, some v_179, some v_201, some v_213, none, none, none]) (t_or (t_not (t_B (x_cb (o_isiX (n := "tuple") (n2 := "tuple") (by decide +kernel) (by decide +kernel)) (a_cons (x_var (i := 11) rfl (Rp.mono _ (Ex.refl _) exz r_218)) (a_one (x_c (R := pY "tuple") (a := ()) fun _ _ => rfl)))))) (t_or (t_test (x_op o_neI (x_cb (o_lenXT (by rfl)) (a_one (x_var (i := 11) rfl (Rp.mono _ (Ex.refl _) exz r_218)))) (x_int (i := 2)))) (t_test (x_op o_neS (x_k (k := ((0 : Nat) : Int)) (o_pjX pj0 pj0) (x_var (i := 11) rfl (Rp.mono _ (Ex.refl _) exz r_218))) (x_op o_ix (x_v (x_lst (al_cons (x_str (by decide +kernel)) (al_cons (x_str (by decide +kernel)) al_nil)) (Nat.le_of_ble_eq_true rfl))) (x_cb o_intB (a_one (x_op o_le (x_var (i := 8) rfl (Rp.mono _ (e_182.trans (e_191.trans (e_204.trans e_216))) exz r_177)) (x_var (i := 10) rfl (Rp.mono _ e_216 exz r_206)))))))))) s_217 (fun _ _ h => h.elim) hm (fun I_219 H_220 e_221 s_222 hm => ?_) (fun I_223 H_224 e_225 s_226 hm => ?_)
        · refine q_ret (tz := tNext) (E := EZ) (K := K) (σ := [some (.ref a0), some (.ref p_1), some v_50, some v_82, some v_101, some v_139, some v_151, some v_158, some v_172, some v_179, some v_201, some v_213, none, none, none]) x_bl s_222 (fun _ _ h => h.elim) hm fun a_227 v_228 I_229 H_230 e_231 s_232 r_233 hm => ?_
          exact hm v_228 H_230 r_233
        · refine s_forR (E := EZ) (K := K) (σ := [some (.ref a0), some (.ref p_1), some v_50, some v_82, some v_101, some v_139, some v_151, some v_158, some v_172, some v_179, some v_201, some v_213, none, none, none]) (fun (z_234 : Unit) σ2 I_237 C_238 => ∃ w_236 : Option V, σ2 = [some (.ref a0), some (.ref p_1), some v_50, some v_82, some v_101, some v_139, some v_151, some v_158, some v_172, some v_179, some v_201, some v_213, w_236, none, none] ∧ C_238 p_1 = some (.lst ws_207)) (i_rng1 (a_one (x_int (i := 4)))) s_226 (fun _ _ h => h.elim) hm (fun _ e_249 => ⟨none, rfl, hc_209⟩) (fun _ _ _ _ _ => trivial) (fun _ _ _ _ _ e ⟨w_236, hs_235, hc_239⟩ => ⟨w_236, hs_235, hc_239⟩) (fun N x_241 v_242 z_234 σ2 I_243 C_244 H_245 e_246 s_247 ⟨w_236, hs_235, hc_239⟩ r_248 hm => ?_) (fun z_288 σ2 I_283 C_284 H_285 e_286 s_287 ⟨w_290, hs_289, hc_293⟩ hm => ?_)
          · subst hs_235
            refine g1 (K := K) x_241 v_242 I_243 C_244 H_245 _ s_247 r_248 fun σ2 ⟨v_250, hs_252, r_251⟩ => ?_
            subst hs_252
            refine s_if (E := EZ) (K := K) (σ := [some (.ref a0), some (.ref p_1), some v_50, some v_82, some v_101, some v_139, some v_151, some v_158, some v_172, some v_179, some v_201, some v_213, some v_250, none, none]) (t_test (x_op o_neI (x_call (a_cons (x_var (i := 3) rfl (Rp.mono _ (e_104.trans (e_113.trans (e_142.trans (e_154.trans (e_161.trans (e_175.trans (e_182.trans (e_191.trans (e_204.trans (e_216.trans (e_225.trans e_246))))))))))) exz r_87)) (a_cons (x_op o_cat (x_v (x_var (i := 5) rfl (Rp.mono _ (e_154.trans (e_161.trans (e_175.trans (e_182.trans (e_191.trans (e_204.trans (e_216.trans (e_225.trans e_246)))))))) exz r_144))) (x_v (x_lst (al_cons (x_var (i := 2) rfl (Rp.mono _ (e_85.trans (e_104.trans (e_113.trans (e_142.trans (e_154.trans (e_161.trans (e_175.trans (e_182.trans (e_191.trans (e_204.trans (e_216.trans (e_225.trans e_246)))))))))))) exz r_51)) al_nil) (Nat.le_of_ble_eq_true rfl)))) (a_one (x_var (i := 12) rfl (Rp.mono _ (Ex.refl _) exz r_251)))))) (x_cb o_len (a_one (x_v (x_var (i := 5) rfl (Rp.mono _ (e_154.trans (e_161.trans (e_175.trans (e_182.trans (e_191.trans (e_204.trans (e_216.trans (e_225.trans e_246)))))))) exz r_144))))))) s_247 (fun _ _ h => h.elim) hm (fun I_253 H_254 e_255 s_256 hm => ?_) (fun I_257 H_258 e_259 s_260 hm => ?_)
            · refine q_ret (tz := tNext) (E := EZ) (K := K) (σ := [some (.ref a0), some (.ref p_1), some v_50, some v_82, some v_101, some v_139, some v_151, some v_158, some v_172, some v_179, some v_201, some v_213, some v_250, none, none]) x_bl s_256 (fun _ _ h => h.elim) hm fun a_261 v_262 I_263 H_264 e_265 s_266 r_267 hm => ?_
              exact hm v_262 H_264 r_267
            · refine s_if (E := EZ) (K := K) (σ := [some (.ref a0), some (.ref p_1), some v_50, some v_82, some v_101, some v_139, some v_151, some v_158, some v_172, some v_179, some v_201, some v_213, some v_250, none, none]) (t_and (t_test (x_op o_gt (x_cb o_len (a_one (x_v (x_var (i := 5) rfl (Rp.mono _ (e_154.trans (e_161.trans (e_175.trans (e_182.trans (e_191.trans (e_204.trans (e_216.trans (e_225.trans (e_246.trans e_259))))))))) exz r_144))))) (x_int (i := 0)))) (t_test (x_op o_neI (x_call (a_cons (x_var (i := 3) rfl (Rp.mono _ (e_104.trans (e_113.trans (e_142.trans (e_154.trans (e_161.trans (e_175.trans (e_182.trans (e_191.trans (e_204.trans (e_216.trans (e_225.trans (e_246.trans e_259)))))))))))) exz r_87)) (a_cons (x_op o_cat (x_v (x_var (i := 5) rfl (Rp.mono _ (e_154.trans (e_161.trans (e_175.trans (e_182.trans (e_191.trans (e_204.trans (e_216.trans (e_225.trans (e_246.trans e_259))))))))) exz r_144))) (x_v (x_sl (x_v (x_var (i := 5) rfl (Rp.mono _ (e_154.trans (e_161.trans (e_175.trans (e_182.trans (e_191.trans (e_204.trans (e_216.trans (e_225.trans (e_246.trans e_259))))))))) exz r_144))) (p_some (x_un o_neg (x_int (i := 1)))) p_none))) (a_one (x_var (i := 12) rfl (Rp.mono _ e_259 exz r_251)))))) (x_cb o_len (a_one (x_v (x_var (i := 5) rfl (Rp.mono _ (e_154.trans (e_161.trans (e_175.trans (e_182.trans (e_191.trans (e_204.trans (e_216.trans (e_225.trans (e_246.trans e_259))))))))) exz r_144)))))))) s_260 (fun _ _ h => h.elim) hm (fun I_268 H_269 e_270 s_271 hm => ?_) (fun I_272 H_273 e_274 s_275 hm => ?_)
              · refine q_ret (tz := tNext) (E := EZ) (K := K) (σ := [some (.ref a0), some (.ref p_1), some v_50, some v_82, some v_101, some v_139, some v_151, some v_158, some v_172, some v_179, some v_201, some v_213, some v_250, none, none]) x_bl s_271 (fun _ _ h => h.elim) hm fun a_276 v_277 I_278 H_279 e_280 s_281 r_282 hm => ?_
                exact hm v_277 H_279 r_282
              · exact hm _ _ _ _ (e_259.trans e_274) s_275 ⟨some v_250, rfl, hc_239⟩
          subst hs_289
          refine s_if (E := EZ) (K := K) (σ := [some (.ref a0), some (.ref p_1), some v_50, some v_82, some v_101, some v_139, some v_151, some v_158, some v_172, some v_179, some v_201, some v_213, w_290, none, none]) (t_test (x_op o_gt (x_var (i := 8) rfl (Rp.mono _ (e_182.trans (e_191.trans (e_204.trans (e_216.trans (e_225.trans e_286))))) exz r_177)) (x_var (i := 10) rfl (Rp.mono _ (e_216.trans (e_225.trans e_286)) exz r_206)))) s_287 (fun _ _ h => h.elim) hm (fun I_295 H_296 e_297 s_298 hm => ?_) (fun I_299 H_300 e_301 s_302 hm => ?_)
          · refine qm_ret (E := EZ) (K := K) (σ := [some (.ref a0), some (.ref p_1), some v_50, some v_82, some v_101, some v_139, some v_151, some v_158, some v_172, some v_179, some v_201, some v_213, w_290, none, none]) (m_callM (i := 1) rfl (am_pure (a_cons (x_var (i := 3) rfl (Rp.mono _ (e_104.trans (e_113.trans (e_142.trans (e_154.trans (e_161.trans (e_175.trans (e_182.trans (e_191.trans (e_204.trans (e_216.trans (e_225.trans (e_286.trans e_297)))))))))))) exz r_87)) (a_cons (x_var (i := 5) rfl (Rp.mono _ (e_154.trans (e_161.trans (e_175.trans (e_182.trans (e_191.trans (e_204.trans (e_216.trans (e_225.trans (e_286.trans e_297))))))))) exz r_144)) (a_cons (x_k (k := ((1 : Nat) : Int)) (o_pj (pjs pj1)) (x_getR (x_var (i := 11) rfl (Rp.mono _ (e_225.trans (e_286.trans e_297)) exz r_218)))) (a_one (x_var (i := 10) rfl (Rp.mono _ (e_216.trans (e_225.trans (e_286.trans e_297))) exz r_206)))))))) s_298 hc_293 (Rt.mono _ (e_216.trans (e_225.trans (e_286.trans e_297))) exz hx_211) hm fun a_303 v_304 ws_310 I_305 C_311 H_306 e_307 s_308 hc_312 k_313 hx_314 r_309 hm => ?_
            exact hm v_304 H_306 r_309
          · refine q_asg (E := EZ) (K := K) (σ := [some (.ref a0), some (.ref p_1), some v_50, some v_82, some v_101, some v_139, some v_151, some v_158, some v_172, some v_179, some v_201, some v_213, w_290, none, none]) (i := 13) (x_k (k := ((1 : Nat) : Int)) (o_pj (pjs pj1)) (x_getL (x_var (i := 11) rfl (Rp.mono _ (e_225.trans (e_286.trans e_301)) exz r_218)))) s_302 (fun _ _ h => h.elim) hm fun marks_315 v_316 I_317 H_318 e_319 s_320 r_321 hm => ?_
            refine s_if (E := EZ) (K := K) (σ := [some (.ref a0), some (.ref p_1), some v_50, some v_82, some v_101, some v_139, some v_151, some v_158, some v_172, some v_179, some v_201, some v_213, w_290, some v_316, none]) (t_or (t_not (t_B (x_call (a_cons (x_var (i := 3) rfl (Rp.mono _ (e_104.trans (e_113.trans (e_142.trans (e_154.trans (e_161.trans (e_175.trans (e_182.trans (e_191.trans (e_204.trans (e_216.trans (e_225.trans (e_286.trans (e_301.trans e_319))))))))))))) exz r_87)) (a_one (x_var (i := 13) rfl (Rp.mono _ (Ex.refl _) exz r_321))))))) (t_or (t_test (x_op o_gt (x_cb o_len (a_one (x_v (x_var (i := 13) rfl (Rp.mono _ (Ex.refl _) exz r_321))))) (x_var (i := 10) rfl (Rp.mono _ (e_216.trans (e_225.trans (e_286.trans (e_301.trans e_319)))) exz r_206)))) (t_test (x_op (o_neD (de_lst de_int) (de_lst de_int) (by decide)) (x_own (n_call (a_cons (x_var (i := 3) rfl (Rp.mono _ (e_104.trans (e_113.trans (e_142.trans (e_154.trans (e_161.trans (e_175.trans (e_182.trans (e_191.trans (e_204.trans (e_216.trans (e_225.trans (e_286.trans (e_301.trans e_319))))))))))))) exz r_87)) (a_one (x_var (i := 13) rfl (Rp.mono _ (Ex.refl _) exz r_321)))))) (x_var (i := 5) rfl (Rp.mono _ (e_154.trans (e_161.trans (e_175.trans (e_182.trans (e_191.trans (e_204.trans (e_216.trans (e_225.trans (e_286.trans (e_301.trans e_319)))))))))) exz r_144)))))) s_320 (fun _ _ h => h.elim) hm (fun I_322 H_323 e_324 s_325 hm => ?_) (fun I_326 H_327 e_328 s_329 hm => ?_)
            · refine q_ret (tz := tNext) (E := EZ) (K := K) (σ := [some (.ref a0), some (.ref p_1), some v_50, some v_82, some v_101, some v_139, some v_151, some v_158, some v_172, some v_179, some v_201, some v_213, w_290, some v_316, none]) x_bl s_325 (fun _ _ h => h.elim) hm fun a_330 v_331 I_332 H_333 e_334 s_335 r_336 hm => ?_
              exact hm v_331 H_333 r_336
            · refine s_if (E := EZ) (K := K) (σ := [some (.ref a0), some (.ref p_1), some v_50, some v_82, some v_101, some v_139, some v_151, some v_158, some v_172, some v_179, some v_201, some v_213, w_290, some v_316, none]) (t_or (t_test (x_op o_notB (x_call (a_cons (x_var (i := 3) rfl (Rp.mono _ (e_104.trans (e_113.trans (e_142.trans (e_154.trans (e_161.trans (e_175.trans (e_182.trans (e_191.trans (e_204.trans (e_216.trans (e_225.trans (e_286.trans (e_301.trans (e_319.trans e_328)))))))))))))) exz r_87)) (a_cons (x_var (i := 5) rfl (Rp.mono _ (e_154.trans (e_161.trans (e_175.trans (e_182.trans (e_191.trans (e_204.trans (e_216.trans (e_225.trans (e_286.trans (e_301.trans (e_319.trans e_328))))))))))) exz r_144)) (a_one (x_var (i := 13) rfl (Rp.mono _ e_328 exz r_321)))))) x_bl)) (t_test (x_op o_notB (x_call (a_cons (x_var (i := 3) rfl (Rp.mono _ (e_104.trans (e_113.trans (e_142.trans (e_154.trans (e_161.trans (e_175.trans (e_182.trans (e_191.trans (e_204.trans (e_216.trans (e_225.trans (e_286.trans (e_301.trans (e_319.trans e_328)))))))))))))) exz r_87)) (a_cons (x_var (i := 5) rfl (Rp.mono _ (e_154.trans (e_161.trans (e_175.trans (e_182.trans (e_191.trans (e_204.trans (e_216.trans (e_225.trans (e_286.trans (e_301.trans (e_319.trans e_328))))))))))) exz r_144)) (a_cons (x_var (i := 7) rfl (Rp.mono _ (e_175.trans (e_182.trans (e_191.trans (e_204.trans (e_216.trans (e_225.trans (e_286.trans (e_301.trans (e_319.trans e_328))))))))) exz r_163)) (a_one (x_var (i := 10) rfl (Rp.mono _ (e_216.trans (e_225.trans (e_286.trans (e_301.trans (e_319.trans e_328))))) exz r_206))))))) x_bl))) s_329 (fun _ _ h => h.elim) hm (fun I_337 H_338 e_339 s_340 hm => ?_) (fun I_341 H_342 e_343 s_344 hm => ?_)
              · refine q_ret (tz := tNext) (E := EZ) (K := K) (σ := [some (.ref a0), some (.ref p_1), some v_50, some v_82, some v_101, some v_139, some v_151, some v_158, some v_172, some v_179, some v_201, some v_213, w_290, some v_316, none]) x_bl s_340 (fun _ _ h => h.elim) hm fun a_345 v_346 I_347 H_348 e_349 s_350 r_351 hm => ?_
                exact hm v_346 H_348 r_351
              · refine qm_ret (E := EZ) (K := K) (σ := [some (.ref a0), some (.ref p_1), some v_50, some v_82, some v_101, some v_139, some v_151, some v_158, some v_172, some v_179, some v_201, some v_213, w_290, some v_316, none]) (m_andV off_same (m_callM (i := 1) rfl (am_pure (a_cons (x_var (i := 3) rfl (Rp.mono _ (e_104.trans (e_113.trans (e_142.trans (e_154.trans (e_161.trans (e_175.trans (e_182.trans (e_191.trans (e_204.trans (e_216.trans (e_225.trans (e_286.trans (e_301.trans (e_319.trans (e_328.trans e_343))))))))))))))) exz r_87)) (a_cons (x_var (i := 5) rfl (Rp.mono _ (e_154.trans (e_161.trans (e_175.trans (e_182.trans (e_191.trans (e_204.trans (e_216.trans (e_225.trans (e_286.trans (e_301.trans (e_319.trans (e_328.trans e_343)))))))))))) exz r_144)) (a_one (x_var (i := 13) rfl (Rp.mono _ (e_328.trans e_343) exz r_321))))))) (m_callM (i := 1) rfl (am_pure (a_one (x_var (i := 3) rfl (Rp.mono _ (e_104.trans (e_113.trans (e_142.trans (e_154.trans (e_161.trans (e_175.trans (e_182.trans (e_191.trans (e_204.trans (e_216.trans (e_225.trans (e_286.trans (e_301.trans (e_319.trans (e_328.trans e_343))))))))))))))) exz r_87)))))) s_344 hc_293 (Rt.mono _ (e_216.trans (e_225.trans (e_286.trans (e_301.trans (e_319.trans (e_328.trans e_343)))))) exz hx_211) hm fun a_352 v_353 ws_359 I_354 C_360 H_355 e_356 s_357 hc_361 k_362 hx_363 r_358 hm => ?_
                exact hm v_353 H_355 r_358
end
end K74

namespace K74
open PySem Sd
/-! the pool -/
theorem mix_ok (c t : Int) : ∃ v, m__law_mix c t = .ok v := by
  unfold m__law_mix
  simp [rMul, rMod]
/-- the pool's counter does not run below 0 -/
abbrev PI_ (p : Pl) : Prop := 0 ≤ p.2.1 ∧ 0 ≤ p.2.2.1
theorem fill_is (p : Pl) (h : PI_ p) : Is (m__law_fill () p) fun b => PI_ b.2 := by
  unfold m__law_fill
  simp only [Res.bind_ok, rLen_eq, bin_ok, un_ok, rLt_eq, rGt_eq, ifR_ok, idR_eq]
  refine Is.bind (Q := fun z => z.1 = p) ?_ fun z hz => ?_
  · by_cases h1 : p.2.1 < (p.2.2.2.length : Int)
    · obtain ⟨x, e, _⟩ := ix_get h.1 h1
      simp only [decide_eq_true_eq, if_pos h1, e, Res.bind_ok]
      exact rfl
    · simp only [decide_eq_true_eq, if_neg h1]
      by_cases h2 : 0 < (p.2.2.2.length : Int)
      · obtain ⟨x, e, _⟩ := ix_get (xs := p.2.2.2) (Int.emod_nonneg p.2.2.1 (by omega)) (Int.emod_lt_of_pos p.2.2.1 h2)
        simp only [if_pos h2, rMod_ok h2, bin, Res.bind_ok, e]
        exact rfl
      · simp only [if_neg h2]
        exact rfl
  · obtain ⟨q, c⟩ := z
    have hz : q = p := hz
    subst hz
    refine Is.bind (Q := fun _ => True) ?_ fun c2 _ => ?_
    · dsimp only
      by_cases h3 : c < 0
      · simp only [decide_eq_true_eq, if_pos h3, bin, Res.bind_ok]
        rw [rMul_ok (.inl (by decide))]
        trivial
      · simp only [decide_eq_true_eq, if_neg h3]
        trivial
    · have hp : rPow 10 18 = .ok (10 ^ 18) := rPow_ok (by decide)
      simp only [thenR_eq, bin_ok, rAdd_eq, Res.bind_ok, hp, rGe_eq, rLe_eq, andR_ok, ifR_ok]
      split
      · exact ⟨by dsimp only; omega, by dsimp only; omega⟩
      · obtain ⟨v, hv⟩ := mix_ok c2 (q.2.2.1 + 1)
        simp only [pair_ok, un_ok, hv, Res.bind_ok]
        exact ⟨by dsimp only; omega, by dsimp only; omega⟩
theorem take_is {n : Int} {p : Pl} (h : PI_ p) (h0 : 0 < n) (h1 : n < 1073741824) : Is (m__law_take n p) fun b => (0 ≤ b.1 ∧ b.1 < n) ∧ PI_ b.2 := by
  unfold m__law_take
  simp only [bin_ok, rLt_eq, ifR_ok]
  refine Is.bind (Q := PI_) ?_ fun z hz => ?_
  · split
    · exact Is.bind (fill_is p h) fun b hb => hb
    · exact h
  · simp only [un_ok, idR_eq, bin_ok, rMod_ok h0, rDiv_ok ⟨h0, h1⟩, Res.bind_ok, thenR_eq]
    exact ⟨⟨Int.emod_nonneg _ (by omega), Int.emod_lt_of_pos _ h0⟩, hz⟩
theorem take_ok {n : Int} {p : Pl} (h : PI_ p) (h0 : 0 < n) (h1 : n < 1073741824) : ∃ b, m__law_take n p = .ok b ∧ (0 ≤ b.1 ∧ b.1 < n) ∧ PI_ b.2 := (take_is h h0 h1).get

/-! the forest -/
theorem filR_idf {α : Type} (q : α → Bool) (xs : List α) : filR (fun x => .ok (q x)) (fun x => .ok x) xs = .ok (xs.filter q) := filR_id fun _ _ => rfl
abbrev Pg (P : List Int) (k : Int) : Int := P.getD k.toNat (-1)
structure For (P : List Int) : Prop where
  len : P.length ≤ 1000
  lt : ∀ k : Int, 0 ≤ k → k < P.length → -1 ≤ Pg P k ∧ Pg P k < k
theorem ixP {P : List Int} {k : Int} (h0 : 0 ≤ k) (h1 : k < P.length) : ix P k = .ok (Pg P k) := ix_getD h0 h1
def kids (P : List Int) (k : Int) : List Int := (rangeL 0 P.length).filter fun j => decide (Pg P j = k)
def lvs (P : List Int) : List Int := (rangeL 0 P.length).filter fun k => !decide (k ∈ P)
theorem enumF_fst {α : Type} (xs : List α) : (enumF 0 xs).map Prod.fst = rangeL 0 xs.length := by
  refine List.ext_getElem? fun i => ?_
  rw [List.getElem?_map, enumF_get, rangeL_nat, List.getElem?_map, Int.toNat_natCast]
  by_cases h : i < xs.length
  · rw [List.getElem?_eq_getElem h, List.getElem?_range h]
    simp
  · rw [List.getElem?_eq_none (by omega), List.getElem?_eq_none (by simp; omega)]
    rfl
theorem children_eq (P : List Int) (k : Int) : m_children P k = .ok (kids P k) := by
  unfold m_children kids
  simp only [un_ok, enumR_eq, Res.bind_ok, bin_ok, eqR_eq, filR_okf]
  rw [← enumF_fst, List.filter_map]
  congr 2
  refine List.filter_congr fun x hx => ?_
  obtain ⟨i, hi, e⟩ := mem_enumF.mp hx
  have : Pg P x.1 = x.2 := by
    unfold Pg
    rw [e, Int.toNat_natCast, List.getD_eq_getElem?_getD, hi]
    rfl
  show _ = decide (Pg P x.1 = k)
  rw [this]
theorem leaves_eq {P : List Int} (h : P.length ≤ 1000) : m_leaves P = .ok (lvs P) := by
  unfold m_leaves lvs
  simp only [un_ok, rLen_eq, rng1_ok (n := (P.length : Int)) (by omega), Res.bind_ok, bin_ok, ninR_eq, filR_idf]
theorem mem_kids {P : List Int} {k j : Int} : j ∈ kids P k ↔ (0 ≤ j ∧ j < P.length) ∧ Pg P j = k := by
  unfold kids
  rw [List.mem_filter, mem_rangeL, decide_eq_true_eq]
theorem mem_lvs {P : List Int} {k : Int} : k ∈ lvs P ↔ (0 ≤ k ∧ k < P.length) ∧ k ∉ P := by
  unfold lvs
  rw [List.mem_filter, mem_rangeL, Bool.not_eq_true', decide_eq_false_iff_not]
theorem kids_nil {P : List Int} {k : Int} (h0 : 0 ≤ k) (h1 : k < P.length) : kids P k = [] ↔ k ∈ lvs P := by
  rw [mem_lvs, List.eq_nil_iff_forall_not_mem]
  constructor
  · intro h
    refine ⟨⟨h0, h1⟩, fun hm => ?_⟩
    obtain ⟨i, hi⟩ := List.mem_iff_getElem?.mp hm
    have hl := (List.getElem?_eq_some_iff.mp hi).1
    refine h (i : Int) (mem_kids.mpr ⟨⟨by omega, by omega⟩, ?_⟩)
    unfold Pg
    rw [Int.toNat_natCast, List.getD_eq_getElem?_getD, hi]
    rfl
  · rintro ⟨_, h⟩ j hj
    obtain ⟨⟨j0, j1⟩, e⟩ := mem_kids.mp hj
    refine h ?_
    obtain ⟨x, ex, hx⟩ := ix_get (xs := P) j0 j1
    rw [ixP j0 j1] at ex
    cases ex
    rw [← e]
    exact List.mem_of_getElem? hx
/-! the wanted leaves -/
structure WOk (P W : List Int) : Prop where
  lf : ∀ w ∈ W, w ∈ lvs P
  up : W.Pairwise (· < ·)
theorem cw_loop {P : List Int} {f : Int × Int → Int → Res Int} (hf : ∀ k v a, f (k, v) a = if v ∈ lvs P ∧ a < v then .ok v else .exc .BadArea k) :
    ∀ (W : List Int) (i a : Int), (∀ w ∈ W, w ∈ lvs P) → W.Pairwise (· < ·) → (∀ w ∈ W, a < w) → ∃ b, loopN f (enumF i W) a = .ok b ∧ ∀ x X, (x ∉ lvs P ∨ (∃ w ∈ W, x ≤ w) ∨ x ≤ a) → loopN f (enumF i (W ++ x :: X)) a = .exc .BadArea (i + W.length)
  | [], i, a, _, _, _ => ⟨a, rfl, fun x X hx => by
    rw [List.nil_append]
    unfold enumF
    rw [loopN_cons, hf, if_neg]
    · simp
    · rintro ⟨h1, h2⟩
      rcases hx with h | ⟨w, hw, _⟩ | h
      · exact h h1
      · cases hw
      · omega⟩
  | v :: W, i, a, h1, h2, h3 => by
    rw [List.pairwise_cons] at h2
    obtain ⟨b, e, hb⟩ := cw_loop hf W (i + 1) v (fun w hw => h1 w (List.mem_cons_of_mem _ hw)) h2.2 h2.1
    have st : f (i, v) a = .ok v := by rw [hf, if_pos ⟨h1 v List.mem_cons_self, h3 v List.mem_cons_self⟩]
    refine ⟨b, ?_, fun x X hx => ?_⟩
    · unfold enumF
      rw [loopN_cons, st, Res.bind_ok]
      exact e
    · rw [List.cons_append]
      unfold enumF
      rw [loopN_cons, st, Res.bind_ok, hb x X ?_, List.length_cons]
      · congr 1
        omega
      · rcases hx with h | ⟨w, hw, h⟩ | h
        · exact .inl h
        · rcases List.mem_cons.mp hw with rfl | hw
          · exact .inr (.inr h)
          · exact .inr (.inl ⟨w, hw, h⟩)
        · have := h3 v List.mem_cons_self
          exact .inr (.inr (by omega))
def cwF (P : List Int) : Int × Int → Int → Res Int := fun (x_24 : (Int × Int)) (z_15 : Int) => (ifR (orR (bin ninR (Res.ok x_24.2) (Res.ok (lvs P))) (bin rLe (Res.ok x_24.2) (Res.ok z_15))) ((Res.ok x_24.1).bind fun i => Res.exc .BadArea i) ((Res.ok x_24.2).bind fun (ahead_46 : Int) => (Res.ok ahead_46)))
theorem cwF_eq {P : List Int} (k v a : Int) : cwF P (k, v) a = if v ∈ lvs P ∧ a < v then .ok v else .exc .BadArea k := by
  unfold cwF
  simp only [bin_ok, ninR_eq, rLe_eq, orR_ok, ifR_ok, Res.bind_ok]
  by_cases c : v ∈ lvs P ∧ a < v
  · rw [if_pos c, if_neg]
    simp [c.1]
    omega
  · rw [if_neg c, if_pos]
    simp only [Bool.or_eq_true, Bool.not_eq_true', decide_eq_false_iff_not, decide_eq_true_eq]
    by_cases d : v ∈ lvs P
    · right
      have : ¬ a < v := fun z => c ⟨d, z⟩
      omega
    · exact .inl d
theorem check_both {P W : List Int} (hP : P.length ≤ 1000) (h : WOk P W) : m_check_wanted P W = .ok () ∧ ∀ x X, (x ∉ lvs P ∨ ∃ w ∈ W, x ≤ w) → m_check_wanted P (W ++ x :: X) = .exc .BadArea W.length := by
  have pos : ∀ w ∈ W, -1 < w := fun w hw => by
    have := (mem_lvs.mp (h.lf w hw)).1
    omega
  obtain ⟨b, e, hb⟩ := cw_loop (P := P) (f := cwF P) cwF_eq W 0 (-1) h.lf h.up pos
  refine ⟨?_, fun x X hx => ?_⟩
  · unfold m_check_wanted
    rw [un_ok, leaves_eq hP, Res.bind_ok, un_ok, rNeg_eq, Res.bind_ok, un_ok, enumR_eq, Res.bind_ok]
    exact (congrArg (fun m => Res.bind m _) e).trans rfl
  · unfold m_check_wanted
    rw [un_ok, leaves_eq hP, Res.bind_ok, un_ok, rNeg_eq, Res.bind_ok, un_ok, enumR_eq, Res.bind_ok]
    have := hb x X (hx.elim .inl fun z => .inr (.inl z))
    rw [Int.zero_add] at this
    exact (congrArg (fun m => Res.bind m _) this).trans rfl

/-! the costs -/
abbrev Pr := Int × Int
abbrev at_ (c : List Pr) (j : Int) : Pr := c.getD j.toNat (0, 0)
def s0 (c : List Pr) (ks : List Int) : Int := (ks.map fun j => (at_ c j).1).sum
def s1 (c : List Pr) (ks : List Int) : Int := (ks.map fun j => (at_ c j).2).sum
def sS (c : List Pr) (ks : List Int) (s : Int) : Int := if s = 0 then s0 c ks else s1 c ks
theorem mapR_mem {α β : Type} {f : α → Res β} {g : α → β} : ∀ {xs : List α}, (∀ x ∈ xs, f x = .ok (g x)) → mapR f xs = .ok (xs.map g)
  | [], _ => rfl
  | x :: xs, h => by
    have := mapR_mem (xs := xs) fun y hy => h y (List.mem_cons_of_mem _ hy)
    unfold mapR
    rw [h x List.mem_cons_self, this]
    rfl
theorem side_eq {c : List Pr} {ks : List Int} {s : Int} (hk : ∀ j ∈ ks, 0 ≤ j ∧ j < c.length) (hs : s = 0 ∨ s = 1) : m_side_sum c ks s = .ok (sS c ks s) := by
  unfold m_side_sum
  rw [Res.bind_ok, mapR_mem (g := fun j => if s = 0 then (at_ c j).1 else (at_ c j).2) fun j hj => ?_]
  · rw [un_ok, sumR_eq, Res.bind_ok]
    unfold sS s0 s1
    split <;> rfl
  · obtain ⟨a, b⟩ := hk j hj
    rw [bin_ok, ix_getD (d := (0, 0)) a b, un_ok, bin_ok]
    rcases hs with rfl | rfl <;> rfl
def F (P W : List Int) (c : List Pr) (k : Int) : Pr :=
  if kids P k = [] then (if k ∈ W then (1, 0) else (0, 1)) else (min (s0 c (kids P k)) (1 + s1 c (kids P k)), min (s1 c (kids P k)) (1 + s0 c (kids P k)))
structure Cst (P W : List Int) (c : List Pr) : Prop where
  len : c.length = P.length
  at' : ∀ k : Int, 0 ≤ k → k < P.length → at_ c k = F P W c k
theorem kid_gt {P : List Int} (h : For P) {k j : Int} (h0 : 0 ≤ k) (hj : j ∈ kids P k) : k < j := by
  obtain ⟨⟨a, b⟩, e⟩ := mem_kids.mp hj
  have := h.lt j a b
  omega
theorem F_congr {P W : List Int} (h : For P) {c d : List Pr} {k : Int} (h0 : 0 ≤ k) (e : ∀ j, k < j → j < P.length → at_ c j = at_ d j) : F P W c k = F P W d k := by
  have e0 : s0 c (kids P k) = s0 d (kids P k) := by
    unfold s0
    refine congrArg List.sum (List.map_congr_left fun j hj => ?_)
    rw [e j (kid_gt h h0 hj) (mem_kids.mp hj).1.2]
  have e1 : s1 c (kids P k) = s1 d (kids P k) := by
    unfold s1
    refine congrArg List.sum (List.map_congr_left fun j hj => ?_)
    rw [e j (kid_gt h h0 hj) (mem_kids.mp hj).1.2]
  unfold F
  rw [e0, e1]
theorem at_set {c : List Pr} {x k : Int} {v : Pr} (h0 : 0 ≤ x) (k0 : 0 ≤ k) (hx : x < c.length) : at_ (c.set x.toNat v) k = if k = x then v else at_ c k := by
  show (c.set x.toNat v).getD k.toNat (0, 0) = _
  rw [List.getD_eq_getElem?_getD, List.getElem?_set]
  by_cases h : k = x
  · rw [if_pos h, if_pos (by rw [h]), if_pos (by omega)]
    rfl
  · rw [if_neg h, if_neg (by omega)]
    rfl
/-- the state of the costs when all from i on are reckoned -/
def Cfr (P W : List Int) (i : Int) (c : List Pr) : Prop := c.length = P.length ∧ ∀ k : Int, i ≤ k → 0 ≤ k → k < P.length → at_ c k = F P W c k
theorem Cfr.step {P W : List Int} (h : For P) {c : List Pr} {x : Int} (h0 : 0 ≤ x) (h1 : x < P.length) (q : Cfr P W (x + 1) c) : Cfr P W x (c.set x.toNat (F P W c x)) := by
  have hx : x < c.length := by rw [q.1]; exact h1
  refine ⟨by rw [List.length_set]; exact q.1, fun k hk k0 k1 => ?_⟩
  rw [at_set h0 k0 hx]
  have cg : ∀ k, x ≤ k → F P W (c.set x.toNat (F P W c x)) k = F P W c k := fun k hk => F_congr h (by omega) fun j hj _ => by
    rw [at_set h0 (by omega) hx, if_neg (by omega)]
  rw [cg k hk]
  by_cases e : k = x
  · rw [if_pos e, e]
  · rw [if_neg e]
    exact q.2 k (by omega) k0 k1
theorem Cst.uniq {P W : List Int} (h : For P) {c d : List Pr} (hc : Cst P W c) (hd : Cst P W d) : c = d := by
  have key : ∀ m : Nat, ∀ k : Int, (P.length : Int) - m ≤ k → 0 ≤ k → k < P.length → at_ c k = at_ d k := by
    intro m
    induction m with
    | zero => intro k a b e; omega
    | succ m ih =>
      intro k a b e
      rw [hc.at' k b e, hd.at' k b e]
      exact F_congr h b fun j hj j1 => ih j (by omega) (by omega) j1
  refine List.ext_getElem (by rw [hc.len, hd.len]) fun i h1 h2 => ?_
  have := key P.length (i : Int) (by omega) (by omega) (by rw [← hc.len]; omega)
  have e1 : at_ c (i : Int) = c[i] := by
    show c.getD (i : Int).toNat (0, 0) = _
    rw [Int.toNat_natCast, List.getD_eq_getElem?_getD, List.getElem?_eq_getElem h1]
    rfl
  have e2 : at_ d (i : Int) = d[i] := by
    show d.getD (i : Int).toNat (0, 0) = _
    rw [Int.toNat_natCast, List.getD_eq_getElem?_getD, List.getElem?_eq_getElem h2]
    rfl
  rw [← e1, ← e2, this]
theorem F_set {P W : List Int} (h : For P) {c : List Pr} {x : Int} (h0 : 0 ≤ x) (h1 : x < P.length) (hc : c.length = P.length) :
    (ifR (.ok (!(kids P x).isEmpty)) (((pair (un min2 (pair (Res.ok (s0 c (kids P x))) (bin rAdd (Res.ok (1 : Int)) (Res.ok (s1 c (kids P x)))))) (un min2 (pair (Res.ok (s1 c (kids P x))) (bin rAdd (Res.ok (1 : Int)) (Res.ok (s0 c (kids P x))))))).bind fun v => (Res.ok x).bind fun j => setR c j v).bind fun (z : List Pr) => (Res.ok z)) (ifR (bin inR (Res.ok x) (Res.ok W)) (((pair (Res.ok (1 : Int)) (Res.ok (0 : Int))).bind fun v => (Res.ok x).bind fun j => setR c j v).bind fun (z : List Pr) => (Res.ok z)) (((pair (Res.ok (0 : Int)) (Res.ok (1 : Int))).bind fun v => (Res.ok x).bind fun j => setR c j v).bind fun (z : List Pr) => (Res.ok z)))) = .ok (c.set x.toNat (F P W c x)) := by
  have st : ∀ v, setR c x v = .ok (c.set x.toNat v) := fun v => setR_nat h0 (by rw [hc]; exact h1)
  simp only [un_ok, pair_ok, bin_ok, rAdd_eq, min2_eq, Res.bind_ok, st, inR_eq, ifR_ok]
  unfold F
  by_cases e : kids P x = []
  · rw [e]
    simp only [List.isEmpty_nil, Bool.not_true, Bool.false_eq_true, if_false, if_true]
    by_cases w : x ∈ W
    · rw [if_pos (decide_eq_true w), if_pos w]
    · rw [if_neg (by rw [decide_eq_false w]; decide), if_neg w]
  · rw [if_neg e]
    have : (kids P x).isEmpty = false := by
      cases hk : kids P x with
      | nil => exact absurd hk e
      | cons _ _ => rfl
    rw [this]
    rfl
theorem kid_in {P : List Int} {c : List Pr} (hc : c.length = P.length) {k : Int} : ∀ j ∈ kids P k, 0 ≤ j ∧ j < c.length := fun j hj => by
  rw [hc]
  exact (mem_kids.mp hj).1
theorem costs_is {P W : List Int} (h : For P) : Is (m_mark_costs P W) (Cst P W) := by
  unfold m_mark_costs
  have hl := h.len
  simp only [Res.bind_ok, mapR_okf, pair_ok, un_ok, rLen_eq]
  rw [show rngV (P.length : Int) = .ok (rangeL 0 P.length).reverse by unfold rngV; rw [rng1_ok (by omega)]; rfl, Res.bind_ok]
  refine Is.bind (loopN_inv (fun i c => Cfr P W ((P.length : Int) - i) c) ⟨by simp, fun k a b e => by omega⟩ fun i x c hx q => ?_) fun c q => ?_
  · have hi := (List.getElem?_eq_some_iff.mp hx).1
    rw [List.length_reverse, rangeL_length] at hi
    rw [List.getElem?_reverse (by rw [rangeL_length]; omega)] at hx
    have hx2 := rangeL_get hx
    rw [rangeL_length] at hx2
    have x0 : 0 ≤ x := by omega
    have x1 : x < P.length := by omega
    rw [children_eq, Res.bind_ok, side_eq (s := 0) (kid_in q.1) (.inl rfl), side_eq (s := 1) (kid_in q.1) (.inr rfl)]
    have := F_set (W := W) h x0 x1 q.1
    refine Is.of (a := c.set x.toNat (F P W c x)) ?_ ?_
    · refine Eq.trans ?_ this
      rfl
    · have e : (P.length : Int) - ((i + 1 : Nat) : Int) = x := by omega
      show Cfr P W ((P.length : Int) - ((i + 1 : Nat) : Int)) _
      rw [e]
      have q2 : Cfr P W (x + 1) c := by
        have e2 : (P.length : Int) - (i : Int) = x + 1 := by omega
        rw [← e2]
        exact q
      exact q2.step h x0 x1
  · rw [List.length_reverse, rangeL_length] at q
    exact ⟨q.1, fun k a b => q.2 k (by omega) a b⟩

/-! the law's costs, the bounds -/
theorem lkids_eq (P : List Int) (k : Int) : (Res.ok (rangeL 0 P.length)).bind (filR (fun (x : Int) => (bin eqR (bin ix (Res.ok P) (Res.ok x)) (Res.ok k))) (fun (x : Int) => (Res.ok x))) = .ok (kids P k) := by
  rw [Res.bind_ok, filR_id (q := fun j => decide (Pg P j = k)) fun x hx => ?_]
  · rfl
  · have hx := mem_rangeL.mp hx
    rw [bin_ok, ixP hx.1 hx.2, bin_ok, eqR_eq]
theorem lsum0 {c : List Pr} {ks : List Int} (hk : ∀ j ∈ ks, 0 ≤ j ∧ j < c.length) : un sumR ((Res.ok ks).bind (mapR (fun (x : Int) => (un (fun p => Res.ok p.1) (bin ix (Res.ok c) (Res.ok x)))))) = .ok (s0 c ks) := by
  rw [Res.bind_ok, mapR_mem (g := fun j => (at_ c j).1) fun j hj => ?_]
  · rfl
  · obtain ⟨a, b⟩ := hk j hj
    rw [bin_ok, ix_getD (d := (0, 0)) a b, un_ok]
theorem lsum1 {c : List Pr} {ks : List Int} (hk : ∀ j ∈ ks, 0 ≤ j ∧ j < c.length) : un sumR ((Res.ok ks).bind (mapR (fun (x : Int) => (un (fun p => Res.ok p.2) (bin ix (Res.ok c) (Res.ok x)))))) = .ok (s1 c ks) := by
  rw [Res.bind_ok, mapR_mem (g := fun j => (at_ c j).2) fun j hj => ?_]
  · rfl
  · obtain ⟨a, b⟩ := hk j hj
    rw [bin_ok, ix_getD (d := (0, 0)) a b, un_ok]
theorem pos_emp {α : Type} (xs : List α) : decide ((0 : Int) < (xs.length : Int)) = !xs.isEmpty := by
  cases xs with
  | nil => rfl
  | cons x xs => exact decide_eq_true (by rw [List.length_cons]; omega)
theorem lcosts_is {P W : List Int} (h : For P) : Is (m__law_costs P W) (Cst P W) := by
  unfold m__law_costs
  have hl := h.len
  rw [show ((Res.ok P).bind (mapR (fun (x_1 : Int) => (pair (Res.ok (0 : Int)) (Res.ok (0 : Int)))))) = .ok (P.map fun _ => ((0 : Int), (0 : Int))) from mapR_okf _ _, Res.bind_ok]
  rw [show (un rng1 (un rLen (Res.ok P))) = .ok (rangeL 0 P.length) from rng1_ok (by omega), Res.bind_ok]
  refine Is.bind (loopN_inv (fun i c => Cfr P W ((P.length : Int) - i) c) ⟨by simp, fun k a b e => by omega⟩ fun i x c hx q => ?_) fun c q => ?_
  · have hi := (List.getElem?_eq_some_iff.mp hx).1
    rw [rangeL_length] at hi
    have hx2 := rangeL_get hx
    have ek : (bin rSub (bin rSub (un rLen (Res.ok P)) (Res.ok (1 : Int))) (Res.ok x)) = .ok ((P.length : Int) - 1 - x) := rfl
    rw [ek, Res.bind_ok]
    generalize hk : (P.length : Int) - 1 - x = k
    have x0 : 0 ≤ k := by omega
    have x1 : k < P.length := by omega
    rw [lkids_eq, Res.bind_ok, lsum0 (kid_in q.1), Res.bind_ok, lsum1 (kid_in q.1), Res.bind_ok]
    rw [show (bin rGt (un rLen (Res.ok (kids P k))) (Res.ok (0 : Int))) = .ok (!(kids P k).isEmpty) from congrArg Res.ok (pos_emp _)]
    refine Is.of (F_set (W := W) h x0 x1 q.1) ?_
    have e : (P.length : Int) - ((i + 1 : Nat) : Int) = k := by omega
    show Cfr P W ((P.length : Int) - ((i + 1 : Nat) : Int)) _
    rw [e]
    have q2 : Cfr P W (k + 1) c := by
      have e2 : (P.length : Int) - (i : Int) = k + 1 := by omega
      rw [← e2]
      exact q
    exact q2.step h x0 x1
  · rw [rangeL_length] at q
    exact ⟨q.1, fun k a b => q.2 k (by omega) a b⟩
def LBk (P W : List Int) (b : List Pr) (k : Int) : Bool := decide ((at_ b k).1 ≤ (F P W b k).1) && decide ((at_ b k).2 ≤ (F P W b k).2)
def LB (P W : List Int) (b : List Pr) (many : Int) : Bool := decide (b.length = P.length) && ((rangeL 0 P.length).all (LBk P W b) && decide (many < s0 b (kids P (-1))))
theorem roots_eq {P : List Int} (h : For P) : ((rangeL 0 P.length).filter fun j => decide (Pg P j < 0)) = kids P (-1) := by
  unfold kids
  refine List.filter_congr fun j hj => ?_
  have hj := mem_rangeL.mp hj
  have := h.lt j hj.1 hj.2
  exact dec_congr ⟨fun z => by omega, fun z => by omega⟩
theorem lroot {P : List Int} (h : For P) {c : List Pr} (hc : c.length = P.length) : un sumR ((Res.ok (rangeL 0 P.length)).bind (filR (fun (x : Int) => (bin rLt (bin ix (Res.ok P) (Res.ok x)) (Res.ok (0 : Int)))) (fun (x : Int) => (un (fun p => Res.ok p.1) (bin ix (Res.ok c) (Res.ok x)))))) = .ok (s0 c (kids P (-1))) := by
  rw [Res.bind_ok, filR_ok (q := fun j => decide (Pg P j < 0)) (g := fun j => (at_ c j).1) (fun x hx => ?_) (fun x hx _ => ?_), roots_eq h]
  · rfl
  · have hx := mem_rangeL.mp hx
    rw [bin_ok, ixP hx.1 (by omega), bin_ok, rLt_eq]
  · have hx := mem_rangeL.mp hx
    rw [bin_ok, ix_getD (d := (0, 0)) hx.1 (by omega), un_ok]
theorem lbound_eq {P W : List Int} (h : For P) (b : List Pr) (many : Int) : m__law_bound P W b many = .ok (LB P W b many) := by
  unfold m__law_bound LB
  have hl := h.len
  rw [un_ok, rLen_eq, un_ok, rLen_eq, bin_ok, neR_eq, ifR_ok]
  by_cases hb : b.length = P.length
  · rw [if_neg (by simp [hb]), decide_eq_true hb, Bool.true_and, un_ok, rng1_ok (by omega), Res.bind_ok]
    rw [loopR_any (p := fun k => !LBk P W b k) (r := false) fun k hk => ?_]
    · rw [Res.bind_ok]
      by_cases ha : (rangeL 0 P.length).all (LBk P W b) = true
      · have hn : (rangeL 0 P.length).any (fun k => !LBk P W b k) = false := by
          rw [← Bool.not_eq_true, List.any_eq_true]
          rintro ⟨x, hx, hx2⟩
          rw [List.all_eq_true.mp ha x hx] at hx2
          cases hx2
        rw [hn, if_neg Bool.false_ne_true, ha, Bool.true_and]
        dsimp only
        rw [lroot h hb]
        rfl
      · have hn : (rangeL 0 P.length).any (fun k => !LBk P W b k) = true := by
          rw [List.any_eq_true]
          have : ¬ ∀ x ∈ rangeL 0 P.length, LBk P W b x = true := fun z => ha (List.all_eq_true.mpr z)
          obtain ⟨x, hx⟩ := Classical.not_forall.mp this
          obtain ⟨hx, hx2⟩ := Classical.not_imp.mp hx
          exact ⟨x, hx, by rw [Bool.eq_false_iff.mpr hx2]; rfl⟩
        rw [hn, if_pos rfl, Bool.eq_false_iff.mpr ha, Bool.false_and]
    · have hk := mem_rangeL.mp hk
      rw [lkids_eq, Res.bind_ok, lsum0 (kid_in hb), Res.bind_ok, lsum1 (kid_in hb), Res.bind_ok]
      rw [show (bin rGt (un rLen (Res.ok (kids P k))) (Res.ok (0 : Int))) = .ok (!(kids P k).isEmpty) from congrArg Res.ok (pos_emp _)]
      have et : (ifR (.ok (!(kids P k).isEmpty)) ((pair (un min2 (pair (Res.ok (s0 b (kids P k))) (bin rAdd (Res.ok (1 : Int)) (Res.ok (s1 b (kids P k)))))) (un min2 (pair (Res.ok (s1 b (kids P k))) (bin rAdd (Res.ok (1 : Int)) (Res.ok (s0 b (kids P k))))))).bind fun (t : Pr) => (Res.ok t)) (ifR (bin inR (Res.ok k) (Res.ok W)) ((pair (Res.ok (1 : Int)) (Res.ok (0 : Int))).bind fun (t : Pr) => (Res.ok t)) ((pair (Res.ok (0 : Int)) (Res.ok (1 : Int))).bind fun (t : Pr) => (Res.ok t)))) = .ok (F P W b k) := by
        simp only [un_ok, pair_ok, bin_ok, rAdd_eq, min2_eq, Res.bind_ok, inR_eq, ifR_ok]
        unfold F
        by_cases e : kids P k = []
        · rw [e]
          simp only [List.isEmpty_nil, Bool.not_true, Bool.false_eq_true, if_false, if_true]
          by_cases w : k ∈ W
          · rw [if_pos (decide_eq_true w), if_pos w]
          · rw [if_neg (by rw [decide_eq_false w]; decide), if_neg w]
        · rw [if_neg e]
          have : (kids P k).isEmpty = false := by
            cases hk : kids P k with
            | nil => exact absurd hk e
            | cons _ _ => rfl
          rw [this]
          rfl
      rw [et, Res.bind_ok]
      rw [show bin ix (Res.ok b) (Res.ok k) = .ok (at_ b k) from ix_getD (d := (0, 0)) hk.1 (by omega)]
      simp only [un_ok, bin_ok, rGt_eq, orR_ok, ifR_ok]
      unfold LBk
      generalize at_ b k = u
      generalize F P W b k = t
      by_cases c1 : u.1 ≤ t.1 <;> by_cases c2 : u.2 ≤ t.2
      · rw [if_neg (by simp only [Bool.or_eq_true, decide_eq_true_eq]; omega), decide_eq_true c1, decide_eq_true c2]; rfl
      · rw [if_pos (by simp only [Bool.or_eq_true, decide_eq_true_eq]; omega), decide_eq_false c2, Bool.and_false]; rfl
      · rw [if_pos (by simp only [Bool.or_eq_true, decide_eq_true_eq]; omega), decide_eq_false c1, Bool.false_and]; rfl
      · rw [if_pos (by simp only [Bool.or_eq_true, decide_eq_true_eq]; omega), decide_eq_false c1, Bool.false_and]; rfl
  · rw [if_pos (by simp [hb]; omega), decide_eq_false hb]
    rfl

/-! the program's bounds, the least number -/
theorem holds_eq {P W : List Int} {b : List Pr} (hb : b.length = P.length) {k : Int} (k0 : 0 ≤ k) (k1 : k < P.length) : m_bound_holds P W b k = .ok (LBk P W b k) := by
  unfold m_bound_holds
  have ea : bin ix (Res.ok b) (Res.ok k) = .ok (at_ b k) := ix_getD (d := (0, 0)) k0 (by omega)
  have e0 : m_side_sum b (kids P k) 0 = .ok (s0 b (kids P k)) := side_eq (kid_in hb) (.inl rfl)
  have e1 : m_side_sum b (kids P k) 1 = .ok (s1 b (kids P k)) := side_eq (kid_in hb) (.inr rfl)
  rw [pair_ok, un_ok, children_eq, Res.bind_ok, un_ok, neR'_eq, un_ok, notR_eq, ifR_ok, ea]
  simp only [pair_ok, un_ok, e0, e1, Res.bind_ok, bin_ok, inR_eq, ifR_ok, rLe_eq, rGt_eq, rAdd_eq, orR_ok, andR_ok]
  unfold LBk F
  generalize at_ b k = u
  generalize s0 b (kids P k) = o
  generalize s1 b (kids P k) = n
  by_cases e : kids P k = []
  · rw [e]
    simp only [List.isEmpty_nil, Bool.not_true, Bool.not_false, if_true]
    by_cases w : k ∈ W
    · rw [if_pos (decide_eq_true w), if_pos w]
      rfl
    · rw [if_neg (by rw [decide_eq_false w]; decide), if_neg w]
      rfl
  · rw [if_neg e]
    have : (kids P k).isEmpty = false := by
      cases hk : kids P k with
      | nil => exact absurd hk e
      | cons _ _ => rfl
    rw [this]
    simp only [Bool.not_false, Bool.not_true, Bool.false_eq_true, if_false]
    have d1 : decide (u.1 ≤ min o (1 + n)) = (decide (u.1 ≤ o) && decide (u.1 ≤ 1 + n)) := by
      by_cases a : u.1 ≤ o <;> by_cases c : u.1 ≤ 1 + n <;> simp [a, c] <;> omega
    have d2 : decide (u.2 ≤ min n (1 + o)) = (decide (u.2 ≤ n) && decide (u.2 ≤ 1 + o)) := by
      by_cases a : u.2 ≤ n <;> by_cases c : u.2 ≤ 1 + o <;> simp [a, c] <;> omega
    rw [d1, d2]
    by_cases a : u.1 ≤ o
    · by_cases c : u.1 ≤ 1 + n
      · rw [if_neg (by simp only [Bool.or_eq_true, decide_eq_true_eq]; omega), decide_eq_true a, decide_eq_true c]
        rfl
      · rw [if_pos (by simp only [Bool.or_eq_true, decide_eq_true_eq]; omega), decide_eq_false c, Bool.and_false]
        rfl
    · rw [if_pos (by simp only [Bool.or_eq_true, decide_eq_true_eq]; omega), decide_eq_false a]
      rfl
theorem pbound_eq {P W : List Int} (h : For P) (hW : m_check_wanted P W = .ok ()) (b : List Pr) (many : Int) : m_is_marks_bound P W b many = .ok (LB P W b many) := by
  unfold m_is_marks_bound LB
  have hl := h.len
  rw [pair_ok, un_ok, hW, Res.bind_ok, un_ok, rLen_eq, un_ok, rLen_eq, bin_ok, neR_eq, ifR_ok]
  by_cases hb : b.length = P.length
  · rw [if_neg (by simp [hb]), decide_eq_true hb, Bool.true_and, un_ok, rng1_ok (by omega), Res.bind_ok]
    rw [loopR_any (p := fun k => !LBk P W b k) (r := false) fun k hk => ?_]
    · rw [Res.bind_ok]
      by_cases ha : (rangeL 0 P.length).all (LBk P W b) = true
      · have hn : (rangeL 0 P.length).any (fun k => !LBk P W b k) = false := by
          rw [← Bool.not_eq_true, List.any_eq_true]
          rintro ⟨x, hx, hx2⟩
          rw [List.all_eq_true.mp ha x hx] at hx2
          cases hx2
        rw [hn, if_neg Bool.false_ne_true, ha, Bool.true_and]
        have e0 : m_side_sum b (kids P (-1)) 0 = .ok (s0 b (kids P (-1))) := side_eq (kid_in hb) (.inl rfl)
        simp only [un_ok, rNeg_eq, pair_ok, children_eq, e0, bin_ok, rGt_eq, Res.bind_ok]
      · have hn : (rangeL 0 P.length).any (fun k => !LBk P W b k) = true := by
          rw [List.any_eq_true]
          have : ¬ ∀ x ∈ rangeL 0 P.length, LBk P W b x = true := fun z => ha (List.all_eq_true.mpr z)
          obtain ⟨x, hx⟩ := Classical.not_forall.mp this
          obtain ⟨hx, hx2⟩ := Classical.not_imp.mp hx
          exact ⟨x, hx, by rw [Bool.eq_false_iff.mpr hx2]; rfl⟩
        rw [hn, if_pos rfl, Bool.eq_false_iff.mpr ha, Bool.false_and]
    · have hk := mem_rangeL.mp hk
      simp only [pair_ok, un_ok, holds_eq hb hk.1 hk.2, notR_eq, ifR_ok, Res.bind_ok]
      split <;> rfl
  · rw [if_pos (by simp [hb]; omega), decide_eq_false hb]
    rfl
theorem LB_cst {P W : List Int} {c : List Pr} (hc : Cst P W c) (many : Int) : LB P W c many = decide (many < s0 c (kids P (-1))) := by
  unfold LB
  rw [decide_eq_true hc.len, Bool.true_and]
  have : (rangeL 0 P.length).all (LBk P W c) = true := by
    rw [List.all_eq_true]
    intro k hk
    have hk := mem_rangeL.mp hk
    unfold LBk
    rw [hc.at' k hk.1 hk.2, decide_eq_true (Int.le_refl _), decide_eq_true (Int.le_refl _)]
    rfl
  rw [this, Bool.true_and]
theorem least_eq {P W : List Int} (h : For P) (hW : m_check_wanted P W = .ok ()) {c : List Pr} (hc : Cst P W c) : m_least_marks P W = .ok (s0 c (kids P (-1))) := by
  unfold m_least_marks
  obtain ⟨d, ed, hd⟩ := (costs_is (W := W) h).get
  have e := hc.uniq h hd
  subst e
  have e0 : m_side_sum c (kids P (-1)) 0 = .ok (s0 c (kids P (-1))) := side_eq (kid_in hc.len) (.inl rfl)
  simp only [pair_ok, un_ok, hW, Res.bind_ok, ed, rNeg_eq, children_eq, e0]
theorem paper_eq {P W : List Int} (h : For P) (hW : m_check_wanted P W = .ok ()) {c : List Pr} (hc : Cst P W c) (many : Int) : m_naming_paper P W many = if s0 c (kids P (-1)) ≤ many then (m_cheapest_marks P W c).bind fun m => .ok (.inl ("marks", m)) else .ok (.inr ("bounds", c)) := by
  unfold m_naming_paper
  obtain ⟨d, ed, hd⟩ := (costs_is (W := W) h).get
  have e := hc.uniq h hd
  subst e
  have e0 : m_side_sum c (kids P (-1)) 0 = .ok (s0 c (kids P (-1))) := side_eq (kid_in hc.len) (.inl rfl)
  simp only [pair_ok, un_ok, hW, Res.bind_ok, ed, rNeg_eq, children_eq, e0, bin_ok, rLe_eq, ifR_ok]
  by_cases q : s0 c (kids P (-1)) ≤ many
  · rw [if_pos (decide_eq_true q), if_pos q]
    cases m_cheapest_marks P W c <;> rfl
  · rw [if_neg (by rw [decide_eq_false q]; decide), if_neg q]
    rfl
theorem refused_at {P W : List Int} {i : Int} (e : m_check_wanted P W = .exc .BadArea i) {w : Int} (h0 : 0 ≤ w) (h1 : w < 4) : m__law_wanted_fault P W w = .ok i := by
  have a1 : m_least_marks P W = .exc .BadArea i := by
    unfold m_least_marks
    rw [pair_ok, un_ok, e]
    rfl
  have a2 : m_naming_paper P W 3 = .exc .BadArea i := by
    unfold m_naming_paper
    rw [pair_ok, un_ok, e]
    rfl
  have a3 : m_is_naming P W [] = .exc .BadArea i := by
    unfold m_is_naming
    rw [pair_ok, un_ok, e]
    rfl
  have a4 : m_is_marks_bound P W [] 0 = .exc .BadArea i := by
    unfold m_is_marks_bound
    rw [pair_ok, un_ok, e]
    rfl
  have c : w = 0 ∨ w = 1 ∨ w = 2 ∨ w = 3 := by omega
  unfold m__law_wanted_fault
  simp only [pair_ok, un_ok, a1, a2, a3, a4]
  rcases c with rfl | rfl | rfl | rfl <;> rfl

/-! marks -/
abbrev Mk_ := Int × Str
def okM (n a : Int) (x : Mk_) : Prop := a < x.1 ∧ x.1 < n ∧ x.2 ∈ (["without", "with"] : List Str)
instance (n a : Int) (x : Mk_) : Decidable (okM n a x) := inferInstanceAs (Decidable (_ ∧ _ ∧ _))
def MV (n : Int) : Int → List Mk_ → Prop
  | _, [] => True
  | a, x :: M => okM n a x ∧ MV n x.1 M
def lastM : Int → List Mk_ → Int
  | a, [] => a
  | _, x :: M => lastM x.1 M
def mfF (P : List Int) : Int × Mk_ → Int → Res (Out Int Int) := fun (x_18 : (Int × (Int × Str))) (z_8 : Int) => ((un (fun p => Res.ok p.1) (Res.ok x_18.2)).bind fun (index_32 : Int) => (ifR (orR (bin rLe (Res.ok index_32) (Res.ok z_8)) (orR (bin rGe (Res.ok index_32) (un rLen (Res.ok P))) (bin ninR (un (fun p => Res.ok p.2) (Res.ok x_18.2)) (Res.ok ([("without" : Str), ("with" : Str)] : (List Str)))))) ((Res.ok x_18.1).bind fun a_47 => Res.ok (Out.rt a_47)) ((Res.ok index_32).bind fun (ahead_54 : Int) => (Res.ok (Out.nx ahead_54)))))
theorem mfF_eq {P : List Int} (k a : Int) (x : Mk_) : mfF P (k, x) a = .ok (if okM P.length a x then .nx x.1 else .rt k) := by
  unfold mfF
  simp only [un_ok, Res.bind_ok, bin_ok, rLe_eq, rGe_eq, rLen_eq, ninR_eq, orR_ok, ifR_ok]
  by_cases h : okM P.length a x
  · rw [if_pos h, if_neg]
    obtain ⟨h1, h2, h3⟩ := h
    simp only [Bool.or_eq_true, decide_eq_true_eq, Bool.not_eq_true', decide_eq_false_iff_not]
    rintro (z | z | z)
    · omega
    · omega
    · exact z h3
  · rw [if_neg h, if_pos]
    simp only [Bool.or_eq_true, decide_eq_true_eq, Bool.not_eq_true', decide_eq_false_iff_not]
    by_cases h1 : a < x.1
    · by_cases h2 : x.1 < P.length
      · exact .inr (.inr fun h3 => h ⟨h1, h2, h3⟩)
      · exact .inr (.inl (by omega))
    · exact .inl (by omega)
theorem mf_loop (P : List Int) : ∀ (M : List Mk_) (i a : Int), MV P.length a M → loopR (mfF P) (enumF i M) a = .ok (.nx (lastM a M)) ∧ ∀ x X, ¬ okM P.length (lastM a M) x → loopR (mfF P) (enumF i (M ++ x :: X)) a = .ok (.rt (i + M.length))
  | [], i, a, _ => ⟨rfl, fun x X h => by
    rw [List.nil_append]
    unfold enumF
    rw [loopR_cons, mfF_eq, if_neg (show ¬ okM P.length a x from h)]
    show Res.ok (Out.rt i) = _
    simp⟩
  | y :: M, i, a, h => by
    obtain ⟨ih1, ih2⟩ := mf_loop P M (i + 1) y.1 h.2
    refine ⟨?_, fun x X hx => ?_⟩
    · unfold enumF
      rw [loopR_cons, mfF_eq, if_pos h.1]
      exact ih1
    · rw [List.cons_append]
      unfold enumF
      rw [loopR_cons, mfF_eq, if_pos h.1]
      refine (ih2 x X hx).trans ?_
      rw [List.length_cons]
      congr 2
      omega
theorem fault_none {P : List Int} {M : List Mk_} (h : MV P.length (-1) M) : m_marks_fault P M = .ok (-1) := by
  unfold m_marks_fault
  rw [un_ok, rNeg_eq, Res.bind_ok, un_ok, enumR_eq, Res.bind_ok]
  exact (congrArg (fun m => Res.bind m _) (mf_loop P M 0 (-1) h).1).trans rfl
theorem fault_at {P : List Int} {M : List Mk_} (h : MV P.length (-1) M) {x : Mk_} {X : List Mk_} (hx : ¬ okM P.length (lastM (-1) M) x) : m_marks_fault P (M ++ x :: X) = .ok (M.length : Int) := by
  unfold m_marks_fault
  rw [un_ok, rNeg_eq, Res.bind_ok, un_ok, enumR_eq, Res.bind_ok]
  refine (congrArg (fun m => Res.bind m _) ((mf_loop P M 0 (-1) h).2 x X hx)).trans ?_
  rw [Int.zero_add]
  rfl
/-! the dict of words -/
theorem MV.gt {n : Int} : ∀ {M : List Mk_} {a : Int}, MV n a M → ∀ x ∈ M, a < x.1
  | y :: M, a, h, x, hx => by
    rcases List.mem_cons.mp hx with rfl | hx
    · exact h.1.1
    · have := MV.gt h.2 x hx
      have := h.1.1
      omega
theorem dict_is {n : Int} : ∀ (M : List Mk_) (a : Int) (d : List Mk_), MV n a M → (∀ x ∈ d, x.1 ≤ a) → dictL (fun (x : Mk_) => (un (fun p => Res.ok p.1) (Res.ok x))) (fun (x : Mk_) => (un (fun p => Res.ok p.2) (Res.ok x))) M d = .ok (d ++ M)
  | [], a, d, _, _ => by rw [List.append_nil]; rfl
  | y :: M, a, d, h, hd => by
    unfold dictL
    have hno : (d.any fun kv => decide (kv.1 = y.1)) = false := by
      rw [← Bool.not_eq_true, List.any_eq_true]
      rintro ⟨x, hx, e⟩
      have := hd x hx
      have := h.1.1
      have := of_decide_eq_true e
      omega
    show dictL _ _ M (dput d y.1 y.2) = _
    unfold dput
    rw [hno, if_neg Bool.false_ne_true, dict_is M y.1 _ h.2 fun x hx => ?_, List.append_assoc]
    · rfl
    · rcases List.mem_append.mp hx with hx | hx
      · have := hd x hx
        have := h.1.1
        omega
      · rw [List.mem_singleton.mp hx]
        exact Int.le_refl _

/-! lines, the words above a leaf -/
def up (P : List Int) : Nat → Int → List Int
  | 0, k => [k]
  | n + 1, k => if 0 ≤ Pg P k then k :: up P n (Pg P k) else [k]
theorem up_root {P : List Int} {k : Int} (h : ¬ 0 ≤ Pg P k) : ∀ n, up P n k = [k]
  | 0 => rfl
  | n + 1 => by rw [up, if_neg h]
theorem line_while {P : List Int} (F : For P) {c : Int × List Int → Res Bool} {f : Int × List Int → Res (Out (Int × List Int) (List Int))} (hc : ∀ (k : Int) (r : List Int), 0 ≤ k → k < P.length → c (k, r) = .ok (decide (0 ≤ Pg P k))) (hf : ∀ (k : Int) (r : List Int), 0 ≤ k → k < P.length → r.length < 1000000 → f (k, r) = .ok (.nx (Pg P k, r ++ [Pg P k]))) :
    ∀ (N : Nat) (k : Int) (acc : List Int) (n : Nat), 0 ≤ k → k < P.length → k.toNat < N → k.toNat ≤ n → acc.length + k.toNat < 900000 → Is (whileF c f N (k, acc ++ [k])) fun o => ∃ k', o = .nx (k', acc ++ up P n k)
  | 0, _, _, _, _, _, h, _, _ => by omega
  | N + 1, k, acc, n, h0, h1, h2, h3, h4 => by
    unfold whileF
    rw [hc _ _ h0 h1, Res.bind_ok]
    have := F.lt k h0 h1
    by_cases h : 0 ≤ Pg P k
    · rw [if_pos (decide_eq_true h), hf _ _ h0 h1 (by simp; omega), Res.bind_ok]
      cases n with
      | zero => omega
      | succ n =>
        rw [up, if_pos h]
        have ih := line_while F hc hf N (Pg P k) (acc ++ [k]) n h (by omega) (by omega) (by omega) (by rw [List.length_append, List.length_singleton]; omega)
        refine Is.imp ih fun o ⟨k', e⟩ => ⟨k', ?_⟩
        rw [e, List.append_assoc]
        rfl
    · rw [if_neg (by rw [decide_eq_false h]; decide), up_root h]
      exact ⟨k, rfl⟩
theorem line_eq {P : List Int} (F : For P) {k : Int} (h0 : 0 ≤ k) (h1 : k < P.length) : m_line P k = .ok (up P P.length k) := by
  unfold m_line
  have hl := F.len
  rw [consR_ok, Res.bind_ok]
  have ix1 : ∀ k : Int, 0 ≤ k → k < P.length → ix P k = .ok (Pg P k) := fun k a b => ix_getD a b
  refine Is.eq ?_
  refine Is.bind (line_while (P := P) F (fun k r a b => ?_) (fun k r a b hr => ?_) fuel k [] P.length h0 h1 (by rw [fuel_eq]; omega) (by omega) (by simp; omega)) fun o ⟨k', e⟩ => ?_
  · simp only [bin_ok, ix1 k a b, rGe_eq]
  · simp only [bin_ok, ix1 k a b, Res.bind_ok]
    rw [push_ok hr]
    rfl
  · subst e
    rfl
abbrev gW (M : List Mk_) (i : Int) : Option Bool := (dget M i).map fun w : Str => decide (w = ("with" : Str))
def fW (M : List Mk_) (l : List Int) : Bool := (l.findSome? (gW M)).getD false
def stt (P : List Int) (M : List Mk_) (k : Int) : Bool := fW M (up P P.length k)
theorem leaf_eq {P : List Int} (h : For P) (M : List Mk_) {k : Int} (k0 : 0 ≤ k) (k1 : k < P.length) : m_names_leaf P M k = .ok (stt P M k) := by
  unfold m_names_leaf
  rw [pair_ok, un_ok, line_eq h k0 k1, Res.bind_ok]
  rw [loopR_find (g := gW M) fun x hx => ?_]
  · unfold stt fW
    rw [Res.bind_ok]
    cases (up P P.length k).findSome? (gW M) <;> rfl
  · have e1 : bin dhas (Res.ok x) (Res.ok M) = .ok (dget M x).isSome := rfl
    have eg : gW M x = (dget M x).map fun w : Str => decide (w = ("with" : Str)) := rfl
    rw [e1, ifR_ok, eg]
    cases hd : dget M x with
    | none => rfl
    | some w =>
      have e2 : bin dix (Res.ok M) (Res.ok x) = .ok w := by
        show dix M x = _
        unfold dix
        rw [hd]
      rw [e2]
      rfl
def NM (P : List Int) (M : List Mk_) : List Int := (lvs P).filter (stt P M)
theorem named_eq {P : List Int} (h : For P) {M : List Mk_} (hM : MV P.length (-1) M) : m_named_leaves P M = .ok (NM P M) := by
  unfold m_named_leaves
  rw [Res.bind_ok, dict_is M (-1) [] hM (fun x hx => (nomatch hx)), Res.bind_ok, un_ok, leaves_eq h.len, Res.bind_ok, List.nil_append]
  rw [filR_id (q := stt P M) fun x hx => ?_]
  · rfl
  · obtain ⟨⟨a, b⟩, _⟩ := mem_lvs.mp hx
    rw [pair_ok, pair_ok, un_ok, leaf_eq h M a b]
/-! the law's naming -/
theorem dget_cons {y : Mk_} {M : List Mk_} {k : Int} : dget (y :: M) k = if y.1 = k then some y.2 else dget M k := by
  unfold dget
  rw [List.find?_cons]
  by_cases h : y.1 = k
  · rw [decide_eq_true h, if_pos h]
    rfl
  · rw [decide_eq_false h, if_neg h]
theorem dget_none {M : List Mk_} {k : Int} (h : ∀ x ∈ M, x.1 ≠ k) : dget M k = none := by
  unfold dget
  rw [List.find?_eq_none.mpr fun x hx => by simpa using h x hx]
  rfl
theorem dget_mem {M : List Mk_} {k : Int} {w : Str} (h : dget M k = some w) : (k, w) ∈ M := by
  unfold dget at h
  cases q : M.find? fun kv => decide (kv.1 = k) with
  | none =>
    rw [q] at h
    cases h
  | some x =>
    rw [q] at h
    have e : x.2 = w := Option.some.inj h
    have hk : x.1 = k := by
      have := List.find?_some q
      exact of_decide_eq_true this
    have hm := List.mem_of_find?_eq_some q
    obtain ⟨a, b⟩ := x
    simp only at e hk
    rw [← e, ← hk]
    exact hm
theorem MV.word {n : Int} : ∀ {M : List Mk_} {a : Int}, MV n a M → ∀ x ∈ M, x.1 < n ∧ x.2 ∈ (["without", "with"] : List Str)
  | y :: M, a, h, x, hx => by
    rcases List.mem_cons.mp hx with rfl | hx
    · exact ⟨h.1.2.1, h.1.2.2⟩
    · exact MV.word h.2 x hx
theorem words_is {n : Nat} : ∀ (M : List Mk_) (a : Int) (ws : List Str), -1 ≤ a → MV n a M → ws.length = n → ∃ ws', loopN (fun (x_33 : (Int × Str)) (z_23 : (List Str)) => (((un (fun p => Res.ok p.2) (Res.ok x_33)).bind fun x => (un (fun p => Res.ok p.1) (Res.ok x_33)).bind fun j => setR z_23 j x).bind fun (words_45 : (List Str)) => (Res.ok words_45))) M ws = .ok ws' ∧ ws'.length = n ∧ ∀ k : Int, 0 ≤ k → k < n → ws'.getD k.toNat "" = (dget M k).getD (ws.getD k.toNat "")
  | [], a, ws, _, _, hl => ⟨ws, rfl, hl, fun k _ _ => rfl⟩
  | y :: M, a, ws, ha, h, hl => by
    have y0 : 0 ≤ y.1 := by have := h.1.1; omega
    have y1 : y.1 < ws.length := by rw [hl]; exact h.1.2.1
    obtain ⟨ws', e, l, q⟩ := words_is M y.1 (ws.set y.1.toNat y.2) (by omega) h.2 (by rw [List.length_set]; exact hl)
    refine ⟨ws', ?_, l, fun k k0 k1 => ?_⟩
    · rw [loopN_cons]
      simp only [un_ok, Res.bind_ok, setR_nat y0 y1]
      exact e
    · rw [q k k0 k1, dget_cons]
      by_cases c : y.1 = k
      · subst c
        rw [if_pos rfl, dget_none fun x hx => by have := MV.gt h.2 x hx; omega]
        show (ws.set y.1.toNat y.2).getD y.1.toNat "" = y.2
        rw [List.getD_eq_getElem?_getD, List.getElem?_set_self (by omega)]
        rfl
      · rw [if_neg c]
        have : (ws.set y.1.toNat y.2).getD k.toNat "" = ws.getD k.toNat "" := by
          rw [List.getD_eq_getElem?_getD, List.getElem?_set_ne (by omega), ← List.getD_eq_getElem?_getD]
        rw [this]
theorem walk_stop {α : Type} {f : α → Int → Res Int} {z : Int} (h : ∀ x, f x z = .ok z) : ∀ xs : List α, loopN f xs z = .ok z
  | [] => rfl
  | x :: xs => by rw [loopN_cons, h, Res.bind_ok, walk_stop h xs]
theorem walk_is {P : List Int} (F : For P) {M : List Mk_} (hM : MV P.length (-1) M) {ws : List Str} (hw : ∀ k : Int, 0 ≤ k → k < P.length → ws.getD k.toNat "" = (dget M k).getD "") {α : Type} {f : α → Int → Res Int} (hf : ∀ (x : α) (z : Int), -1 ≤ z → z < P.length → f x z = .ok (if 0 ≤ z ∧ ws.getD z.toNat "" = "" then Pg P z else z)) :
    ∀ (xs : List α) (z : Int) (m : Nat), 0 ≤ z → z < P.length → z.toNat < xs.length → z.toNat ≤ m → ∃ r, loopN f xs z = .ok r ∧ -1 ≤ r ∧ r < P.length ∧ decide (0 ≤ r ∧ ws.getD r.toNat "" = "with") = fW M (up P m z)
  | [], z, m, _, _, h, _ => absurd h (Nat.not_lt_zero _)
  | x :: xs, z, m, z0, z1, hx, hm => by
    rw [List.length_cons] at hx
    have lt := F.lt z z0 z1
    have head : ∀ m, ∃ l, up P m z = z :: l := fun m => by
      cases m with
      | zero => exact ⟨[], rfl⟩
      | succ m =>
        rw [up]
        split
        · exact ⟨_, rfl⟩
        · exact ⟨[], rfl⟩
    cases hd : dget M z with
    | some w =>
      have hwz : ws.getD z.toNat "" = w := by rw [hw z z0 z1, hd]; rfl
      have hne : w ≠ "" := by
        have := (hM.word _ (dget_mem hd)).2
        rintro rfl
        exact absurd this (show ¬ (("" : Str) ∈ (["without", "with"] : List Str)) by decide +kernel)
      have st : ∀ x, f x z = .ok z := fun x => by rw [hf x z (by omega) z1, if_neg (fun q => hne (hwz ▸ q.2))]
      refine ⟨z, walk_stop st _, by omega, z1, ?_⟩
      obtain ⟨l, e⟩ := head m
      unfold fW
      rw [e, List.findSome?_cons]
      unfold gW
      rw [hd, hwz]
      show _ = decide (w = "with")
      exact dec_congr ⟨fun q => q.2, fun q => ⟨z0, q⟩⟩
    | none =>
      have hwz : ws.getD z.toNat "" = "" := by rw [hw z z0 z1, hd]; rfl
      rw [loopN_cons, hf x z (by omega) z1, if_pos ⟨z0, hwz⟩, Res.bind_ok]
      by_cases hp : 0 ≤ Pg P z
      · cases m with
        | zero => omega
        | succ m =>
          obtain ⟨r, e, r0, r1, q⟩ := walk_is F hM hw hf xs (Pg P z) m hp (by omega) (by omega) (by omega)
          refine ⟨r, e, r0, r1, ?_⟩
          rw [q, up, if_pos hp]
          unfold fW
          rw [List.findSome?_cons]
          unfold gW
          rw [hd]
          rfl
      · have e1 : Pg P z = -1 := by omega
        have st : ∀ x, f x (-1) = .ok (-1) := fun x => by rw [hf x (-1) (by omega) (by omega), if_neg (fun q => absurd q.1 (by decide))]
        rw [e1]
        refine ⟨-1, walk_stop st _, by omega, by omega, ?_⟩
        rw [up_root hp]
        unfold fW
        rw [List.findSome?_cons]
        unfold gW
        rw [hd]
        rfl
theorem push_1k {α : Type} {xs : List α} {x : α} (h : xs.length ≤ 1000) : push xs x = .ok (xs ++ [x]) := push_ok (by omega)
theorem lnamed_eq {P : List Int} (F : For P) {M : List Mk_} (hM : MV P.length (-1) M) : m__law_named P M = .ok (NM P M) := by
  unfold m__law_named
  have hl := F.len
  rw [show ((Res.ok P).bind (mapR (fun (x_1 : Int) => (Res.ok ("" : Str))))) = .ok (P.map fun _ => ("" : Str)) from mapR_okf _ _, Res.bind_ok, Res.bind_ok]
  obtain ⟨ws, ew, lw, qw⟩ := words_is (n := P.length) M (-1) (P.map fun _ => ("" : Str)) (Int.le_refl _) hM (List.length_map ..)
  rw [ew, Res.bind_ok, Res.bind_ok, un_ok, rLen_eq, un_ok, rng1_ok (by omega), Res.bind_ok]
  have hw : ∀ k : Int, 0 ≤ k → k < P.length → ws.getD k.toNat "" = (dget M k).getD "" := fun k a b => by
    rw [qw k a b]
    congr 1
    rw [List.getD_eq_getElem?_getD, List.getElem?_map, List.getElem?_eq_getElem (by omega)]
    rfl
  have iw : ∀ k : Int, 0 ≤ k → k < P.length → ix ws k = .ok (ws.getD k.toNat "") := fun k a b => ix_getD a (by omega)
  rw [loopN_app (q := fun x => !decide (x ∈ P) && stt P M x) (g := fun x => x) fun x a hx ha => ?_]
  · rw [Res.bind_ok, List.nil_append, List.map_id']
    unfold NM lvs
    rw [List.filter_filter]
    congr 1
    exact List.filter_congr fun x _ => Bool.and_comm ..
  · rw [rangeL_length]; simp; omega
  · have hx := mem_rangeL.mp hx
    rw [bin_ok, ninR_eq, ifR_ok]
    by_cases hp : x ∈ P
    · rw [decide_eq_true hp, if_neg (by decide)]
      rfl
    · rw [decide_eq_false hp, if_pos (by decide), Res.bind_ok, Res.bind_ok]
      have hstep : ∀ (y z : Int), -1 ≤ z → z < P.length → (ifR (andR (bin rGe (Res.ok z) (Res.ok (0 : Int))) (bin eqR (bin ix (Res.ok ws) (Res.ok z)) (Res.ok ("" : Str)))) ((bin ix (Res.ok P) (Res.ok z)).bind fun (k_167 : Int) => (Res.ok k_167)) (Res.ok z)) = .ok (if 0 ≤ z ∧ ws.getD z.toNat "" = "" then Pg P z else z) := fun y z z0 z1 => by
        by_cases c : 0 ≤ z
        · rw [bin_ok, rGe_eq, decide_eq_true c, andR_true, bin_ok, iw z c z1, bin_ok, eqR_eq, ifR_ok, bin_ok, ixP c z1]
          by_cases d : ws.getD z.toNat "" = ""
          · rw [if_pos (decide_eq_true d), if_pos ⟨c, d⟩]
            rfl
          · rw [if_neg (by rw [decide_eq_false d]; decide), if_neg (fun z => d z.2)]
        · rw [bin_ok, rGe_eq, decide_eq_false c, andR_false, ifR_ok, if_neg Bool.false_ne_true, if_neg (fun z => c z.1)]
      obtain ⟨r, er, r0, r1, q⟩ := walk_is F hM hw (f := (fun (x_147 : Int) (z_138 : Int) => (ifR (andR (bin rGe (Res.ok z_138) (Res.ok (0 : Int))) (bin eqR (bin ix (Res.ok ws) (Res.ok z_138)) (Res.ok ("" : Str)))) ((bin ix (Res.ok P) (Res.ok z_138)).bind fun (k_167 : Int) => (Res.ok k_167)) (Res.ok z_138)))) hstep (rangeL 0 P.length) x P.length hx.1 hx.2 (by rw [rangeL_length]; omega) (by omega)
      · rw [er, Res.bind_ok]
        have et : (andR (bin rGe (Res.ok r) (Res.ok (0 : Int))) (bin eqR (bin ix (Res.ok ws) (Res.ok r)) (Res.ok ("with" : Str)))) = .ok (stt P M x) := by
          unfold stt
          rw [← q, bin_ok, rGe_eq]
          by_cases c : 0 ≤ r
          · rw [decide_eq_true c, andR_true, bin_ok, iw r c r1, bin_ok, eqR_eq]
            exact congrArg Res.ok (dec_congr ⟨fun z => ⟨c, z⟩, fun z => z.2⟩)
          · rw [decide_eq_false c, andR_false]
            exact congrArg Res.ok (decide_eq_false fun z => c z.1).symm
        rw [et, ifR_ok]
        cases stt P M x with
        | true => rw [if_pos rfl, Res.bind_ok, push_ok ha]; rfl
        | false => rfl

/-! the cheapest marks -/
abbrev sa (S : List Int) (k : Int) : Int := S.getD k.toNat 0
/-- the state a node inherits -/
def inh (P S : List Int) (k : Int) : Int := if 0 ≤ Pg P k then sa S (Pg P k) else 0
/-- a node switches -/
def ndB (P W : List Int) (c : List Pr) (k s : Int) : Bool := if kids P k = [] then (decide (k ∈ W) != decide (s = 1)) else decide (1 + sS c (kids P k) (1 - s) < sS c (kids P k) s)
theorem needs_eq {P W : List Int} {c : List Pr} (hc : c.length = P.length) {k s : Int} (hs : s = 0 ∨ s = 1) : m_needs_mark P W c k s = .ok (ndB P W c k s) := by
  unfold m_needs_mark ndB
  have e1 : m_side_sum c (kids P k) s = .ok (sS c (kids P k) s) := side_eq (kid_in hc) hs
  have e2 : m_side_sum c (kids P k) (1 - s) = .ok (sS c (kids P k) (1 - s)) := side_eq (kid_in hc) (by omega)
  simp only [pair_ok, un_ok, children_eq, Res.bind_ok, neR'_eq, ifR_ok, e1, e2, bin_ok, rSub_eq, rAdd_eq, rGt_eq, inR_eq, eqR_eq, neR_eq]
  by_cases e : kids P k = []
  · rw [e]
    simp only [List.isEmpty_nil, Bool.not_true, Bool.false_eq_true, if_false, if_true]
    cases decide (k ∈ W) <;> cases decide (s = 1) <;> rfl
  · rw [if_neg e]
    have : (kids P k).isEmpty = false := by
      cases hk : kids P k with
      | nil => exact absurd hk e
      | cons _ _ => rfl
    rw [this]
    simp
/-- what the node and all below it cost from state s -/
def cs (c : List Pr) (k s : Int) : Int := if s = 0 then (at_ c k).1 else (at_ c k).2
theorem sS_cs (c : List Pr) (ks : List Int) (s : Int) : sS c ks s = (ks.map fun j => cs c j s).sum := by
  unfold sS s0 s1 cs
  split <;> rfl
theorem cs_step {P W : List Int} {c : List Pr} (hc : Cst P W c) {k s : Int} (k0 : 0 ≤ k) (k1 : k < P.length) (hs : s = 0 ∨ s = 1) :
    cs c k s = (if ndB P W c k s = true then 1 else 0) + sS c (kids P k) (if ndB P W c k s = true then 1 - s else s) := by
  unfold cs
  rw [hc.at' k k0 k1]
  unfold F ndB
  by_cases e : kids P k = []
  · rw [if_pos e, if_pos e, e]
    have z : ∀ t, sS c [] t = 0 := fun t => by unfold sS s0 s1; split <;> rfl
    rw [z]
    by_cases w : k ∈ W
    · rw [if_pos w, decide_eq_true w]
      rcases hs with rfl | rfl <;> rfl
    · rw [if_neg w, decide_eq_false w]
      rcases hs with rfl | rfl <;> rfl
  · rw [if_neg e, if_neg e]
    unfold sS
    generalize s0 c (kids P k) = o
    generalize s1 c (kids P k) = n
    rcases hs with rfl | rfl
    · by_cases q : 1 + n < o
      · simp [q]
        omega
      · simp [q]
        omega
    · by_cases q : 1 + o < n
      · simp [q]
        omega
      · simp [q]
        omega

/-! the number of marks -/
theorem rangeL_nil {a b : Int} (h : b ≤ a) : rangeL a b = [] := by
  unfold rangeL
  rw [show (b - a).toNat = 0 by omega]
  rfl
theorem rangeL_cons {a b : Int} (h : a < b) : rangeL a b = a :: rangeL (a + 1) b := by
  unfold rangeL
  rw [show (b - a).toNat = (b - (a + 1)).toNat + 1 by omega, List.range_succ_eq_map, List.map_cons, List.map_map]
  refine congr (congrArg _ (by simp)) (List.map_congr_left fun i _ => ?_)
  simp
  omega
theorem sum_filter {α : Type} (p : α → Bool) (f : α → Int) : ∀ l : List α, ((l.filter p).map f).sum = (l.map fun j => if p j = true then f j else 0).sum
  | [] => rfl
  | x :: l => by
    rw [List.filter_cons, List.map_cons, List.sum_cons, ← sum_filter p f l]
    by_cases h : p x = true
    · rw [if_pos h, if_pos h, List.map_cons, List.sum_cons]
    · rw [if_neg h, if_neg h, Int.zero_add]
theorem sum_add {α : Type} (f g : α → Int) : ∀ l : List α, (l.map fun j => f j + g j).sum = (l.map f).sum + (l.map g).sum
  | [] => rfl
  | x :: l => by
    rw [List.map_cons, List.map_cons, List.map_cons, List.sum_cons, List.sum_cons, List.sum_cons, sum_add f g l]
    omega
theorem sum_zero {α : Type} {f : α → Int} : ∀ {l : List α}, (∀ x ∈ l, f x = 0) → (l.map f).sum = 0
  | [], _ => rfl
  | x :: l, h => by
    rw [List.map_cons, List.sum_cons, h x List.mem_cons_self, sum_zero fun y hy => h y (List.mem_cons_of_mem _ hy)]
    rfl
theorem rangeL_app {a b c : Int} (h1 : a ≤ b) (h2 : b ≤ c) : rangeL a c = rangeL a b ++ rangeL b c := by
  have key : ∀ (m : Nat) (a : Int), a + m = b → rangeL a c = rangeL a b ++ rangeL b c := by
    intro m
    induction m with
    | zero =>
      intro a e
      rw [show a = b by omega, rangeL_nil (Int.le_refl b)]
      rfl
    | succ m ih =>
      intro a e
      rw [rangeL_cons (show a < c by omega), rangeL_cons (show a < b by omega), ih (a + 1) (by omega)]
      rfl
  exact key (b - a).toNat a (by omega)
def trm (P : List Int) (c : List Pr) (S : List Int) (i j : Int) : Int := if Pg P j < i then cs c j (inh P S j) else 0
def pot (P : List Int) (c : List Pr) (S : List Int) (i : Int) : Int := ((rangeL i P.length).map (trm P c S i)).sum
theorem kids_sum {P : List Int} (F : For P) {c : List Pr} {i s : Int} (i0 : 0 ≤ i) (i1 : i < P.length) : sS c (kids P i) s = ((rangeL (i + 1) P.length).map fun j => if Pg P j = i then cs c j s else 0).sum := by
  rw [sS_cs]
  unfold kids
  rw [sum_filter, rangeL_app (a := 0) (b := i + 1) (by omega) (by omega), List.map_append, List.sum_append, sum_zero (l := rangeL 0 (i + 1)) fun j hj => ?_, Int.zero_add]
  · refine congrArg List.sum (List.map_congr_left fun j _ => ?_)
    by_cases h : Pg P j = i
    · rw [if_pos (decide_eq_true h), if_pos h]
    · rw [if_neg (by rw [decide_eq_false h]; decide), if_neg h]
  · have hj := mem_rangeL.mp hj
    have := F.lt j hj.1 (by omega)
    rw [if_neg (by rw [decide_eq_false (by omega)]; decide)]
theorem pot_step {P W : List Int} (F : For P) {c : List Pr} (hc : Cst P W c) {S : List Int} {i : Int} (hS : (S.length : Int) = i) (i1 : i < P.length) (hh : inh P S i = 0 ∨ inh P S i = 1) :
    pot P c S i = (if ndB P W c i (inh P S i) = true then 1 else 0) + pot P c (S ++ [if ndB P W c i (inh P S i) = true then 1 - inh P S i else inh P S i]) (i + 1) := by
  have i0 : 0 ≤ i := by omega
  generalize hs : (if ndB P W c i (inh P S i) = true then 1 - inh P S i else inh P S i) = s
  have st := cs_step hc i0 i1 hh
  rw [hs] at st
  unfold pot
  rw [rangeL_cons i1, List.map_cons, List.sum_cons]
  have e1 : trm P c S i i = cs c i (inh P S i) := by
    unfold trm
    rw [if_pos (F.lt i i0 i1).2]
  have e2 : ((rangeL (i + 1) P.length).map (trm P c (S ++ [s]) (i + 1))).sum = ((rangeL (i + 1) P.length).map (trm P c S i)).sum + sS c (kids P i) s := by
    rw [kids_sum F i0 i1, ← sum_add]
    refine congrArg List.sum (List.map_congr_left fun j hj => ?_)
    have hj := mem_rangeL.mp hj
    have lt := F.lt j (by omega) hj.2
    unfold trm inh
    by_cases h : Pg P j < i
    · rw [if_pos h, if_pos (by omega), if_neg (show ¬ Pg P j = i by omega), Int.add_zero]
      by_cases g : 0 ≤ Pg P j
      · rw [if_pos g, if_pos g]
        congr 1
        show (S ++ [s]).getD _ 0 = S.getD _ 0
        rw [List.getD_eq_getElem?_getD, List.getD_eq_getElem?_getD, List.getElem?_append_left (by omega)]
      · rw [if_neg g, if_neg g]
    · rw [if_neg h, Int.zero_add]
      by_cases g : Pg P j = i
      · rw [if_pos (by omega), if_pos g, if_pos (by omega)]
        congr 1
        show (S ++ [s]).getD _ 0 = s
        rw [g, List.getD_eq_getElem?_getD, show i.toNat = S.length by omega, List.getElem?_concat_length]
        rfl
      · rw [if_neg (by omega), if_neg g]
  rw [e1, e2, st]
  omega

/-! the cheapest marks: the states -/
theorem up_stable {P : List Int} (F : For P) : ∀ (m m' : Nat) (k : Int), 0 ≤ k → k < P.length → k.toNat ≤ m → k.toNat ≤ m' → up P m k = up P m' k
  | 0, m', k, k0, k1, h, _ => by
    have := F.lt k k0 k1
    rw [up_root (by omega), up_root (by omega)]
  | m + 1, 0, k, k0, k1, _, h => by
    have := F.lt k k0 k1
    rw [up_root (by omega), up_root (by omega)]
  | m + 1, m' + 1, k, k0, k1, h, h' => by
    have := F.lt k k0 k1
    rw [up, up]
    by_cases c : 0 ≤ Pg P k
    · rw [if_pos c, if_pos c, up_stable F m m' (Pg P k) c (by omega) (by omega) (by omega)]
    · rw [if_neg c, if_neg c]
theorem up_le {P : List Int} (F : For P) : ∀ (m : Nat) (k : Int), 0 ≤ k → k < P.length → ∀ j ∈ up P m k, j ≤ k
  | 0, k, _, _, j, hj => by rw [List.mem_singleton.mp hj]; exact Int.le_refl _
  | m + 1, k, k0, k1, j, hj => by
    rw [up] at hj
    have := F.lt k k0 k1
    by_cases c : 0 ≤ Pg P k
    · rw [if_pos c] at hj
      rcases List.mem_cons.mp hj with rfl | hj
      · exact Int.le_refl _
      · have := up_le F m (Pg P k) c (by omega) j hj
        omega
    · rw [if_neg c] at hj
      rw [List.mem_singleton.mp hj]
      exact Int.le_refl _
theorem dget_app {M : List Mk_} {i k : Int} {w : Str} (h : k ≠ i) : dget (M ++ [(i, w)]) k = dget M k := by
  unfold dget
  rw [List.find?_append]
  cases q : M.find? fun kv => decide (kv.1 = k) with
  | some x => rfl
  | none =>
    rw [Option.none_or, List.find?_cons, decide_eq_false (fun z => h z.symm)]
    rfl
theorem fW_app {P : List Int} (F : For P) {M : List Mk_} {i k : Int} {w : Str} (k0 : 0 ≤ k) (k1 : k < P.length) (h : k < i) (m : Nat) : fW (M ++ [(i, w)]) (up P m k) = fW M (up P m k) := by
  unfold fW
  congr 1
  have : ∀ l : List Int, (∀ j ∈ l, j < i) → l.findSome? (gW (M ++ [(i, w)])) = l.findSome? (gW M) := by
    intro l
    induction l with
    | nil => intro _; rfl
    | cons x l ih =>
      intro hl
      rw [List.findSome?_cons, List.findSome?_cons, ih fun j hj => hl j (List.mem_cons_of_mem _ hj)]
      have : gW (M ++ [(i, w)]) x = gW M x := by
        unfold gW
        rw [dget_app (by have := hl x List.mem_cons_self; omega)]
      rw [this]
  exact this _ fun j hj => by have := up_le F m k k0 k1 j hj; omega
theorem MV.app {n : Int} : ∀ {M : List Mk_} {a : Int} {x : Mk_}, MV n a M → okM n (lastM a M) x → MV n a (M ++ [x]) ∧ lastM a (M ++ [x]) = x.1
  | [], a, x, _, h => ⟨⟨h, trivial⟩, rfl⟩
  | y :: M, a, x, hM, h => by
    obtain ⟨h1, h2⟩ := MV.app hM.2 h
    exact ⟨⟨hM.1, h1⟩, h2⟩
theorem MV.le_last {n : Int} : ∀ {M : List Mk_} {a : Int}, MV n a M → a ≤ lastM a M ∧ ∀ x ∈ M, x.1 ≤ lastM a M
  | [], a, _ => ⟨Int.le_refl _, fun x hx => (nomatch hx)⟩
  | y :: M, a, h => by
    obtain ⟨h1, h2⟩ := MV.le_last h.2
    have := h.1.1
    refine ⟨by show a ≤ lastM y.1 M; omega, fun x hx => ?_⟩
    rcases List.mem_cons.mp hx with rfl | hx
    · exact h1
    · exact h2 x hx
theorem dget_new {M : List Mk_} {i : Int} {w : Str} (h : ∀ x ∈ M, x.1 ≠ i) : dget (M ++ [(i, w)]) i = some w := by
  unfold dget
  rw [List.find?_append, List.find?_eq_none.mpr fun x hx => by simpa using h x hx]
  rw [Option.none_or, List.find?_cons, decide_eq_true rfl]
  rfl

/-! the cheapest marks: the loop -/
structure CJ (P W : List Int) (c : List Pr) (i : Nat) (z : List Int × List Mk_) : Prop where
  sl : z.1.length = i
  mv : MV P.length (-1) z.2
  la : lastM (-1) z.2 < i
  nm : (z.2.length : Int) + pot P c z.1 i = s0 c (kids P (-1))
  st : ∀ k : Int, 0 ≤ k → k < i → (sa z.1 k = 0 ∨ sa z.1 k = 1) ∧ decide (sa z.1 k = 1) = stt P z.2 k ∧ (kids P k = [] → decide (sa z.1 k = 1) = decide (k ∈ W))
theorem pot0 {P : List Int} (F : For P) (c : List Pr) : pot P c [] 0 = s0 c (kids P (-1)) := by
  unfold pot s0 kids
  rw [sum_filter]
  refine congrArg List.sum (List.map_congr_left fun j hj => ?_)
  have hj := mem_rangeL.mp hj
  have lt := F.lt j hj.1 hj.2
  unfold trm inh cs
  by_cases h : Pg P j < 0
  · have e : (if 0 ≤ Pg P j then sa [] (Pg P j) else 0) = 0 := if_neg (by omega)
    rw [if_pos h, e, if_pos rfl, if_pos (decide_eq_true (by omega))]
  · rw [if_neg h, if_neg (by rw [decide_eq_false (by omega)]; decide)]
theorem CJ.zero {P W : List Int} (F : For P) (c : List Pr) : CJ P W c 0 ([], []) :=
  ⟨rfl, trivial, by show (-1 : Int) < 0; decide, by show (0 : Int) + pot P c [] 0 = _; rw [pot0 F, Int.zero_add], fun k a b => by omega⟩
theorem CJ.step {P W : List Int} (F : For P) {c : List Pr} (hc : Cst P W c) {i : Nat} {z : List Int × List Mk_} (J : CJ P W c i z) (i1 : i < P.length) :
    (inh P z.1 i = 0 ∨ inh P z.1 i = 1) ∧ ∀ s w, s = (if ndB P W c i (inh P z.1 i) = true then 1 - inh P z.1 i else inh P z.1 i) → w = (if s = 1 then ("with" : Str) else "without") →
      CJ P W c (i + 1) (z.1 ++ [s], if ndB P W c i (inh P z.1 i) = true then z.2 ++ [((i : Int), w)] else z.2) := by
  have lt := F.lt (i : Int) (by omega) (by omega)
  have hh : inh P z.1 i = 0 ∨ inh P z.1 i = 1 := by
    unfold inh
    by_cases g : 0 ≤ Pg P i
    · rw [if_pos g]
      exact (J.st _ g (by omega)).1
    · rw [if_neg g]
      exact .inl rfl
  refine ⟨hh, fun s w hs hw => ?_⟩
  have ps := pot_step F hc (S := z.1) (i := (i : Int)) (by rw [J.sl]) (by omega) hh
  rw [← hs] at ps
  have hs01 : s = 0 ∨ s = 1 := by
    rw [hs]
    split <;> omega
  have low : ∀ x ∈ z.2, x.1 ≠ (i : Int) := fun x hx => by
    have := (J.mv.le_last).2 x hx
    have := J.la
    omega
  have okn : okM P.length (lastM (-1) z.2) ((i : Int), w) := ⟨J.la, by show (i : Int) < P.length; omega, by
    rw [hw]
    split <;> simp⟩
  have sOld : ∀ k : Int, 0 ≤ k → k < i → sa (z.1 ++ [s]) k = sa z.1 k := fun k a b => by
    show (z.1 ++ [s]).getD _ 0 = z.1.getD _ 0
    rw [List.getD_eq_getElem?_getD, List.getD_eq_getElem?_getD, List.getElem?_append_left (by rw [J.sl]; omega)]
  have sNew : sa (z.1 ++ [s]) i = s := by
    show (z.1 ++ [s]).getD (i : Int).toNat 0 = s
    rw [Int.toNat_natCast, List.getD_eq_getElem?_getD, ← J.sl, List.getElem?_concat_length]
    rfl
  have lf : kids P i = [] → decide (s = 1) = decide ((i : Int) ∈ W) := fun e => by
    rw [hs]
    unfold ndB
    rw [if_pos e]
    rcases hh with h | h <;> rw [h] <;> by_cases m : (i : Int) ∈ W <;> simp [m]
  obtain ⟨n, hn⟩ : ∃ n, P.length = n + 1 := ⟨P.length - 1, by omega⟩
  have upi : up P P.length i = (i : Int) :: (if 0 ≤ Pg P i then up P n (Pg P i) else []) := by
    rw [hn, up]
    split <;> rfl
  refine ⟨by simp [J.sl], ?_, ?_, ?_, fun k a b => ?_⟩
  · split
    · exact (J.mv.app okn).1
    · exact J.mv
  · split
    · rw [(J.mv.app okn).2]
      show (i : Int) < ((i + 1 : Nat) : Int)
      omega
    · have := J.la
      show lastM (-1) z.2 < ((i + 1 : Nat) : Int)
      omega
  · have nm := J.nm
    rw [ps] at nm
    show _ + pot P c (z.1 ++ [s]) ((i + 1 : Nat) : Int) = _
    rw [show ((i + 1 : Nat) : Int) = (i : Int) + 1 by omega]
    by_cases q : ndB P W c i (inh P z.1 i) = true
    · rw [if_pos q] at nm ⊢
      rw [List.length_append, List.length_singleton]
      omega
    · rw [if_neg q] at nm ⊢
      show (z.2.length : Int) + _ = _
      omega
  · by_cases hk : k < i
    · obtain ⟨o1, o2, o3⟩ := J.st k a hk
      show (sa (z.1 ++ [s]) k = 0 ∨ sa (z.1 ++ [s]) k = 1) ∧ _
      rw [sOld k a hk]
      refine ⟨o1, ?_, o3⟩
      rw [o2]
      unfold stt
      split
      · exact (fW_app F a (by omega) hk _).symm
      · rfl
    · have e : k = (i : Int) := by omega
      subst e
      show (sa (z.1 ++ [s]) i = 0 ∨ sa (z.1 ++ [s]) i = 1) ∧ _
      rw [sNew]
      refine ⟨hs01, ?_, lf⟩
      unfold stt
      rw [upi]
      by_cases q : ndB P W c i (inh P z.1 i) = true
      · rw [if_pos q]
        unfold fW
        rw [List.findSome?_cons]
        unfold gW
        rw [dget_new low, hw]
        rcases hs01 with r | r
        · rw [r, if_neg (by decide)]
          show decide ((0 : Int) = 1) = decide (("without" : Str) = "with")
          decide +kernel
        · rw [r, if_pos rfl]
          show decide ((1 : Int) = 1) = decide (("with" : Str) = "with")
          decide +kernel
      · rw [if_neg q]
        rw [if_neg q] at hs
        unfold fW
        rw [List.findSome?_cons]
        have e0 : gW z.2 i = none := by
          unfold gW
          rw [dget_none low]
          rfl
        rw [e0]
        unfold inh at hs
        by_cases g : 0 ≤ Pg P i
        · rw [if_pos g] at hs ⊢
          have := (J.st _ g (by omega)).2.1
          rw [hs, this]
          unfold stt fW
          rw [up_stable F P.length n (Pg P i) g (by omega) (by omega) (by omega)]
        · rw [if_neg g] at hs ⊢
          rw [hs]
          rfl

/-! the cheapest marks: all of them -/
theorem MV.len {n : Int} : ∀ {M : List Mk_} {a : Int}, MV n a M → (M.length : Int) ≤ lastM a M - a
  | [], a, _ => by show (0 : Int) ≤ a - a; omega
  | y :: M, a, h => by
    have := MV.len h.2
    have := h.1.1
    rw [List.length_cons]
    show ((M.length + 1 : Nat) : Int) ≤ lastM y.1 M - a
    omega
theorem cheap_is {P W : List Int} (F : For P) {c : List Pr} (hc : Cst P W c) : Is (m_cheapest_marks P W c) fun M => MV P.length (-1) M ∧ (M.length : Int) = s0 c (kids P (-1)) ∧ ∀ k ∈ lvs P, stt P M k = decide (k ∈ W) := by
  unfold m_cheapest_marks
  have hl := F.len
  rw [Res.bind_ok, Res.bind_ok, un_ok, enumR_eq, Res.bind_ok]
  refine Is.bind (loopN_inv (fun i z => CJ P W c i z) (CJ.zero F c) fun i x z hx J => ?_) fun z J => ?_
  · rw [enumF_get] at hx
    obtain ⟨v, hv, e⟩ := Option.map_eq_some_iff.mp hx
    subst e
    have i1 := (List.getElem?_eq_some_iff.mp hv).1
    have ev : v = Pg P (i : Int) := by
      unfold Pg
      rw [Int.toNat_natCast, List.getD_eq_getElem?_getD, hv]
      rfl
    have lt := F.lt (i : Int) (by omega) (by omega)
    obtain ⟨hh, st⟩ := J.step F hc i1
    rw [Int.zero_add]
    dsimp only
    have eh : ((ifR (bin rGe (Res.ok v) (Res.ok (0 : Int))) ((bin ix (Res.ok z.1) (Res.ok v)).bind fun (s : Int) => (Res.ok s)) (Res.ok 0)) : Res Int) = .ok (inh P z.1 i) := by
      rw [bin_ok, rGe_eq, ifR_ok, ev]
      unfold inh
      by_cases g : 0 ≤ Pg P i
      · rw [if_pos (decide_eq_true g), if_pos g, bin_ok, ix_getD (d := 0) g (by rw [J.sl]; omega)]
        rfl
      · rw [if_neg (by rw [decide_eq_false g]; decide), if_neg g]
    rw [Res.bind_ok, eh, Res.bind_ok, pair_ok, pair_ok, pair_ok, pair_ok, un_ok, needs_eq hc.len hh, ifR_ok]
    have ln := MV.len J.mv
    have la := J.la
    have p1 : ∀ x, push z.2 x = .ok (z.2 ++ [x]) := fun x => push_ok (by omega)
    have p2 : ∀ x, push z.1 x = .ok (z.1 ++ [x]) := fun x => push_ok (by rw [J.sl]; omega)
    by_cases q : ndB P W c i (inh P z.1 i) = true
    · have S := st _ _ rfl rfl
      rw [if_pos q, if_pos q] at S
      have ew : bin ix (Res.ok ([("without" : Str), ("with" : Str)] : List Str)) (Res.ok (1 - inh P z.1 i)) = .ok (if 1 - inh P z.1 i = 1 then ("with" : Str) else "without") := by
        rcases hh with h | h <;> rw [h] <;> rfl
      rw [if_pos q, bin_ok, rSub_eq, Res.bind_ok, ew, pair_ok, Res.bind_ok, p1, Res.bind_ok, Res.bind_ok, Res.bind_ok, p2, Res.bind_ok]
      exact S
    · have S := st _ _ rfl rfl
      rw [if_neg q, if_neg q] at S
      rw [if_neg q, Res.bind_ok, Res.bind_ok, p2, Res.bind_ok]
      exact S
  · rw [enumF_length] at J
    refine ⟨J.mv, ?_, fun k hk => ?_⟩
    · have := J.nm
      unfold pot at this
      rw [rangeL_nil (Int.le_refl _)] at this
      simpa using this
    · obtain ⟨⟨a, b⟩, _⟩ := mem_lvs.mp hk
      obtain ⟨_, h2, h3⟩ := J.st k a b
      rw [← h2]
      exact h3 ((kids_nil a b).mpr hk)

/-! the judgements that the law asks for -/
theorem naming_eq {P W : List Int} (F : For P) (hW : m_check_wanted P W = .ok ()) {M : List Mk_} (hM : MV P.length (-1) M) : m_is_naming P W M = .ok (decide (NM P M = W)) := by
  unfold m_is_naming
  simp only [pair_ok, un_ok, hW, Res.bind_ok, fault_none hM, bin_ok, rGe_eq, ifR_ok, named_eq F hM, idR_eq, eqR_eq]
  rw [if_neg (by decide)]
theorem naming_bad {P W : List Int} (hW : m_check_wanted P W = .ok ()) {M : List Mk_} {j : Int} (h0 : 0 ≤ j) (hM : m_marks_fault P M = .ok j) : m_is_naming P W M = .ok false := by
  unfold m_is_naming
  simp only [pair_ok, un_ok, hW, Res.bind_ok, hM, bin_ok, rGe_eq, ifR_ok]
  rw [if_pos (decide_eq_true h0)]
theorem lfault_ok {P : List Int} (F : For P) {M : List Mk_} (hM : MV P.length (-1) M) : m__law_fault P M = .ok (-1, NM P M) := by
  unfold m__law_fault
  have e : m_named P M = .ok (NM P M) := by
    unfold m_named
    simp only [pair_ok, un_ok, fault_none hM, Res.bind_ok, bin_ok, rGe_eq, ifR_ok, named_eq F hM]
    rw [if_neg (by decide)]
  simp only [pair_ok, un_ok, e, Res.bind_ok, tryR_ok, rNeg_eq]
theorem lfault_bad {P : List Int} {M : List Mk_} {j : Int} (h0 : 0 ≤ j) (hM : m_marks_fault P M = .ok j) : m__law_fault P M = .ok (j, []) := by
  unfold m__law_fault
  have e : m_named P M = .exc .BadArea j := by
    unfold m_named
    simp only [pair_ok, un_ok, hM, Res.bind_ok, bin_ok, rGe_eq, ifR_ok]
    rw [if_pos (decide_eq_true h0)]
  simp only [pair_ok, un_ok, e]
  rw [show ((Res.exc Ec.BadArea j : Res (List Int)).bind fun t => (Res.ok (Out.nx t) : Res (Out (List Int) (Int × List Int)))) = .exc .BadArea j from rfl, tryR_exc (by decide) (by decide)]
  rfl
theorem NM_wok {P : List Int} (M : List Mk_) : WOk P (NM P M) := by
  refine ⟨fun w hw => (List.mem_filter.mp hw).1, ?_⟩
  unfold NM lvs
  refine List.Pairwise.filter _ (List.Pairwise.filter _ ?_)
  unfold rangeL
  rw [List.pairwise_map]
  exact List.pairwise_lt_range.imp fun h => by omega

theorem are_loop {P : List Int} {f : Mk_ → Int → Res (Out Int Bool)} (hf : ∀ x a, okM P.length a x → f x a = .ok (.nx x.1)) : ∀ (M : List Mk_) (a : Int), MV P.length a M → loopR f M a = .ok (.nx (lastM a M))
  | [], a, _ => rfl
  | x :: M, a, h => by
    rw [loopR_cons, hf x a h.1]
    exact are_loop hf M x.1 h.2
theorem are_marks {P : List Int} {M : List Mk_} (hM : MV P.length (-1) M) : m__law_are_marks P M = .ok true := by
  unfold m__law_are_marks
  simp only [pair_ok, un_ok, notR_eq, ifR_ok, Bool.not_true, Bool.false_eq_true, if_false, rNeg_eq, Res.bind_ok]
  rw [are_loop (P := P) (fun x a h => ?_) M (-1) hM]
  · rfl
  · obtain ⟨h1, h2, h3⟩ := h
    have h4 : x.2 ∈ (["with", "without"] : List Str) := by
      simp only [List.mem_cons, List.not_mem_nil, or_false] at h3 ⊢
      exact h3.symm
    simp only [consR_ok, bin_ok, neR_eq, orR_ok, rLe_eq, rGe_eq, rLen_eq, ninR_eq, ifR_ok]
    rw [if_neg (by simp), if_neg]
    simp only [Bool.or_eq_true, decide_eq_true_eq, Bool.not_eq_true', decide_eq_false_iff_not]
    rintro (z | z | z)
    · omega
    · omega
    · exact z h4

/-! the law's changes -/
theorem cat_1k {α : Type} {xs ys : List α} (h : xs.length ≤ 10000) (h' : ys.length ≤ 10000) : rCatR xs ys = .ok (xs ++ ys) := rCatR_ok (by omega)
theorem MV.drop_in {n : Int} : ∀ {A : List Mk_} {a : Int} {x : Mk_} {B : List Mk_}, MV n a (A ++ x :: B) → MV n a (A ++ B) ∧ ∀ w, w ∈ (["without", "with"] : List Str) → MV n a (A ++ (x.1, w) :: B)
  | [], a, x, [], h => ⟨trivial, fun w hw => ⟨⟨h.1.1, h.1.2.1, hw⟩, trivial⟩⟩
  | [], a, x, y :: B, h => ⟨⟨⟨by have := h.1.1; have := h.2.1.1; omega, h.2.1.2⟩, h.2.2⟩, fun w hw => ⟨⟨h.1.1, h.1.2.1, hw⟩, h.2⟩⟩
  | y :: A, a, x, B, h => by
    obtain ⟨h1, h2⟩ := MV.drop_in (A := A) h.2
    exact ⟨⟨h.1, h1⟩, fun w hw => ⟨h.1, h2 w hw⟩⟩

theorem changes_is {P W : List Int} (F : For P) (hW : m_check_wanted P W = .ok ()) {M : List Mk_} (hM : MV P.length (-1) M) (hl : M.length ≤ 1000) (p : Pl) : m__law_changes_right P W M p = .ok (true, p) := by
  unfold m__law_changes_right
  simp only [consR_ok, Res.bind_ok, un_ok, rLen_eq, rng1_ok (n := (M.length : Int)) (by omega)]
  rw [loopR_any (p := fun _ => false) (r := (false, p)) fun x hx => ?_]
  · simp
  · have hx := mem_rangeL.mp hx
    obtain ⟨y, ey, hy⟩ := ix_get (xs := M) hx.1 hx.2
    have hlt : x.toNat < M.length := by omega
    have split : M = M.take x.toNat ++ y :: M.drop (x.toNat + 1) := by
      rw [← drop_cons hy, List.take_append_drop]
    have hM2 := hM
    rw [split] at hM2
    obtain ⟨h1, h2⟩ := MV.drop_in hM2
    have hw : y.2 = "without" ∨ y.2 = "with" := by
      have := (hM.word y (List.mem_of_getElem? hy)).2
      simpa using this
    have eT : ∃ w, bin ix (Res.ok ([("with" : Str), ("without" : Str)] : List Str)) (bin rSub (Res.ok (1 : Int)) (bin idxR (Res.ok ([("with" : Str), ("without" : Str)] : List Str)) (Res.ok y.2))) = .ok w ∧ w ∈ (["without", "with"] : List Str) := by
      rcases hw with h | h
      · rw [h]
        exact ⟨"with", by rfl, by simp⟩
      · rw [h]
        exact ⟨"without", by rfl, by simp⟩
    obtain ⟨w, ew, hww⟩ := eT
    have t1 : (M.take x.toNat).length ≤ 1000 := by rw [List.length_take]; omega
    have t2 : (M.drop (x.toNat + 1)).length ≤ 1000 := by rw [List.length_drop]; omega
    have one : ∀ bad, MV P.length (-1) bad → (ifR (orR (un notR (un (fun _ => Res.ok true) (pair (Res.ok (decide (NM P bad = W))) (Res.ok ())))) (bin neR (Res.ok (decide (NM P bad = W))) (bin eqR (un (fun (p : ((List Int) × (List (Int × Str)))) => m__law_named p.1 p.2) (pair (Res.ok P) (Res.ok bad))) (Res.ok W)))) ((Res.ok false).bind fun a_72 => Res.ok (Out.rt (a_72, p))) (Res.ok (Out.nx ())) : Res (Out Unit (Bool × Pl))) = .ok (.nx ()) := fun bad hb => by
      simp only [pair_ok, un_ok, lnamed_eq F hb, bin_ok, eqR_eq, neR_eq, notR_eq, orR_ok, ifR_ok]
      rw [if_neg (by simp)]
    simp only [bin_ok, ey, un_ok] at ew ⊢
    rw [ew]
    simp only [pair_ok, Res.bind_ok, someR_ok, slR_ok, rAdd_eq, bin_ok, cut_lo hx.1, cut_hi (show (0 : Int) ≤ x + 1 by omega), consR_ok]
    rw [show (x + 1).toNat = x.toNat + 1 by omega, cat_1k (by omega) (by omega), cat_1k (xs := M.take x.toNat) (ys := [(y.1, w)]) (by omega) (by simp), bin_ok, cat_1k (by simp; omega) (by omega)]
    simp only [consR_ok, Res.bind_ok]
    rw [loopR_any (p := fun _ => false) (r := (false, p)) fun bad hbad => ?_]
    · simp
    · have hb : MV P.length (-1) bad := by
        simp only [List.mem_cons, List.not_mem_nil, or_false] at hbad
        rcases hbad with rfl | rfl
        · exact h1
        · rw [List.append_assoc]
          exact h2 w hww
      rw [un_ok, naming_eq F hW hb, Res.bind_ok]
      exact one bad hb

theorem cut_le {α : Type} {xs : List α} {a b : Option Int} : (cut xs a b).length ≤ xs.length := by
  unfold cut
  rw [List.length_take, List.length_drop]
  omega
theorem bounds_is {P W : List Int} (F : For P) (hW : m_check_wanted P W = .ok ()) {c : List Pr} (hc : Cst P W c) {many : Int} (h0 : 0 ≤ many) (h : many < s0 c (kids P (-1))) {p : Pl} (hp : PI_ p) : Is (m__law_bounds_right P W c many p) fun b => b.1 = true := by
  unfold m__law_bounds_right
  have hl := F.len
  have hcl := hc.len
  have n1 : 0 < P.length := by
    rcases Nat.eq_zero_or_pos P.length with e | e
    · exfalso
      have : kids P (-1) = [] := by
        unfold kids
        rw [e, show rangeL 0 ((0 : Nat) : Int) = [] from rfl]
        rfl
      rw [this] at h
      have : s0 c [] = 0 := rfl
      omega
    · exact e
  have e1 : m__law_bound P W c many = .ok true := by rw [lbound_eq F, LB_cst hc, decide_eq_true h]
  have e2 : m_is_marks_bound P W c many = .ok true := by rw [pbound_eq F hW, LB_cst hc, decide_eq_true h]
  have e3 : m_is_marks_bound P W (cut c none (some (-1))) many = .ok false := by
    rw [pbound_eq F hW]
    unfold LB
    rw [decide_eq_false, Bool.false_and]
    rw [cut_last, List.length_dropLast]
    omega
  simp only [pair_ok, un_ok, notR_eq, e1, e2, e3, orR_ok, ifR_ok, bin_ok, neR_eq, rNeg_eq, someR_ok, slR_ok]
  rw [if_neg (by simp), if_neg (by simp), if_neg (by simp), rng1_ok (n := 6) (by decide), Res.bind_ok]
  refine Is.bind (loopR_inv (J := PI_) hp fun x q hx hq => ?_) fun o ⟨s', e, hs⟩ => ?_
  · obtain ⟨k, ek, hk, pk⟩ := take_ok (n := (P.length : Int)) hq (by omega) (by omega)
    obtain ⟨a, ea, ha, pa⟩ := take_ok (n := 3) pk (by decide) (by decide)
    obtain ⟨b, eb, hb, pb⟩ := take_ok (n := 3) pa (by decide) (by decide)
    simp only [rLen_eq, callM_ok, ek, Res.bind_ok, consM_eq, binM_eq, ea, eb, liftM_eq, rSub_eq]
    obtain ⟨u, eu, hu⟩ := ix_get (xs := c) (i := k.1) hk.1 (by omega)
    have i0 : ix [a.1 - 1, b.1 - 1] 0 = .ok (a.1 - 1) := rfl
    have i1 : ix [a.1 - 1, b.1 - 1] 1 = .ok (b.1 - 1) := rfl
    simp only [eu, i0, i1, un_ok, bin_ok, rAdd_eq, pair_ok, Res.bind_ok, someR_ok, slR_ok, consR_ok]
    have t1 := (cut_le (xs := c) (a := none) (b := some k.1))
    have t2 := (cut_le (xs := c) (a := some (k.1 + 1)) (b := none))
    rw [cat_1k (by omega) (by simp), bin_ok, cat_1k (by simp; omega) (by omega), Res.bind_ok]
    simp only [pair_ok, un_ok, pbound_eq F hW, lbound_eq F, Res.bind_ok, notR_eq, bin_ok, neR_eq, orR_ok, ifR_ok]
    rw [if_neg (by simp)]
    exact ⟨_, rfl, pb⟩
  · subst e
    rfl

/-! drawn marks -/
theorem MV.take_ {n : Int} : ∀ {A B : List Mk_} {a : Int}, MV n a (A ++ B) → MV n a A
  | [], _, _, _ => trivial
  | _ :: _, _, _, h => ⟨h.1, MV.take_ h.2⟩
theorem lastM_app (y : Mk_) : ∀ (A : List Mk_) (a : Int), lastM a (A ++ [y]) = y.1
  | [], _ => rfl
  | x :: A, a => lastM_app y A x.1
theorem drawn_is {P : List Int} (F : For P) {p : Pl} (hp : PI_ p) : Is (m__law_drawn_marks_right P p) fun b => b.1 = true := by
  unfold m__law_drawn_marks_right
  have hl := F.len
  rw [Res.bind_ok, un_ok, rLen_eq, un_ok, rng1_ok (n := (P.length : Int)) (by omega), Res.bind_ok]
  refine Is.bind (loopN_inv (fun i (z : List Mk_ × Pl) => (MV P.length (-1) z.1 ∧ lastM (-1) z.1 < i ∧ z.1.length ≤ i) ∧ PI_ z.2) ⟨⟨trivial, by show (-1 : Int) < 0; decide, Nat.le_refl _⟩, hp⟩ fun i x z hx ⟨⟨j1, j2, j3⟩, hq⟩ => ?_) fun z ⟨⟨j1, j2, j3⟩, hq⟩ => ?_
  · have hx1 := rangeL_get hx
    have hi := (List.getElem?_eq_some_iff.mp hx).1
    rw [rangeL_length] at hi
    obtain ⟨t, et, ht, pt⟩ := take_ok (n := 3) hq (by decide) (by decide)
    obtain ⟨u, eu, hu, pu⟩ := take_ok (n := 2) pt (by decide) (by decide)
    simp only [ifMR_eq, binM_eq, callM_ok, et, Res.bind_ok, liftM_eq, eqR_eq, pairM_eq, consR_ok, eu]
    have ew : ∃ w, ix ([("with" : Str), ("without" : Str)] : List Str) u.1 = .ok w ∧ w ∈ (["without", "with"] : List Str) := by
      have c : u.1 = 0 ∨ u.1 = 1 := by omega
      rcases c with c | c
      · rw [c]
        exact ⟨"with", rfl, by simp⟩
      · rw [c]
        exact ⟨"without", rfl, by simp⟩
    obtain ⟨w, ew, hw⟩ := ew
    refine Is.if_ (fun _ => ?_) fun _ => ?_
    · simp only [ew, Res.bind_ok]
      have p1 : push z.1 (x, w) = .ok (z.1 ++ [(x, w)]) := push_ok (by omega)
      rw [p1]
      have ok1 : okM P.length (lastM (-1) z.1) (x, w) := ⟨by show _ < x; omega, by show x < _; omega, hw⟩
      obtain ⟨k1, k2⟩ := j1.app ok1
      refine ⟨⟨k1, ?_, ?_⟩, pu⟩
      · show lastM (-1) (z.1 ++ [(x, w)]) < ((i + 1 : Nat) : Int)
        rw [k2]
        show x < _
        omega
      · show (z.1 ++ [(x, w)]).length ≤ i + 1
        rw [List.length_append, List.length_singleton]
        omega
    · exact ⟨⟨j1, by show lastM (-1) z.1 < ((i + 1 : Nat) : Int); omega, by show z.1.length ≤ i + 1; omega⟩, pt⟩
  · rw [rangeL_length] at j2 j3
    obtain ⟨M, q⟩ := z
    dsimp only at j1 j2 j3 hq ⊢
    have hM : M.length ≤ 1000 := by omega
    have hW := (check_both (W := NM P M) hl (NM_wok M)).1
    obtain ⟨t, et, ht, pt⟩ := take_ok (n := 3) hq (by decide) (by decide)
    obtain ⟨u, eu, hu, pu⟩ := take_ok (n := (M.length : Int) + 1) pt (by omega) (by omega)
    simp only [un_ok, pair_ok, lnamed_eq F j1, lfault_ok F j1, naming_eq F hW j1, rNeg_eq, bin_ok, neR_eq, orR_ok, ifR_ok, Res.bind_ok, rLen_eq, consR_ok, binM_eq, liftM_eq, callM_ok, et, rAdd_eq]
    rw [if_neg (by simp)]
    have ew : ∃ w : Mk_, ix ([((P.length : Int), ("with" : Str)), (-1, ("with" : Str)), (0, ("wit" : Str))] : List Mk_) t.1 = .ok w ∧ ∀ A B, M = A ++ B → (w.1 = 0 → A = []) → ¬ okM P.length (lastM (-1) A) w := by
      have c : t.1 = 0 ∨ t.1 = 1 ∨ t.1 = 2 := by omega
      rcases c with c | c | c
      · rw [c]
        exact ⟨_, rfl, fun A B _ _ z => by have := z.2.1; dsimp only at this; omega⟩
      · rw [c]
        refine ⟨_, rfl, fun A B e _ z => ?_⟩
        have := z.1
        rw [e] at j1
        have := (MV.take_ j1).le_last.1
        dsimp only at *
        omega
      · rw [c]
        refine ⟨_, rfl, fun A B _ _ z => ?_⟩
        have := z.2.2
        exact absurd this (show ¬ (("wit" : Str) ∈ (["without", "with"] : List Str)) by decide +kernel)
    obtain ⟨w, ew, hw⟩ := ew
    rw [ew]
    simp only [Res.bind_ok, eu, eqR_eq, ifR_ok, bin_ok]
    refine Is.bind (Q := fun z : Int => (0 ≤ z ∧ z ≤ M.length) ∧ (w.1 = 0 → z = 0)) ?_ fun z ⟨⟨z0, z1⟩, z2⟩ => ?_
    · refine Is.if_ (fun hc => ⟨⟨Int.le_refl _, by omega⟩, fun _ => rfl⟩) fun hc => ⟨⟨hu.1, by omega⟩, fun h => absurd h (of_decide_eq_false hc)⟩
    simp only [someR_ok, slR_ok, consR_ok, cut_lo z0, cut_hi z0]
    have t1 : (M.take z.toNat).length = z.toNat := by rw [List.length_take]; omega
    have t2 : (M.drop z.toNat).length ≤ 1000 := by rw [List.length_drop]; omega
    rw [bin_ok, cat_1k (by omega) (by simp), bin_ok, cat_1k (by simp; omega) (by omega), Res.bind_ok]
    have spl : M = M.take z.toNat ++ M.drop z.toNat := (List.take_append_drop ..).symm
    have hA : MV P.length (-1) (M.take z.toNat) := by
      have := j1
      rw [spl] at this
      exact MV.take_ this
    have fl : m_marks_fault P (M.take z.toNat ++ [w] ++ M.drop z.toNat) = .ok z := by
      rw [List.append_assoc]
      refine (fault_at hA (hw _ _ spl fun h => ?_)).trans ?_
      · rw [z2 h]
        rfl
      · rw [t1]
        congr 1
        omega
    simp only [un_ok, pair_ok, lfault_bad z0 fl, naming_bad hW z0 fl, bin_ok, neR_eq, orR_ok, ifR_ok, rGt_eq]
    rw [if_neg (by simp)]
    refine Is.if_ (fun hc => ?_) fun _ => rfl
    have hc := of_decide_eq_true hc
    obtain ⟨v, ev, hv, pv⟩ := take_ok (n := (M.length : Int)) pu hc (by omega)
    rw [ev]
    simp only [Res.bind_ok, rAdd_eq, bin_ok, someR_ok, slR_ok, cut_lo (show (0 : Int) ≤ v.1 + 1 by omega), cut_hi hv.1]
    rw [cat_1k (by rw [List.length_take]; omega) (by rw [List.length_drop]; omega), Res.bind_ok]
    obtain ⟨y, ey, hy⟩ := ix_get (xs := M) hv.1 hv.2
    have s1 : M.take (v.1 + 1).toNat = M.take v.1.toNat ++ [y] := by
      rw [show (v.1 + 1).toNat = v.1.toNat + 1 by omega, List.take_add_one, hy]
      rfl
    have fl2 : m_marks_fault P (M.take (v.1 + 1).toNat ++ M.drop v.1.toNat) = .ok (v.1 + 1) := by
      rw [drop_cons hy]
      have hA : MV P.length (-1) (M.take (v.1 + 1).toNat) := by
        have := j1
        rw [← List.take_append_drop (v.1 + 1).toNat M] at this
        exact MV.take_ this
      refine (fault_at hA (x := y) ?_).trans ?_
      · rw [s1, lastM_app]
        intro z
        have := z.1
        omega
      · rw [List.length_take]
        congr 1
        omega
    simp only [lfault_bad (show (0 : Int) ≤ v.1 + 1 by omega) fl2, eqR_eq, Res.bind_ok]
    show decide _ = true
    simp
/-! the draws of the law -/
theorem mapM_ix {α β μ : Type} {f : α → μ → Res (β × μ)} {J : μ → Prop} {B : α → β → Prop} : ∀ {xs : List α} {y : μ}, J y → (∀ x y, x ∈ xs → J y → Is (f x y) fun b => B x b.1 ∧ J b.2) → Is (mapM f xs y) fun c => (c.1.length = xs.length ∧ ∀ (i : Nat) x b, xs[i]? = some x → c.1[i]? = some b → B x b) ∧ J c.2
  | [], y, h0, _ => ⟨⟨rfl, fun i x b h => by simp at h⟩, h0⟩
  | x :: xs, y, h0, h => by
    refine Is.bind (h x y List.mem_cons_self h0) fun b hb => ?_
    refine Is.bind (mapM_ix (xs := xs) hb.2 fun z w hz hw => h z w (List.mem_cons_of_mem _ hz) hw) fun c hc => ?_
    refine ⟨⟨by simp [hc.1.1], fun i u v h1 h2 => ?_⟩, hc.2⟩
    cases i with
    | zero =>
      cases h1
      cases h2
      exact hb.1
    | succ i => exact hc.1.2 i u v h1 h2
theorem filM_is {α μ : Type} {p : α → μ → Res (Bool × μ)} {J : μ → Prop} : ∀ {xs : List α} {y : μ}, J y → (∀ x y, x ∈ xs → J y → Is (p x y) fun b => J b.2) → Is (filM p (fun x => liftM (Res.ok x)) xs y) fun c => List.Sublist c.1 xs ∧ J c.2
  | [], y, h0, _ => ⟨List.Sublist.refl _, h0⟩
  | x :: xs, y, h0, h => by
    unfold filM
    refine Is.bind (h x y List.mem_cons_self h0) fun b hb => ?_
    have ih : ∀ y, J y → Is (filM p (fun x => liftM (Res.ok x)) xs y) fun c => List.Sublist c.1 xs ∧ J c.2 := fun y hy => filM_is (xs := xs) (y := y) hy fun z w hz hw => h z w (List.mem_cons_of_mem _ hz) hw
    refine Is.if_ (fun _ => ?_) fun _ => ?_
    · rw [liftM_ok, Res.bind_ok]
      exact Is.bind (ih _ hb) fun c hc => ⟨hc.1.cons₂ _, hc.2⟩
    · exact (ih _ hb).imp fun c hc => ⟨hc.1.cons _, hc.2⟩
theorem sub_filter {α : Type} [DecidableEq α] : ∀ {W L : List α}, List.Sublist W L → L.Nodup → L.filter (fun x => decide (x ∈ W)) = W
  | _, _, .slnil, _ => rfl
  | W, _, .cons (l₂ := L) a h, n => by
    rw [List.nodup_cons] at n
    rw [List.filter_cons, if_neg]
    · exact sub_filter h n.2
    · intro z
      exact n.1 (h.subset (of_decide_eq_true z))
  | _, _, .cons₂ (l₁ := W) (l₂ := L) a h, n => by
    rw [List.nodup_cons] at n
    rw [List.filter_cons, if_pos (decide_eq_true List.mem_cons_self)]
    congr 1
    rw [← sub_filter h n.2]
    refine List.filter_congr fun x hx => ?_
    rw [sub_filter h n.2]
    refine dec_congr ⟨fun z => ?_, fun z => List.mem_cons_of_mem _ z⟩
    rcases List.mem_cons.mp z with rfl | z
    · exact absurd hx n.1
    · exact z
theorem lvs_up (P : List Int) : (lvs P).Pairwise (· < ·) := by
  unfold lvs
  refine List.Pairwise.filter _ ?_
  unfold rangeL
  rw [List.pairwise_map]
  exact List.pairwise_lt_range.imp fun h => by omega
theorem cut_end {α : Type} {xs : List α} {x : α} : cut (xs ++ [x]) (some (-1)) none = [x] := by
  unfold cut
  rw [HT.sIx_none]
  have e : (if (-1 : Int) < 0 then ((-1 : Int) + ((xs ++ [x]).length : Int)).toNat else min (-1 : Int).toNat (xs ++ [x]).length) = xs.length := by
    rw [if_pos (by decide), List.length_append, List.length_singleton]
    omega
  show ((xs ++ [x]).drop (if (-1 : Int) < 0 then ((-1 : Int) + ((xs ++ [x]).length : Int)).toNat else min (-1 : Int).toNat (xs ++ [x]).length)).take ((xs ++ [x]).length - (if (-1 : Int) < 0 then ((-1 : Int) + ((xs ++ [x]).length : Int)).toNat else min (-1 : Int).toNat (xs ++ [x]).length)) = _
  rw [e, List.drop_left, List.length_append, List.length_singleton, show xs.length + 1 - xs.length = 1 by omega]
  rfl

theorem Is.ifR_ {α : Type} {c : Res Bool} {b : Bool} {m n : Res α} {Q : α → Prop} (e : c = .ok b) (h1 : b = true → Is m Q) (h2 : b = false → Is n Q) : Is (ifR c m n) Q := by
  rw [e, ifR_ok]
  exact Is.if_ h1 h2
theorem law_true (ns : List Int) (hns : ns.length ≤ 63) : m_law ns = .ok true := by
  refine Is.eq ?_
  unfold m_law
  have p0 : PI_ (0, 0, 0, cut ns none (some 63)) := ⟨Int.le_refl _, Int.le_refl _⟩
  obtain ⟨sz, esz, hsz, psz⟩ := take_ok (n := 15) p0 (by decide) (by decide)
  obtain ⟨e8, ee8, he8, pe8⟩ := take_ok (n := 8) psz (by decide) (by decide)
  simp only [poolR_eq, Res.bind_ok, callM_ok, esz, ifMR_eq, binM_eq, ee8, liftM_eq, eqR_eq]
  refine Is.bind (Q := fun z : Pl × Int => (0 ≤ z.2 ∧ z.2 ≤ 40) ∧ PI_ z.1) (Is.if_ (fun _ => ⟨⟨by dsimp only; omega, by dsimp only; omega⟩, pe8⟩) fun _ => ⟨⟨hsz.1, by dsimp only; omega⟩, pe8⟩) fun z ⟨⟨z0, z1⟩, pz⟩ => ?_
  obtain ⟨q, n⟩ := z
  dsimp only at z0 z1 pz ⊢
  rw [un_ok, rng1_ok (by omega), Res.bind_ok, Res.bind_ok]
  refine Is.bind (mapM_ix (J := PI_) (B := fun k v => -1 ≤ v ∧ v < k) pz fun x y hx hy => ?_) fun pp ⟨⟨lp, hp⟩, pP⟩ => ?_
  · have hx := mem_rangeL.mp hx
    obtain ⟨b, eb, hb, pb⟩ := take_ok (n := x + 1) hy (by omega) (by omega)
    simp only [bin_ok, rAdd_eq, binM_eq, callM_ok, eb, Res.bind_ok, rSub_eq, liftM_eq]
    exact ⟨⟨by dsimp only; omega, by dsimp only; omega⟩, pb⟩
  obtain ⟨P, q2⟩ := pp
  dsimp only at lp hp pP ⊢
  rw [rangeL_length] at lp
  have hn : (P.length : Int) = n := by omega
  have F : For P := by
    refine ⟨by omega, fun k k0 k1 => ?_⟩
    have := hp k.toNat k (Pg P k) (by rw [rangeL_nat, List.getElem?_map, List.getElem?_range (by omega)]; simp; omega) (by
      show P[k.toNat]? = some (P.getD k.toNat (-1))
      rw [List.getD_eq_getElem?_getD, List.getElem?_eq_getElem (by omega)]
      rfl)
    exact this
  have hl := F.len
  have en : (rangeL 0 n).filter (fun x => !decide (x ∈ P)) = lvs P := by
    unfold lvs
    rw [hn]
  have ee : ((Res.ok (rangeL 0 n)).bind (filR (fun (x_93 : Int) => (bin ninR (Res.ok x_93) (Res.ok P))) (fun (x_93 : Int) => (Res.ok x_93)))) = .ok (lvs P) := by
    simp only [Res.bind_ok, bin_ok, ninR_eq, filR_idf]
    rw [en]
  rw [ee, Res.bind_ok, un_ok, leaves_eq hl, bin_ok, neR_eq, ifR_ok, if_neg (by simp)]
  try rw [Res.bind_ok]
  refine Is.bind (filM_is (J := PI_) pP fun x y hx hy => ?_) fun ww ⟨hs, pW⟩ => ?_
  · obtain ⟨b, eb, hb, pb⟩ := take_ok (n := 2) hy (by decide) (by decide)
    simp only [binM_eq, callM_ok, eb, Res.bind_ok, liftM_eq, eqR_eq]
    exact pb
  obtain ⟨W, q3⟩ := ww
  dsimp only at hs pW ⊢
  have hW : WOk P W := ⟨fun w hw => hs.subset hw, (lvs_up P).sublist hs⟩
  obtain ⟨ck, cbad⟩ := check_both hl hW
  have lW : W.length ≤ 1000 := by
    have h1 := hs.length_le
    have h2 : (lvs P).length ≤ P.length := by
      unfold lvs
      refine Nat.le_trans (List.length_filter_le ..) ?_
      rw [rangeL_length]
      omega
    omega
  obtain ⟨c, ec, hc⟩ := (lcosts_is (W := W) F).get
  have el := lroot F hc.len
  rw [hn] at el
  rw [un_ok, idR_eq, Res.bind_ok, pair_ok, un_ok, ec, Res.bind_ok, el, Res.bind_ok, un_ok, least_eq F ck hc, Res.bind_ok]
  obtain ⟨M, eM, hM, lM, sM⟩ := (cheap_is F hc).get
  generalize hlst : s0 c (kids P (-1)) = least at *
  have e1 : (orR (un notR (un (fun _ => Res.ok true) (pair (Res.ok least) (Res.ok ())))) (orR (bin neR (Res.ok least) (Res.ok least)) (bin neR (Res.ok W) (Res.ok W)))) = .ok false := by
    simp only [pair_ok, un_ok, notR_eq, bin_ok, neR_eq, orR_ok]
    simp
  rw [e1, ifR_ok, if_neg Bool.false_ne_true]
  obtain ⟨t, et, ht, pt⟩ := take_ok (n := 41) pW (by decide) (by decide)
  obtain ⟨u, eu, hu, pu⟩ := take_ok (n := 3) pt (by decide) (by decide)
  have em : ∃ m, ix [least, max 0 (least - 1), t.1] u.1 = .ok m ∧ 0 ≤ m := by
    have h : u.1 = 0 ∨ u.1 = 1 ∨ u.1 = 2 := by omega
    rcases h with h | h | h
    · rw [h]
      exact ⟨_, rfl, by omega⟩
    · rw [h]
      exact ⟨_, rfl, by omega⟩
    · rw [h]
      exact ⟨_, rfl, ht.1⟩
  obtain ⟨many, em, m0⟩ := em
  refine Is.bind (Q := fun m => m = (many, u.2)) ?_ fun mm hmm => ?_
  · simp only [binM_eq, consM_eq, liftM_eq, callM_ok, rSub_eq, max2_eq, Res.bind_ok, et, eu, bin_ok, un_ok, pair_ok]
    rw [em]
    exact rfl
  subst hmm
  dsimp only
  have ep := paper_eq F ck hc many
  rw [hlst, eM, Res.bind_ok] at ep
  rw [pair_ok, pair_ok, un_ok, ep]
  have lWs : ∀ x X, (x ∉ lvs P ∨ ∃ w ∈ W, x ≤ w) → ∀ w : Int, 0 ≤ w → w < 4 → m__law_wanted_fault P (W ++ x :: X) w = .ok (W.length : Int) := fun x X hx w w0 w1 => refused_at (cbad x X hx) w0 w1
  have hout : n ∉ lvs P := fun h => by have := (mem_lvs.mp h).1.2; omega
  have fin : ∀ (paper : (Str × List Mk_) ⊕ (Str × List Pr)) (k : Res Bool), Is k (· = true) → Is (((un rng1 (Res.ok (4 : Int))).bind fun xs => loopR (fun (x_241 : Int) (z_234 : Unit) => (ifR (bin neR (un (fun (p : ((List Int) × (List Int) × Int)) => m__law_wanted_fault p.1 p.2.1 p.2.2) (pair (Res.ok P) (pair (bin rCatR (Res.ok W) (consR (Res.ok n) (Res.ok []))) (Res.ok x_241)))) (un rLen (Res.ok W))) ((Res.ok false).bind fun a_261 => Res.ok (Out.rt a_261)) (ifR (andR (bin rGt (un rLen (Res.ok W)) (Res.ok (0 : Int))) (bin neR (un (fun (p : ((List Int) × (List Int) × Int)) => m__law_wanted_fault p.1 p.2.1 p.2.2) (pair (Res.ok P) (pair (bin rCatR (Res.ok W) (slR (Res.ok W) (someR (un rNeg (Res.ok (1 : Int)))) (Res.ok none))) (Res.ok x_241)))) (un rLen (Res.ok W)))) ((Res.ok false).bind fun a_276 => Res.ok (Out.rt a_276)) (Res.ok (Out.nx ()))))) xs ()).bind fun (o : Out Unit Bool) => match o with | .nx _ => k | .br _ => Res.bad | .rt r => Res.ok r) (· = true) := fun paper k hk => by
    rw [un_ok, rng1_ok (n := 4) (by decide), Res.bind_ok, loopR_any (p := fun _ => false) (r := false) fun x hx => ?_]
    · simp only [List.any_eq_false, Bool.false_eq_true, not_false_eq_true, implies_true, if_neg, Res.bind_ok]
      exact hk
    · have hx := mem_rangeL.mp hx
      rw [consR_ok, bin_ok, cat_1k (by omega) (by simp), pair_ok, pair_ok, un_ok, lWs n [] (.inl hout) x hx.1 (by omega), un_ok, rLen_eq, bin_ok, neR_eq, ifR_ok, if_neg (by simp), bin_ok, rGt_eq]
      rcases List.eq_nil_or_concat W with e | ⟨V, v, e⟩
      · rw [e]
        rfl
      · have e : W = V ++ [v] := by rw [e, List.concat_eq_append]
        have ecut : cut W (some (-1)) none = [v] := by rw [e, cut_end]
        simp only [un_ok, rNeg_eq, someR_ok, slR_ok, ecut]
        rw [bin_ok, cat_1k (by omega) (by simp), pair_ok, pair_ok, un_ok, lWs v [] (.inr ⟨v, by rw [e]; simp, Int.le_refl _⟩) x hx.1 (by omega), bin_ok, neR_eq, andR_ok, ifR_ok, if_neg (by simp), if_neg (by simp)]
  by_cases hm : least ≤ many
  · rw [if_pos hm, Res.bind_ok]
    have hnm : NM P M = W := by
      unfold NM
      rw [← sub_filter hs ((lvs_up P).imp fun h => by omega)]
      refine List.filter_congr fun x hx => ?_
      exact sM x hx
    have eb : m_is_marks_bound P W c many = .ok false := by
      rw [pbound_eq F ck, LB_cst hc, hlst, decide_eq_false (by omega)]
    have ei : m_is_naming P W M = .ok true := by
      rw [naming_eq F ck hM, hnm]
      simp
    have lM2 : M.length ≤ 1000 := by
      have := MV.len hM
      have := MV.le_last hM
      have h3 : ∀ (M : List Mk_) (a : Int), MV P.length a M → a < P.length → lastM a M < P.length := by
        intro M
        induction M with
        | nil => intro a _ h; exact h
        | cons y M ih => intro a h _; exact ih y.1 h.2 h.1.2.1
      by_cases e0 : M = []
      · rw [e0]
        decide
      · have := h3 M (-1) hM (by omega)
        omega
    obtain ⟨b, eb2, hb⟩ := (drawn_is F (p := u.2) pu).get
    refine Is.ifR_ (b := false) ?_ (fun h => by cases h) fun _ => ?_
    · simp only [un_ok, pair_ok, notR_eq, bin_ok, neR_eq, orR_ok, rLe_eq, pjS, consR_ok, b2iR, decide_eq_true hm]
      rfl
    refine fin (.inl ("marks", M)) _ ?_
    simp only [un_ok, rGt_eq, getL, pair_ok, Res.bind_ok, are_marks hM, notR_eq, rLen_eq, lnamed_eq F hM, hnm, bin_ok, neR_eq, orR_ok, ifR_ok, ei, eb, andM_eq, callM_ok, liftM_ok, changes_is F ck hM lM2, eb2]
    rw [if_neg (by simp; omega), if_neg (by simp; omega), if_neg (by simp), if_pos trivial]
    exact hb
  · rw [if_neg hm, Res.bind_ok]
    obtain ⟨b, eb, hb⟩ := (bounds_is F ck hc m0 (by omega) (p := u.2) pu).get
    refine Is.ifR_ (b := false) ?_ (fun h => by cases h) fun _ => ?_
    · simp only [un_ok, pair_ok, notR_eq, bin_ok, neR_eq, orR_ok, rLe_eq, pjS, consR_ok, b2iR, decide_eq_false hm]
      rfl
    refine fin (.inr ("bounds", c)) _ ?_
    simp only [un_ok, rGt_eq, bin_ok, ifR_ok, getR, pair_ok, Res.bind_ok, callM_ok, liftM_ok]
    rw [if_pos (decide_eq_true (by omega)), eb]
    exact hb

end K74
set_option maxHeartbeats 0
namespace K74
open PySem PySem.Spec PyProof.Rows L2 Sd
def dd0 : He.DefD := ⟨("children", none), "children", "children", defArgs s_children, defBody s_children, defScope s_children, [], []⟩
def dd1 : He.DefD := ⟨("line", none), "line", "line", defArgs s_line, defBody s_line, defScope s_line, [], []⟩
def dd2 : He.DefD := ⟨("leaves", none), "leaves", "leaves", defArgs s_leaves, defBody s_leaves, defScope s_leaves, [], []⟩
def dd3 : He.DefD := ⟨("marks_fault", none), "marks_fault", "marks_fault", defArgs s_marks_fault, defBody s_marks_fault, defScope s_marks_fault, [], []⟩
def dd4 : He.DefD := ⟨("check_wanted", none), "check_wanted", "check_wanted", defArgs s_check_wanted, defBody s_check_wanted, defScope s_check_wanted, [], []⟩
def dd5 : He.DefD := ⟨("names_leaf", none), "names_leaf", "names_leaf", defArgs s_names_leaf, defBody s_names_leaf, defScope s_names_leaf, [], []⟩
def dd6 : He.DefD := ⟨("named_leaves", none), "named_leaves", "named_leaves", defArgs s_named_leaves, defBody s_named_leaves, defScope s_named_leaves, [], []⟩
def dd7 : He.DefD := ⟨("named", none), "named", "named", defArgs s_named, defBody s_named, defScope s_named, [], []⟩
def dd8 : He.DefD := ⟨("is_naming", none), "is_naming", "is_naming", defArgs s_is_naming, defBody s_is_naming, defScope s_is_naming, [], []⟩
def dd9 : He.DefD := ⟨("side_sum", none), "side_sum", "side_sum", defArgs s_side_sum, defBody s_side_sum, defScope s_side_sum, [], []⟩
def dd10 : He.DefD := ⟨("mark_costs", none), "mark_costs", "mark_costs", defArgs s_mark_costs, defBody s_mark_costs, defScope s_mark_costs, [], []⟩
def dd11 : He.DefD := ⟨("least_marks", none), "least_marks", "least_marks", defArgs s_least_marks, defBody s_least_marks, defScope s_least_marks, [], []⟩
def dd12 : He.DefD := ⟨("needs_mark", none), "needs_mark", "needs_mark", defArgs s_needs_mark, defBody s_needs_mark, defScope s_needs_mark, [], []⟩
def dd13 : He.DefD := ⟨("cheapest_marks", none), "cheapest_marks", "cheapest_marks", defArgs s_cheapest_marks, defBody s_cheapest_marks, defScope s_cheapest_marks, [], []⟩
def dd14 : He.DefD := ⟨("bound_holds", none), "bound_holds", "bound_holds", defArgs s_bound_holds, defBody s_bound_holds, defScope s_bound_holds, [], []⟩
def dd15 : He.DefD := ⟨("is_marks_bound", none), "is_marks_bound", "is_marks_bound", defArgs s_is_marks_bound, defBody s_is_marks_bound, defScope s_is_marks_bound, [], []⟩
def dd16 : He.DefD := ⟨("naming_paper", none), "naming_paper", "naming_paper", defArgs s_naming_paper, defBody s_naming_paper, defScope s_naming_paper, [], []⟩
def dd17 : He.DefD := ⟨("_law_mix", none), "_law_mix", "_law_mix", defArgs s__law_mix, defBody s__law_mix, defScope s__law_mix, [], []⟩
def dd18 : He.DefD := ⟨("_law_pool", none), "_law_pool", "_law_pool", defArgs s__law_pool, defBody s__law_pool, defScope s__law_pool, [], []⟩
def dd19 : He.DefD := ⟨("_law_fill", none), "_law_fill", "_law_fill", defArgs s__law_fill, defBody s__law_fill, defScope s__law_fill, [], []⟩
def dd20 : He.DefD := ⟨("_law_take", none), "_law_take", "_law_take", defArgs s__law_take, defBody s__law_take, defScope s__law_take, [], []⟩
def dd21 : He.DefD := ⟨("_law_named", none), "_law_named", "_law_named", defArgs s__law_named, defBody s__law_named, defScope s__law_named, [], []⟩
def dd22 : He.DefD := ⟨("_law_costs", none), "_law_costs", "_law_costs", defArgs s__law_costs, defBody s__law_costs, defScope s__law_costs, [], []⟩
def dd23 : He.DefD := ⟨("_law_bound", none), "_law_bound", "_law_bound", defArgs s__law_bound, defBody s__law_bound, defScope s__law_bound, [], []⟩
def dd24 : He.DefD := ⟨("_law_are_marks", none), "_law_are_marks", "_law_are_marks", defArgs s__law_are_marks, defBody s__law_are_marks, defScope s__law_are_marks, [], []⟩
def dd25 : He.DefD := ⟨("_law_fault", none), "_law_fault", "_law_fault", defArgs s__law_fault, defBody s__law_fault, defScope s__law_fault, [], []⟩
def dd26 : He.DefD := ⟨("_law_wanted_fault", none), "_law_wanted_fault", "_law_wanted_fault", defArgs s__law_wanted_fault, defBody s__law_wanted_fault, defScope s__law_wanted_fault, [], []⟩
def dd27 : He.DefD := ⟨("_law_drawn_marks_right", none), "_law_drawn_marks_right", "_law_drawn_marks_right", defArgs s__law_drawn_marks_right, defBody s__law_drawn_marks_right, defScope s__law_drawn_marks_right, [], []⟩
def dd28 : He.DefD := ⟨("_law_changes_right", none), "_law_changes_right", "_law_changes_right", defArgs s__law_changes_right, defBody s__law_changes_right, defScope s__law_changes_right, [], []⟩
def dd29 : He.DefD := ⟨("_law_bounds_right", none), "_law_bounds_right", "_law_bounds_right", defArgs s__law_bounds_right, defBody s__law_bounds_right, defScope s__law_bounds_right, [], []⟩
def dd30 : He.DefD := ⟨("law", none), "law", "law", defArgs s_law, defBody s_law, defScope s_law, [], []⟩
def dd31 : He.DefD := ⟨("DeskError", some "__init__"), "__init__", "DeskError.__init__", defArgs s_err, defBody s_err, defScope s_err, [.int 0], []⟩
def dfs : List He.DefD := [dd0, dd1, dd2, dd3, dd4, dd5, dd6, dd7, dd8, dd9, dd10, dd11, dd12, dd13, dd14, dd15, dd16, dd17, dd18, dd19, dd20, dd21, dd22, dd23, dd24, dd25, dd26, dd27, dd28, dd29, dd30, dd31]
def fas : List He.Fa := [.glo "children", .glo "line", .glo "leaves", .glo "marks_fault", .glo "check_wanted", .glo "names_leaf", .glo "named_leaves", .glo "named", .glo "is_naming", .glo "side_sum", .glo "mark_costs", .glo "least_marks", .glo "needs_mark", .glo "cheapest_marks", .glo "bound_holds", .glo "is_marks_bound", .glo "naming_paper", .glo "_law_mix", .glo "_law_pool", .glo "_law_fill", .glo "_law_take", .glo "_law_named", .glo "_law_costs", .glo "_law_bound", .glo "_law_are_marks", .glo "_law_fault", .glo "_law_wanted_fault", .glo "_law_drawn_marks_right", .glo "_law_changes_right", .glo "_law_bounds_right", .glo "law", .free "bool", .free "enumerate", .free "int", .free "isinstance", .free "len", .free "list", .free "max", .free "min", .free "range", .free "reversed", .free "sum", .free "tuple", .str "WITH" "with", .glo "WORDS"]
def exB (K : PySem.W.Frag) : Bool := (errsB [.DeskError, .BadArea] K) && (He.tupB K "WORDS" [.str "without", .str "with"])
abbrev R : PySem.W.OpenRow := PySem.W.OpenLaw.row PySem.Challenge.rw_stormdesk_k74_whole_naming
abbrev hk : PySem.W.Hook := He.hookX 6 fas dfs [] [] exB
def ob (s : PySem.W.SharedT) : He.AlX := He.obsX 6 fas dfs [] [] exB (HandSHeadRun.getT s)
theorem ob_eq (s : PySem.W.SharedT) : ob s = hk.obs s.abs := He.obsX_eq (HandSHeadRun.getT_eq s)
def lo0 : List PySem.Str := ["DeskError", "BadArea", "children", "line", "WITHOUT", "WITH", "WORDS", "leaves", "marks_fault", "check_wanted", "names_leaf", "named_leaves", "named", "is_naming", "side_sum", "mark_costs", "least_marks", "needs_mark", "cheapest_marks", "bound_holds", "is_marks_bound", "naming_paper", "_law_mix", "_law_pool", "_law_fill", "_law_take", "_law_named", "_law_costs", "_law_bound", "_law_are_marks"]
def lo1 : List PySem.Str := ["_law_fault", "_law_wanted_fault", "_law_drawn_marks_right", "_law_changes_right", "_law_bounds_right"]
abbrev lo : List PySem.Str := lo0 ++ lo1
theorem hd_run (w : World) : HandSHeadRun.RunEq R (PySem.W.view R.prog [39]) hk ob 6000 lo w := by
  intro os
  kernel_rfl
theorem mk {K : PySem.W.Frag} {w : World} {h : Heap} {mg : Str → Option Value} (X : K.In h) (G : h.Ns mainGlobals mg) (c : He.SaysX fas dfs [] [] exB w h K) : ∃ T : Tx K mg, T.f_law = He.ga K "law" := by
  obtain ⟨d0, F0⟩ := c.t.d.def_ 0 (d := dd0) rfl
  obtain ⟨d1, F1⟩ := c.t.d.def_ 1 (d := dd1) rfl
  obtain ⟨d2, F2⟩ := c.t.d.def_ 2 (d := dd2) rfl
  obtain ⟨d3, F3⟩ := c.t.d.def_ 3 (d := dd3) rfl
  obtain ⟨d4, F4⟩ := c.t.d.def_ 4 (d := dd4) rfl
  obtain ⟨d5, F5⟩ := c.t.d.def_ 5 (d := dd5) rfl
  obtain ⟨d6, F6⟩ := c.t.d.def_ 6 (d := dd6) rfl
  obtain ⟨d7, F7⟩ := c.t.d.def_ 7 (d := dd7) rfl
  obtain ⟨d8, F8⟩ := c.t.d.def_ 8 (d := dd8) rfl
  obtain ⟨d9, F9⟩ := c.t.d.def_ 9 (d := dd9) rfl
  obtain ⟨d10, F10⟩ := c.t.d.def_ 10 (d := dd10) rfl
  obtain ⟨d11, F11⟩ := c.t.d.def_ 11 (d := dd11) rfl
  obtain ⟨d12, F12⟩ := c.t.d.def_ 12 (d := dd12) rfl
  obtain ⟨d13, F13⟩ := c.t.d.def_ 13 (d := dd13) rfl
  obtain ⟨d14, F14⟩ := c.t.d.def_ 14 (d := dd14) rfl
  obtain ⟨d15, F15⟩ := c.t.d.def_ 15 (d := dd15) rfl
  obtain ⟨d16, F16⟩ := c.t.d.def_ 16 (d := dd16) rfl
  obtain ⟨d17, F17⟩ := c.t.d.def_ 17 (d := dd17) rfl
  obtain ⟨d18, F18⟩ := c.t.d.def_ 18 (d := dd18) rfl
  obtain ⟨d19, F19⟩ := c.t.d.def_ 19 (d := dd19) rfl
  obtain ⟨d20, F20⟩ := c.t.d.def_ 20 (d := dd20) rfl
  obtain ⟨d21, F21⟩ := c.t.d.def_ 21 (d := dd21) rfl
  obtain ⟨d22, F22⟩ := c.t.d.def_ 22 (d := dd22) rfl
  obtain ⟨d23, F23⟩ := c.t.d.def_ 23 (d := dd23) rfl
  obtain ⟨d24, F24⟩ := c.t.d.def_ 24 (d := dd24) rfl
  obtain ⟨d25, F25⟩ := c.t.d.def_ 25 (d := dd25) rfl
  obtain ⟨d26, F26⟩ := c.t.d.def_ 26 (d := dd26) rfl
  obtain ⟨d27, F27⟩ := c.t.d.def_ 27 (d := dd27) rfl
  obtain ⟨d28, F28⟩ := c.t.d.def_ 28 (d := dd28) rfl
  obtain ⟨d29, F29⟩ := c.t.d.def_ 29 (d := dd29) rfl
  obtain ⟨d30, F30⟩ := c.t.d.def_ 30 (d := dd30) rfl
  obtain ⟨x0, z0⟩ := Bool.and_eq_true_iff.mp (show exB K = true from c.more)
  have x1 := z0
  obtain ⟨d31, F31⟩ := c.t.d.def_ 31 (d := dd31) rfl
  obtain ⟨e1, e2, e3⟩ := errsB_ok X G (show errsB [.DeskError, .BadArea] K = true from x0)
  exact ⟨{ f_children := He.ga K "children", d_children := d0, F_children := F0, g_children := He.glo_ok X G (c.t.d.fact 0 (f := .glo "children") rfl), f_line := He.ga K "line", d_line := d1, F_line := F1, g_line := He.glo_ok X G (c.t.d.fact 1 (f := .glo "line") rfl), f_leaves := He.ga K "leaves", d_leaves := d2, F_leaves := F2, g_leaves := He.glo_ok X G (c.t.d.fact 2 (f := .glo "leaves") rfl), f_marks_fault := He.ga K "marks_fault", d_marks_fault := d3, F_marks_fault := F3, g_marks_fault := He.glo_ok X G (c.t.d.fact 3 (f := .glo "marks_fault") rfl), f_check_wanted := He.ga K "check_wanted", d_check_wanted := d4, F_check_wanted := F4, g_check_wanted := He.glo_ok X G (c.t.d.fact 4 (f := .glo "check_wanted") rfl), f_names_leaf := He.ga K "names_leaf", d_names_leaf := d5, F_names_leaf := F5, g_names_leaf := He.glo_ok X G (c.t.d.fact 5 (f := .glo "names_leaf") rfl), f_named_leaves := He.ga K "named_leaves", d_named_leaves := d6, F_named_leaves := F6, g_named_leaves := He.glo_ok X G (c.t.d.fact 6 (f := .glo "named_leaves") rfl), f_named := He.ga K "named", d_named := d7, F_named := F7, g_named := He.glo_ok X G (c.t.d.fact 7 (f := .glo "named") rfl), f_is_naming := He.ga K "is_naming", d_is_naming := d8, F_is_naming := F8, g_is_naming := He.glo_ok X G (c.t.d.fact 8 (f := .glo "is_naming") rfl), f_side_sum := He.ga K "side_sum", d_side_sum := d9, F_side_sum := F9, g_side_sum := He.glo_ok X G (c.t.d.fact 9 (f := .glo "side_sum") rfl), f_mark_costs := He.ga K "mark_costs", d_mark_costs := d10, F_mark_costs := F10, g_mark_costs := He.glo_ok X G (c.t.d.fact 10 (f := .glo "mark_costs") rfl), f_least_marks := He.ga K "least_marks", d_least_marks := d11, F_least_marks := F11, g_least_marks := He.glo_ok X G (c.t.d.fact 11 (f := .glo "least_marks") rfl), f_needs_mark := He.ga K "needs_mark", d_needs_mark := d12, F_needs_mark := F12, g_needs_mark := He.glo_ok X G (c.t.d.fact 12 (f := .glo "needs_mark") rfl), f_cheapest_marks := He.ga K "cheapest_marks", d_cheapest_marks := d13, F_cheapest_marks := F13, g_cheapest_marks := He.glo_ok X G (c.t.d.fact 13 (f := .glo "cheapest_marks") rfl), f_bound_holds := He.ga K "bound_holds", d_bound_holds := d14, F_bound_holds := F14, g_bound_holds := He.glo_ok X G (c.t.d.fact 14 (f := .glo "bound_holds") rfl), f_is_marks_bound := He.ga K "is_marks_bound", d_is_marks_bound := d15, F_is_marks_bound := F15, g_is_marks_bound := He.glo_ok X G (c.t.d.fact 15 (f := .glo "is_marks_bound") rfl), f_naming_paper := He.ga K "naming_paper", d_naming_paper := d16, F_naming_paper := F16, g_naming_paper := He.glo_ok X G (c.t.d.fact 16 (f := .glo "naming_paper") rfl), f__law_mix := He.ga K "_law_mix", d__law_mix := d17, F__law_mix := F17, g__law_mix := He.glo_ok X G (c.t.d.fact 17 (f := .glo "_law_mix") rfl), f__law_pool := He.ga K "_law_pool", d__law_pool := d18, F__law_pool := F18, g__law_pool := He.glo_ok X G (c.t.d.fact 18 (f := .glo "_law_pool") rfl), f__law_fill := He.ga K "_law_fill", d__law_fill := d19, F__law_fill := F19, g__law_fill := He.glo_ok X G (c.t.d.fact 19 (f := .glo "_law_fill") rfl), f__law_take := He.ga K "_law_take", d__law_take := d20, F__law_take := F20, g__law_take := He.glo_ok X G (c.t.d.fact 20 (f := .glo "_law_take") rfl), f__law_named := He.ga K "_law_named", d__law_named := d21, F__law_named := F21, g__law_named := He.glo_ok X G (c.t.d.fact 21 (f := .glo "_law_named") rfl), f__law_costs := He.ga K "_law_costs", d__law_costs := d22, F__law_costs := F22, g__law_costs := He.glo_ok X G (c.t.d.fact 22 (f := .glo "_law_costs") rfl), f__law_bound := He.ga K "_law_bound", d__law_bound := d23, F__law_bound := F23, g__law_bound := He.glo_ok X G (c.t.d.fact 23 (f := .glo "_law_bound") rfl), f__law_are_marks := He.ga K "_law_are_marks", d__law_are_marks := d24, F__law_are_marks := F24, g__law_are_marks := He.glo_ok X G (c.t.d.fact 24 (f := .glo "_law_are_marks") rfl), f__law_fault := He.ga K "_law_fault", d__law_fault := d25, F__law_fault := F25, g__law_fault := He.glo_ok X G (c.t.d.fact 25 (f := .glo "_law_fault") rfl), f__law_wanted_fault := He.ga K "_law_wanted_fault", d__law_wanted_fault := d26, F__law_wanted_fault := F26, g__law_wanted_fault := He.glo_ok X G (c.t.d.fact 26 (f := .glo "_law_wanted_fault") rfl), f__law_drawn_marks_right := He.ga K "_law_drawn_marks_right", d__law_drawn_marks_right := d27, F__law_drawn_marks_right := F27, g__law_drawn_marks_right := He.glo_ok X G (c.t.d.fact 27 (f := .glo "_law_drawn_marks_right") rfl), f__law_changes_right := He.ga K "_law_changes_right", d__law_changes_right := d28, F__law_changes_right := F28, g__law_changes_right := He.glo_ok X G (c.t.d.fact 28 (f := .glo "_law_changes_right") rfl), f__law_bounds_right := He.ga K "_law_bounds_right", d__law_bounds_right := d29, F__law_bounds_right := F29, g__law_bounds_right := He.glo_ok X G (c.t.d.fact 29 (f := .glo "_law_bounds_right") rfl), f_law := He.ga K "law", d_law := d30, F_law := F30, g_law := He.glo_ok X G (c.t.d.fact 30 (f := .glo "law") rfl), gb_bool := He.free_ok X G (c.t.d.fact 31 (f := .free "bool") rfl), gb_enumerate := He.free_ok X G (c.t.d.fact 32 (f := .free "enumerate") rfl), gb_int := He.free_ok X G (c.t.d.fact 33 (f := .free "int") rfl), gb_isinstance := He.free_ok X G (c.t.d.fact 34 (f := .free "isinstance") rfl), gb_len := He.free_ok X G (c.t.d.fact 35 (f := .free "len") rfl), gb_list := He.free_ok X G (c.t.d.fact 36 (f := .free "list") rfl), gb_max := He.free_ok X G (c.t.d.fact 37 (f := .free "max") rfl), gb_min := He.free_ok X G (c.t.d.fact 38 (f := .free "min") rfl), gb_range := He.free_ok X G (c.t.d.fact 39 (f := .free "range") rfl), gb_reversed := He.free_ok X G (c.t.d.fact 40 (f := .free "reversed") rfl), gb_sum := He.free_ok X G (c.t.d.fact 41 (f := .free "sum") rfl), gb_tuple := He.free_ok X G (c.t.d.fact 42 (f := .free "tuple") rfl), gs_WITH := He.str_ok X G (c.t.d.fact 43 (f := .str "WITH" "with") rfl), gt_WORDS := ⟨He.glo_ok X G (c.t.d.fact 44 (f := .glo "WORDS") rfl), fun H => He.tupB_ok (vs := [.str "without", .str "with"]) x1 H⟩, f_err := He.fAd K ("DeskError", some "__init__"), d_err := d31, F_err := F31, xs := fun c h => e1 c (of_decide_eq_true h), ki := fun c b h h2 => e2 c b (of_decide_eq_true h) (of_decide_eq_true h2), ex := fun c b h h2 => e3 c b (of_decide_eq_true h) (of_decide_eq_true h2) }, rfl⟩
end K74
open PySem PySem.W PySem.Calls PyProof.Rows
theorem PySem.Challenge.cw_stormdesk_k74_whole_naming_holds : PySem.Challenge.rw_stormdesk_k74_whole_naming.Holds := by
  w_on; o_law
  refine HandSHeadRun.head_any (r := OpenLaw.row PySem.Challenge.rw_stormdesk_k74_whole_naming) (q := view (OpenLaw.row PySem.Challenge.rw_stormdesk_k74_whole_naming).prog [39]) (H := K74.hk) (ob := K74.ob) (M := 6000) (loose := K74.lo) (d := HandSHeadRun.topDef (OpenLaw.row PySem.Challenge.rw_stormdesk_k74_whole_naming).prog 39) (kwd := []) K74.ob_eq
    (by kernel_rfl) (fun s => by kernel_rfl) K74.hd_run (by kernel_rfl) (by kernel_rfl) (by kernel_rfl) (by rfl) (by first | assumption | decide +kernel) (by decide +kernel) ⟨rfl, rfl, rfl, rfl, rfl, by decide +kernel⟩ ?hw ?hc
  case hw => w_witness2
  case hc =>
    refine L2.walk_ofE (l := PySem.Challenge.rw_stormdesk_k74_whole_naming) (n := 63) (k := 7) (x := "script") (CX := L2.CX0) rfl (by decide) (by kernel_rfl) ⟨rfl, by decide, by decide⟩ ?F (fun _ _ _ _ z => z)
    intro w mg fa h Y G hmg0
    obtain ⟨K, KX, c⟩ := Y
    have hmg : mg ("law" : PySem.Str) = some (.ref fa) := by
      have e : (HandSHeadRun.topDef (OpenLaw.row PySem.Challenge.rw_stormdesk_k74_whole_naming).prog 39).name = ("law" : PySem.Str) := by kernel_rfl
      rw [← e]
      exact hmg0
    obtain ⟨T, hT⟩ := K74.mk KX G c
    have e := hmg.symm.trans T.g_law
    have e2 : fa = T.f_law := by
      have e3 := Option.some.inj e
      injection e3
    subst e2
    have b := L2.FunD.bindsA (ps := ["script"]) T.F_law fun _ _ _ _ _ _ us hl => match us, hl with | [_], _ => rfl
    exact ⟨K, T.d_law, Sd.spLaw K K74.m_law, KX, fun s v => b s [v] rfl, fun H a ns hl _ hS => ⟨a, ns, rfl, hS, Nat.le_trans hl (by decide), by rw [K74.law_true ns hl]; exact fun v H' hv => hv⟩, fun base _ _ => K74.ok_law T⟩

