import PyProof.Rows.All
import Wide.All
import OpenK.AllK
import Wide.FinOn
import HandS.ForMost
import HandS.Wide
import HandS.Walk
import HandS.Deep
import HandS.SortInts
import HandS.Flow
import HandS.IsInst
import PyProof.P3In
import HandS.TupSets
import HandS.Dict
import HandS.Conv
import HandS.SortRule
import KE.KIsAll
import HandS.Base
import HandS.Call
import HandS.Exc
import HandS.ExcOwn
import HandS.ExcIs
import HandS.ExcValue
import HandS.TryOnly
import HandS.WordsExc
import HandS.TupAny
import HandS.DictTup
import KE.KDictWalk
import HandS.SetFor
import HandS.Strs
import HandS.More
import PySem.Challenge.RW_farhail_k23_whole_a_look_less_or_more
set_option Elab.async false
set_option linter.all false
set_option maxRecDepth 100000
set_option maxHeartbeats 4000000
/-! Z0: results with refusals, data as it stands in a heap, the heap in a frozen part and cells of one's own -/
namespace Z
open PySem L2

abbrev Fg := PySem.W.Frag

/-! ### results -/
structure Exn where
  cls : Str
  arg : Int
  deriving DecidableEq

inductive R (α : Type) where
  | ok (a : α)
  | exc (e : Exn)
  | bad

def R.bind {α β : Type} (m : R α) (f : α → R β) : R β :=
  match m with
  | .ok a => f a
  | .exc e => .exc e
  | .bad => .bad
instance : Monad R where
  pure := R.ok
  bind := R.bind
section
variable {α β γ : Type}
theorem ok_bind (a : α) (f : α → R β) : (R.ok a >>= f) = f a := rfl
theorem pure_bind' (a : α) (f : α → R β) : ((pure a : R α) >>= f) = f a := rfl
theorem exc_bind (e : Exn) (f : α → R β) : ((R.exc e : R α) >>= f) = R.exc e := rfl
theorem bad_bind (f : α → R β) : ((R.bad : R α) >>= f) = R.bad := rfl
theorem pure_ok (a : α) : (pure a : R α) = R.ok a := rfl
theorem bind_bind (m : R α) (f : α → R β) (g : β → R γ) : ((m >>= f) >>= g) = (m >>= fun a => f a >>= g) := by
  cases m <;> rfl
theorem bind_ok_iff {m : R α} {f : α → R β} {b : β} : (m >>= f) = R.ok b ↔ ∃ a, m = R.ok a ∧ f a = R.ok b := by
  cases m with
  | ok a => exact ⟨fun h => ⟨a, rfl, h⟩, fun ⟨_, h1, h2⟩ => by cases h1; exact h2⟩
  | exc e => exact ⟨fun h => (nomatch (show R.exc e = R.ok b from h)), fun ⟨_, h1, _⟩ => nomatch h1⟩
  | bad => exact ⟨fun h => (nomatch (show R.bad = R.ok b from h)), fun ⟨_, h1, _⟩ => nomatch h1⟩
def grd (b : Bool) : R Unit := if b = true then .ok () else .bad
theorem grd_t {b : Bool} (h : b = true) : grd b = R.ok () := by rw [h]; rfl
def ofO (o : Option α) : R α :=
  match o with
  | some a => .ok a
  | none => .bad
theorem ofO_some (a : α) : ofO (some a) = R.ok a := rfl
/-- the item at an index of any sign -/
def getI (xs : List α) (i : Int) : R α := ofO (atI xs i)
/-- the list with another item at an index -/
def setI (xs : List α) (i : Int) (x : α) : R (List α) :=
  match ixN xs.length i with
  | some j => .ok (xs.set j x)
  | none => .bad
/-- a list of at most a thousand items grows by one -/
def app (xs : List α) (x : α) : R (List α) := if xs.length < 100000 then .ok (xs ++ [x]) else .bad
def extend (xs ys : List α) : R (List α) := if xs.length + ys.length < 100000 then .ok (xs ++ ys) else .bad
@[irreducible] def mulI (i j : Int) : R Int := if (-(2 ^ 64) < i ∧ i < 2 ^ 64) ∨ (-(2 ^ 64) < j ∧ j < 2 ^ 64) then .ok (i * j) else .bad
@[irreducible] def modI (i j : Int) : R Int := if 0 < j then .ok (i % j) else .bad
@[irreducible] def divI (i j : Int) : R Int := if 0 < j ∧ j.natAbs.log2 < 9000 then .ok (i / j) else .bad
@[irreducible] def powI (i j : Int) : R Int := if 0 ≤ j ∧ j ≤ 1000000 ∧ i.natAbs < 2 ^ 64 then .ok (i ^ j.toNat) else .bad
/-- the ints from i on below j -/
def rng (i j : Int) : List Int := (List.range (j - i).toNat).map fun (k : Nat) => i + (k : Int)
@[irreducible] def rngI (i j : Int) : R (List Int) := if -(2 ^ 62) ≤ i ∧ i < 2 ^ 62 ∧ -(2 ^ 62) ≤ j ∧ j < 2 ^ 62 then .ok (rng i j) else .bad
/-- items for items -/
def mapR (f : α → R β) : List α → R (List β)
  | [] => .ok []
  | x :: xs => do
    let y ← f x
    let ys ← mapR f xs
    pure (y :: ys)
/-- a fold whose turn may leave -/
def foldR (f : β → α → R β) : β → List α → R β
  | s, [] => .ok s
  | s, x :: xs => f s x >>= fun s' => foldR f s' xs
/-- a fold whose turn may end the whole with a value (inl), or the loop alone (inr inl) -/
def foldX {ρ : Type} (f : β → α → R (Sum ρ (Bool × β))) : β → List α → R (Sum ρ β)
  | s, [] => .ok (.inr s)
  | s, x :: xs => f s x >>= fun r =>
    match r with
    | .inl z => .ok (.inl z)
    | .inr (true, s') => foldX f s' xs
    | .inr (false, s') => .ok (.inr s')
/-- what holds of a result -/
def Post (m : R α) (P : α → Prop) (E : Exn → Prop) : Prop :=
  match m with
  | .ok a => P a
  | .exc e => E e
  | .bad => False
variable {P P' : α → Prop} {Q : β → Prop} {E E' : Exn → Prop}
theorem Post.mono {m : R α} (h : Post m P E) (hP : ∀ a, P a → P' a) (hE : ∀ e, E e → E' e) : Post m P' E' := by
  cases m with
  | ok a => exact hP a h
  | exc e => exact hE e h
  | bad => exact h
theorem post_bind {m : R α} {f : α → R β} (h : Post (m >>= f) Q E) : Post m (fun a => Post (f a) Q E) E := by
  cases m <;> exact h
theorem post_ok {a : α} (h : Post (R.ok a) P E) : P a := h
theorem pb_ok {a : α} {f : α → R β} (h : Post (R.ok a >>= f) Q E) : Post (f a) Q E := h
theorem pb_pure {a : α} {f : α → R β} (h : Post ((pure a : R α) >>= f) Q E) : Post (f a) Q E := h
theorem pb_assoc {m : R α} {f : α → R β} {g : β → R γ} {Q : γ → Prop} (h : Post ((m >>= f) >>= g) Q E) : Post (m >>= fun a => f a >>= g) Q E := by
  rw [bind_bind] at h
  exact h
theorem pb_grd {b : Bool} {f : Unit → R β} (h : Post (grd b >>= f) Q E) : b = true ∧ Post (f ()) Q E := by
  cases b with
  | true => exact ⟨rfl, h⟩
  | false => exact (show False from h).elim
theorem pb_ofO {o : Option α} {f : α → R β} (h : Post (ofO o >>= f) Q E) : ∃ a, o = some a ∧ Post (f a) Q E := by
  cases o with
  | some a => exact ⟨a, rfl, h⟩
  | none => exact (show False from h).elim
theorem pb_get {xs : List α} {i : Int} {f : α → R β} (h : Post (getI xs i >>= f) Q E) : ∃ a, atI xs i = some a ∧ Post (f a) Q E := pb_ofO h
theorem pb_set {xs : List α} {i : Int} {x : α} {f : List α → R β} (h : Post (setI xs i x >>= f) Q E) : ∃ j, ixN xs.length i = some j ∧ Post (f (xs.set j x)) Q E := by
  unfold setI at h
  cases e : ixN xs.length i with
  | some j => rw [e] at h; exact ⟨j, rfl, h⟩
  | none => rw [e] at h; exact (show False from h).elim
theorem pb_if {c : Prop} [Decidable c] {a : α} {f : α → R β} (h : Post ((if c then R.ok a else R.bad) >>= f) Q E) : c ∧ Post (f a) Q E := by
  by_cases hc : c
  · rw [if_pos hc] at h
    exact ⟨hc, h⟩
  · rw [if_neg hc] at h
    exact (show False from h).elim
theorem line5 : 100000 ≤ sizeLine := by decide
theorem pb_app {xs : List α} {x : α} {f : List α → R β} (h : Post (app xs x >>= f) Q E) : xs.length < sizeLine ∧ Post (f (xs ++ [x])) Q E :=
  let ⟨a, b⟩ := pb_if h
  ⟨Nat.lt_of_lt_of_le a line5, b⟩
theorem pb_extend {xs ys : List α} {f : List α → R β} (h : Post (extend xs ys >>= f) Q E) : xs.length + ys.length ≤ sizeLine ∧ Post (f (xs ++ ys)) Q E :=
  let ⟨a, b⟩ := pb_if h
  ⟨Nat.le_of_lt (Nat.lt_of_lt_of_le a line5), b⟩
theorem pb_mul {i j : Int} {f : Int → R β} (h : Post (mulI i j >>= f) Q E) : CMul i j ∧ Post (f (i * j)) Q E := by
  unfold mulI at h
  exact let ⟨a, b⟩ := pb_if (c := (-(2 ^ 64) < i ∧ i < 2 ^ 64) ∨ (-(2 ^ 64) < j ∧ j < 2 ^ 64)) h
  ⟨a, b⟩
theorem pb_mod {i j : Int} {f : Int → R β} (h : Post (modI i j >>= f) Q E) : 0 < j ∧ Post (f (i % j)) Q E := by
  unfold modI at h
  exact pb_if h
theorem pb_div {i j : Int} {f : Int → R β} (h : Post (divI i j >>= f) Q E) : CDivW i j ∧ Post (f (i / j)) Q E := by
  unfold divI at h
  exact let ⟨a, b⟩ := pb_if (c := 0 < j ∧ j.natAbs.log2 < 9000) h
  ⟨a, b⟩
theorem pb_pow {i j : Int} {f : Int → R β} (h : Post (powI i j >>= f) Q E) : CPow i j ∧ Post (f (i ^ j.toNat)) Q E := by
  unfold powI at h
  exact let ⟨a, b⟩ := pb_if (c := 0 ≤ j ∧ j ≤ 1000000 ∧ i.natAbs < 2 ^ 64) h
  ⟨a, b⟩
theorem pb_rng {i j : Int} {f : List Int → R β} (h : Post (rngI i j >>= f) Q E) : (-(2 ^ 62) ≤ i ∧ i < 2 ^ 62 ∧ -(2 ^ 62) ≤ j ∧ j < 2 ^ 62) ∧ Post (f (rng i j)) Q E := by
  unfold rngI at h
  exact pb_if h
theorem post_ite {c : Bool} {m n : R α} {A B : Prop} (h : Post (if c = true then m else n) P E) (ht : c = true → Post m P E → A) (hf : c = false → Post n P E → B) : if c = true then A else B := by
  cases c with
  | true => exact ht rfl h
  | false => exact hf rfl h
theorem post_ite2 {c : Bool} {m n : R α} {A : Prop} (h : Post (if c = true then m else n) P E) (ht : c = true → Post m P E → A) (hf : c = false → Post n P E → A) : A := by
  cases c with
  | true => exact ht rfl h
  | false => exact hf rfl h
theorem pb_ite {c : Bool} {m n : R α} {f : α → R β} (h : Post ((if c = true then m else n) >>= f) Q E) : Post (if c = true then m >>= f else n >>= f) Q E := by
  cases c <;> exact h
theorem pb_foldR {f : γ → α → R γ} {s : γ} {x : α} {xs : List α} {g : γ → R β} (h : Post (foldR f s (x :: xs) >>= g) Q E) : Post (f s x >>= fun s' => foldR f s' xs >>= g) Q E := by
  have h' : Post ((f s x >>= fun s' => foldR f s' xs) >>= g) Q E := h
  rw [bind_bind] at h'
  exact h'
end

/-! ### lists of values and what they stand for -/
inductive A2 {α : Type} (r : V → α → Prop) : List V → List α → Prop
  | nil : A2 r [] []
  | cons {v : V} {x : α} {vs : List V} {xs : List α} : r v x → A2 r vs xs → A2 r (v :: vs) (x :: xs)
section
variable {α : Type} {r r' : V → α → Prop} {vs us : List V} {xs ys : List α} {v : V} {x : α}
theorem A2.length : ∀ {vs : List V} {xs : List α}, A2 r vs xs → vs.length = xs.length
  | _, _, .nil => rfl
  | _, _, .cons _ t => by rw [List.length_cons, List.length_cons, A2.length t]
theorem A2.imp (f : ∀ v x, r v x → r' v x) : ∀ {vs : List V} {xs : List α}, A2 r vs xs → A2 r' vs xs
  | _, _, .nil => .nil
  | _, _, .cons h t => .cons (f _ _ h) (A2.imp f t)
theorem A2.append : ∀ {vs us : List V} {xs ys : List α}, A2 r vs xs → A2 r us ys → A2 r (vs ++ us) (xs ++ ys)
  | _, _, _, _, .nil, h => h
  | _, _, _, _, .cons a t, h => .cons a (A2.append t h)
theorem A2.snoc (h : A2 r vs xs) (a : r v x) : A2 r (vs ++ [v]) (xs ++ [x]) := h.append (.cons a .nil)
theorem A2.get : ∀ {vs : List V} {xs : List α} {i : Nat} {x : α}, A2 r vs xs → xs[i]? = some x → ∃ v, vs[i]? = some v ∧ r v x
  | _, _, _, _, .nil, e => by simp at e
  | _, _, 0, _, .cons a _, e => by simp at e; subst e; exact ⟨_, rfl, a⟩
  | _, _, i + 1, x, .cons _ t, e => by
    obtain ⟨v, h1, h2⟩ := A2.get (i := i) (x := x) t (by simpa using e)
    exact ⟨v, by simpa using h1, h2⟩
theorem A2.getV : ∀ {vs : List V} {xs : List α} {i : Nat} {v : V}, A2 r vs xs → vs[i]? = some v → ∃ x, xs[i]? = some x ∧ r v x
  | _, _, _, _, .nil, e => by simp at e
  | _, _, 0, _, .cons a _, e => by simp at e; subst e; exact ⟨_, rfl, a⟩
  | _, _, i + 1, x, .cons _ t, e => by
    obtain ⟨v, h1, h2⟩ := A2.getV (i := i) (v := x) t (by simpa using e)
    exact ⟨v, by simpa using h1, h2⟩
theorem A2.at {i : Int} (h : A2 r vs xs) (e : atI xs i = some x) : ∃ v, atI vs i = some v ∧ r v x := by
  unfold atI at e ⊢
  rw [h.length]
  cases q : ixN xs.length i with
  | none => rw [q] at e; cases e
  | some j =>
    rw [q] at e
    exact h.get e
theorem A2.set (a : r v x) : ∀ {vs : List V} {xs : List α} (i : Nat), A2 r vs xs → A2 r (vs.set i v) (xs.set i x)
  | _, _, _, .nil => .nil
  | _, _, 0, .cons _ t => .cons a t
  | _, _, i + 1, .cons q t => .cons q (A2.set a i t)
theorem A2.take : ∀ {vs : List V} {xs : List α} (n : Nat), A2 r vs xs → A2 r (vs.take n) (xs.take n)
  | _, _, 0, _ => .nil
  | _, _, _ + 1, .nil => .nil
  | _, _, n + 1, .cons a t => .cons a (A2.take n t)
theorem A2.drop : ∀ {vs : List V} {xs : List α} (n : Nat), A2 r vs xs → A2 r (vs.drop n) (xs.drop n)
  | _, _, 0, h => h
  | _, _, _ + 1, .nil => .nil
  | _, _, n + 1, .cons _ t => A2.drop n t
theorem A2.reverse : ∀ {vs : List V} {xs : List α}, A2 r vs xs → A2 r vs.reverse xs.reverse
  | _, _, .nil => .nil
  | _, _, .cons a t => by
    rw [List.reverse_cons, List.reverse_cons]
    exact (A2.reverse t).snoc a
theorem A2.eraseIdx : ∀ {vs : List V} {xs : List α} (i : Nat), A2 r vs xs → A2 r (vs.eraseIdx i) (xs.eraseIdx i)
  | _, _, _, .nil => .nil
  | _, _, 0, .cons _ t => t
  | _, _, i + 1, .cons a t => .cons a (A2.eraseIdx i t)
theorem A2.dropLast : ∀ {vs : List V} {xs : List α}, A2 r vs xs → A2 r vs.dropLast xs.dropLast
  | _, _, .nil => .nil
  | _, _, .cons _ .nil => .nil
  | _, _, .cons a (.cons b t) => .cons a (A2.dropLast (.cons b t))
theorem A2.repl {n : Nat} (a : r v x) : A2 r (List.replicate n v) (List.replicate n x) := by
  induction n with
  | zero => exact .nil
  | succ n ih => exact .cons a ih
end

/-! ### data in a heap -/
theorem Same.seqT {K : Fg} {H H' : Hp} {a : Addr} {xs : List V} (e : Same H H') (h : SqT K H a xs) : SqT K H' a xs := by
  rcases h with (h | ⟨o, h⟩) | h
  · exact .inl (.inl (e _ _ h))
  · exact .inl (.inr ⟨o, e _ _ h⟩)
  · exact .inr h
class Rep (α : Type) where
  rep : Fg → Hp → V → α → Prop
  mono : ∀ {K : Fg} {H H' : Hp} {v : V} {x : α}, Same H H' → rep K H v x → rep K H' v x
open Rep (rep)
section
variable {α β : Type} [Rep α] [Rep β] {K : Fg} {H H' : Hp} {v : V}
theorem A2.mono {vs : List V} {xs : List α} (s : Same H H') (h : A2 (rep K H) vs xs) : A2 (rep K H') vs xs := h.imp fun _ _ => Rep.mono s
instance : Rep Int := ⟨fun _ _ v x => v = .int x, fun _ h => h⟩
instance : Rep Bool := ⟨fun _ _ v x => v = .bl x, fun _ h => h⟩
instance : Rep Unit := ⟨fun _ _ v _ => v = .non, fun _ h => h⟩
instance : Rep Str := ⟨fun _ _ v x => v = .str x, fun _ h => h⟩
instance repOpt : Rep (Option α) := ⟨fun K H v x => match x with
  | none => v = .non
  | some y => rep K H v y, fun {_ _ _ _ x} s h => by
    cases x with
    | none => exact h
    | some y => exact Rep.mono (α := α) s h⟩
instance repPair : Rep (α × β) := ⟨fun K H v x => ∃ a u w, v = .ref a ∧ H a = some (.tup [u, w]) ∧ rep K H u x.1 ∧ rep K H w x.2,
  fun s ⟨a, u, w, e, q, h1, h2⟩ => ⟨a, u, w, e, s _ _ q, Rep.mono s h1, Rep.mono s h2⟩⟩
instance repList : Rep (List α) := ⟨fun K H v xs => ∃ a vs, v = .ref a ∧ H a = some (.lst vs) ∧ A2 (rep K H) vs xs,
  fun s ⟨a, vs, e, q, h⟩ => ⟨a, vs, e, s _ _ q, h.mono s⟩⟩
/-- the script -/
structure Scr where
  l : List Int
  deriving DecidableEq
instance repScr : Rep Scr := ⟨fun K H v xs => ∃ a, v = .ref a ∧ SqL K H a (xs.l.map V.int), fun s ⟨a, e, q⟩ => ⟨a, e, s.seq q⟩⟩
/-- a tuple of any number of like things -/
structure Tup (α : Type) where
  l : List α
  deriving DecidableEq
instance repTup : Rep (Tup α) := ⟨fun K H v xs => ∃ a vs, v = .ref a ∧ H a = some (.tup vs) ∧ A2 (rep K H) vs xs.l,
  fun s ⟨a, vs, e, q, h⟩ => ⟨a, vs, e, s _ _ q, h.mono s⟩⟩
/-- a place, or a pair -/
inductive Thing where
  | pl (i : Int)
  | ti (a b : Int)
  deriving DecidableEq
instance repThing : Rep Thing := ⟨fun K H v x => match x with
  | .pl i => v = .int i
  | .ti a b => rep K H v (a, b), fun {_ _ _ _ x} s h => by
    cases x with
    | pl i => exact h
    | ti a b => exact Rep.mono (α := Int × Int) s h⟩
theorem A2.ints {vs : List V} {xs : List Int} (h : A2 (rep K H) vs xs) : vs = xs.map V.int := by
  induction h with
  | nil => rfl
  | cons a _ ih =>
    have a' : _ = V.int _ := a
    rw [a', ih]
    rfl
theorem A2.of_ints {xs : List Int} : A2 (rep K H) (xs.map V.int) xs := by
  induction xs with
  | nil => exact .nil
  | cons x xs ih => exact .cons rfl ih
theorem A2.bools {vs : List V} {xs : List Bool} (h : A2 (rep K H) vs xs) : vs = xs.map V.bl := by
  induction h with
  | nil => rfl
  | cons a _ ih =>
    have a' : _ = V.bl _ := a
    rw [a', ih]
    rfl
end

/-! ### the heap: F, frozen, is read alone; the cells os are one's own, not in F -/
structure W (F H : Hp) (os : List (Addr × HO)) : Prop where
  same : Same F H
  own : ∀ p ∈ os, H p.1 = some p.2 ∧ F p.1 = none
  nd : os.Pairwise fun p q => p.1 ≠ q.1
  nt : ∀ p ∈ os, ∀ vs, p.2 ≠ .tup vs
theorem same_new {H : Hp} {p : Addr} {o : HO} (h : H p = none) : Same H (upd H p o) := fun a u e => by
  rw [upd_ne (ne_of_none e h)]
  exact e
section
variable {F H : Hp} {os pre post : List (Addr × HO)} {a p : Addr} {o o' : HO}
theorem W.free (w : W F H os) (n : H p = none) : F p = none := w.same.free n
theorem W.get (w : W F H (pre ++ (a, o) :: post)) : H a = some o := (w.own (a, o) (List.mem_append_right _ List.mem_cons_self)).1
theorem W.no (w : W F H (pre ++ (a, o) :: post)) : F a = none := (w.own (a, o) (List.mem_append_right _ List.mem_cons_self)).2
theorem W.ne (w : W F H os) (n : H p = none) : ∀ q ∈ os, q.1 ≠ p := fun q hq e => by
  have h := (w.own q hq).1
  rw [e, n] at h
  cases h
/-- a new thing, never to be written -/
theorem W.frz (w : W F H os) (n : H p = none) : W (upd F p o) (upd H p o) os where
  same := fun b u e => by
    by_cases hb : b = p
    · subst hb
      rw [upd_same] at e ⊢
      exact e
    · rw [upd_ne hb] at e ⊢
      exact w.same b u e
  own := fun q hq => by
    have hne := w.ne n q hq
    rw [upd_ne hne, upd_ne hne]
    exact w.own q hq
  nd := w.nd
  nt := w.nt
theorem W.frzS (w : W F H os) (n : H p = none) : Same F (upd F p o) := same_new (w.free n)
/-- a new cell of one's own -/
theorem W.new (w : W F H os) (n : H p = none) (ho : ∀ vs, o ≠ .tup vs := by exact fun _ h => nomatch h) : W F (upd H p o) ((p, o) :: os) where
  same := w.same.trans (same_new n)
  own := fun q hq => by
    rcases List.mem_cons.mp hq with rfl | hq
    · exact ⟨upd_same, w.free n⟩
    · rw [upd_ne (w.ne n q hq)]
      exact w.own q hq
  nd := List.pairwise_cons.mpr ⟨fun q hq => fun e => w.ne n q hq e.symm, w.nd⟩
  nt := fun q hq => by
    rcases List.mem_cons.mp hq with rfl | hq
    · exact ho
    · exact w.nt q hq
/-- a cell of one's own is written -/
theorem W.set (w : W F H (pre ++ (a, o) :: post)) (ho : ∀ vs, o' ≠ .tup vs := by exact fun _ h => nomatch h) : W F (upd H a o') (pre ++ (a, o') :: post) where
  same := fun b u e => by
    have hn := w.no
    rw [upd_ne (ne_of_none e hn)]
    exact w.same b u e
  own := fun q hq => by
    have nd := w.nd
    rw [List.pairwise_append] at nd
    obtain ⟨_, n2, n3⟩ := nd
    rw [List.pairwise_cons] at n2
    rcases List.mem_append.mp hq with hq | hq
    · have hne : q.1 ≠ a := n3 q hq (a, o) List.mem_cons_self
      rw [upd_ne hne]
      exact w.own q (List.mem_append_left _ hq)
    · rcases List.mem_cons.mp hq with rfl | hq
      · exact ⟨upd_same, w.no⟩
      · have hne : q.1 ≠ a := fun e => n2.1 q hq e.symm
        rw [upd_ne hne]
        exact w.own q (List.mem_append_right _ (List.mem_cons_of_mem _ hq))
  nd := by
    have nd := w.nd
    rw [List.pairwise_append] at nd ⊢
    obtain ⟨n1, n2, n3⟩ := nd
    rw [List.pairwise_cons] at n2 ⊢
    refine ⟨n1, ⟨n2.1, n2.2⟩, fun x hx y hy => ?_⟩
    rcases List.mem_cons.mp hy with rfl | hy
    · exact n3 x hx (a, o) List.mem_cons_self
    · exact n3 x hx y (List.mem_cons_of_mem _ hy)
  nt := fun q hq => by
    rcases List.mem_append.mp hq with hq | hq
    · exact w.nt q (List.mem_append_left _ hq)
    · rcases List.mem_cons.mp hq with rfl | hq
      · exact ho
      · exact w.nt q (List.mem_append_right _ (List.mem_cons_of_mem _ hq))
/-- a cell is forgotten -/
theorem W.drop (w : W F H (pre ++ (a, o) :: post)) : W F H (pre ++ post) where
  same := w.same
  own := fun q hq => w.own q (by
    rcases List.mem_append.mp hq with h | h
    · exact List.mem_append_left _ h
    · exact List.mem_append_right _ (List.mem_cons_of_mem _ h))
  nd := by
    have nd := w.nd
    rw [List.pairwise_append] at nd ⊢
    obtain ⟨n1, n2, n3⟩ := nd
    rw [List.pairwise_cons] at n2
    exact ⟨n1, n2.2, fun x hx y hy => n3 x hx y (List.mem_cons_of_mem _ hy)⟩
  nt := fun q hq => w.nt q (by
    rcases List.mem_append.mp hq with h | h
    · exact List.mem_append_left _ h
    · exact List.mem_append_right _ (List.mem_cons_of_mem _ h))
/-- a cell of one's own is never written again -/
theorem W.freeze (w : W F H (pre ++ (a, o) :: post)) : W (upd F a o) H (pre ++ post) where
  same := fun b u e => by
    by_cases hb : b = a
    · subst hb
      rw [upd_same] at e
      rw [← e]
      exact w.get
    · rw [upd_ne hb] at e
      exact w.same b u e
  own := fun q hq => by
    have nd := w.nd
    rw [List.pairwise_append] at nd
    obtain ⟨n1, n2, n3⟩ := nd
    rw [List.pairwise_cons] at n2
    have hne : q.1 ≠ a := by
      rcases List.mem_append.mp hq with h | h
      · exact n3 q h (a, o) List.mem_cons_self
      · exact fun e => n2.1 q h e.symm
    have h := w.drop.own q hq
    rw [upd_ne hne]
    exact h
  nd := w.drop.nd
  nt := w.drop.nt
theorem W.freezeS (w : W F H (pre ++ (a, o) :: post)) : Same F (upd F a o) := same_new w.no
/-- a cell is told first -/
theorem W.front (w : W F H (pre ++ (a, o) :: post)) : W F H ((a, o) :: (pre ++ post)) where
  same := w.same
  own := fun x hx => w.own x (by
    rcases List.mem_cons.mp hx with rfl | h
    · exact List.mem_append_right _ List.mem_cons_self
    · rcases List.mem_append.mp h with h | h
      · exact List.mem_append_left _ h
      · exact List.mem_append_right _ (List.mem_cons_of_mem _ h))
  nd := by
    have nd := w.nd
    have nd' := w.drop.nd
    rw [List.pairwise_append] at nd
    obtain ⟨n1, n2, n3⟩ := nd
    rw [List.pairwise_cons] at n2
    refine List.pairwise_cons.mpr ⟨fun x hx => ?_, nd'⟩
    rcases List.mem_append.mp hx with h | h
    · exact fun e => n3 x h (a, o) List.mem_cons_self e.symm
    · exact n2.1 x h
  nt := fun x hx => w.nt x (by
    rcases List.mem_cons.mp hx with rfl | h
    · exact List.mem_append_right _ List.mem_cons_self
    · rcases List.mem_append.mp h with h | h
      · exact List.mem_append_left _ h
      · exact List.mem_append_right _ (List.mem_cons_of_mem _ h))
end

/-! ### what a call hands back -/
section
variable {α β : Type} [Rep α] [Rep β]
/-- a value of the frozen part -/
def Ret (K : Fg) (F : Hp) (os : List (Addr × HO)) (Q : VK) (y : α) : Prop := ∀ v F' H', W F' H' os → Same F F' → rep K F' v y → Q v H'
/-- a new list, the caller's own -/
def RetL (K : Fg) (F : Hp) (os : List (Addr × HO)) (Q : VK) (ys : List α) : Prop := ∀ p vs F' H', W F' H' ((p, .lst vs) :: os) → Same F F' → A2 (rep K F') vs ys → Q (.ref p) H'
/-- a value, and what the list at a holds now -/
def RetM (K : Fg) (F : Hp) (a : Addr) (os : List (Addr × HO)) (Q : VK) (y : α × List β) : Prop :=
  ∀ v vs F' H', W F' H' ((a, .lst vs) :: os) → Same F F' → rep K F' v y.1 → A2 (rep K F') vs y.2 → Q v H'
/-- a new list, the caller's own, and what the list at a holds now -/
def RetLM (K : Fg) (F : Hp) (a : Addr) (os : List (Addr × HO)) (Q : VK) (y : List α × List β) : Prop :=
  ∀ p us vs F' H', W F' H' ((p, .lst us) :: (a, .lst vs) :: os) → Same F F' → A2 (rep K F') us y.1 → A2 (rep K F') vs y.2 → Q (.ref p) H'
def noX : Exn → Prop := fun _ => False
end
end Z
/-! Z1: loops, comprehensions and joins against their mirrors; calls by typed data -/
namespace Z
open PySem L2
open Rep (rep)

/-! ### ways that join -/
section
variable {γ δ : Type} {m : R γ} {k : γ → R δ} {P : δ → Prop} {X : Exn → Prop}
theorem joinS {t u : TS} {D : Ends} {σ : St} {H : Hp} (hm : Post (m >>= k) P X) (J : γ → St → Hp → Prop)
    (h : ∀ (N : St → Hp → Prop) (P' : γ → Prop), (∀ g, P' g → ∀ σ' H', J g σ' H' → N σ' H') → Post m P' X → t { D with nx := N } σ H)
    (h2 : ∀ g σ' H', J g σ' H' → Post (k g) P X → u D σ' H') : tSeq t u D σ H :=
  h _ _ (fun g p σ' H' j => h2 g σ' H' j p) (post_bind hm)
theorem joinT {t : TT} {σ : St} {H : Hp} {Q : Bool → Hp → Prop} (hm : Post (m >>= k) P X) (J : γ → Bool → Hp → Prop)
    (h : ∀ (Q' : Bool → Hp → Prop) (P' : γ → Prop), (∀ g, P' g → ∀ c H', J g c H' → Q' c H') → Post m P' X → t σ H Q')
    (h2 : ∀ g c H', J g c H' → Post (k g) P X → Q c H') : t σ H Q :=
  h _ _ (fun g p c H' j => h2 g c H' j p) (post_bind hm)
theorem joinE {t : TE} {σ : St} {H : Hp} {Q : VK} (hm : Post (m >>= k) P X) (J : γ → V → Hp → Prop)
    (h : ∀ (Q' : VK) (P' : γ → Prop), (∀ g, P' g → ∀ c H', J g c H' → Q' c H') → Post m P' X → t σ H Q')
    (h2 : ∀ g c H', J g c H' → Post (k g) P X → Q c H') : t σ H Q :=
  h _ _ (fun g p c H' j => h2 g c H' j p) (post_bind hm)
/-- a test of a value that is told -/
theorem cutT {t : TT} {σ : St} {H : Hp} {Q : Bool → Hp → Prop} (J : Bool → Hp → Prop) (h : ∀ Q' : Bool → Hp → Prop, (∀ c H', J c H' → Q' c H') → t σ H Q') (h2 : ∀ c H', J c H' → Q c H') : t σ H Q := h _ h2
theorem cutE {t : TE} {σ : St} {H : Hp} {Q : VK} (J : V → Hp → Prop) (h : ∀ Q' : VK, (∀ c H', J c H' → Q' c H') → t σ H Q') (h2 : ∀ c H', J c H' → Q c H') : t σ H Q := h _ h2
theorem ifB {c : Bool} {A B : Prop} (h1 : c = true → A) (h2 : c = false → B) : if c = true then A else B := by
  cases c with
  | true => exact h1 rfl
  | false => exact h2 rfl
end

/-! ### what is walked, typed -/
structure TW (J : It) {β : Type} (items : List β) (G : Hp → Prop) (Y : β → Hp → V → Hp → Prop) : Prop where
  walk : Walk J items.length G (fun i H x H' => ∃ b, items[i]? = some b ∧ Y b H x H')
section
variable {K : Fg} {F : Hp} {a : Addr} {α β : Type} [Rep α] [Rep β] {vs us : List V} {xs : List α} {ys : List β}
theorem tw_list (h : A2 (rep K F) vs xs) : TW (Itl K a) xs (fun H => SqL K H a vs) (fun b H x H' => H' = H ∧ rep K F x b) := ⟨by
  rw [← h.length]
  exact walk_list.mono (fun _ g => g) fun i H x H' _ _ y => by
    obtain ⟨y1, y2⟩ := y
    obtain ⟨b, h1, h2⟩ := h.getV y2
    exact ⟨b, h1, y1, h2⟩⟩
theorem tw_tup (h : A2 (rep K F) vs xs) : TW (Itt K a) xs (fun H => SqT K H a vs) (fun b H x H' => H' = H ∧ rep K F x b) := ⟨by
  rw [← h.length]
  exact walk_tup.mono (fun _ g => g) fun i H x H' _ _ y => by
    obtain ⟨y1, y2⟩ := y
    obtain ⟨b, h1, h2⟩ := h.getV y2
    exact ⟨b, h1, y1, h2⟩⟩
theorem rng_length (i j : Int) : (rng i j).length = (j - i).toNat := by
  unfold rng
  rw [List.length_map, List.length_range]
theorem rng_get {i j : Int} {n : Nat} (h : n < (j - i).toNat) : (rng i j)[n]? = some (i + (n : Int)) := by
  unfold rng
  rw [List.getElem?_map, List.getElem?_range h]
  rfl
theorem tw_rng {i j : Int} : TW (Itr i (j - i).toNat) (rng i j) (fun _ => True) (fun b H x H' => H' = H ∧ x = .int b) := ⟨by
  rw [rng_length]
  exact walk_range.mono (fun _ g => g) fun n H x H' hn _ y => ⟨_, rng_get hn, y.1, y.2⟩⟩
theorem tw_rng0 {j : Int} : TW (Itr 0 j.toNat) (rng 0 j) (fun _ => True) (fun b H x H' => H' = H ∧ x = .int b) := by
  have h := tw_rng (i := 0) (j := j)
  rw [Int.sub_zero] at h
  exact h
/-- pairs of a place and the item there -/
def enum (xs : List α) : List (Int × α) := (rng 0 xs.length).zip xs
theorem enum_length (xs : List α) : (enum xs).length = xs.length := by
  unfold enum
  rw [List.length_zip, rng_length]
  omega
theorem enum_get {xs : List α} {i : Nat} {x : α} (h : xs[i]? = some x) : (enum xs)[i]? = some ((i : Int), x) := by
  have hl := (List.getElem?_eq_some_iff.mp h).1
  unfold enum
  rw [List.getElem?_zip_eq_some]
  refine ⟨?_, h⟩
  rw [rng_get (by omega)]
  simp
theorem tw_enum (h : A2 (rep K F) vs xs) : TW (Ite K a) (enum xs) (fun H => SqL K H a vs) (fun b H v H' => ∃ T x, v = .ref T ∧ H T = none ∧ H' = upd H T (.tup [.int b.1, x]) ∧ rep K F x b.2) := ⟨by
  rw [enum_length, ← h.length]
  exact walk_enum.mono (fun _ g => g) fun i H x H' _ _ y => by
    obtain ⟨T, u, w, e1, e2, e3, e4, e5⟩ := y
    obtain ⟨b, h1, h2⟩ := h.getV e5
    cases e4
    exact ⟨((i : Int), b), enum_get h1, T, w, e1, e2, e3, h2⟩⟩
theorem tw_zip {b : Addr} (h : A2 (rep K F) vs xs) (h' : A2 (rep K F) us ys) : TW (Itz K a b) (xs.zip ys) (fun H => SqL K H a vs ∧ SqL K H b us) (fun p H v H' => ∃ T x y, v = .ref T ∧ H T = none ∧ H' = upd H T (.tup [x, y]) ∧ rep K F x p.1 ∧ rep K F y p.2) := ⟨by
  rw [List.length_zip, ← h.length, ← h'.length]
  exact (walk_zip rfl).mono (fun _ g => g) fun i H x H' _ _ y => by
    obtain ⟨T, u, w, e1, e2, e3, e4, e5⟩ := y
    obtain ⟨c, h1, h2⟩ := h.getV e4
    obtain ⟨d, h3, h4⟩ := h'.getV e5
    refine ⟨(c, d), ?_, T, u, w, e1, e2, e3, h2, h4⟩
    rw [List.getElem?_zip_eq_some]
    exact ⟨h1, h3⟩⟩
end

/-! ### for -/
section
variable {J : It} {β γ δ ρ : Type} {items : List β} {G : Hp → Prop} {Y : β → Hp → V → Hp → Prop} {g : TG} {tb : TS} {D : Ends} {σ : St} {H : Hp} {P : δ → Prop} {X : Exn → Prop}
theorem drop_cons {l : List β} {i : Nat} {b : β} (h : l[i]? = some b) : l.drop i = b :: l.drop (i + 1) := by
  obtain ⟨hl, e⟩ := List.getElem?_eq_some_iff.mp h
  rw [List.drop_eq_getElem_cons hl, e]
theorem forS (tw : TW J items G Y) {body : γ → β → R γ} {s0 : γ} {k : γ → R δ} (hm : Post (foldR body s0 items >>= k) P X) (I : γ → St → Hp → Prop) (h0 : I s0 σ H) (hG : ∀ c σ H, I c σ H → G H)
    (hs : ∀ (b : β) (c : γ) (x : V) (σ : St) (H H' : Hp) (N : St → Hp → Prop) (P' : γ → Prop), I c σ H → Y b H x H' → (∀ c', P' c' → ∀ σ' H', I c' σ' H' → N σ' H') → Post (body c b) P' X → g x σ H' fun σ2 H2 => tb { D with nx := N, ct := N, bk := D.nx } σ2 H2)
    (hd : ∀ c σ H, I c σ H → Post (k c) P X → D.nx σ H) :
    ∃ W : Nat → Nat → St → Hp → Prop, (∃ m, W 0 m σ H) ∧ ∀ i m σ H, W i m σ H →
      (J.stop i H ∧ D.nx σ H) ∨ (J.go i H ∧ ∃ N : St → Hp → Prop, (∀ σ' H', N σ' H' → ∃ m', m' < m ∧ W (i + 1) m' σ' H') ∧ ∀ x H', J.yld i H x H' → g x σ H' fun σ2 H2 => tb { D with nx := N, ct := N, bk := D.nx } σ2 H2) := by
  refine for_it tw.walk (fun i σ H => ∃ c, I c σ H ∧ Post (foldR body c (items.drop i) >>= k) P X) ⟨s0, h0, hm⟩ (fun i σ H _ ⟨c, h, _⟩ => hG c σ H h) ?_ ?_
  · rintro i x σ H H' hi ⟨c, h, hm⟩ ⟨b, hb, y⟩
    rw [drop_cons hb] at hm
    exact hs b c x σ H H' _ _ h y (fun c' p' σ' H' h' => ⟨c', h', p'⟩) (post_bind (pb_foldR hm))
  · rintro σ H ⟨c, h, hm⟩
    rw [List.drop_length] at hm
    exact hd c σ H h hm
/-- a for that may end the whole, or itself -/
theorem forX (tw : TW J items G Y) {body : γ → β → R (Sum ρ (Bool × γ))} {s0 : γ} {k : Sum ρ γ → R δ} (hm : Post (foldX body s0 items >>= k) P X) (I : γ → St → Hp → Prop) (h0 : I s0 σ H) (hG : ∀ c σ H, I c σ H → G H)
    (hs : ∀ (b : β) (c : γ) (x : V) (σ : St) (H H' : Hp) (N B : St → Hp → Prop) (P' : Sum ρ (Bool × γ) → Prop), I c σ H → Y b H x H' → (∀ c', P' (.inr (true, c')) → ∀ σ' H', I c' σ' H' → N σ' H') → (∀ c', P' (.inr (false, c')) → ∀ σ' H', I c' σ' H' → B σ' H') →
      (∀ z, P' (.inl z) → Post (k (.inl z)) P X) → Post (body c b) P' X → g x σ H' fun σ2 H2 => tb { D with nx := N, ct := N, bk := B } σ2 H2)
    (hd : ∀ c σ H, I c σ H → Post (k (.inr c)) P X → D.nx σ H) :
    ∃ W : Nat → Nat → St → Hp → Prop, (∃ m, W 0 m σ H) ∧ ∀ i m σ H, W i m σ H →
      (J.stop i H ∧ D.nx σ H) ∨ (J.go i H ∧ ∃ N : St → Hp → Prop, (∀ σ' H', N σ' H' → ∃ m', m' < m ∧ W (i + 1) m' σ' H') ∧ ∀ x H', J.yld i H x H' → g x σ H' fun σ2 H2 => tb { D with nx := N, ct := N, bk := D.nx } σ2 H2) := by
  refine for_it tw.walk (fun i σ H => ∃ c, I c σ H ∧ Post (foldX body c (items.drop i) >>= k) P X) ⟨s0, h0, hm⟩ (fun i σ H _ ⟨c, h, _⟩ => hG c σ H h) ?_ ?_
  · rintro i x σ H H' hi ⟨c, h, hm⟩ ⟨b, hb, y⟩
    rw [drop_cons hb] at hm
    have hm' : Post ((body c b >>= fun r => match r with
      | .inl z => (R.ok (.inl z) : R (Sum ρ γ))
      | .inr (true, s') => foldX body s' (items.drop (i + 1))
      | .inr (false, s') => R.ok (.inr s')) >>= k) P X := hm
    rw [bind_bind] at hm'
    exact hs b c x σ H H' _ _ _ h y (fun c' p' σ' H' h' => ⟨c', h', p'⟩) (fun c' p' σ' H' h' => hd c' σ' H' h' p') (fun z p' => p') (post_bind hm')
  · rintro σ H ⟨c, h, hm⟩
    rw [List.drop_length] at hm
    exact hd c σ H h hm
end
/-! ### comprehensions -/
/-- items for items, of a list that is not too long -/
def mapG {α β : Type} (f : α → R β) (xs : List α) : R (List β) := grd (decide (xs.length < 100000)) >>= fun _ => mapR f xs
/-- items for some items -/
def filR {α β : Type} (f : α → R (Option β)) : List α → R (List β)
  | [] => .ok []
  | x :: xs => f x >>= fun o => filR f xs >>= fun ys => match o with
    | some y => .ok (y :: ys)
    | none => .ok ys
def filG {α β : Type} (f : α → R (Option β)) (xs : List α) : R (List β) := grd (decide (xs.length < 100000)) >>= fun _ => filR f xs
/-- items for items, by a state that turns -/
def mapSt {α β γ : Type} (f : γ → α → R (β × γ)) : γ → List α → R (List β × γ)
  | s, [] => .ok ([], s)
  | s, x :: xs => f s x >>= fun p => mapSt f p.2 xs >>= fun q => .ok (p.1 :: q.1, q.2)
def mapStG {α β γ : Type} (f : γ → α → R (β × γ)) (s : γ) (xs : List α) : R (List β × γ) := grd (decide (xs.length < 100000)) >>= fun _ => mapSt f s xs
/-- items for some items, by a state that turns -/
def filSt {α β γ : Type} (f : γ → α → R (Option β × γ)) : γ → List α → R (List β × γ)
  | s, [] => .ok ([], s)
  | s, x :: xs => f s x >>= fun p => filSt f p.2 xs >>= fun q => match p.1 with
    | some y => .ok (y :: q.1, q.2)
    | none => .ok q
def filStG {α β γ : Type} (f : γ → α → R (Option β × γ)) (s : γ) (xs : List α) : R (List β × γ) := grd (decide (xs.length < 100000)) >>= fun _ => filSt f s xs
section
variable {J : It} {β γ δ ε : Type} {items : List β} {G : Hp → Prop} {Y : β → Hp → V → Hp → Prop} {g : TG} {tt : TT} {te : TE} {P : ε → Prop} {X : Exn → Prop} {K : Fg} {vs : List Nat} {σ : St} {F H1 : Hp} {os : List (Addr × HO)} {D : Addr} {Qd : Hp → Prop}
/-- what is asked of a comprehension's list D behind its walk J: by the readings' own words -/
abbrev LcAsk (J : It) (g : TG) (tt : TT) (te : TE) (vs : List Nat) (σ : St) (H1 : Hp) (D : Addr) (Qd : Hp → Prop) : Prop :=
  ∃ W : Nat → Nat → Hp → Prop, (∃ m, W 0 m (upd H1 D (.lst []))) ∧ ∀ i m H, W i m H →
      (J.stop i H ∧ Qd H) ∨ (J.go i H ∧ ∃ Nx : Hp → Prop, (∀ H', Nx H' → ∃ m', m' < m ∧ W (i + 1) m' H') ∧ ∀ x H', J.yld i H x H' → g x (wipe σ vs) H' fun σ2 H2 => wipe σ2 vs = wipe σ vs ∧ tt σ2 H2 fun b H3 =>
        if b = true then te σ2 H3 fun y H4 => ∃ acc, H4 D = some (.lst acc) ∧ acc.length < sizeLine ∧ Nx (upd H4 D (.lst (acc ++ [y]))) else Nx H3)
/-- the state and the items told of a comprehension: os by the state -/
theorem lcFil [Rep δ] (tw : TW J items G Y) {f : γ → β → R (Option δ × γ)} {s0 : γ} {k : List δ × γ → R ε} (hm : Post (filStG f s0 items >>= k) P X) (O : γ → Hp → List (Addr × HO) → Prop) (w : W F H1 os) (o0 : O s0 F os) (nD : H1 D = none)
    (hG : ∀ c F' H' os' acc, Same F F' → W F' H' ((D, .lst acc) :: os') → O c F' os' → G H')
    (hs : ∀ (b : β) (c : γ) (x : V) (F' H' H'' : Hp) (os' : List (Addr × HO)) (acc : List V) (N : V → Hp → Prop) (N0 : Hp → Prop) (P' : Option δ × γ → Prop), Same F F' → W F' H' ((D, .lst acc) :: os') → O c F' os' → Y b H' x H'' →
      (∀ d c', P' (some d, c') → ∀ y F'' H'' os'', W F'' H'' ((D, .lst acc) :: os'') → Same F' F'' → O c' F'' os'' → rep K F'' y d → N y H'') →
      (∀ c', P' (none, c') → ∀ F'' H'' os'', W F'' H'' ((D, .lst acc) :: os'') → Same F' F'' → O c' F'' os'' → N0 H'') → Post (f c b) P' X →
      g x (wipe σ vs) H'' fun σ2 H2 => wipe σ2 vs = wipe σ vs ∧ tt σ2 H2 fun b H3 => if b = true then te σ2 H3 N else N0 H3)
    (hd : ∀ c us F' H' os' ys, Same F F' → W F' H' ((D, .lst us) :: os') → O c F' os' → A2 (rep K F') us ys → Post (k (ys, c)) P X → Qd H') : LcAsk J g tt te vs σ H1 D Qd := by
  obtain ⟨hlen, hm⟩ := pb_grd (pb_assoc hm)
  have hlen : items.length < sizeLine := Nat.lt_of_lt_of_le (of_decide_eq_true hlen) line5
  refine lc_it tw.walk (fun i H => ∃ c F' os' us ys, i ≤ items.length ∧ Same F F' ∧ W F' H ((D, .lst us) :: os') ∧ O c F' os' ∧ A2 (rep K F') us ys ∧ ys.length ≤ i ∧ Post (filSt f c (items.drop i) >>= fun q => k (ys ++ q.1, q.2)) P X) ?_ ?_ ?_ ?_
  · exact ⟨s0, F, os, [], [], Nat.zero_le _, Same.refl _, w.new nD, o0, .nil, Nat.le_refl _, hm⟩
  · rintro i H _ ⟨c, F', os', us, ys, _, s, w', o, _⟩
    exact hG c F' H os' us s w' o
  · rintro i x H H' hi ⟨c, F', os', us, ys, _, s, w', o, h, hl, hm⟩ ⟨b, hb, y⟩
    rw [drop_cons hb] at hm
    have hm' : Post ((f c b >>= fun p => filSt f p.2 (items.drop (i + 1)) >>= fun q => match p.1 with
      | some y => (R.ok (y :: q.1, q.2) : R (List δ × γ))
      | none => R.ok q) >>= fun q => k (ys ++ q.1, q.2)) P X := hm
    rw [bind_bind] at hm'
    have hm2 := post_bind hm'
    have hul : us.length = ys.length := h.length
    refine hs b c x F' H H' os' us (fun y H4 => ∃ acc, H4 D = some (.lst acc) ∧ acc.length < sizeLine ∧ _) _ _ s w' o y ?_ ?_ hm2
    · intro d c' p2 y F'' H'' os'' w2 s2 o2 r2
      refine ⟨us, w2.get (pre := []), by omega, c', F'', os'', us ++ [y], ys ++ [d], hi, s.trans s2, w2.set (pre := []), o2, (h.mono s2).snoc r2, by rw [List.length_append, List.length_singleton]; omega, ?_⟩
      have p3 : Post ((filSt f c' (items.drop (i + 1)) >>= fun q => (R.ok (d :: q.1, q.2) : R (List δ × γ))) >>= fun q => k (ys ++ q.1, q.2)) P X := p2
      rw [bind_bind] at p3
      have e : (fun q : List δ × γ => (R.ok (d :: q.1, q.2) : R (List δ × γ)) >>= fun q => k (ys ++ q.1, q.2)) = fun q => k (ys ++ [d] ++ q.1, q.2) := by
        funext q
        show k (ys ++ (d :: q.1), q.2) = k (ys ++ [d] ++ q.1, q.2)
        rw [List.append_assoc]
        rfl
      rw [e] at p3
      exact p3
    · intro c' p2 F'' H'' os'' w2 s2 o2
      refine ⟨c', F'', os'', us, ys, hi, s.trans s2, w2, o2, h.mono s2, by omega, ?_⟩
      have p3 : Post ((filSt f c' (items.drop (i + 1)) >>= fun q => (R.ok q : R (List δ × γ))) >>= fun q => k (ys ++ q.1, q.2)) P X := p2
      rw [bind_bind] at p3
      exact p3
  · rintro H ⟨c, F', os', us, ys, _, s, w', o, h, _, hm⟩
    rw [List.drop_length] at hm
    have hm' : Post (k (ys ++ [], c)) P X := hm
    rw [List.append_nil] at hm'
    exact hd c us F' H os' ys s w' o h hm'
/-- without a test -/
theorem lcMap [Rep δ] (tw : TW J items G Y) {f : γ → β → R (δ × γ)} {s0 : γ} {k : List δ × γ → R ε} (hm : Post (mapStG f s0 items >>= k) P X) (O : γ → Hp → List (Addr × HO) → Prop) (w : W F H1 os) (o0 : O s0 F os) (nD : H1 D = none)
    (hG : ∀ c F' H' os' acc, Same F F' → W F' H' ((D, .lst acc) :: os') → O c F' os' → G H')
    (hs : ∀ (b : β) (c : γ) (x : V) (F' H' H'' : Hp) (os' : List (Addr × HO)) (acc : List V) (N : V → Hp → Prop) (P' : δ × γ → Prop), Same F F' → W F' H' ((D, .lst acc) :: os') → O c F' os' → Y b H' x H'' →
      (∀ d c', P' (d, c') → ∀ y F'' H'' os'', W F'' H'' ((D, .lst acc) :: os'') → Same F' F'' → O c' F'' os'' → rep K F'' y d → N y H'') → Post (f c b) P' X →
      g x (wipe σ vs) H'' fun σ2 H2 => wipe σ2 vs = wipe σ vs ∧ te σ2 H2 N)
    (hd : ∀ c us F' H' os' ys, Same F F' → W F' H' ((D, .lst us) :: os') → O c F' os' → A2 (rep K F') us ys → Post (k (ys, c)) P X → Qd H') : LcAsk J g tYes te vs σ H1 D Qd := by
  have e : ∀ (s : γ) (l : List β), filSt (fun c b => f c b >>= fun p => R.ok (some p.1, p.2)) s l = mapSt f s l := by
    intro s l
    induction l generalizing s with
    | nil => rfl
    | cons b l ih =>
      show ((f s b >>= fun p => R.ok (some p.1, p.2)) >>= fun p => filSt (fun c b => f c b >>= fun p => R.ok (some p.1, p.2)) p.2 l >>= fun q => match p.1 with
        | some y => (R.ok (y :: q.1, q.2) : R (List δ × γ))
        | none => R.ok q) = (f s b >>= fun p => mapSt f p.2 l >>= fun q => .ok (p.1 :: q.1, q.2))
      rw [bind_bind]
      refine congrArg (f s b >>= ·) ?_
      funext p
      show (filSt (fun c b => f c b >>= fun p => R.ok (some p.1, p.2)) p.2 l >>= fun q => (R.ok (p.1 :: q.1, q.2) : R (List δ × γ))) = _
      rw [ih]
  have hm' : Post (filStG (fun c b => f c b >>= fun p => R.ok (some p.1, p.2)) s0 items >>= k) P X := by
    unfold filStG
    simp only [e]
    exact hm
  refine lcFil tw hm' O w o0 nD hG (fun b c x F' H' H'' os' acc N N0 P' s w' o y hN hN0 hp => ?_) hd
  exact hs b c x F' H' H'' os' acc N _ s w' o y (fun d c' p2 y F'' H'' os'' w2 s2 o2 r2 => hN d c' p2 y F'' H'' os'' w2 s2 o2 r2) (post_bind hp)
/-- without a state -/
theorem lcM [Rep δ] (tw : TW J items G Y) {f : β → R δ} {k : List δ → R ε} (hm : Post (mapG f items >>= k) P X) (w : W F H1 os) (nD : H1 D = none)
    (hG : ∀ F' H' acc, Same F F' → W F' H' ((D, .lst acc) :: os) → G H')
    (hs : ∀ (b : β) (x : V) (F' H' H'' : Hp) (acc : List V) (N : V → Hp → Prop) (P' : δ → Prop), Same F F' → W F' H' ((D, .lst acc) :: os) → Y b H' x H'' →
      (∀ d, P' d → ∀ y F'' H'', W F'' H'' ((D, .lst acc) :: os) → Same F' F'' → rep K F'' y d → N y H'') → Post (f b) P' X →
      g x (wipe σ vs) H'' fun σ2 H2 => wipe σ2 vs = wipe σ vs ∧ te σ2 H2 N)
    (hd : ∀ us F' H' ys, Same F F' → W F' H' ((D, .lst us) :: os) → A2 (rep K F') us ys → Post (k ys) P X → Qd H') : LcAsk J g tYes te vs σ H1 D Qd := by
  have e : ∀ (l : List β), (mapSt (fun (_ : Unit) b => f b >>= fun d => R.ok (d, ())) () l >>= fun q => R.ok q.1) = mapR f l := by
    intro l
    induction l with
    | nil => rfl
    | cons b l ih =>
      show (((f b >>= fun d => R.ok (d, ())) >>= fun p => mapSt (fun (_ : Unit) b => f b >>= fun d => R.ok (d, ())) p.2 l >>= fun q => (R.ok (p.1 :: q.1, q.2) : R (List δ × Unit))) >>= fun q => R.ok q.1) = (f b >>= fun y => mapR f l >>= fun ys => R.ok (y :: ys))
      rw [bind_bind, bind_bind]
      refine congrArg (f b >>= ·) ?_
      funext d
      show ((mapSt (fun (_ : Unit) b => f b >>= fun d => R.ok (d, ())) () l >>= fun q => (R.ok (d :: q.1, q.2) : R (List δ × Unit))) >>= fun q => R.ok q.1) = _
      rw [bind_bind, ← ih, bind_bind]
      rfl
  have hm' : Post (mapStG (fun (_ : Unit) b => f b >>= fun d => R.ok (d, ())) () items >>= fun q => k q.1) P X := by
    have e2 : (mapStG (fun (_ : Unit) b => f b >>= fun d => R.ok (d, ())) () items >>= fun q => R.ok q.1) = mapG f items := by
      unfold mapStG mapG
      rw [bind_bind]
      simp only [e]
    have h2 : Post ((mapStG (fun (_ : Unit) b => f b >>= fun d => R.ok (d, ())) () items >>= fun q => R.ok q.1) >>= k) P X := by
      rw [e2]
      exact hm
    rw [bind_bind] at h2
    exact h2
  refine lcMap tw hm' (fun _ _ os' => os = os') w rfl nD (fun c F' H' os' acc s w' o => by subst o; exact hG F' H' acc s w') (fun b c x F' H' H'' os' acc N P' s w' o y hN hp => ?_) (fun c us F' H' os' ys s w' o h hm => by subst o; exact hd us F' H' ys s w' h hm)
  subst o
  exact hs b x F' H' H'' acc N _ s w' y (fun d p2 y F'' H'' w2 s2 r2 => hN d () p2 y F'' H'' _ w2 s2 rfl r2) (post_bind hp)
/-- .. with a test -/
theorem lcF [Rep δ] (tw : TW J items G Y) {f : β → R (Option δ)} {k : List δ → R ε} (hm : Post (filG f items >>= k) P X) (w : W F H1 os) (nD : H1 D = none)
    (hG : ∀ F' H' acc, Same F F' → W F' H' ((D, .lst acc) :: os) → G H')
    (hs : ∀ (b : β) (x : V) (F' H' H'' : Hp) (acc : List V) (N : V → Hp → Prop) (N0 : Hp → Prop) (P' : Option δ → Prop), Same F F' → W F' H' ((D, .lst acc) :: os) → Y b H' x H'' →
      (∀ d, P' (some d) → ∀ y F'' H'', W F'' H'' ((D, .lst acc) :: os) → Same F' F'' → rep K F'' y d → N y H'') →
      (P' none → ∀ F'' H'', W F'' H'' ((D, .lst acc) :: os) → Same F' F'' → N0 H'') → Post (f b) P' X →
      g x (wipe σ vs) H'' fun σ2 H2 => wipe σ2 vs = wipe σ vs ∧ tt σ2 H2 fun b H3 => if b = true then te σ2 H3 N else N0 H3)
    (hd : ∀ us F' H' ys, Same F F' → W F' H' ((D, .lst us) :: os) → A2 (rep K F') us ys → Post (k ys) P X → Qd H') : LcAsk J g tt te vs σ H1 D Qd := by
  have e : ∀ (l : List β), (filSt (fun (_ : Unit) b => f b >>= fun d => R.ok (d, ())) () l >>= fun q => R.ok q.1) = filR f l := by
    intro l
    induction l with
    | nil => rfl
    | cons b l ih =>
      show (((f b >>= fun d => R.ok (d, ())) >>= fun p => filSt (fun (_ : Unit) b => f b >>= fun d => R.ok (d, ())) p.2 l >>= fun q => match p.1 with
        | some y => (R.ok (y :: q.1, q.2) : R (List δ × Unit))
        | none => R.ok q) >>= fun q => R.ok q.1) = (f b >>= fun o => filR f l >>= fun ys => match o with
        | some y => .ok (y :: ys)
        | none => .ok ys)
      rw [bind_bind, bind_bind]
      refine congrArg (f b >>= ·) ?_
      funext d
      show ((filSt (fun (_ : Unit) b => f b >>= fun d => R.ok (d, ())) () l >>= fun q => match d with
        | some y => (R.ok (y :: q.1, q.2) : R (List δ × Unit))
        | none => R.ok q) >>= fun q => R.ok q.1) = _
      rw [bind_bind, ← ih, bind_bind]
      cases d <;> rfl
  have hm' : Post (filStG (fun (_ : Unit) b => f b >>= fun d => R.ok (d, ())) () items >>= fun q => k q.1) P X := by
    have e2 : (filStG (fun (_ : Unit) b => f b >>= fun d => R.ok (d, ())) () items >>= fun q => R.ok q.1) = filG f items := by
      unfold filStG filG
      rw [bind_bind]
      simp only [e]
    have h2 : Post ((filStG (fun (_ : Unit) b => f b >>= fun d => R.ok (d, ())) () items >>= fun q => R.ok q.1) >>= k) P X := by
      rw [e2]
      exact hm
    rw [bind_bind] at h2
    exact h2
  refine lcFil tw hm' (fun _ _ os' => os = os') w rfl nD (fun c F' H' os' acc s w' o => by subst o; exact hG F' H' acc s w') (fun b c x F' H' H'' os' acc N N0 P' s w' o y hN hN0 hp => ?_) (fun c us F' H' os' ys s w' o h hm => by subst o; exact hd us F' H' ys s w' h hm)
  subst o
  exact hs b x F' H' H'' acc N N0 _ s w' y (fun d p2 y F'' H'' w2 s2 r2 => hN d () p2 y F'' H'' _ w2 s2 rfl r2) (fun p2 F'' H'' w2 s2 => hN0 () p2 F'' H'' _ w2 s2 rfl) (post_bind hp)
end
end Z
namespace Z
open PySem L2
open Rep (rep)
/-! ### short words for a walk -/
section
variable {F F1 F2 H H1 : Hp} {os os' pre post : List (Addr × HO)} {a p : Addr} {o o' : HO} {K : Fg}
theorem W.frzE (w : W F H os) (n : H p = none) : ∃ F', Same F F' ∧ W F' (upd H p o) os ∧ F' p = some o := ⟨_, w.frzS n, w.frz n, upd_same⟩
theorem W.freezeE (w : W F H (pre ++ (a, o) :: post)) : ∃ F', Same F F' ∧ W F' H (pre ++ post) ∧ F' a = some o := ⟨_, w.freezeS, w.freeze, upd_same⟩
/-- a cell that was lent to a call as frozen comes back -/
theorem W.unfreeze (w : W F1 H os) (s : Same F F1) (n : F a = none) (k : F1 a = some o) (ho : ∀ vs, o ≠ .tup vs := by exact fun _ h => nomatch h) : ∃ F', Same F F' ∧ W F' H ((a, o) :: os) := by
  refine ⟨fun b => if b = a then none else F1 b, fun b u e => ?_, fun b u e => ?_, fun q hq => ?_, ?_, fun q hq => ?_⟩
  · have hb : b ≠ a := ne_of_none e n
    show (if b = a then none else F1 b) = some u
    rw [if_neg hb]
    exact s b u e
  · by_cases hb : b = a
    · have e' : (if b = a then none else F1 b) = some u := e
      rw [if_pos hb] at e'
      cases e'
    · have e' : (if b = a then none else F1 b) = some u := e
      rw [if_neg hb] at e'
      exact w.same b u e'
  · rcases List.mem_cons.mp hq with rfl | hq
    · exact ⟨w.same _ _ k, if_pos rfl⟩
    · have h := w.own q hq
      have hb : q.1 ≠ a := fun e => by
        rw [e, k] at h
        cases h.2
      exact ⟨h.1, by show (if q.1 = a then none else F1 q.1) = none; rw [if_neg hb]; exact h.2⟩
  · refine List.pairwise_cons.mpr ⟨fun q hq e => ?_, w.nd⟩
    have h := (w.own q hq).2
    have e' : a = q.1 := e
    rw [← e', k] at h
    cases h
  · rcases List.mem_cons.mp hq with rfl | hq
    · exact ho
    · exact w.nt q hq
theorem rep_own {α : Type} [Rep α] {vs : List V} {xs : List α} (w : W F H (pre ++ (a, .lst vs) :: post)) (h : A2 (rep K F) vs xs) : rep K H (.ref a) xs := ⟨a, vs, rfl, w.get, h.mono w.same⟩
theorem rep_lst {α : Type} [Rep α] {vs : List V} {xs : List α} (q : F a = some (.lst vs)) (h : A2 (rep K F) vs xs) : rep K F (.ref a) xs := ⟨a, vs, rfl, q, h⟩
theorem rep_tup {α : Type} [Rep α] {vs : List V} {xs : List α} (q : F a = some (.tup vs)) (h : A2 (rep K F) vs xs) : rep K F (.ref a) (Tup.mk xs) := ⟨a, vs, rfl, q, h⟩
theorem rep_pair {α β : Type} [Rep α] [Rep β] {u v : V} {x : α} {y : β} (q : F a = some (.tup [u, v])) (h1 : rep K F u x) (h2 : rep K F v y) : rep K F (.ref a) (x, y) := ⟨a, u, v, rfl, q, h1, h2⟩
theorem ints_q {vs : List V} {xs : List Int} (q : SqL K H a vs) (h : A2 (rep K F) vs xs) : SqL K H a (xs.map V.int) := h.ints ▸ q
theorem Room.units65 {k : Nat} {A : Around} (r : Room k A) : A.units + 65 < cLine := by
  have := r.un
  omega
theorem sl_cut {α : Type} {r : V → α → Prop} {vs : List V} {xs : List α} (h : A2 r vs xs) (lo hi : Option Int) : A2 r (cutV vs lo hi) (((xs.drop (HT.sIx xs.length 0 lo)).take (HT.sIx xs.length xs.length hi - HT.sIx xs.length 0 lo))) := by
  unfold cutV
  rw [h.length]
  exact (h.drop _).take _
/-- xs[lo:hi] -/
def cutL {α : Type} (xs : List α) (lo hi : Option Int) : List α := (xs.drop (HT.sIx xs.length 0 lo)).take (HT.sIx xs.length xs.length hi - HT.sIx xs.length 0 lo)
end
end Z
namespace Z
open PySem L2
open Rep (rep)
/-- a while by its fuel -/
def whileR {γ : Type} (c : γ → R Bool) (b : γ → R γ) : Nat → γ → R γ
  | 0, _ => .bad
  | n + 1, s => c s >>= fun t => if t = true then b s >>= fun s' => whileR c b n s' else .ok s
section
variable {γ δ : Type} {P : δ → Prop} {X : Exn → Prop} {tc : TT} {tb : TS} {D : Ends} {σ : St} {H : Hp}
theorem whileS {c : γ → R Bool} {b : γ → R γ} {n : Nat} {s0 : γ} {k : γ → R δ} (hm : Post (whileR c b n s0 >>= k) P X) (I : γ → St → Hp → Prop) (h0 : I s0 σ H)
    (hc : ∀ (g : γ) (σ : St) (H : Hp) (Q' : Bool → Hp → Prop) (P' : Bool → Prop), I g σ H → (∀ t, P' t → ∀ H', I g σ H' → Q' t H') → Post (c g) P' X → tc σ H Q')
    (hs : ∀ (g : γ) (σ : St) (H : Hp) (N : St → Hp → Prop) (P' : γ → Prop), I g σ H → (∀ g', P' g' → ∀ σ' H', I g' σ' H' → N σ' H') → Post (b g) P' X → tb { D with nx := N, ct := N, bk := D.nx } σ H)
    (hd : ∀ g σ H, I g σ H → Post (k g) P X → D.nx σ H) : tWhile tc tb D σ H := by
  refine ⟨fun m σ H => ∃ g, I g σ H ∧ Post (whileR c b m g >>= k) P X, ⟨n, s0, h0, hm⟩, ?_⟩
  rintro m σ H ⟨g, h, hm⟩
  cases m with
  | zero => exact (show False from hm).elim
  | succ m =>
    have hm' : Post ((c g >>= fun t => if t = true then b g >>= fun s' => whileR c b m s' else .ok g) >>= k) P X := hm
    rw [bind_bind] at hm'
    refine hc g σ H _ _ h (fun t p H' h' => ?_) (post_bind hm')
    cases t with
    | false => exact iteF (hd g σ H' h' p)
    | true =>
      refine iteT ?_
      have p' : Post ((b g >>= fun s' => whileR c b m s') >>= k) P X := p
      rw [bind_bind] at p'
      exact ⟨fun σ' H' => ∃ g', I g' σ' H' ∧ Post (whileR c b m g' >>= k) P X, fun σ' H' ⟨g', h1, h2⟩ => ⟨m, Nat.lt_succ_self m, g', h1, h2⟩, hs g σ H' _ _ h' (fun g' p2 σ' H' h2 => ⟨g', h2, p2⟩) (post_bind p')⟩
end
section
variable {α β : Type} {Q : β → Prop} {E : Exn → Prop}
theorem pn_set {xs : List α} {i : Int} {x : α} {f : List α → R β} (h : Post (setI xs i x >>= f) Q E) : ∃ j ys, ixN xs.length i = some j ∧ ys = xs.set j x ∧ Post (f ys) Q E :=
  let ⟨j, a, b⟩ := pb_set h
  ⟨j, _, a, rfl, b⟩
theorem pn_app {xs : List α} {x : α} {f : List α → R β} (h : Post (app xs x >>= f) Q E) : ∃ ys, xs.length < sizeLine ∧ ys = xs ++ [x] ∧ Post (f ys) Q E :=
  let ⟨a, b⟩ := pb_app h
  ⟨_, a, rfl, b⟩
theorem pn_extend {xs ys : List α} {f : List α → R β} (h : Post (extend xs ys >>= f) Q E) : ∃ zs, xs.length + ys.length ≤ sizeLine ∧ zs = xs ++ ys ∧ Post (f zs) Q E :=
  let ⟨a, b⟩ := pb_extend h
  ⟨_, a, rfl, b⟩
theorem A2.lt {r : V → α → Prop} {vs : List V} {xs : List α} {n : Nat} (h : A2 r vs xs) (z : xs.length < n) : vs.length < n := by rw [h.length]; exact z
theorem A2.ix {r : V → α → Prop} {vs : List V} {xs : List α} {i : Int} {j : Nat} (h : A2 r vs xs) (z : ixN xs.length i = some j) : ixN vs.length i = some j := by rw [h.length]; exact z
theorem A2.le2 {γ : Type} {r : V → α → Prop} {r' : V → γ → Prop} {vs us : List V} {xs : List α} {ys : List γ} {n : Nat} (h : A2 r vs xs) (h' : A2 r' us ys) (z : xs.length + ys.length ≤ n) : vs.length + us.length ≤ n := by rw [h.length, h'.length]; exact z
/-- the last item, and the rest -/
def popI (xs : List α) : R (α × List α) := match xs.getLast? with
  | some x => .ok (x, xs.dropLast)
  | none => .bad
def popAt (xs : List α) (i : Int) : R (α × List α) := match ixN xs.length i with
  | some j => match xs[j]? with
    | some x => .ok (x, xs.eraseIdx j)
    | none => .bad
  | none => .bad
theorem pn_popAt {xs : List α} {i : Int} {f : α × List α → R β} (h : Post (popAt xs i >>= f) Q E) : ∃ j x ys, ixN xs.length i = some j ∧ xs[j]? = some x ∧ ys = xs.eraseIdx j ∧ Post (f (x, ys)) Q E := by
  unfold popAt at h
  cases e : ixN xs.length i with
  | none => rw [e] at h; exact (show False from h).elim
  | some j =>
    rw [e] at h
    cases e2 : xs[j]? with
    | none =>
      have h' : Post ((match xs[j]? with
        | some x => (R.ok (x, xs.eraseIdx j) : R (α × List α))
        | none => .bad) >>= f) Q E := h
      rw [e2] at h'
      exact (show False from h').elim
    | some x =>
      have h' : Post ((match xs[j]? with
        | some x => (R.ok (x, xs.eraseIdx j) : R (α × List α))
        | none => .bad) >>= f) Q E := h
      rw [e2] at h'
      exact ⟨j, x, _, rfl, e2, rfl, h'⟩
end
section
variable {K : Fg} {F : Hp}
theorem rep_i {i : Int} : rep K F (.int i) i := rfl
theorem rep_b {i : Bool} : rep K F (.bl i) i := rfl
theorem rep_s {i : Str} : rep K F (.str i) i := rfl
theorem rep_n : rep K F .non () := rfl
end
end Z
namespace Z
open PySem L2
section
variable {X : Cx} {D : Ends} {σ : L2.St} {H : Hp}
def tC1 (v : V) : TE := fun _ H Q => True ∧ Q v H
theorem pe_int1 {i j pos} : PE X (.Constant (.int i) j pos) (tC1 (.int i)) := ⟨fun pins s σ H Q I h => pe_int.run pins s σ H Q I h.2⟩
theorem pe_bl1 {i j pos} : PE X (.Constant (.bool i) j pos) (tC1 (.bl i)) := ⟨fun pins s σ H Q I h => pe_bl.run pins s σ H Q I h.2⟩
theorem pe_str1 {i j pos} : PE X (.Constant (.str i) j pos) (tC1 (.str i)) := ⟨fun pins s σ H Q I h => pe_str.run pins s σ H Q I h.2⟩
theorem pe_non1 {j pos} : PE X (.Constant .none j pos) (tC1 .non) := ⟨fun pins s σ H Q I h => pe_non.run pins s σ H Q I h.2⟩
theorem stepN {i : Nat} {v : V} {Q : L2.St → Hp → Prop} (h : Q (σ.set i (some v)) H) : gName i v σ H Q := h
theorem stepX (h : D.nx σ H) : tNext D σ H := h
theorem stepSeq {t u : TS} (h : t { D with nx := u D } σ H) : tSeq t u D σ H := h
theorem stepIf {c : TT} {a b : TS} (h : c σ H fun t H1 => if t = true then a D σ H1 else b D σ H1) : tIfS c a b D σ H := h
theorem stepRet {te : TE} (h : te σ H D.rt) : tRet te D σ H := h
theorem stepAsg {te : TE} {g : TG} (h : te σ H fun x H1 => g x σ H1 D.nx) : tAsg te g D σ H := h
theorem stepDrop {te : TE} (h : te σ H fun _ H1 => D.nx σ H1) : tDrop te D σ H := h
end
end Z
namespace Z
open PySem L2
open Rep (rep)
section
variable {α : Type} [Rep α] {K : Fg} {F : Hp} {v : V} {x : α}
theorem rep_none : rep K F .non (none : Option α) := rfl
theorem rep_some (h : rep K F v x) : rep K F v (some x) := h
theorem rep_pl {i : Int} : rep K F (.int i) (Thing.pl i) := rfl
theorem rep_ti {a b : Int} (h : rep K F v (a, b)) : rep K F v (Thing.ti a b) := h
end
end Z
/-! Z2: rules by typed data -/
namespace Z
open PySem L2 PySem.Spec PyProof.Rows
open Rep (rep)

/-! ### data that is compared -/
class Dat (α : Type) extends Rep α where
  toD : α → PyData
  dmax : Nat
  dp : ∀ {K : Fg} {H : Hp} {v : V} {x : α}, rep K H v x → Dp K H v (toD x)
  lay : ∀ x : α, (toD x).canLay0 = true
  dep : ∀ x : α, (toD x).depth ≤ dmax
  eqv : ∀ x y : α, PyData.eqv (toD x) (toD y) = true ↔ x = y
section
variable {α β : Type} {K : Fg} {H : Hp}
instance : Dat Int where
  toD := .int
  dmax := 0
  dp := fun h => by
    have h' : _ = V.int _ := h
    subst h'
    exact .int _
  lay := fun x => by simp only [PyData.canLay0]
  dep := fun x => by simp only [PyData.depth, Nat.le_refl]
  eqv := fun x y => by simp [PyData.eqv]
instance : Dat Bool where
  toD := .bool
  dmax := 0
  dp := fun h => by
    have h' : _ = V.bl _ := h
    subst h'
    exact .bl _
  lay := fun x => by simp only [PyData.canLay0]
  dep := fun x => by simp only [PyData.depth, Nat.le_refl]
  eqv := fun x y => by simp [PyData.eqv]
instance datOptInt : Dat (Option Int) where
  toD := fun x => match x with
    | none => .none
    | some i => .int i
  dmax := 0
  dp := fun {K H v x} h => by
    cases x with
    | none =>
      have h' : v = V.non := h
      subst h'
      exact .non
    | some i =>
      have h' : v = V.int i := h
      subst h'
      exact .int _
  lay := fun x => by cases x <;> simp only [PyData.canLay0]
  dep := fun x => by cases x <;> simp only [PyData.depth, Nat.le_refl]
  eqv := fun x y => by cases x <;> cases y <;> simp [PyData.eqv]
instance datPair [Dat α] [Dat β] : Dat (α × β) where
  toD := fun x => .tuple [Dat.toD x.1, Dat.toD x.2]
  dmax := max (Dat.dmax α) (Dat.dmax β) + 1
  dp := fun {K H v x} h => by
    obtain ⟨a, u, w, rfl, q, h1, h2⟩ := h
    exact .tup (SqT.of q) (.cons (Dat.dp h1) (.cons (Dat.dp h2) .nil))
  lay := fun x => by simp only [PyData.canLay0, PyData.canLayAll0, Dat.lay, Bool.and_true]
  dep := fun x => by
    have h1 := Dat.dep x.1
    have h2 := Dat.dep x.2
    simp only [PyData.depth, PyData.depthAll]
    omega
  eqv := fun x y => by
    obtain ⟨x1, x2⟩ := x
    obtain ⟨y1, y2⟩ := y
    simp only [PyData.eqv, PyData.eqvAll, Bool.and_true, Bool.and_eq_true, Dat.eqv, Prod.mk.injEq]
theorem dp_all [Dat α] : ∀ {vs : List V} {xs : List α}, A2 (rep K H) vs xs → DpAll K H vs (xs.map Dat.toD)
  | _, _, .nil => .nil
  | _, _, .cons h t => .cons (Dat.dp h) (dp_all t)
theorem lay_all [Dat α] : ∀ xs : List α, PyData.canLayAll0 (xs.map Dat.toD) = true
  | [] => by simp only [List.map_nil, PyData.canLayAll0]
  | x :: xs => by simp only [List.map_cons, PyData.canLayAll0, Dat.lay, lay_all xs, Bool.and_true]
theorem dep_all [Dat α] : ∀ xs : List α, PyData.depthAll (xs.map Dat.toD) ≤ Dat.dmax α
  | [] => by simp only [List.map_nil, PyData.depthAll, Nat.zero_le]
  | x :: xs => by
    have h1 := dep_all xs
    have h2 := Dat.dep x
    simp only [List.map_cons, PyData.depthAll]
    omega
theorem eqv_all [Dat α] : ∀ xs ys : List α, PyData.eqvAll (xs.map Dat.toD) (ys.map Dat.toD) = true ↔ xs = ys
  | [], [] => by simp [PyData.eqvAll]
  | x :: xs, [] => by simp [PyData.eqvAll]
  | [], y :: ys => by simp [PyData.eqvAll]
  | x :: xs, y :: ys => by simp only [List.map_cons, PyData.eqvAll, Bool.and_eq_true, Dat.eqv, eqv_all xs ys, List.cons.injEq]
instance datList [Dat α] : Dat (List α) where
  toD := fun xs => .list (xs.map Dat.toD)
  dmax := Dat.dmax α + 1
  dp := fun {K H v x} h => by
    obtain ⟨a, vs, rfl, q, h⟩ := h
    exact .lst (SqL.of q) (dp_all h)
  lay := fun x => by
    simp only [PyData.canLay0]
    exact lay_all x
  dep := fun x => by
    have h := dep_all x
    simp only [PyData.depth]
    omega
  eqv := fun x y => by
    simp only [PyData.eqv]
    exact eqv_all x y
instance datTup [Dat α] : Dat (Tup α) where
  toD := fun xs => .tuple (xs.l.map Dat.toD)
  dmax := Dat.dmax α + 1
  dp := fun {K H v x} h => by
    obtain ⟨a, vs, rfl, q, h⟩ := h
    exact .tup (SqT.of q) (dp_all h)
  lay := fun x => by
    simp only [PyData.canLay0]
    exact lay_all x.l
  dep := fun x => by
    have h := dep_all x.l
    simp only [PyData.depth]
    omega
  eqv := fun x y => by
    obtain ⟨x⟩ := x
    obtain ⟨y⟩ := y
    simp only [PyData.eqv, Tup.mk.injEq]
    exact eqv_all x y
instance datThing : Dat Thing where
  toD := fun x => match x with
    | .pl i => .int i
    | .ti a b => .tuple [.int a, .int b]
  dmax := 1
  dp := fun {K H v x} h => by
    cases x with
    | pl i =>
      have h' : v = V.int i := h
      subst h'
      exact .int _
    | ti a b =>
      obtain ⟨p, u, w, rfl, q, h1, h2⟩ := (show rep K H v (a, b) from h)
      have h1' : u = V.int a := h1
      have h2' : w = V.int b := h2
      subst h1' h2'
      exact .tup (SqT.of q) (.cons (.int _) (.cons (.int _) .nil))
  lay := fun x => by cases x <;> simp [PyData.canLay0, PyData.canLayAll0]
  dep := fun x => by cases x <;> simp [PyData.depth, PyData.depthAll]
  eqv := fun x y => by cases x <;> cases y <;> simp [PyData.eqv, PyData.eqvAll]
instance datScr : Dat Scr where
  toD := fun xs => .list (xs.l.map PyData.int)
  dmax := 1
  dp := fun {K H v x} h => by
    obtain ⟨a, rfl, q⟩ := h
    have e : ∀ l : List Int, DpAll K H (l.map V.int) (l.map PyData.int) := fun l => by
      induction l with
      | nil => exact .nil
      | cons x l ih => exact .cons (.int _) ih
    exact .lst q (e x.l)
  lay := fun x => by
    simp only [PyData.canLay0]
    exact lay_all (α := Int) x.l
  dep := fun x => by
    have h := dep_all (α := Int) x.l
    have h' : PyData.depthAll (x.l.map PyData.int) ≤ 0 := h
    simp only [PyData.depth]
    omega
  eqv := fun x y => by
    obtain ⟨x⟩ := x
    obtain ⟨y⟩ := y
    simp only [PyData.eqv, Scr.mk.injEq]
    exact eqv_all (α := Int) x y
theorem shapedD [Dat α] (hd : Dat.dmax α ≤ 60) (x : α) : SeqAt.shaped (Dat.toD x) = true := by
  have h := Dat.dep x
  show ((Dat.toD x).canLay0 && decide ((Dat.toD x).depth ≤ 64)) = true
  rw [Bool.and_eq_true]
  exact ⟨Dat.lay x, decide_eq_true (by omega)⟩
theorem eqvD [Dat α] [DecidableEq α] (x y : α) : PyData.eqv (Dat.toD x) (Dat.toD y) = decide (x = y) := by
  by_cases h : x = y
  · rw [decide_eq_true h]
    exact (Dat.eqv x y).mpr h
  · rw [decide_eq_false h]
    exact Bool.eq_false_iff.mpr fun e => h ((Dat.eqv x y).mp e)
theorem anyD [Dat α] [DecidableEq α] (x : α) : ∀ ys : List α, ((ys.map Dat.toD).any fun z => PyData.eqv z (Dat.toD x)) = decide (x ∈ ys)
  | [] => by simp
  | y :: ys => by
    rw [List.map_cons, List.any_cons, anyD x ys, eqvD]
    by_cases h : y = x
    · subst h; simp
    · have h' : ¬ x = y := fun e => h e.symm
      simp [h, h']
end

section
variable {X : Cx} {α β : Type} {K : Fg}
/-- ==, != of data -/
theorem op_eqDt (hK : X.K = K) (α : Type) [Dat α] [DecidableEq α] (hd : Dat.dmax α ≤ 60) (hu : X.A.units + 64 < cLine) : OpR X (compareOp .Eq) (fun x y H Q => ∃ a b : α, rep K H x a ∧ rep K H y b ∧ Q (.bl (decide (a = b))) H) := by
  subst hK
  intro pins s σ H x y v u Q I rx ry ⟨a, b, h1, h2, q⟩
  exact op_eqD hu pins s σ H x y v u Q I rx ry ⟨Dat.toD a, Dat.toD b, Dat.dp h1, Dat.dp h2, shapedD hd a, shapedD hd b, by rw [eqvD]; exact q⟩
theorem op_neDt (hK : X.K = K) (α : Type) [Dat α] [DecidableEq α] (hd : Dat.dmax α ≤ 60) (hu : X.A.units + 64 < cLine) : OpR X (compareOp .NotEq) (fun x y H Q => ∃ a b : α, rep K H x a ∧ rep K H y b ∧ Q (.bl (!decide (a = b))) H) := by
  subst hK
  intro pins s σ H x y v u Q I rx ry ⟨a, b, h1, h2, q⟩
  exact op_neD hu pins s σ H x y v u Q I rx ry ⟨Dat.toD a, Dat.toD b, Dat.dp h1, Dat.dp h2, shapedD hd a, shapedD hd b, by rw [eqvD]; exact q⟩
/-- in, not in a list, a tuple of data -/
theorem op_inL (hK : X.K = K) (α : Type) [Dat α] [DecidableEq α] (hd : Dat.dmax α ≤ 50) (hu : X.A.units + 65 < cLine) : OpR X (compareOp .In) (fun x y H Q => ∃ (a : α) (b : List α), rep K H x a ∧ rep K H y b ∧ Q (.bl (decide (a ∈ b))) H) := by
  subst hK
  intro pins s σ H x y v u Q I rx ry ⟨a, b, h1, h2, q⟩
  exact op_inD hu pins s σ H x y v u Q I rx ry ⟨Dat.toD a, b.map Dat.toD, Dat.dp h1, Dat.dp h2, shapedD (by omega) a, shapedD (α := List α) (by show Dat.dmax α + 1 ≤ 60; omega) b, by rw [anyD]; exact q⟩
theorem op_notInL (hK : X.K = K) (α : Type) [Dat α] [DecidableEq α] (hd : Dat.dmax α ≤ 50) (hu : X.A.units + 65 < cLine) : OpR X (compareOp .NotIn) (fun x y H Q => ∃ (a : α) (b : List α), rep K H x a ∧ rep K H y b ∧ Q (.bl (!decide (a ∈ b))) H) := by
  subst hK
  intro pins s σ H x y v u Q I rx ry ⟨a, b, h1, h2, q⟩
  exact op_notInD hu pins s σ H x y v u Q I rx ry ⟨Dat.toD a, b.map Dat.toD, Dat.dp h1, Dat.dp h2, shapedD (by omega) a, shapedD (α := List α) (by show Dat.dmax α + 1 ≤ 60; omega) b, by rw [anyD]; exact q⟩
theorem op_inT (hK : X.K = K) (α : Type) [Dat α] [DecidableEq α] (hd : Dat.dmax α ≤ 50) (hu : X.A.units + 65 < cLine) : OpR X (compareOp .In) (fun x y H Q => ∃ (a : α) (b : Tup α), rep K H x a ∧ rep K H y b ∧ Q (.bl (decide (a ∈ b.l))) H) := by
  subst hK
  intro pins s σ H x y v u Q I rx ry ⟨a, b, h1, h2, q⟩
  have sd := shapedD (by omega : Dat.dmax α ≤ 60) a
  have se : SeqAt.shaped (.tuple (b.l.map Dat.toD)) = true := shapedD (α := Tup α) (by show Dat.dmax α + 1 ≤ 60; omega) b
  obtain ⟨as, r1⟩ := Dp.reads I (Dat.toD a) x v (Dat.dp h1) rx
  obtain ⟨bs, r2⟩ := Dp.reads I (.tuple (b.l.map Dat.toD)) y u (Dat.dp h2) ry
  refine SeqAt.in_tuple_reads r2 r1 (SeqAt.canLay_of_shaped se) (SeqAt.canLay_of_shaped sd) (room_in_shaped sd hu) ?_
  rw [anyD]
  exact ⟨.bl _, H, I, rfl, q⟩
theorem op_notInT (hK : X.K = K) (α : Type) [Dat α] [DecidableEq α] (hd : Dat.dmax α ≤ 50) (hu : X.A.units + 65 < cLine) : OpR X (compareOp .NotIn) (fun x y H Q => ∃ (a : α) (b : Tup α), rep K H x a ∧ rep K H y b ∧ Q (.bl (!decide (a ∈ b.l))) H) := by
  subst hK
  intro pins s σ H x y v u Q I rx ry ⟨a, b, h1, h2, q⟩
  have sd := shapedD (by omega : Dat.dmax α ≤ 60) a
  have se : SeqAt.shaped (.tuple (b.l.map Dat.toD)) = true := shapedD (α := Tup α) (by show Dat.dmax α + 1 ≤ 60; omega) b
  obtain ⟨as, r1⟩ := Dp.reads I (Dat.toD a) x v (Dat.dp h1) rx
  obtain ⟨bs, r2⟩ := Dp.reads I (.tuple (b.l.map Dat.toD)) y u (Dat.dp h2) ry
  refine SeqAt.notIn_tuple_reads r2 r1 (SeqAt.canLay_of_shaped se) (SeqAt.canLay_of_shaped sd) (room_in_shaped sd hu) ?_
  rw [anyD]
  exact ⟨.bl _, H, I, rfl, q⟩
/-- == of texts -/
theorem decS (x y : Str) : decide (V.str x = V.str y) = decide (x = y) := by
  by_cases h : x = y
  · subst h; simp
  · rw [decide_eq_false h, decide_eq_false (fun e => h (V.str.inj e))]
theorem op_eqS : OpR X (compareOp .Eq) (fun x y H Q => ∃ a b : Str, x = .str a ∧ y = .str b ∧ Q (.bl (decide (a = b))) H) := by
  intro pins s σ H x y v u Q I rx ry ⟨a, b, h1, h2, q⟩
  subst h1 h2
  exact op_eq pins s σ H _ _ v u Q I rx ry ⟨rfl, by rw [decS]; exact q⟩
theorem op_neS : OpR X (compareOp .NotEq) (fun x y H Q => ∃ a b : Str, x = .str a ∧ y = .str b ∧ Q (.bl (!decide (a = b))) H) := by
  intro pins s σ H x y v u Q I rx ry ⟨a, b, h1, h2, q⟩
  subst h1 h2
  exact op_ne pins s σ H _ _ v u Q I rx ry ⟨rfl, by rw [decS]; exact q⟩
/-- == of truths -/
theorem decB (x y : Bool) : decide (V.bl x = V.bl y) = decide (x = y) := by
  cases x <;> cases y <;> rfl
theorem op_eqB : OpR X (compareOp .Eq) (fun x y H Q => ∃ a b : Bool, x = .bl a ∧ y = .bl b ∧ Q (.bl (decide (a = b))) H) := by
  intro pins s σ H x y v u Q I rx ry ⟨a, b, h1, h2, q⟩
  subst h1 h2
  exact op_eq pins s σ H _ _ v u Q I rx ry ⟨rfl, by rw [decB]; exact q⟩
theorem op_neB : OpR X (compareOp .NotEq) (fun x y H Q => ∃ a b : Bool, x = .bl a ∧ y = .bl b ∧ Q (.bl (!decide (a = b))) H) := by
  intro pins s σ H x y v u Q I rx ry ⟨a, b, h1, h2, q⟩
  subst h1 h2
  exact op_ne pins s σ H _ _ v u Q I rx ry ⟨rfl, by rw [decB]; exact q⟩

/-! ### built-ins -/
theorem call_lenN (hK : X.K = K) : CallR X (.builtin "len") (fun xs H Q => ∃ (p : Addr) (ys : List V) (n : Nat), xs = [.ref p] ∧ (SqL K H p ys ∨ SqT K H p ys) ∧ ys.length = n ∧ Q (.int (n : Int)) H) := by
  subst hK
  intro pins s σ H xs us Q I r ⟨p, ys, n, e, h, hn, q⟩
  subst hn
  exact call_len_seq pins s σ H xs us Q I r ⟨p, ys, e, h, q⟩
def absI (i : Int) : Int := if i < 0 then -i else i
def max2 (i j : Int) : Int := if j > i then j else i
def min2 (i j : Int) : Int := if j < i then j else i
/-- the greatest, the least of a list -/
def maxL (xs : List Int) : R Int := ofO xs.max?
def minL (xs : List Int) : R Int := ofO xs.min?
theorem pb_max {δ : Type} {xs : List Int} {f : Int → R δ} {P : δ → Prop} {E : Exn → Prop} (h : Post (maxL xs >>= f) P E) : ∃ m, xs.max? = some m ∧ Post (f m) P E := pb_ofO h
theorem pb_min {δ : Type} {xs : List Int} {f : Int → R δ} {P : δ → Prop} {E : Exn → Prop} (h : Post (minL xs >>= f) P E) : ∃ m, xs.min? = some m ∧ Post (f m) P E := pb_ofO h
theorem cr_maxI (hK : X.K = K) (hc : X.calm = true) : CallR X (.builtin "max") (fun vs H Q => ∃ (a : Addr) (ns : List Int) (m : Int), vs = [V.ref a] ∧ SqL K H a (ns.map V.int) ∧ ns.max? = some m ∧ Q (.int m) H) := by
  subst hK
  intro pins s σ H xs us Q I r ⟨a, ns, m, e, h, hm, q⟩
  obtain ⟨h1, h2⟩ := List.max?_eq_some_iff.mp hm
  refine cr_max hc pins s σ H xs us Q I r ⟨a, ns, e, h, ?_, fun k h3 h4 => ?_⟩
  · exact List.length_pos_of_mem h1
  · have e1 : k = m := Int.le_antisymm (h2 k h3) (h4 m h1)
    subst e1
    exact q
theorem cr_minI (hK : X.K = K) (hc : X.calm = true) : CallR X (.builtin "min") (fun vs H Q => ∃ (a : Addr) (ns : List Int) (m : Int), vs = [V.ref a] ∧ SqL K H a (ns.map V.int) ∧ ns.min? = some m ∧ Q (.int m) H) := by
  subst hK
  intro pins s σ H xs us Q I r ⟨a, ns, m, e, h, hm, q⟩
  obtain ⟨h1, h2⟩ := List.min?_eq_some_iff.mp hm
  refine cr_min hc pins s σ H xs us Q I r ⟨a, ns, e, h, ?_, fun k h3 h4 => ?_⟩
  · exact List.length_pos_of_mem h1
  · have e1 : k = m := Int.le_antisymm (h4 m h1) (h2 k h3)
    subst e1
    exact q
/-- the ints in order -/
def sortI (xs : List Int) : List Int := xs.mergeSort fun a b => decide (a ≤ b)
theorem sortI_perm (xs : List Int) : (sortI xs).Perm xs := List.mergeSort_perm xs _
theorem sortI_sorted (xs : List Int) : (sortI xs).Pairwise (· ≤ ·) := by
  have h := List.pairwise_mergeSort (le := fun a b : Int => decide (a ≤ b)) (fun a b c h1 h2 => by simp only [decide_eq_true_eq] at *; omega) (fun a b => by simp only [Bool.or_eq_true, decide_eq_true_eq]; omega) xs
  exact h.imp fun h => by simpa using h
theorem sort_uniq {xs ys : List Int} (h : xs.Perm ys) (hx : xs.Pairwise (· ≤ ·)) (hy : ys.Pairwise (· ≤ ·)) : xs = ys := by
  induction xs generalizing ys with
  | nil => exact (List.nil_perm.mp h).symm
  | cons x xs ih =>
    cases ys with
    | nil => exact absurd h.symm (by simp)
    | cons y ys =>
      rw [List.pairwise_cons] at hx hy
      have e : x = y := by
        have h1 : x ∈ y :: ys := h.mem_iff.mp List.mem_cons_self
        have h2 : y ∈ x :: xs := h.mem_iff.mpr List.mem_cons_self
        rcases List.mem_cons.mp h1 with h1 | h1
        · exact h1
        · rcases List.mem_cons.mp h2 with h2 | h2
          · exact h2.symm
          · have := hx.1 y h2
            have := hy.1 x h1
            omega
      subst e
      rw [ih (List.perm_cons x |>.mp h) hx.2 hy.2]
theorem sortI_eq {xs ys : List Int} (h : ys.Perm xs) (hy : ys.Pairwise (· ≤ ·)) : ys = sortI xs := sort_uniq (h.trans (sortI_perm xs).symm) hy (sortI_sorted xs)
theorem cr_sortI (hK : X.K = K) : CallR X (.builtin "sorted") (fun vs H Q => ∃ (a : Addr) (ns : List Int), vs = [V.ref a] ∧ SqL K H a (ns.map V.int) ∧ ∀ p, H p = none → Q (.ref p) (upd H p (.lst ((sortI ns).map V.int)))) := by
  subst hK
  intro pins s σ H xs us Q I r ⟨a, ns, e, h, q⟩
  refine cr_sortedI pins s σ H xs us Q I r ⟨a, ns, e, h, fun ns' p h1 h2 hp => ?_⟩
  rw [sortI_eq h1 h2]
  exact q p hp
theorem ix_listK (hK : X.K = K) : IxR X (rIxL K) := hK ▸ ix_list
theorem ix_tupK (hK : X.K = K) : IxR X (rIxT K) := hK ▸ ix_tup
theorem sl_listK (hK : X.K = K) : SlR X (rSlL K) := hK ▸ sl_list
theorem cr_sumK (hK : X.K = K) (hc : X.calm = true) : CallR X (.builtin "sum") (rSum K) := hK ▸ cr_sum hc
theorem call_list_ofK (hK : X.K = K) : CallR X (.type "list") (fun xs H Q => ∃ p ys, xs = [.ref p] ∧ (SqL K H p ys ∨ SqT K H p ys) ∧ ∀ l, H l = none → Q (.ref l) (upd H l (.lst ys))) := hK ▸ call_list_of
theorem call_tuple_ofK (hK : X.K = K) : CallR X (.type "tuple") (fun xs H Q => ∃ p ys, xs = [.ref p] ∧ ((SqL K H p ys ∧ ∀ l, H l = none → Q (.ref l) (upd H l (.tup ys))) ∨ (SqT K H p ys ∧ Q (.ref p) H))) := hK ▸ call_tuple_of
theorem pi_listK {tg l : Expr} {tl : TE} (hK : X.K = K) (hl : PE X l tl) : PI X tg l (iList K tl) := hK ▸ pi_list hl
theorem pi_tupK {tg l : Expr} {tl : TE} (hK : X.K = K) (hl : PE X l tl) : PI X tg l (iTup K tl) := hK ▸ pi_tup hl
theorem pi_k {tg l : Expr} {wi : Fg → TI} (hK : X.K = K) (h : PI X tg l (wi X.K)) : PI X tg l (wi K) := hK ▸ h
theorem pe_k {e : Expr} {t : Fg → TE} (hK : X.K = K) (h : PE X e (t X.K)) : PE X e (t K) := hK ▸ h
theorem pg_k {tg : Expr} {t : Fg → TG} (hK : X.K = K) (h : PG X tg (t X.K)) : PG X tg (t K) := hK ▸ h
end
end Z
/-! Z3: sets of tuples by their number, isinstance -/
namespace Z
open PySem L2 PySem.Spec PyProof.Rows
open Rep (rep)
/-- each once -/
def nub {α : Type} [DecidableEq α] : List α → List α
  | [] => []
  | x :: xs => if x ∈ xs then nub xs else x :: nub xs
section
variable {α : Type} [DecidableEq α]
theorem nub_mem {y : α} : ∀ {xs : List α}, y ∈ nub xs ↔ y ∈ xs
  | [] => Iff.rfl
  | x :: xs => by
    unfold nub
    by_cases h : x ∈ xs
    · rw [if_pos h, nub_mem]
      exact ⟨List.mem_cons_of_mem _, fun q => (List.mem_cons.mp q).elim (fun e => e ▸ h) id⟩
    · rw [if_neg h, List.mem_cons, List.mem_cons, nub_mem]
theorem nub_nodup : ∀ (xs : List α), (nub xs).Nodup
  | [] => List.nodup_nil
  | x :: xs => by
    unfold nub
    by_cases h : x ∈ xs
    · rw [if_pos h]
      exact nub_nodup xs
    · rw [if_neg h]
      exact List.nodup_cons.mpr ⟨fun q => h (nub_mem.mp q), nub_nodup xs⟩
theorem nub_le : ∀ (xs : List α), (nub xs).length ≤ xs.length
  | [] => Nat.le_refl _
  | x :: xs => by
    unfold nub
    have := nub_le xs
    by_cases h : x ∈ xs
    · rw [if_pos h, List.length_cons]
      omega
    · rw [if_neg h, List.length_cons, List.length_cons]
      omega
theorem nub_len : ∀ {xs : List α}, (nub xs).length = xs.length ↔ xs.Nodup
  | [] => by simp [nub]
  | x :: xs => by
    unfold nub
    by_cases h : x ∈ xs
    · rw [if_pos h, List.length_cons]
      have := nub_le xs
      constructor
      · intro e
        omega
      · intro e
        exact absurd h (List.nodup_cons.mp e).1
    · rw [if_neg h, List.length_cons, List.length_cons, List.nodup_cons]
      constructor
      · intro e
        exact ⟨h, nub_len.mp (by omega)⟩
      · intro e
        rw [nub_len.mpr e.2]
theorem nodup_le : ∀ {xs ys : List α}, xs.Nodup → (∀ y ∈ xs, y ∈ ys) → xs.length ≤ ys.length
  | [], _, _, _ => Nat.zero_le _
  | x :: xs, ys, h, hs => by
    obtain ⟨h1, h2⟩ := List.nodup_cons.mp h
    have hx : x ∈ ys := hs x List.mem_cons_self
    have := nodup_le (xs := xs) (ys := ys.erase x) h2 fun y hy => (List.mem_erase_of_ne (show y ≠ x from fun e => by subst e; exact h1 hy)).mpr (hs y (List.mem_cons_of_mem _ hy))
    rw [List.length_erase_of_mem hx] at this
    have := List.length_pos_of_mem hx
    rw [List.length_cons]
    omega
theorem nodup_len {xs ys : List α} (h1 : xs.Nodup) (h2 : ys.Nodup) (h : ∀ y, y ∈ xs ↔ y ∈ ys) : xs.length = ys.length := by
  refine Nat.le_antisymm ?_ ?_
  · exact nodup_le h1 fun y hy => (h y).mp hy
  · exact nodup_le h2 fun y hy => (h y).mpr hy
end
section
variable {X : Cx} {K : Fg} {P : Program} {w : World} {F H : Hp}
/-- tuples of ints by their places -/
theorem tups_ks : ∀ {vs : List V} {xs : List (Tup Int)}, A2 (rep K H) vs xs → ∃ ks : List (Addr × List Int), vs = ks.map (fun p => V.ref p.1) ∧ ks.map (·.2) = xs.map (·.l) ∧ ∀ p ∈ ks, H p.1 = some (.tup (p.2.map V.int))
  | _, _, .nil => ⟨[], rfl, rfl, fun _ h => nomatch h⟩
  | _, _, .cons (x := x) h t => by
    obtain ⟨ks, h1, h2, h3⟩ := tups_ks t
    obtain ⟨a, us, rfl, q, hu⟩ := h
    refine ⟨(a, x.l) :: ks, by rw [h1]; rfl, by rw [List.map_cons, List.map_cons, h2], fun p hp => ?_⟩
    rcases List.mem_cons.mp hp with rfl | hp
    · rw [← hu.ints]
      exact q
    · exact h3 p hp
theorem setT0_len {pins : List (Addr × Obj)} {σ : L2.St} {s : Shared} {a : Addr} {L : List (Addr × List Int)} {Q : VK} (I : Inv X pins σ H s) (R : SetT0 X.prog X.w s.heap a L) (q : (L.map (·.2)).Nodup → Q (.int (L.length : Nat)) H) :
    wpAny (model X.prog X.w) X.A (call (.builtin "len") [.ref a]) (EP X pins σ Q) X.xe s := by
  obtain ⟨es, ep, t, ⟨o, ho, hex, hd⟩, hr, ht, hn, _, _, _, hf⟩ := R.ex
  have hsz : es.size = L.length := by
    have h := congrArg List.length hr
    unfold rowsOf at h
    rw [Array.length_toList, List.length_map] at h
    exact h
  have hps : t.place.size = L.length := by
    have := ht.sz
    rw [List.length_map] at this
    exact this
  have hroom := R.ex
  obtain ⟨_, _, t', ⟨o', ho', _, hd'⟩, _, _, _, _, _, hm, _⟩ := hroom
  rw [ho] at ho'
  cases ho'
  rw [hd] at hd'
  cases hd'
  have hfit : t.fits es.size = true := by
    unfold SetTable.fits SetTable.fill
    rw [ht.dm, hps, hsz]
    simp
    omega
  exact call_len_set ho hex hd hfit (by rw [hsz]; omega) ⟨.int (L.length : Nat), H, I.tok _, ⟨_, by rw [hsz]⟩, q hn⟩
/-- set(xs) of tuples, then len of it -/
theorem cr_setT (hK : X.K = K) (hP : X.prog = P) (hw : X.w = w) (hc : X.calm = true) (hu : X.A.units + 64 < cLine) : CallR X (.type "set") (fun xs H Q => ∃ (ys : List (Tup Int)) (v : V), xs = [v] ∧ rep K H v ys ∧ ys.length < 64 ∧
    ∀ a L, H a = none → ((L.map (·.2)).Nodup → L.length = (nub ys).length) → Q (.ref a) (upd H a (SetTO P w a L))) := by
  subst hK hP hw
  intro pins s σ H xs us Q I r ⟨ys, v, e, hr, hl, q⟩
  obtain ⟨a, vs, rfl, hq, h⟩ := hr
  obtain ⟨ks, h1, h2, h3⟩ := tups_ks h
  subst h1
  have hks : ks.length = ys.length := by
    have := congrArg List.length h2
    simpa using this
  refine cr_setOfT hc hu pins s σ H xs us Q I r ⟨a, ks, e, SqL.of hq, fun p hp => SqT.of (h3 p hp), by omega, fun b L hb hsub hall => q b L hb fun hn => ?_⟩
  have key : (L.map (·.2)).length = ((nub ys).map (·.l)).length := by
    refine nodup_len hn ?_ fun y => ?_
    · have inj : ∀ x y : Tup Int, x.l = y.l → x = y := fun x y e => by cases x; cases y; simp at e; rw [e]
      refine List.Pairwise.map (R := (· ≠ ·)) _ (fun x y hxy e => hxy (inj x y e)) (nub_nodup ys)
    · constructor
      · intro hy
        obtain ⟨p, hp, rfl⟩ := List.mem_map.mp hy
        have h4 : p.2 ∈ ks.map (·.2) := List.mem_map.mpr ⟨p, hsub p hp, rfl⟩
        rw [h2] at h4
        obtain ⟨z, hz, e⟩ := List.mem_map.mp h4
        exact List.mem_map.mpr ⟨z, nub_mem.mpr hz, e⟩
      · intro hy
        obtain ⟨z, hz, rfl⟩ := List.mem_map.mp hy
        have h4 : z.l ∈ ks.map (·.2) := by
          rw [h2]
          exact List.mem_map.mpr ⟨z, nub_mem.mp hz, rfl⟩
        obtain ⟨p, hp, e⟩ := List.mem_map.mp h4
        rw [← e]
        exact hall p hp
  rw [List.length_map, List.length_map] at key
  exact key
theorem call_lenT (hP : X.prog = P) (hw : X.w = w) : CallR X (.builtin "len") (fun xs H Q => ∃ (a : Addr) (L : List (Addr × List Int)) (n : Nat), xs = [.ref a] ∧ H a = some (SetTO P w a L) ∧ ((L.map (·.2)).Nodup → L.length = n) ∧ Q (.int (n : Nat)) H) := by
  subst hP hw
  intro pins s σ H xs us Q I r ⟨a, L, n, e, ha, hn, q⟩
  subst e
  rw [Vals.ref1 r]
  have R : SetT0 X.prog X.w s.heap a L := (show ObjOk X.prog X.w H s.heap a (SetTO X.prog X.w a L) from I.hok a _ ha).1
  exact setT0_len I R fun nd => by rw [hn nd]; exact q
/-- isinstance of a plain value and a built-in class -/
theorem call_isB (hK : X.K = K) : CallR X (.builtin "isinstance") (fun xs H Q => ∃ (x : V) (a b : String) (r : Bool), xs = [x, .ty b] ∧ TyOf K H x (.type a) ∧ kitB a b = some r ∧ Q (.bl r) H) := by
  subst hK
  intro pins s σ H xs us Q I r ⟨x, a, b, c, e, h1, h2, q⟩
  exact call_isi pins s σ H xs us Q I r ⟨x, .ty b, .type a, .type b, c, e, .ty b, .base h1, kit_ty h2, q⟩
end
end Z
namespace Z
open PySem L2 PySem.Spec PyProof.Rows
open Rep (rep)
section
variable {α : Type}
/-- the first place of an item -/
def fidx [DecidableEq α] (y : α) : List α → Option Nat
  | [] => none
  | x :: xs => if x = y then some 0 else (fidx y xs).map (· + 1)
def idxR [DecidableEq α] (xs : List α) (y : α) : R Int := ofO ((fidx y xs).map fun j => ((j : Nat) : Int))
theorem fidx_spec [DecidableEq α] {y : α} : ∀ {xs : List α} {j : Nat}, fidx y xs = some j → xs[j]? = some y ∧ ∀ m z, m < j → xs[m]? = some z → z ≠ y
  | [], j, h => nomatch h
  | x :: xs, j, h => by
    unfold fidx at h
    by_cases e : x = y
    · rw [if_pos e] at h
      cases h
      subst e
      exact ⟨rfl, fun m z hm => absurd hm (Nat.not_lt_zero _)⟩
    · rw [if_neg e] at h
      cases q : fidx y xs with
      | none => rw [q] at h; cases h
      | some k =>
        rw [q] at h
        cases h
        obtain ⟨h1, h2⟩ := fidx_spec q
        refine ⟨by simpa using h1, fun m z hm hz => ?_⟩
        cases m with
        | zero =>
          simp at hz
          subst hz
          exact e
        | succ m => exact h2 m z (Nat.lt_of_succ_lt_succ hm) (by simpa using hz)
variable {δ : Type} {P : δ → Prop} {E : Exn → Prop}
theorem pb_idx [DecidableEq α] {xs : List α} {y : α} {f : Int → R δ} (h : Post (idxR xs y >>= f) P E) : ∃ j : Nat, fidx y xs = some j ∧ Post (f (j : Int)) P E := by
  unfold idxR at h
  cases q : fidx y xs with
  | none => rw [q] at h; exact (show False from h).elim
  | some j => rw [q] at h; exact ⟨j, rfl, h⟩
end
section
variable {X : Cx} {K : Fg} {F H : Hp}
theorem A2.strs {vs : List V} {xs : List Str} (h : A2 (rep K H) vs xs) : vs = xs.map V.str := by
  induction h with
  | nil => rfl
  | cons a _ ih =>
    have a' : _ = V.str _ := a
    rw [a', ih]
    rfl
theorem bools_q {a : Addr} {vs : List V} {xs : List Bool} (q : SqL K H a vs) (h : A2 (rep K F) vs xs) : SqL K H a (xs.map V.bl) := h.bools ▸ q
theorem strs_q {a : Addr} {vs : List V} {xs : List Str} (q : SqL K H a vs) (h : A2 (rep K F) vs xs) : SqL K H a (xs.map V.str) := h.strs ▸ q
theorem mt_indexS (hK : X.K = K) : MtR X "list.index" (fun x xs H Q => ∃ (a : Addr) (ys : List Str) (y : Str) (j : Nat), x = V.ref a ∧ xs = [.str y] ∧ SqL K H a (ys.map V.str) ∧ fidx y ys = some j ∧ Q (.int (j : Int)) H) := by
  subst hK
  intro pins s σ H x xs v us Q I rx rxs ⟨a, ys, y, j, e1, e2, hs, hj, q⟩
  obtain ⟨h1, h2⟩ := fidx_spec hj
  refine mt_index pins s σ H x xs v us Q I rx rxs ⟨a, _, .str y, j, .str y, e1, e2, hs, rfl, ?_, ?_, ?_, fun m z hm hz => ?_, q⟩
  · rw [List.all_eq_true]
    intro z hz
    obtain ⟨t, _, rfl⟩ := List.mem_map.mp hz
    rfl
  · rw [List.getElem?_map, h1]
    rfl
  · show (y == y) = true
    simp
  · rw [List.getElem?_map] at hz
    cases e : ys[m]? with
    | none => rw [e] at hz; cases hz
    | some t =>
      rw [e] at hz
      cases hz
      have := h2 m t hm e
      show (t == y) = false
      simpa using this
theorem mt_indexI (hK : X.K = K) : MtR X "list.index" (fun x xs H Q => ∃ (a : Addr) (ys : List Int) (y : Int) (j : Nat), x = V.ref a ∧ xs = [.int y] ∧ SqL K H a (ys.map V.int) ∧ fidx y ys = some j ∧ Q (.int (j : Int)) H) := by
  subst hK
  intro pins s σ H x xs v us Q I rx rxs ⟨a, ys, y, j, e1, e2, hs, hj, q⟩
  obtain ⟨h1, h2⟩ := fidx_spec hj
  refine mt_index pins s σ H x xs v us Q I rx rxs ⟨a, _, .int y, j, .int y, e1, e2, hs, rfl, ?_, ?_, ?_, fun m z hm hz => ?_, q⟩
  · rw [List.all_eq_true]
    intro z hz
    obtain ⟨t, _, rfl⟩ := List.mem_map.mp hz
    rfl
  · rw [List.getElem?_map, h1]
    rfl
  · show (y == y) = true
    simp
  · rw [List.getElem?_map] at hz
    cases e : ys[m]? with
    | none => rw [e] at hz; cases hz
    | some t =>
      rw [e] at hz
      cases hz
      have := h2 m t hm e
      show (t == y) = false
      simpa using this
theorem cr_allK (hK : X.K = K) (hc : X.calm = true) : CallR X (.builtin "all") (rAll K) := hK ▸ cr_all hc
theorem cr_anyK (hK : X.K = K) (hc : X.calm = true) : CallR X (.builtin "any") (rAny K) := hK ▸ cr_any hc
end
end Z
namespace HT
open PySem PySem.Spec PyProof.Rows
section
variable {prog : Program} {w : World} {A : Around} {E : Value → Shared → Prop} {s : Shared}
/-- t[::-1] of a tuple of two -/
theorem zrev_two {t sl : Addr} {x y vs : Value} {Q : Value → Shared → Prop} (ht : IsTup s.heap t #[x, y]) (hs : s.heap.IsSliceOf sl .none .none vs) (pl : IsPart .none none) (ps : IsPart vs (some (-1)))
    (h : Q (.ref s.heap.objs.size) { s with heap := s.heap.push { cls := .type "tuple", data := .seq #[y, x] } }) : wpAny (model prog w) A (getItem (.ref t) (.ref sl)) Q E s := by
  have htake : sizeOk (.seq #[y, x]) := by
    show 2 ≤ sizeLine
    decide
  obtain ⟨os, hos, hcs, hds⟩ := id hs
  have hTs : s.TypeIs (.ref sl) "slice" := ⟨os, hos, hcs⟩
  unfold getItem
  try with_reducible refine wpAny_holding ?_
  first | refine wpAny_bind (wpAny_pure ?_) | skip
  refine wpAny_bind (wpAny_sequenceKey ht.typeIs (by decide) ?_)
  refine wpAny_bind (wpAny_callSpecial?_slot (name := Str.ofString "__getitem__") ht.typeIs PyProof.Rows.slot_tuple_getitem
    (wpAny_call_entry PyProof.Rows.slot_tuple_getitem ht.typeIs entry_tuple_getitem ?_ (args_tuple_getitem _ _)))
  show wpAny _ _ (Builtin.Tuple.tupleItemsOf (.ref t) >>= _) _ _ s
  refine wpAny_bind (tupleItemsOf_ ht ?_)
  refine wpAny_bind (wpAny_typeOf hTs ?_)
  rw [if_pos (by decide)]
  have key : ∀ {A' : Around} {E' : Value → Shared → Prop} {R : Int × Int × Nat → Shared → Prop}, R ((1 : Int), -1, 2) s → wpAny (model prog w) A' (Builtin.Slice.sliceApplied (.ref sl) (pure (2 : Int))) R E' s := by
    intro A' E' R hR
    unfold Builtin.Slice.sliceApplied Builtin.Slice.sliceFields
    refine wpAny_bind (wpAny_bind (wpAny_field hos hds (x := .none) rfl (wpAny_bind (wpAny_field hos hds (x := .none) rfl (wpAny_bind (wpAny_field hos hds (x := vs) rfl (wpAny_pure ?_)))))))
    refine wpAny_bind (slicePart_ ps ?_)
    show wpAny _ _ (if ((-1 : Int) == 0) = true then _ else _) _ _ s
    rw [if_neg (by decide)]
    refine wpAny_bind (slicePart_ pl (wpAny_bind (slicePart_ pl (wpAny_bind (wpAny_pure ?_)))))
    show wpAny _ _ (match Builtin.Slice.sliceAdjust none none (-1) (2 : Int) with | (lo, hi) => pure (lo, (-1 : Int), Builtin.Slice.slicePlaces lo hi (-1))) _ _ s
    exact wpAny_pure hR
  refine wpAny_bind (key ?_)
  show wpAny _ _ (if ((1 : Int) == 0 && (-1 : Int) == 1 && (2 : Nat) == 2) = true then _ else _) _ _ s
  rw [if_neg (by decide)]
  first
    | exact wpAny_bind (m := Builtin.Tuple.tupleExact _) (wpAny_newObj_type (wpAny_pure ⟨_, rfl, wpAny_pure h⟩) htake)
    | exact wpAny_bind (m := Builtin.Tuple.tupleExact _) (wpAny_newObj_type (wpAny_bind (wpAny_pure (wpAny_pure ⟨_, rfl, wpAny_pure h⟩))) htake)
    | exact wpAny_bind (wpAny_bind (m := Builtin.Tuple.tupleExact _) (wpAny_newObj_type (wpAny_pure (wpAny_pure ⟨_, rfl, wpAny_pure h⟩)) htake))
    | exact wpAny_bind (wpAny_bind (m := Builtin.Tuple.tupleExact _) (wpAny_newObj_type (wpAny_pure ⟨_, rfl, wpAny_pure h⟩) htake))
end
end HT
namespace Z
open PySem L2 PySem.Spec PyProof.Rows
open Rep (rep)
section
variable {X : Cx} {K : Fg} {F H : Hp}
def tRev2 (te : TE) : TE := fun σ H Q => te σ H fun x H1 => ∃ a u w, x = .ref a ∧ H1 a = some (.tup [u, w]) ∧ ∀ p, H1 p = none → Q (.ref p) (upd H1 p (.tup [w, u]))
theorem pe_rev2 {e : Expr} {te : TE} {k : Nat} {p1 p2 p3 pos : Pos} (he : PE X e te) : PE X (.Subscript e (.Slice none none (some (.UnaryOp .USub (.Constant (.int 1) k p1) p2)) p3) pos) (tRev2 te) := by
  refine ⟨fun pins s σ H Q I h => ?_⟩
  refine Subscript_ (thn (he.run pins s σ H _ I h) fun v s1 ⟨x, H1, I1, r1, q1⟩ => ?_)
  obtain ⟨a, c, d, ex, hx, q⟩ := q1
  subst ex
  cases r1
  have hst : PO X (some (.UnaryOp .USub (.Constant (.int 1) k p1) p2)) (tPart (tUn (rU fun i => .int (-i)) (tC (.int 1)))) := po_some (pe_un un_neg pe_int)
  refine wpAny_Slice (thn (po_none.run pins s1 σ H1 (fun o H2 => o = none ∧ H2 = H1) I1 ⟨rfl, rfl⟩) fun vl s2 ⟨l, H2, I2, pl, el, e2⟩ => ?_)
  subst el e2
  refine thn (po_none.run pins s2 σ H2 (fun o H3 => o = none ∧ H3 = H2) I2 ⟨rfl, rfl⟩) fun vu s3 ⟨u, H3, I3, pu, eu, e3⟩ => ?_
  subst eu e3
  refine thn (hst.run pins s3 σ H3 (fun o H4 => o = some (-1) ∧ H4 = H3) I3 ⟨1, rfl, -1, rfl, rfl, rfl⟩) fun vs s4 ⟨o, H4, I4, ps, eo, e4⟩ => ?_
  subst eo e4
  have I5 : Inv X pins σ H4 { s4 with heap := s4.heap.push { cls := .type "slice", data := .fields #[vl, vu, vs] } } := I4.kept (t' := s4.toks) fun b ob q => Heap.get?_push_of_some _ q
  obtain ⟨its, r, ht, hz⟩ := I5.tuple (SqT.of hx)
  cases r with
  | cons r1 r' =>
    rename_i uu us
    cases r' with
    | cons r2 r'' =>
      rename_i ww ws
      cases r''
      cases pl
      cases pu
      show wpAny (model X.prog X.w) X.A (subscriptTail e (.Slice none none (some (.UnaryOp .USub (.Constant (.int 1) k p1) p2)) p3) (.ref a) (.ref s4.heap.objs.size)) (EP X pins σ Q) X.xe { s4 with heap := s4.heap.push { cls := .type "slice", data := .fields #[.none, .none, vs] } }
      refine tail_any (ops := [.ref a, .ref s4.heap.objs.size]) ht.typeIs (PyProof.Rows.slot_tuple_getitem.lookup) ?_ (by with_unfolding_all rfl)
      refine HT.zrev_two ht (Heap.IsSliceOf.new _ .none .none vs) .none ps ?_
      exact ⟨.ref _, _, I5.laid (t' := s4.toks) (o := .tup [d, c]) (fun b ob q => Heap.get?_push_of_some _ q) (Nat.le_refl _) ⟨by show 2 ≤ sizeLine; decide, [ww, uu], .cons r2 (.cons r1 .nil), IsTup.new _ _⟩, rfl, q _ (I5.hok.fresh (Nat.le_refl _))⟩
/-- two things turned about -/
def rev2 {α : Type} (xs : List α) : R (List α) := match xs with
  | [x, y] => .ok [y, x]
  | _ => .bad
theorem pb_rev2 {α δ : Type} {xs : List α} {f : List α → R δ} {P : δ → Prop} {E : Exn → Prop} (h : Post (rev2 xs >>= f) P E) : ∃ x y, xs = [x, y] ∧ Post (f [y, x]) P E := by
  cases xs with
  | nil => exact (show False from h).elim
  | cons x xs =>
    cases xs with
    | nil => exact (show False from h).elim
    | cons y xs =>
      cases xs with
      | nil => exact ⟨x, y, rfl, h⟩
      | cons z xs => exact (show False from h).elim
theorem A2.two {α : Type} {r : V → α → Prop} {vs : List V} {x y : α} (h : A2 r vs [x, y]) : ∃ u w, vs = [u, w] ∧ r u x ∧ r w y := by
  cases h with
  | cons a t =>
    cases t with
    | cons b t =>
      cases t
      exact ⟨_, _, rfl, a, b⟩
/-- xs * k -/
def repL {α : Type} (xs : List α) (k : Int) : List α := (List.replicate k.toNat xs).flatten
@[irreducible] def repR {α : Type} (xs : List α) (k : Int) : R (List α) := if -(2 ^ 62) ≤ k ∧ k < 2 ^ 62 ∧ xs.length * k.toNat < 100000 then .ok (repL xs k) else .bad
theorem pb_rep {α δ : Type} {xs : List α} {k : Int} {f : List α → R δ} {P : δ → Prop} {E : Exn → Prop} (h : Post (repR xs k >>= f) P E) : ∃ ys, (-(2 ^ 63) ≤ k ∧ k < 2 ^ 63 ∧ xs.length * k.toNat ≤ sizeLine) ∧ ys = repL xs k ∧ Post (f ys) P E := by
  unfold repR at h
  obtain ⟨⟨a, b, c⟩, d⟩ := pb_if h
  exact ⟨_, ⟨by omega, by omega, Nat.le_of_lt (Nat.lt_of_lt_of_le c line5)⟩, rfl, d⟩
theorem A2.flat {α : Type} {r : V → α → Prop} {vs : List V} {xs : List α} (h : A2 r vs xs) (n : Nat) : A2 r (List.replicate n vs).flatten (List.replicate n xs).flatten := by
  induction n with
  | zero => exact .nil
  | succ n ih =>
    rw [List.replicate_succ, List.replicate_succ, List.flatten_cons, List.flatten_cons]
    exact h.append ih
/-! ### None -/
class NonN (α : Type) extends Rep α where
  no : ∀ {K : Fg} {H : Hp} {v : V} {x : α}, rep K H v x → v ≠ .non
instance : NonN Int := ⟨fun h e => by have h' : _ = V.int _ := h; rw [h'] at e; cases e⟩
instance : NonN Bool := ⟨fun h e => by have h' : _ = V.bl _ := h; rw [h'] at e; cases e⟩
instance {α β : Type} [Rep α] [Rep β] : NonN (α × β) := ⟨fun {K H v x} h q => by
  obtain ⟨a, u, w, e, _⟩ := h
  rw [e] at q
  cases q⟩
instance {α : Type} [Rep α] : NonN (List α) := ⟨fun {K H v x} h q => by
  obtain ⟨a, u, e, _⟩ := h
  rw [e] at q
  cases q⟩
instance {α : Type} [Rep α] : NonN (Tup α) := ⟨fun {K H v x} h q => by
  obtain ⟨a, u, e, _⟩ := h
  rw [e] at q
  cases q⟩
theorem isN_eq {α : Type} [NonN α] {v : V} {o : Option α} (h : rep K F v o) : decide (v = .non) = o.isNone := by
  cases o with
  | none =>
    have h' : v = V.non := h
    rw [h']
    rfl
  | some x => exact decide_eq_false (NonN.no (α := α) h)
theorem op_isN2 : OpR X (compareOp .Is) (fun x y H Q => y = V.non ∧ ∃ b, decide (x = .non) = b ∧ Q (.bl b) H) := by
  intro pins s σ H x y v u Q I rx ry ⟨e, b, hb, q⟩
  exact op_isN pins s σ H x y v u Q I rx ry ⟨e, by rw [hb]; exact q⟩
theorem op_notN2 : OpR X (compareOp .IsNot) (fun x y H Q => y = V.non ∧ ∃ b, decide (x = .non) = b ∧ Q (.bl (!b)) H) := by
  intro pins s σ H x y v u Q I rx ry ⟨e, b, hb, q⟩
  exact op_notN pins s σ H x y v u Q I rx ry ⟨e, by rw [hb]; exact q⟩
instance datOptBool : Dat (Option Bool) where
  toD := fun x => match x with
    | none => .none
    | some i => .bool i
  dmax := 0
  dp := fun {K H v x} h => by
    cases x with
    | none =>
      have h' : v = V.non := h
      subst h'
      exact .non
    | some i =>
      have h' : v = V.bl i := h
      subst h'
      exact .bl _
  lay := fun x => by cases x <;> simp only [PyData.canLay0]
  dep := fun x => by cases x <;> simp only [PyData.depth, Nat.le_refl]
  eqv := fun x y => by cases x <;> cases y <;> simp [PyData.eqv]
end
end Z
/-! Z4: statements never reached, tuples into the frozen part, pairs sorted, dicts of scalars, list(range), pop -/
namespace Z
open PySem L2
open Rep (rep)
section
variable {X : Cx}
theorem ps_absurd {st : Stmt} : PS X st (fun _ _ _ => False) := ⟨fun _ _ _ _ _ _ h => h.elim⟩
theorem stepAnd {t u : TT} {σ : L2.St} {H : Hp} {Q : Bool → Hp → Prop} (h : t σ H fun c H1 => if c = true then u σ H1 Q else Q false H1) : tAnd t u σ H Q := h
theorem stepOr {t u : TT} {σ : L2.St} {H : Hp} {Q : Bool → Hp → Prop} (h : t σ H fun c H1 => if c = true then Q true H1 else u σ H1 Q) : tOr t u σ H Q := h
theorem stepNot {t : TT} {σ : L2.St} {H : Hp} {Q : Bool → Hp → Prop} (h : t σ H fun c H1 => Q (!c) H1) : tNot t σ H Q := h
/-- every tuple there is may be read -/
def tupF (F H : Hp) : Hp := fun b => match F b with
  | some u => some u
  | none => match H b with
    | some (.tup vs) => some (.tup vs)
    | _ => none
theorem tupF_some {F H : Hp} {b : Addr} {u : HO} (e : F b = some u) : tupF F H b = some u := by
  unfold tupF
  rw [e]
theorem tupF_none {F H : Hp} {b : Addr} {u : HO} (e : F b = none) (h : tupF F H b = some u) : H b = some u ∧ ∃ vs, u = .tup vs := by
  unfold tupF at h
  rw [e] at h
  dsimp only at h
  split at h
  · rename_i vs e'
    cases h
    exact ⟨e', _, rfl⟩
  · cases h
theorem tupF_tup {F H : Hp} {b : Addr} {vs : List V} (e : F b = none) (h : H b = some (.tup vs)) : tupF F H b = some (.tup vs) := by
  unfold tupF
  rw [e, h]
theorem W.tups {F H : Hp} {os : List (Addr × HO)} (w : W F H os) : ∃ F', Same F F' ∧ W F' H os ∧ ∀ b vs, H b = some (.tup vs) → F' b = some (.tup vs) := by
  refine ⟨tupF F H, fun b u e => tupF_some e, ⟨fun b u e => ?_, fun p hp => ?_, w.nd, w.nt⟩, fun b vs e => ?_⟩
  · cases q : F b with
    | some u' =>
      rw [tupF_some q] at e
      cases e
      exact w.same b _ q
    | none => exact (tupF_none q e).1
  · obtain ⟨h1, h2⟩ := w.own p hp
    refine ⟨h1, ?_⟩
    cases q : tupF F H p.1 with
    | none => rfl
    | some u =>
      obtain ⟨k, vs, rfl⟩ := tupF_none h2 q
      rw [h1] at k
      exact absurd (Option.some.inj k) (w.nt p hp vs)
  · cases q : F b with
    | some u' =>
      have := w.same b _ q
      rw [e] at this
      cases this
      exact tupF_some q
    | none => exact tupF_tup q e
/-! ### sorted, of pairs -/
def leP (p q : Int × Int) : Bool := decide (p.1 < q.1 ∨ (p.1 = q.1 ∧ p.2 ≤ q.2))
def sortP (xs : List (Int × Int)) : List (Int × Int) := xs.mergeSort leP
theorem sortP_perm (xs : List (Int × Int)) : (sortP xs).Perm xs := List.mergeSort_perm xs _
theorem sortP_sorted (xs : List (Int × Int)) : (sortP xs).Pairwise fun p q => leP p q = true := by
  refine List.pairwise_mergeSort (le := leP) (fun a b c h1 h2 => ?_) (fun a b => ?_) xs
  · unfold leP at *
    simp only [decide_eq_true_eq] at *
    omega
  · unfold leP
    simp only [Bool.or_eq_true, decide_eq_true_eq]
    omega
theorem sortP_uniq {xs ys : List (Int × Int)} (h : xs.Perm ys) (hx : xs.Pairwise fun p q => leP p q = true) (hy : ys.Pairwise fun p q => leP p q = true) : xs = ys := by
  induction xs generalizing ys with
  | nil => exact (List.nil_perm.mp h).symm
  | cons x xs ih =>
    cases ys with
    | nil => exact absurd h.length_eq (by simp)
    | cons y ys =>
      rw [List.pairwise_cons] at hx hy
      have e : x = y := by
        have h1 : y ∈ x :: xs := h.mem_iff.mpr List.mem_cons_self
        have h2 : x ∈ y :: ys := h.mem_iff.mp List.mem_cons_self
        rcases List.mem_cons.mp h1 with e | h1
        · exact e.symm
        · rcases List.mem_cons.mp h2 with e | h2
          · exact e
          · have a := hx.1 y h1
            have b := hy.1 x h2
            unfold leP at a b
            simp only [decide_eq_true_eq] at a b
            exact Prod.ext (by omega) (by omega)
      subst e
      rw [ih h.cons_inv hx.2 hy.2]
theorem sortP_eq {xs ys : List (Int × Int)} (h : ys.Perm xs) (hy : ys.Pairwise fun p q => leP p q = true) : ys = sortP xs := sortP_uniq (h.trans (sortP_perm xs).symm) hy (sortP_sorted xs)
/-- which pair stands at a reference -/
def keyP (H : Hp) (v : V) : Int × Int := match v with
  | .ref t => match H t with
    | some (.tup [.int i, .int j]) => (i, j)
    | _ => (0, 0)
  | _ => (0, 0)
theorem keyP_of {K : Fg} {F H : Hp} {v : V} {x : Int × Int} (s : Same F H) (r : rep K F v x) : ∃ t, v = .ref t ∧ F t = some (.tup [.int x.1, .int x.2]) ∧ keyP H v = x := by
  obtain ⟨t, u, z, rfl, q, r1, r2⟩ := r
  obtain rfl : u = V.int x.1 := r1
  obtain rfl : z = V.int x.2 := r2
  refine ⟨t, rfl, q, ?_⟩
  have h := s _ _ q
  unfold keyP
  dsimp only
  rw [h]
theorem keyP_all {K : Fg} {F H : Hp} {vs : List V} {xs : List (Int × Int)} (s : Same F H) (h : A2 (rep K F) vs xs) : xs = vs.map (keyP H) ∧ ∀ v ∈ vs, ∃ t, v = .ref t ∧ F t = some (.tup [.int (keyP H v).1, .int (keyP H v).2]) := by
  induction h with
  | nil => exact ⟨rfl, fun _ z => nomatch z⟩
  | cons a b ih =>
    obtain ⟨t, e, q, k⟩ := keyP_of s a
    refine ⟨by rw [List.map_cons, k, ← ih.1], fun v hv => ?_⟩
    rcases List.mem_cons.mp hv with rfl | hv
    · exact ⟨t, e, by rw [k]; exact q⟩
    · exact ih.2 v hv
theorem rep_keys {K : Fg} {F H : Hp} : ∀ {ys : List V}, (∀ v ∈ ys, ∃ t, v = V.ref t ∧ F t = some (.tup [.int (keyP H v).1, .int (keyP H v).2])) → A2 (rep K F) ys (ys.map (keyP H))
  | [], _ => .nil
  | v :: ys, h => by
    obtain ⟨t, e, q⟩ := h v List.mem_cons_self
    refine .cons ?_ (rep_keys fun y hy => h y (List.mem_cons_of_mem _ hy))
    subst e
    exact ⟨t, _, _, rfl, q, rfl, rfl⟩
theorem cr_sortP {K : Fg} (hK : X.K = K) : CallR X (.builtin "sorted") (fun vs H Q => ∃ (a : Addr) (us : List V) (F : Hp) (xs : List (Int × Int)), vs = [V.ref a] ∧ SqL K H a us ∧ Same F H ∧ A2 (rep K F) us xs ∧
    ∀ p ys, H p = none → A2 (rep K F) ys (sortP xs) → Q (.ref p) (upd H p (.lst ys))) := by
  subst hK
  intro pins s σ H vs us Q I r h
  obtain ⟨a, us', F, xs, rfl, hs, sF, hA, q⟩ := h
  obtain ⟨e1, e2⟩ := keyP_all sF hA
  refine cr_sortedPO pins s σ H _ us Q I r ⟨a, us', keyP H, rfl, hs, fun x hx => ?_, fun ys p h1 h2 hp => q p ys hp ?_⟩
  · obtain ⟨t, e, k⟩ := e2 x hx
    exact ⟨t, e, sF _ _ k⟩
  · have e : ys.map (keyP H) = sortP xs := by
      refine sortP_eq ?_ ?_
      · rw [e1]
        exact h2.perm.map _
      · rw [List.pairwise_map]
        refine h1.imp fun {x y} h => ?_
        have h := SrtO.lexB_no.mp h
        unfold leP
        rw [decide_eq_true_eq]
        omega
    rw [← e]
    exact rep_keys fun v hv => e2 v (h2.perm.mem_iff.mp hv)
end
/-! ### dicts of scalars -/
section
variable {κ β γ δ : Type} [DecidableEq κ]
def mput (m : List (κ × β)) (k : κ) (v : β) : List (κ × β) := if (m.any fun p => decide (p.1 = k)) = true then m.map (fun p => if p.1 = k then (p.1, v) else p) else m ++ [(k, v)]
def mhas (m : List (κ × β)) (k : κ) : Bool := m.any fun p => decide (p.1 = k)
def mget (m : List (κ × β)) (k : κ) : Option β := (m.find? fun p => decide (p.1 = k)).map (·.2)
def mputR (m : List (κ × β)) (k : κ) (v : β) : R (List (κ × β)) := if m.length < 100000 then .ok (mput m k v) else .bad
def mgetR (m : List (κ × β)) (k : κ) : R β := ofO (mget m k)
/-- as the dict stands -/
def encM (e : κ → γ) (ev : β → V) (m : List (κ × β)) : List (γ × V) := m.map fun p => (e p.1, ev p.2)
variable [DecidableEq γ] {e : κ → γ} {ev : β → V}
theorem any_enc (he : ∀ a b, e a = e b → a = b) (m : List (κ × β)) (k : κ) : ((encM e ev m).any fun p => decide (p.1 = e k)) = m.any fun p => decide (p.1 = k) := by
  unfold encM
  rw [List.any_map]
  congr 1
  funext p
  show decide (e p.1 = e k) = decide (p.1 = k)
  by_cases h : p.1 = k
  · rw [h]; simp
  · rw [decide_eq_false h, decide_eq_false fun z => h (he _ _ z)]
theorem put_enc (he : ∀ a b, e a = e b → a = b) (m : List (κ × β)) (k : κ) (v : β) : putK (encM e ev m) (e k) (ev v) = encM e ev (mput m k v) := by
  unfold putK mput
  rw [any_enc he]
  by_cases h : (m.any fun p => decide (p.1 = k)) = true
  · rw [if_pos h, if_pos h]
    unfold encM
    rw [List.map_map, List.map_map]
    refine List.map_congr_left fun p _ => ?_
    show (if e p.1 = e k then (e p.1, ev v) else (e p.1, ev p.2)) = (fun q : κ × β => (e q.1, ev q.2)) (if p.1 = k then (p.1, v) else p)
    by_cases h : p.1 = k
    · rw [if_pos h, if_pos (congrArg e h)]
    · rw [if_neg h, if_neg fun z => h (he _ _ z)]
  · rw [if_neg h, if_neg h]
    unfold encM
    rw [List.map_append]
    rfl
theorem val_enc (he : ∀ a b, e a = e b → a = b) (k : κ) : ∀ m : List (κ × β), valV (encM e ev m) (e k) = (mget m k).map ev
  | [] => rfl
  | p :: m => by
    show valV ((e p.1, ev p.2) :: encM e ev m) (e k) = _
    unfold mget
    by_cases h : p.1 = k
    · rw [valV_pos (congrArg e h), List.find?_cons_of_pos (by simpa using h)]
      rfl
    · rw [valV_neg (fun z => h (he _ _ z)), List.find?_cons_of_neg (by simpa using h), val_enc he k m]
      rfl
theorem has_enc (he : ∀ a b, e a = e b → a = b) (m : List (κ × β)) (k : κ) : (valV (encM e ev m) (e k)).isSome = mhas m k := by
  rw [← valV_any, any_enc he]
  rfl
theorem enc_length (m : List (κ × β)) : (encM e ev m).length = m.length := List.length_map _
end
abbrev kI : Int → Key := .inl
theorem kI_inj : ∀ a b, kI a = kI b → a = b := fun _ _ h => Sum.inl.inj h
def kP (p : Int × Int) : List Key := [.inl p.1, .inl p.2]
theorem kP_inj : ∀ a b, kP a = kP b → a = b := fun a b h => by
  unfold kP at h
  injection h with h1 h2
  injection h2 with h2 _
  exact Prod.ext (Sum.inl.inj h1) (Sum.inl.inj h2)
section
variable {β : Type} {ev : β → V} {H : Hp} {a b : Addr}
theorem dget_k {m : List (Int × β)} {k : Int} (e : H a = some (.dK (encM kI ev m))) : DGet H a (.int k) ((mget m k).map ev) := by
  rw [← val_enc kI_inj]
  exact DGet.k (k := kI k) e
theorem dget_p {m : List ((Int × Int) × β)} {k : Int × Int} (e : H a = some (.dT (encM kP ev m))) (eb : H b = some (.tup [.int k.1, .int k.2])) : DGet H a (.ref b) ((mget m k).map ev) := by
  rw [← val_enc kP_inj]
  exact DGet.t (k := kP k) e eb
theorem get_has {κ : Type} [DecidableEq κ] (m : List (κ × β)) (k : κ) (f : β → V) : ((mget m k).map f).isSome = mhas m k := by
  rw [Option.isSome_map]
  unfold mget mhas
  rw [Option.isSome_map, List.isSome_find?]
theorem dput_k {m : List (Int × β)} {k : Int} {v : β} (e : H a = some (.dK (encM kI ev m))) (hl : m.length < sizeLine) : DPut H a (.int k) (ev v) (upd H a (.dK (encM kI ev (mput m k v)))) := by
  rw [← put_enc kI_inj]
  exact DPut.k (k := kI k) e (by rw [enc_length]; exact hl)
theorem dput_p {m : List ((Int × Int) × β)} {k : Int × Int} {v : β} (e : H a = some (.dT (encM kP ev m))) (eb : H b = some (.tup [.int k.1, .int k.2])) (hl : m.length < sizeLine) : DPut H a (.ref b) (ev v) (upd H a (.dT (encM kP ev (mput m k v)))) := by
  rw [← put_enc kP_inj]
  exact DPut.t (k := kP k) e eb (by rw [enc_length]; exact hl)
end
/-- the keys of a dict, as tuples that may be read -/
theorem keys_rep {β : Type} {ev : β → V} {K : Fg} {F H : Hp} (hF : ∀ b vs, H b = some (.tup vs) → F b = some (.tup vs)) : ∀ {m : List ((Int × Int) × β)} {bs : List Addr}, IsKeys H (encM kP ev m) bs → A2 (rep K F) (bs.map V.ref) (m.map (·.1))
  | [], [], _ => .nil
  | [], _ :: _, h => nomatch h
  | _ :: _, [], h => nomatch h
  | p :: m, b :: bs, .cons h1 h2 => .cons ⟨b, _, _, rfl, hF _ _ h1, rfl, rfl⟩ (keys_rep hF h2)
theorem pn_mput {κ β δ : Type} [DecidableEq κ] {m : List (κ × β)} {k : κ} {v : β} {f : List (κ × β) → R δ} {P : δ → Prop} {E : Exn → Prop} (h : Post (mputR m k v >>= f) P E) : ∃ m', m.length < sizeLine ∧ m' = mput m k v ∧ Post (f m') P E := by
  unfold mputR at h
  by_cases hl : m.length < 100000
  · rw [if_pos hl] at h
    exact ⟨_, Nat.lt_of_lt_of_le hl line5, rfl, h⟩
  · rw [if_neg hl] at h
    exact (show False from h).elim
/-! ### list(range(n)) -/
@[irreducible] def listRng (i j : Int) : R (List Int) := if -(2 ^ 62) ≤ i ∧ i < 2 ^ 62 ∧ -(2 ^ 62) ≤ j ∧ j < 2 ^ 62 ∧ (j - i).toNat ≤ 100000 then .ok (rng i j) else .bad
theorem rgV_eq (i j : Int) : rgV i j = (rng i j).map V.int := by
  unfold rgV rng
  rw [List.map_map]
  rfl
theorem pb_lrng {δ : Type} {i j : Int} {f : List Int → R δ} {P : δ → Prop} {E : Exn → Prop} (h : Post (listRng i j >>= f) P E) : ∃ l, RgOk i j ∧ l = rng i j ∧ Post (f l) P E := by
  unfold listRng at h
  by_cases hl : -(2 ^ 62) ≤ i ∧ i < 2 ^ 62 ∧ -(2 ^ 62) ≤ j ∧ j < 2 ^ 62 ∧ (j - i).toNat ≤ 100000
  · rw [if_pos hl] at h
    obtain ⟨a, b, c, d, e⟩ := hl
    exact ⟨_, ⟨a, b, c, d, by omega⟩, rfl, h⟩
  · rw [if_neg hl] at h
    exact (show False from h).elim
/-! ### a list of perhaps nothing, where nothing is nothing -/
def allS {α : Type} : List (Option α) → R (List α)
  | [] => .ok []
  | none :: _ => .bad
  | some x :: xs => allS xs >>= fun ys => .ok (x :: ys)
theorem allS_iff {α : Type} : ∀ {xs : List (Option α)} {ys : List α}, allS xs = R.ok ys ↔ xs = ys.map some
  | [], ys => by
    constructor
    · intro h; cases h; rfl
    · intro h
      cases ys with
      | nil => rfl
      | cons => cases h
  | none :: xs, ys => by
    constructor
    · intro h; cases h
    · intro h
      cases ys <;> cases h
  | some x :: xs, ys => by
    constructor
    · intro h
      obtain ⟨zs, e, h⟩ := bind_ok_iff.mp h
      cases h
      rw [allS_iff.mp e]
      rfl
    · intro h
      cases ys with
      | nil => cases h
      | cons y ys =>
        rw [List.map_cons] at h
        injection h with h1 h2
        cases h1
        show (allS xs >>= fun ys => R.ok (x :: ys)) = _
        rw [allS_iff.mpr h2]
        rfl
theorem pb_allS {α δ : Type} {xs : List (Option α)} {f : List α → R δ} {P : δ → Prop} {E : Exn → Prop} (h : Post (allS xs >>= f) P E) : ∃ ys, xs = ys.map some ∧ Post (f ys) P E := by
  cases e : allS xs with
  | ok ys =>
    rw [e] at h
    exact ⟨ys, allS_iff.mp e, h⟩
  | exc x =>
    rw [e] at h
    exfalso
    clear h
    induction xs with
    | nil => cases e
    | cons x xs ih =>
      cases x with
      | none => cases e
      | some x =>
        have e' : (allS xs >>= fun ys => R.ok (x :: ys)) = R.exc _ := e
        cases e2 : allS xs with
        | ok y => rw [e2] at e'; cases e'
        | exc y => rw [e2] at e'; cases e'; exact ih e2
        | bad => rw [e2] at e'; cases e'
  | bad =>
    rw [e] at h
    exact (show False from h).elim
theorem A2.unsome {α : Type} [Rep α] {K : Fg} {F : Hp} : ∀ {vs : List V} {ys : List α}, A2 (rep K F) vs (ys.map some) → A2 (rep K F) vs ys
  | [], [], _ => .nil
  | _ :: _, [], h => nomatch h
  | [], _ :: _, h => nomatch h
  | _ :: _, _ :: _, .cons a b => .cons a (A2.unsome b)
/-! ### pop -/
@[irreducible] def popB {α : Type} (xs : List α) (i : Int) : R (α × List α) := if -(2 ^ 62) ≤ i ∧ i < 2 ^ 62 then popAt xs i else .bad
theorem pn_popB {α β : Type} {xs : List α} {i : Int} {f : α × List α → R β} {Q : β → Prop} {E : Exn → Prop} (h : Post (popB xs i >>= f) Q E) : ∃ j x ys, (-(2 ^ 63) ≤ i ∧ i < 2 ^ 63) ∧ ixN xs.length i = some j ∧ xs[j]? = some x ∧ ys = xs.eraseIdx j ∧ Post (f (x, ys)) Q E := by
  unfold popB at h
  by_cases hi : -(2 ^ 62) ≤ i ∧ i < 2 ^ 62
  · rw [if_pos hi] at h
    obtain ⟨j, x, ys, a, b, c, d⟩ := pn_popAt h
    exact ⟨j, x, ys, by omega, a, b, c, d⟩
  · rw [if_neg hi] at h
    exact (show False from h).elim
theorem pn_popI {α β : Type} {xs : List α} {f : α × List α → R β} {Q : β → Prop} {E : Exn → Prop} (h : Post (popI xs >>= f) Q E) : ∃ x ys, xs[xs.length - 1]? = some x ∧ ys = xs.dropLast ∧ Post (f (x, ys)) Q E := by
  unfold popI at h
  rw [List.getLast?_eq_getElem?] at h
  cases e : xs[xs.length - 1]? with
  | none =>
    rw [e] at h
    exact (show False from h).elim
  | some x =>
    rw [e] at h
    exact ⟨x, _, rfl, rfl, h⟩
theorem A2.lastV {α : Type} {r : V → α → Prop} {vs : List V} {xs : List α} {x : α} (h : A2 r vs xs) (e : xs[xs.length - 1]? = some x) : ∃ u, vs[vs.length - 1]? = some u ∧ r u x := by
  rw [h.length]
  exact h.get e
/-! ### in, of a dict of scalars -/
def tDInH (ty td : TE) : TE := fun σ H Q => ty σ H fun y H1 => td σ H1 fun x H2 => ∃ a o b, x = .ref a ∧ DGet H2 a y o ∧ o.isSome = b ∧ Q (.bl b) H2
def tDNotInH (ty td : TE) : TE := fun σ H Q => ty σ H fun y H1 => td σ H1 fun x H2 => ∃ a o b, x = .ref a ∧ DGet H2 a y o ∧ o.isSome = b ∧ Q (.bl (!b)) H2
section
variable {X : Cx} {o i : Expr} {td ty : TE}
theorem pc_dinH (hu : X.A.units + 1 < cLine) (hi : PE X i ty) (ho : PE X o td) : PC X .In i o (tDInH ty td) := by
  refine ⟨fun pins s σ H Q I h => ?_⟩
  refine thn (hi.run pins s σ H _ I h) fun iv s1 ⟨y, H1, I1, ry, q1⟩ => thn (ho.run pins s1 σ H1 _ I1 q1) fun u s2 ⟨x, H2, I2, rx, a, ov, b, ex, g, eb, q2⟩ => ?_
  subst ex
  subst eb
  obtain rfl : u = Value.ref a := rx
  exact d_in hu I2 g ry fun s3 I3 => ⟨.bl ov.isSome, H2, I3, rfl, q2⟩
theorem pc_dnotinH (hu : X.A.units + 1 < cLine) (hi : PE X i ty) (ho : PE X o td) : PC X .NotIn i o (tDNotInH ty td) := by
  refine ⟨fun pins s σ H Q I h => ?_⟩
  refine thn (hi.run pins s σ H _ I h) fun iv s1 ⟨y, H1, I1, ry, q1⟩ => thn (ho.run pins s1 σ H1 _ I1 q1) fun u s2 ⟨x, H2, I2, rx, a, ov, b, ex, g, eb, q2⟩ => ?_
  subst ex
  subst eb
  obtain rfl : u = Value.ref a := rx
  exact d_notIn hu I2 g ry fun s3 I3 => ⟨.bl (!ov.isSome), H2, I3, rfl, q2⟩
end
theorem Room.units1 {k : Nat} {A : Around} (r : Room k A) : A.units + 1 < cLine := by
  have := r.un
  omega
end Z
/-! ZX: an exception caught by its class, held behind the suite as a thing of its own -/
namespace L2
open PySem PySem.Spec PyProof.Rows
/-- a caught exception of the class cls at a -/
def ExH (cls : Value) (a : Addr) : HO := .ext fun h => ∃ (oe : Obj), h.get? a = some oe ∧ Zc cls none oe ∧ ∃ vs, oe.data = .fields vs
theorem exH_ok {P : Program} {w : World} {H : Hp} {h : Heap} {a : Addr} {cls : Value} {oe : Obj} (e : h.get? a = some oe) (z : Zc cls none oe) (d : ∃ vs, oe.data = .fields vs) : ObjOk P w H h a (ExH cls a) :=
  ⟨⟨oe, e, z, d⟩, ⟨oe, e⟩, fun _ _ ⟨o, q, r⟩ k => ⟨o, k o q, r⟩⟩
section
variable {X : Cx} {pins : List (Addr × Obj)} {σ : St} {H : Hp} {s : Shared}
/-- what is pinned, and new since the def began, may be tracked -/
theorem Inv.track {a : Addr} {oe : Obj} {cls : Value} (I : Inv X ((a, oe) :: pins) σ H s) (n0 : X.s_0.heap.get? a = none) (hz : Zc cls none oe) (hd : ∃ vs, oe.data = .fields vs) (hp : ∀ p ∈ X.pn ++ pins, p.1 ≠ a) : Inv X pins σ (upd H a (ExH cls a)) s := by
  obtain ⟨ha, na, nL, nF, _⟩ := I.pin (a, oe) (List.mem_append_right _ List.mem_cons_self)
  dsimp only at ha na nL nF
  have ne0 : ∀ b o, X.s_0.heap.get? b = some o → b ≠ a := fun b o e z => by
    rw [z, n0] at e
    cases e
  refine ⟨I.ok, I.os, I.bare, ⟨I.base.keep, I.base.slot, fun b o e n hq => ?_, I.base.there, fun b xs e => ?_, fun b o u e => ?_, fun b ps e => ?_⟩, I.loc, I.cell, ?_, fun x c e => ?_, fun p hp' => ?_, fun b u e => ?_, I.len⟩
  · rw [upd_ne (ne0 b o e)]
    exact I.base.free b o e n hq
  · have q := I.base.tups b xs e
    rw [upd_ne (ne_of_none q na)]
    exact q
  · have q := I.base.frzs b o u e
    rw [upd_ne (ne_of_none q na)]
    exact q
  · obtain ⟨m, q⟩ := I.base.tbls b ps e
    exact ⟨m, by rw [upd_ne (ne_of_none q na)]; exact q⟩
  · rw [upd_ne (Ne.symm nL)]
    exact I.free
  · have hne : c ≠ a := fun z => by
      obtain ⟨v, o, ho, hc⟩ := I.cell x c e
      rw [z, ha] at ho
      cases ho
      obtain ⟨vs, hd⟩ := hd
      rw [hd] at hc
      cases hc
    rw [upd_ne hne]
    exact I.freeC x c e
  · have hp2 : p ∈ X.pn ++ ((a, oe) :: pins) := by
      rcases List.mem_append.mp hp' with z | z
      · exact List.mem_append_left _ z
      · exact List.mem_append_right _ (List.mem_cons_of_mem _ z)
    obtain ⟨e, n, ne, nf, d⟩ := I.pin p hp2
    exact ⟨e, by rw [upd_ne (hp p hp')]; exact n, ne, nf, d⟩
  · by_cases hb : b = a
    · subst hb
      rw [upd_same] at e
      cases e
      exact exH_ok ha hz hd
    · rw [upd_ne hb] at e
      refine (I.hok b u e).stay (fun c v _ q => q) (fun c q => ?_) fun c xs q => ?_
      · rw [upd_ne (ne_of_none q na)]
        exact q
      · rw [upd_ne (ne_of_none q na)]
        exact q
theorem Inv.unsuiteK {a : Addr} {q : Addr × Obj} {pn' : List (Addr × Obj)} (I : Inv (X.suite a (q :: (X.pn ++ pins))) pn' σ H s) (ok : X.Ok) : Inv X (q :: pins) σ H s :=
  ⟨ok, I.os, I.bare, I.base, I.loc, I.cell, I.free, I.freeC, fun p hp => I.pin p (List.mem_append_left _ (by
    rcases List.mem_append.mp hp with z | z
    · exact List.mem_cons_of_mem _ (List.mem_append_left _ z)
    · rcases List.mem_cons.mp z with z | z
      · rw [z]; exact List.mem_cons_self
      · exact List.mem_cons_of_mem _ (List.mem_append_right _ z))), I.hok, I.len⟩
/-- what the clause 'except x as n' wishes, where the exception is held behind the suite: slot i is n's -/
def wHold (K : PySem.W.Frag) (c : Value) (i : Nat) (ts : Addr → Value → TS) (Wout : WX) (D : Ends) : WX := fun cls d σ H =>
  ∃ b, PySem.W.exmOne K cls c = some b ∧ (b = true → d = none ∧ ∀ a, H a = none → ts a cls { nx := fun σ' H' => H' a = none → D.nx (σ'.set i none) (upd H' a (ExH cls a)), rt := fun _ _ => False, bk := fun _ _ => False, ct := fun _ _ => False } (σ.set i (some (.ref a))) H) ∧
    (b = false → Wout cls d σ H)
variable {x n : Str} {c : Value} {i : Nat} {body suite : List Stmt} {b₀ : Stmt} {np pos pos' : Pos} {tb : WX → TS} {ts : Addr → Value → TS} {Wout : WX}
theorem ps_try_hold (hs : X.stack = X.env :: X.outer) (hf : X.env.frame = some X.env.locals) (hex : X.ex = []) (hN : X.N.Nodup) (hi : X.N[i]? = some n) (hln : X.env.kindOf n = some .local) (hc : Names X x c) (tk : Takes X Wout)
    (hb : ∀ (W : WX) (pn : List (Addr × Obj)) (xe : Value → Shared → Prop), Takes (X.tr pn xe) W → PassesOwn (model X.prog X.w) X.A X.env xe → PSs (X.tr pn xe) body (tb W))
    (hsu : ∀ (a : Addr) (oe : Obj) (cls : Value) (pn : List (Addr × Obj)), PSs (X.suite a ((a, oe) :: pn)) (b₀ :: suite) (ts a cls)) :
    PS X (.Try body [.ExceptHandler (some (.Name x np)) (some n) (b₀ :: suite) pos'] [] [] pos) (fun D σ H => tb (wHold X.K c i ts Wout D) D σ H) := by
  refine ⟨fun pins s σ H D I h => ?_⟩
  have ok := I.ok
  have hfr : X.A.frames = some (X.env :: X.outer) := by rw [ok.frames, hs]
  have hloc : Loc X.env.scope n := .inl hln
  refine wpAny_Try_except ?_
  refine wpAny_mono ((hb (wHold X.K c i ts Wout D) (X.pn ++ pins) (fun e s₁ => wpAny (model X.prog X.w) X.A (noteFrame e X.env) (fun _ s₂ => wpAny (model X.prog X.w) X.A (setFlight e none) (fun _ s₃ =>
    wpAny (model X.prog X.w) X.A (handleBy e X.env [.ExceptHandler (some (.Name x np)) (some n) (b₀ :: suite) pos']) (SP X pins D) X.xe s₃) X.xe s₂) X.xe s₁) (fun u s' xx => ?_) PassesOwn.looking).run [] s σ H D (I.toTry _) h) (fun f s1 hsp => ?_) (fun e s1 he => he)
  · -- the catch
    obtain ⟨a, B, sI, pins', σ', H', cls, d, rfl, J', nb, up, sky, na, os, ag, b, hb1, hyes, hno⟩ := xx
    have J : Inv X pins σ' H' sI := J'.ofTry ok
    have sky' : Sky B (X.env :: X.outer) a (Zc cls d) X.env.locals s'.heap := by rw [← hs]; exact sky
    show wpAny (model X.prog X.w) X.A (noteFrame (.ref a) X.env) _ _ _
    refine Sky.land Zc.steady hfr hf sky' fun h3 fl3 up3 => ?_
    have J3 : Inv X pins σ' H' { s' with heap := h3 } := J.landed nb fl3.1 (up.trans up3) os ag
    obtain ⟨oe3, vs3, he3, hz3, hd3⟩ := fl3.there
    have notFr : ∀ {h : Heap} {o : Obj} {vs : Array Value}, h.FunFrames B (X.env :: X.outer) → h.get? a = some o → o.data = .fields vs → a ∉ frs (X.env :: X.outer) := fun {h o vs} ff e dd hm => by
      obtain ⟨_, o', e', hnf⟩ := ff.mem hm
      rw [e] at e'; cases e'
      exact hnf _ dd
    have nfr := notFr fl3.2.2.1 he3 hd3
    have nL : a ≠ X.env.locals := fun z => nfr (List.mem_filterMap.mpr ⟨X.env, List.mem_cons_self, by rw [hf, z]⟩)
    have nF : a ∉ X.fs := fun hm => by
      obtain ⟨e, he, q⟩ := List.mem_filterMap.mp hm
      exact nfr (List.mem_filterMap.mpr ⟨e, List.mem_cons_of_mem _ he, q⟩)
    have nB : B.get? a = none := fl3.2.1
    have nI : sI.heap.get? a = none := by
      cases e : sI.heap.get? a with
      | none => rfl
      | some o =>
        have z := nb a o e (by rw [hs]; exact nfr)
        rw [nB] at z
        cases z
    have n0 : X.s_0.heap.get? a = none := by
      cases e : X.s_0.heap.get? a with
      | none => rfl
      | some o =>
        obtain ⟨o', z⟩ := J.base.there a o e (by rw [hex]; exact fun z => nomatch z)
        rw [nI] at z
        cases z
    have hpin : ∀ p ∈ X.pn ++ pins, p.1 ≠ a := fun p hp z => by
      have e := (J.pin p hp).1
      rw [z, nI] at e
      cases e
    have S3 := J3.suite he3 hd3 na nL nF
    refine wpAny_handleBy_cons (codeAny_handlers_test ?_) (by intro q; cases q)
    have LT : PySem.W.Looks (model X.prog X.w) h3 (typeOf (.ref a)) cls := fun A Q E s k q => wpAny_typeOf_ref (k _ _ he3) (by rw [hz3.1]; exact q)
    have LM := PySem.W.exm_one (M := model X.prog X.w) (J3.kIn) LT hb1
    have test : ∀ {Q : Value → Shared → Prop} {E : Value → Shared → Prop}, Q c { s' with heap := h3 } → wpAny (model X.prog X.w) (X.A.mark (some (.ref a))) (eval (.Name x np) X.env) Q E { s' with heap := h3 } := fun {Q E} q => by
      obtain ⟨hg, hdbg, hm | ⟨hm, hv, hnn⟩⟩ := hc
      · exact ld_glob (X := X.suite a ((a, oe3) :: (X.pn ++ pins))) S3 hg hm q hdbg
      · exact ld_blt (X := X.suite a ((a, oe3) :: (X.pn ++ pins))) S3 hg hm hv q hnn hdbg
    refine test (LM.here ?_)
    cases b with
    | true =>
      obtain ⟨rfl, hyes2⟩ := hyes rfl
      refine codeAny_handlers_suite_as ?_
      refine HandSPX.lands_againZ fl3 fun h4 fl4 up4 => ?_
      have J4 : Inv X pins σ' H' { s' with heap := h4 } := J.landed nb fl4.1 ((up.trans up3).trans up4) os ag
      obtain ⟨oe4, vs4, he4, hz4, hd4⟩ := fl4.there
      have S4 := J4.suite he4 hd4 na nL nF
      refine store_ok (X := X.suite a ((a, oe4) :: (X.pn ++ pins))) (v := .ref a) S4 hN hi hloc rfl (fun s5 S5 => ?_) (.inr hln)
      refine wpAny_mono ((hsu a oe4 cls (X.pn ++ pins)).run [] s5 _ H' _ S5 (hyes2 a na)) (fun f s6 hsp => ?_) (fun _ _ z => False.elim z)
      cases f with
      | next =>
        obtain ⟨σ6, H6, S6, q6⟩ := hsp
        refine gone_ok (S6.unsuiteK ok) hN hi hln fun s7 J7 => ?_
        have na6 : H6 a = none := (J7.pin (a, oe4) (List.mem_append_right _ List.mem_cons_self)).2.1
        exact ⟨_, _, J7.track n0 hz4 ⟨_, hd4⟩ hpin, q6 na6⟩
      | brk =>
        obtain ⟨σ6, H6, S6, q6⟩ := hsp
        exact q6.elim
      | cont =>
        obtain ⟨σ6, H6, S6, q6⟩ := hsp
        exact q6.elim
      | ret u =>
        obtain ⟨v6, σ6, H6, S6, r6, q6⟩ := hsp
        exact q6.elim
    | false =>
      show wpAny _ X.A (handleBy (.ref a) X.env []) _ _ _
      refine wpAny_handleBy_nil ?_
      obtain ⟨k1, k2, k3, oe, vs, T, oT, ts', he, hz, hd, h1, hr⟩ := id fl3
      unfold PySem.passOn
      refine wpAny_bind (wpAny_field he hd h1 ?_)
      rw [if_neg (show ¬ ((Value.ref T == Value.none) = true) from by simp)]
      have fin : wpAny (model X.prog X.w) X.A (setFlight (.ref a) X.env.frame) (fun _ s4 => wpAny (model X.prog X.w) X.A (throw (.ref a) : Sem Flow) (SP X pins D) X.xe s4) X.xe { s' with heap := h3 } := by
        rw [hf]
        refine HandSPX.setFlight_upZ fl3 fun h4 hh4 up4 => wpAny_throw (tk _ _ ?_)
        exact ⟨a, B, sI, pins, σ', H', cls, d, rfl, J, nb, (up.trans up3).trans up4, .inr (.inr (by rw [hs]; exact hh4)), na, os, ag, hno rfl⟩
      first
        | exact wpAny_bind (wpAny_pure (wpAny_bind fin))
        | exact wpAny_bind fin
  · cases f with
    | next =>
      obtain ⟨σ', H', J', q⟩ := hsp
      exact wpAny_execs_nil ⟨σ', H', J'.ofTry ok, q⟩
    | brk =>
      obtain ⟨σ', H', J', q⟩ := hsp
      exact ⟨σ', H', J'.ofTry ok, q⟩
    | cont =>
      obtain ⟨σ', H', J', q⟩ := hsp
      exact ⟨σ', H', J'.ofTry ok, q⟩
    | ret u =>
      obtain ⟨v, σ', H', J', r, q⟩ := hsp
      exact ⟨v, σ', H', J'.ofTry ok, r, q⟩
/-- isinstance(e, c) of a held exception e: c one class, or a tuple of classes -/
def rIsH (K : PySem.W.Frag) (D : Addr) : List V → Hp → VK → Prop := fun xs H Q => ∃ (a : Addr) (c : V) (b : Bool), xs = [.ref a, c] ∧ H a = some (ExH (.ref D) a) ∧
  ((∃ cv, (∀ u, RelV c u → u = cv) ∧ PySem.W.kitOne K (.ref D) cv = some b) ∨ (∃ p vs its, c = .ref p ∧ H p = some (.tup vs) ∧ (∀ us, Vals vs us → us = its) ∧ PySem.W.kitAny K (.ref D) its = some b)) ∧ Q (.bl b) H
theorem call_isH {D : Addr} (C : ExcC X.K D) : CallR X (.builtin "isinstance") (rIsH X.K D) := by
  intro pins s σ H xs us Q I r h
  obtain ⟨a, c, b, rfl, hH, hc, q⟩ := h
  cases r with
  | cons rx rr =>
    cases rr with
    | cons rt rr =>
      cases rr
      cases rx
      obtain ⟨⟨oe, hget, ⟨h1, h2⟩, vs, hv⟩, _, _⟩ := I.hok a _ hH
      have J : PySem.W.InstAt s.heap a oe D none := by
        obtain ⟨oc, od, oda, osl⟩ := oe
        dsimp only at h1 h2 hv
        subst h1 h2 hv
        exact ⟨hget, rfl, rfl, trivial⟩
      have fin : ∀ tk, EP X pins σ Q (.bool b) { s with toks := tk } := fun tk => ⟨.bl b, H, I.kept (t' := tk) fun _ _ z => z, rfl, q⟩
      rcases hc with ⟨cv, hcv, e⟩ | ⟨p, vs, its, rfl, hp, hu, e⟩
      · have ec := hcv _ rt
        subst ec
        exact PySem.W.kia_one (PySem.W.handS_kitx_exc C.hg C.hk C.hs C.hd C.ha C.hn C.ht C.hm) I.kIn J e (fun z => nomatch z) fin
      · cases rt
        obtain ⟨_, its', r', ob, ho, hob1, n, hob2⟩ := I.hok p _ hp
        have := hu _ r'
        subst this
        obtain ⟨oc, od, oda, osl⟩ := ob
        dsimp only at hob1 hob2
        subst hob1 hob2
        exact PySem.W.kia_tup (PySem.W.handS_kitx_exc C.hg C.hk C.hs C.hd C.ha C.hn C.ht C.hm) I.kIn J ho e (fun z => nomatch z) fin
/-- isinstance(e, c) of a handled exception, in its suite -/
def rIsEX (K : PySem.W.Frag) (cls : Value) (d : Option Addr) (a : Addr) : List V → Hp → VK → Prop := fun xs H Q => ∃ D, cls = .ref D ∧ d = none ∧ ExcC K D ∧ ∃ (c : V) (cv : Value) (b : Bool), xs = [.ref a, c] ∧ (∀ u, RelV c u → u = cv) ∧ PySem.W.kitOne K (.ref D) cv = some b ∧ Q (.bl b) H
theorem call_isEX {K : PySem.W.Frag} {a : Addr} {cls : Value} {d : Option Addr} {oe : Obj} {pn : List (Addr × Obj)} (hK : X.K = K) (hz : Zc cls d oe) (hf : ∃ vs, oe.data = .fields vs) : CallR (X.suite a ((a, oe) :: pn)) (.builtin "isinstance") (rIsEX K cls d a) := by
  subst hK
  intro pins s σ H xs us Q I r ⟨D, e1, e2, C, h⟩
  subst e1 e2
  exact call_isE C hz hf pins s σ H xs us Q I r h
theorem call_isH' : CallR X (.builtin "isinstance") (fun xs H Q => ∃ D, ExcC X.K D ∧ rIsH X.K D xs H Q) := fun pins s σ H xs us Q I r ⟨_, C, h⟩ => call_isH C pins s σ H xs us Q I r h
theorem call_isHK {K : PySem.W.Frag} (hK : X.K = K) : CallR X (.builtin "isinstance") (fun xs H Q => ∃ D, ExcC K D ∧ rIsH K D xs H Q) := by
  subst hK
  exact call_isH'
end
end L2
namespace Z
open PySem L2
open Rep (rep)
/-- the class that a name of the text names -/
def Nm (K : Fg) (x : Str) (C : Addr) : Prop := PySem.W.nsIn K mainGlobals x = some (some (.ref C))
theorem Nm.uniq {K : Fg} {x : Str} {C D : Addr} (a : Nm K x C) (b : Nm K x D) : C = D := by
  have h := a.symm.trans b
  injection h with h
  injection h with h
  injection h
instance repExn : Rep Exn := ⟨fun K F v e => ∃ a C, v = .ref a ∧ Nm K e.cls C ∧ F a = some (ExH (.ref C) a), fun s ⟨a, C, h, n, q⟩ => ⟨a, C, h, n, s _ _ q⟩⟩
/-- what a call that lets an error out leaves -/
def RetX (K : Fg) (F : Hp) (os : List (Addr × HO)) (E : XK) : Exn → Prop := fun e => ∀ C F' H', Nm K e.cls C → W F' H' os → Same F F' → E (.ref C) none H'
/-- all that the body lets out is caught -/
def tryR {α : Type} (names : List Str) (b : R α) : R (Option Exn) := match b with
  | .ok _ => .ok none
  | .exc e => if e.cls ∈ names then .ok (some e) else .bad
  | .bad => .bad
/-- .. with a suite -/
def tryWith {α : Type} (names : List Str) (b : R α) (h : Exn → R α) : R α := match b with
  | .ok x => .ok x
  | .exc e => if e.cls ∈ names then h e else .bad
  | .bad => .bad
theorem post_tryWith {α : Type} {names : List Str} {b : R α} {h : Exn → R α} {P : α → Prop} {X : Exn → Prop} (q : Post (tryWith names b h) P X) : Post b P (fun e => e.cls ∈ names ∧ Post (h e) P X) := by
  cases b with
  | ok a => exact q
  | exc e =>
    have q' : Post (if e.cls ∈ names then h e else R.bad) P X := q
    by_cases c : e.cls ∈ names
    · rw [if_pos c] at q'
      exact ⟨c, q'⟩
    · rw [if_neg c] at q'
      exact (show False from q').elim
  | bad => exact q
theorem post_try {α : Type} {names : List Str} {b : R α} {P : Option Exn → Prop} {X : Exn → Prop} (h : Post (tryR names b) P X) : Post b (fun _ => P none) (fun e => e.cls ∈ names ∧ P (some e)) := by
  cases b with
  | ok a => exact h
  | exc e =>
    have h' : Post (if e.cls ∈ names then R.ok (some e) else R.bad) P X := h
    by_cases c : e.cls ∈ names
    · rw [if_pos c] at h'
      exact ⟨c, h'⟩
    · rw [if_neg c] at h'
      exact (show False from h').elim
  | bad => exact h
/-- isinstance of a caught error: tn, the names under the classes asked -/
def isC (names tn : List Str) (e : Exn) : R Bool := if e.cls ∈ names then .ok (decide (e.cls ∈ tn)) else .bad
theorem pb_isC {δ : Type} {names tn : List Str} {e : Exn} {f : Bool → R δ} {P : δ → Prop} {X : Exn → Prop} (h : Post (isC names tn e >>= f) P X) : e.cls ∈ names ∧ Post (f (decide (e.cls ∈ tn))) P X := by
  unfold isC at h
  by_cases c : e.cls ∈ names
  · rw [if_pos c] at h
    exact ⟨c, h⟩
  · rw [if_neg c] at h
    exact (show False from h).elim
def raiseR {α : Type} (x : Str) : R α := .exc ⟨x, 0⟩
/-- a call that lets no error out -/
def nx {α : Type} (m : R α) : R α := match m with
  | .ok a => .ok a
  | .exc _ => .bad
  | .bad => .bad
theorem post_nx {α δ : Type} {m : R α} {k : α → R δ} {P : δ → Prop} {X : Exn → Prop} (h : Post (nx m >>= k) P X) : Post m (fun a => Post (k a) P X) noX := by
  cases m with
  | ok a => exact h
  | exc e => exact (show False from h).elim
  | bad => exact (show False from h).elim
theorem kit_ref {K : Fg} {x y : Addr} {b : Bool} (h1 : PySem.W.isClsIn K y = true) (h2 : PySem.W.typeIn K (.ref y) = some (.type "type")) (h3 : PySem.W.subIn K (.ref x) (.ref y) = some b) (h4 : b = true ∨ (Value.ref x == Value.ref y) = false) : PySem.W.kitOne K (.ref x) (.ref y) = some b := by
  have e : PySem.W.kitCls K (.ref x) (.ref y) = some b := by
    have h1' : (PySem.W.clsIn K y).isSome = true := h1
    have e2 : ((PySem.W.clsIn K y).isSome && PySem.W.typeIn K (.ref y) == some (.type "type")) = true := by rw [h1', h2] <;> rfl
    show (if ((PySem.W.clsIn K y).isSome && PySem.W.typeIn K (.ref y) == some (.type "type")) = true then PySem.W.subIn K (.ref x) (.ref y) else none) = some b
    rw [if_pos e2]
    exact h3
  unfold PySem.W.kitOne
  rcases h4 with rfl | h4
  · rw [e]
    split <;> rfl
  · rw [h4, if_neg (by decide)]
    exact e
theorem kit_ty {K : Fg} {x : Addr} {T : String} {b : Bool} (h1 : PySem.W.kitMeta T = true) (h3 : PySem.W.subIn K (.ref x) (.type T) = some b) : PySem.W.kitOne K (.ref x) (.type T) = some b := by
  have e : PySem.W.kitCls K (.ref x) (.type T) = some b := by
    show (if PySem.W.kitMeta T = true then PySem.W.subIn K (.ref x) (.type T) else none) = some b
    rw [if_pos h1]
    exact h3
  unfold PySem.W.kitOne
  have h4 : (Value.ref x == Value.type T) = false := rfl
  rw [h4, if_neg (by decide)]
  exact e
/-- what is known of an own error class -/
structure XC (K : Fg) (mg : Str → Option Value) (x : Str) (C : Addr) : Prop where
  ns : Nm K x C
  gm : mg x = some (.ref C)
  xc : PySem.W.excIn K C [.type "ValueError", .type "Exception", .type "BaseException", .type "object"] "ValueError.__new__" = true
  kp : PySem.W.keepIn K (.ref C) = true
  b : PySem.W.subIn K (.ref C) (.type "BaseException") = some true
  t : PySem.W.typeIn K (.ref C) = some (.type "type")
  ex : ExcC K C
end Z
/-! Z5: regions: lists of one's own by their number in a store -/
namespace Z
open PySem L2
open Rep (rep)
/-! ### two lists, item by item -/
inductive F2 {α β : Type} (r : α → β → Prop) : List α → List β → Prop
  | nil : F2 r [] []
  | cons {a : α} {b : β} {as : List α} {bs : List β} : r a b → F2 r as bs → F2 r (a :: as) (b :: bs)
section
variable {α β : Type} {r r' : α → β → Prop} {as : List α} {bs : List β}
theorem F2.length : ∀ {as : List α} {bs : List β}, F2 r as bs → as.length = bs.length
  | _, _, .nil => rfl
  | _, _, .cons _ t => by rw [List.length_cons, List.length_cons, F2.length t]
theorem F2.imp (f : ∀ a b, r a b → r' a b) : ∀ {as : List α} {bs : List β}, F2 r as bs → F2 r' as bs
  | _, _, .nil => .nil
  | _, _, .cons h t => .cons (f _ _ h) (F2.imp f t)
theorem F2.get : ∀ {as : List α} {bs : List β} {i : Nat} {b : β}, F2 r as bs → bs[i]? = some b → ∃ a, as[i]? = some a ∧ r a b
  | _, _, _, _, .nil, e => by simp at e
  | _, _, 0, _, .cons h _, e => by simp at e; subst e; exact ⟨_, rfl, h⟩
  | _, _, i + 1, b, .cons _ t, e => by
    obtain ⟨v, h1, h2⟩ := F2.get (i := i) (b := b) t (by simpa using e)
    exact ⟨v, by simpa using h1, h2⟩
theorem F2.set {a : α} {b : β} (h : r a b) : ∀ {as : List α} {bs : List β} (i : Nat), F2 r as bs → F2 r (as.set i a) (bs.set i b)
  | _, _, _, .nil => .nil
  | _, _, 0, .cons _ t => .cons h t
  | _, _, i + 1, .cons q t => .cons q (F2.set h i t)
theorem F2.append : ∀ {as as' : List α} {bs bs' : List β}, F2 r as bs → F2 r as' bs' → F2 r (as ++ as') (bs ++ bs')
  | _, _, _, _, .nil, h => h
  | _, _, _, _, .cons a t, h => .cons a (F2.append t h)
theorem F2.snoc {a : α} {b : β} (h : F2 r as bs) (q : r a b) : F2 r (as ++ [a]) (bs ++ [b]) := h.append (.cons q .nil)
end
/-! ### a store's lists: cells -/
def nz : List Addr → List (List V) → List (Addr × HO)
  | a :: as, vs :: vss => (a, .lst vs) :: nz as vss
  | _, _ => []
theorem nz_split : ∀ {as : List Addr} {vss : List (List V)} {j : Nat} {a : Addr} {vs : List V}, as[j]? = some a → vss[j]? = some vs →
    ∃ x y, nz as vss = x ++ (a, .lst vs) :: y ∧ ∀ us, nz as (vss.set j us) = x ++ (a, .lst us) :: y
  | [], _, j, _, _, h, _ => by simp at h
  | _ :: _, [], j, _, _, _, h => by simp at h
  | b :: as, ws :: vss, 0, a, vs, h1, h2 => by
    simp at h1 h2
    subst h1 h2
    exact ⟨[], nz as vss, rfl, fun _ => rfl⟩
  | b :: as, ws :: vss, j + 1, a, vs, h1, h2 => by
    obtain ⟨x, y, e1, e2⟩ := nz_split (as := as) (vss := vss) (j := j) (a := a) (vs := vs) (by simpa using h1) (by simpa using h2)
    exact ⟨(b, .lst ws) :: x, y, by show (b, HO.lst ws) :: nz as vss = _; rw [e1]; rfl, fun us => by show (b, HO.lst ws) :: nz as (vss.set j us) = _; rw [e2]; rfl⟩
theorem nz_snoc : ∀ {as : List Addr} {vss : List (List V)} {a : Addr} {vs : List V}, as.length = vss.length → nz (as ++ [a]) (vss ++ [vs]) = nz as vss ++ [(a, .lst vs)]
  | [], [], _, _, _ => rfl
  | [], _ :: _, _, _, h => by simp at h
  | _ :: _, [], _, _, h => by simp at h
  | b :: as, ws :: vss, a, vs, h => by
    show (b, HO.lst ws) :: nz (as ++ [a]) (vss ++ [vs]) = (b, HO.lst ws) :: (nz as vss ++ [(a, .lst vs)])
    rw [nz_snoc (by simpa using h)]
section
variable {F H : Hp} {os os' pre post : List (Addr × HO)} {a p : Addr} {o : HO} {as : List Addr} {vss : List (List V)} {j : Nat} {vs : List V}
theorem W.perm (h : os.Perm os') (w : W F H os) : W F H os' where
  same := w.same
  own := fun q hq => w.own q (h.mem_iff.mpr hq)
  nd := h.pairwise_iff (fun e q => e q.symm) |>.mp w.nd
  nt := fun q hq => w.nt q (h.mem_iff.mpr hq)
/-- the j-th list of a store -/
theorem W.nget (w : W F H (pre ++ (nz as vss ++ post))) (h1 : as[j]? = some a) (h2 : vss[j]? = some vs) : H a = some (.lst vs) := by
  obtain ⟨x, y, e, _⟩ := nz_split h1 h2
  rw [e] at w
  exact (w.own (a, .lst vs) (by simp)).1
theorem W.nset (w : W F H (pre ++ (nz as vss ++ post))) (us : List V) (h1 : as[j]? = some a) (h2 : vss[j]? = some vs) : W F (upd H a (.lst us)) (pre ++ (nz as (vss.set j us) ++ post)) := by
  obtain ⟨x, y, e, e2⟩ := nz_split h1 h2
  rw [e] at w
  rw [e2]
  have w' : W F H ((pre ++ x) ++ (a, .lst vs) :: (y ++ post)) := by
    have e3 : pre ++ (x ++ (a, HO.lst vs) :: y ++ post) = (pre ++ x) ++ (a, HO.lst vs) :: (y ++ post) := by simp
    rw [← e3]
    exact w
  have w2 := w'.set (o' := .lst us)
  have e3 : pre ++ (x ++ (a, HO.lst us) :: y ++ post) = (pre ++ x) ++ (a, HO.lst us) :: (y ++ post) := by simp
  rw [e3]
  exact w2
/-- a cell goes into a store -/
theorem W.nadd (w : W F H ((p, .lst vs) :: (pre ++ (nz as vss ++ post)))) (hl : as.length = vss.length) : W F H (pre ++ (nz (as ++ [p]) (vss ++ [vs]) ++ post)) := by
  rw [nz_snoc hl]
  refine w.perm ?_
  have e : pre ++ (nz as vss ++ [(p, HO.lst vs)] ++ post) = (pre ++ nz as vss) ++ (p, HO.lst vs) :: post := by simp
  have e2 : (p, HO.lst vs) :: (pre ++ (nz as vss ++ post)) = (p, HO.lst vs) :: ((pre ++ nz as vss) ++ post) := by simp
  rw [e, e2]
  exact List.perm_middle.symm
theorem W.dropL (w : W F H (pre ++ (os ++ post))) : W F H (pre ++ post) where
  same := w.same
  own := fun q hq => w.own q (by
    rcases List.mem_append.mp hq with h | h
    · exact List.mem_append_left _ h
    · exact List.mem_append_right _ (List.mem_append_right _ h))
  nd := by
    have nd := w.nd
    rw [List.pairwise_append] at nd ⊢
    obtain ⟨n1, n2, n3⟩ := nd
    rw [List.pairwise_append] at n2
    exact ⟨n1, n2.2.1, fun x hx y hy => n3 x hx y (List.mem_append_right _ hy)⟩
  nt := fun q hq => w.nt q (by
    rcases List.mem_append.mp hq with h | h
    · exact List.mem_append_left _ h
    · exact List.mem_append_right _ (List.mem_append_right _ h))
/-- the j-th list of a store, taken out as a cell; the others forgotten -/
theorem W.ntake (w : W F H (pre ++ (nz as vss ++ post))) (h1 : as[j]? = some a) (h2 : vss[j]? = some vs) : W F H ((a, .lst vs) :: (pre ++ post)) := by
  obtain ⟨x, y, e, _⟩ := nz_split h1 h2
  rw [e] at w
  have w' : W F H ((pre ++ x) ++ (a, .lst vs) :: (y ++ post)) := by
    have e3 : pre ++ (x ++ (a, HO.lst vs) :: y ++ post) = (pre ++ x) ++ (a, HO.lst vs) :: (y ++ post) := by simp
    rw [← e3]
    exact w
  have w2 := w'.front
  have e4 : (a, HO.lst vs) :: (pre ++ x ++ (y ++ post)) = ((a, HO.lst vs) :: pre) ++ ((x ++ y) ++ post) := by simp
  rw [e4] at w2
  exact w2.dropL
/-- a whole store is never written again -/
theorem W.nfreeze : ∀ {as : List Addr} {vss : List (List V)} {F : Hp}, W F H (pre ++ (nz as vss ++ post)) → ∃ F', Same F F' ∧ W F' H (pre ++ post) ∧ ∀ (j : Nat) (a : Addr) (vs : List V), as[j]? = some a → vss[j]? = some vs → F' a = some (.lst vs)
  | [], _, F, w => ⟨F, Same.refl _, w, fun j a vs h => by simp at h⟩
  | _ :: _, [], F, w => ⟨F, Same.refl _, w, fun j a vs _ h => by simp at h⟩
  | b :: as, ws :: vss, F, w => by
    have w' : W F H (pre ++ (b, .lst ws) :: (nz as vss ++ post)) := w
    obtain ⟨F1, s1, w1, q1⟩ := w'.freezeE
    obtain ⟨F2, s2, w2, q2⟩ := W.nfreeze (as := as) (vss := vss) w1
    refine ⟨F2, s1.trans s2, w2, fun j a vs h1 h2 => ?_⟩
    cases j with
    | zero =>
      simp at h1 h2
      subst h1 h2
      exact s2 _ _ q1
    | succ j => exact q2 j a vs (by simpa using h1) (by simpa using h2)
end
/-! ### what stands in a store -/
section
variable {α β δ : Type} [Rep α] [Rep β] {K : Fg} {F F' H : Hp} {as as' : List Addr} {vss : List (List V)} {st : List (List α)}
structure Sto (K : Fg) (F : Hp) (as : List Addr) (vss : List (List V)) (st : List (List α)) : Prop where
  len : as.length = vss.length
  all : F2 (A2 (rep K F)) vss st
theorem Sto.nil : Sto K F [] [] ([] : List (List α)) := ⟨rfl, .nil⟩
theorem Sto.mono (s : Same F F') (h : Sto K F as vss st) : Sto K F' as vss st := ⟨h.len, h.all.imp fun _ _ q => q.mono s⟩
theorem Sto.len2 (h : Sto K F as vss st) : as.length = st.length := h.len.trans h.all.length
theorem Sto.get {j : Nat} {xs : List α} (h : Sto K F as vss st) (e : st[j]? = some xs) : ∃ a vs, as[j]? = some a ∧ vss[j]? = some vs ∧ A2 (rep K F) vs xs := by
  obtain ⟨vs, h1, h2⟩ := h.all.get e
  have hj := (List.getElem?_eq_some_iff.mp e).1
  rw [← h.len2] at hj
  exact ⟨as[j], vs, List.getElem?_eq_getElem hj, h1, h2⟩
theorem Sto.set {j : Nat} {vs : List V} {xs : List α} (h : Sto K F as vss st) (q : A2 (rep K F) vs xs) : Sto K F as (vss.set j vs) (st.set j xs) := ⟨by rw [List.length_set]; exact h.len, h.all.set q j⟩
theorem Sto.snoc {p : Addr} {vs : List V} {xs : List α} (h : Sto K F as vss st) (q : A2 (rep K F) vs xs) : Sto K F (as ++ [p]) (vss ++ [vs]) (st ++ [xs]) := ⟨by simp [h.len], h.all.snoc q⟩
/-- a number in a store -/
abbrev Ix := Nat
def RX (as : List Addr) (v : V) (j : Ix) : Prop := ∃ a, v = .ref a ∧ as[j]? = some a
theorem RX.mono (h : as <+: as') {v : V} {j : Ix} (q : RX as v j) : RX as' v j := by
  obtain ⟨a, e, q⟩ := q
  obtain ⟨t, rfl⟩ := h
  refine ⟨a, e, ?_⟩
  rw [List.getElem?_append_left (List.getElem?_eq_some_iff.mp q).1]
  exact q
theorem RX.new (h : as.length = n) {p : Addr} : RX (as ++ [p]) (.ref p) n := ⟨p, rfl, by rw [List.getElem?_append_right (by omega), ← h]; simp⟩
theorem IQ.mono (h : as <+: as') {a : Addr} {j : Nat} (q : as[j]? = some a) : as'[j]? = some a := by
  obtain ⟨t, rfl⟩ := h
  rw [List.getElem?_append_left (List.getElem?_eq_some_iff.mp q).1]
  exact q
theorem IQ.new {n : Nat} (h : as.length = n) {p : Addr} : (as ++ [p])[n]? = some p := by
  rw [List.getElem?_append_right (by omega), ← h]
  simp
theorem pfx_trans {as2 : List Addr} (h : as <+: as') (h' : as' <+: as2) : as <+: as2 := h.trans h'
theorem Sto.getq {j : Nat} {xs : List α} {a : Addr} (h : Sto K F as vss st) (e : st[j]? = some xs) (q : as[j]? = some a) : ∃ vs, vss[j]? = some vs ∧ A2 (rep K F) vs xs := h.all.get e
theorem pfx_refl : as <+: as := List.prefix_refl _
theorem pfx_snoc {p : Addr} : as <+: as ++ [p] := List.prefix_append _ _
/-- the list of a number -/
def getS (st : List (List α)) (j : Ix) : R (List α) := ofO st[j]?
theorem pb_getS {st : List (List α)} {j : Ix} {f : List α → R δ} {P : δ → Prop} {E : Exn → Prop} (h : Post (getS st j >>= f) P E) : ∃ xs, st[j]? = some xs ∧ Post (f xs) P E := pb_ofO h
/-- .. another list in its place -/
def setS (st : List (List α)) (j : Ix) (ys : List α) : R (List (List α)) := .ok (st.set j ys)
theorem pn_setS {st : List (List α)} {j : Ix} {ys : List α} {f : List (List α) → R δ} {P : δ → Prop} {E : Exn → Prop} (h : Post (setS st j ys >>= f) P E) : ∃ st', st' = st.set j ys ∧ Post (f st') P E := ⟨_, rfl, h⟩
/-- .. a new one -/
def newS (st : List (List α)) (ys : List α) : R (Ix × List (List α)) := .ok (st.length, st ++ [ys])
theorem pn_newS {st : List (List α)} {ys : List α} {f : Ix × List (List α) → R δ} {P : δ → Prop} {E : Exn → Prop} (h : Post (newS st ys >>= f) P E) : ∃ j st', j = st.length ∧ st' = st ++ [ys] ∧ Post (f (j, st')) P E := ⟨_, _, rfl, rfl, h⟩
/-- lists by their numbers -/
def deref (st : List (List α)) (js : List Ix) : R (List (List α)) := mapR (getS st) js
theorem deref_rep {vs : List V} {js : List Ix} {xss : List (List α)} (h : Sto K F as vss st) (hf : ∀ (j : Nat) (a : Addr) (vs : List V), as[j]? = some a → vss[j]? = some vs → F' a = some (.lst vs)) (s : Same F F')
    (hv : A2 (RX as) vs js) (e : deref st js = R.ok xss) : A2 (rep K F') vs xss := by
  induction hv generalizing xss with
  | nil =>
    cases e
    exact .nil
  | cons a b ih =>
    obtain ⟨ad, rfl, h1⟩ := a
    obtain ⟨ys, e1, e⟩ := bind_ok_iff.mp e
    obtain ⟨yss, e2, e⟩ := bind_ok_iff.mp e
    cases e
    rename_i j js' _ _
    unfold getS at e1
    cases q : st[j]? with
    | none => rw [q] at e1; cases e1
    | some zs =>
      rw [q] at e1
      cases e1
      obtain ⟨a', ws, h2, h3, h4⟩ := h.get q
      rw [h1] at h2
      cases h2
      exact .cons ⟨ad, ws, rfl, hf _ _ _ h1 h3, h4.mono s⟩ (ih e2)
theorem pb_deref {js : List Ix} {f : List (List α) → R δ} {P : δ → Prop} {E : Exn → Prop} (h : Post (deref st js >>= f) P E) : ∃ xss, deref st js = R.ok xss ∧ Post (f xss) P E := by
  cases e : deref st js with
  | ok xss =>
    rw [e] at h
    exact ⟨xss, rfl, h⟩
  | exc x =>
    exfalso
    clear h
    unfold deref at e
    induction js with
    | nil => cases e
    | cons j js ih =>
      have e' : (getS st j >>= fun y => mapR (getS st) js >>= fun ys => R.ok (y :: ys)) = R.exc x := e
      unfold getS at e'
      cases q : st[j]? with
      | none => rw [q] at e'; cases e'
      | some z =>
        rw [q] at e'
        have e2 : (mapR (getS st) js >>= fun ys => R.ok (z :: ys)) = R.exc x := e'
        cases q2 : mapR (getS st) js with
        | ok y => rw [q2] at e2; cases e2
        | exc y => rw [q2] at e2; cases e2; exact ih q2
        | bad => rw [q2] at e2; cases e2
  | bad =>
    rw [e] at h
    exact (show False from h).elim
end
section
variable {F H : Hp} {os os' pre post x : List (Addr × HO)} {a p : Addr} {o : HO} {as : List Addr} {vss : List (List V)} {j : Nat} {vs : List V}
/-! the second store -/
theorem W.as2 : pre ++ (x ++ (os ++ post)) = (pre ++ x) ++ (os ++ post) := by simp
theorem W.nget2 (w : W F H (pre ++ (x ++ (nz as vss ++ post)))) (h1 : as[j]? = some a) (h2 : vss[j]? = some vs) : H a = some (.lst vs) := (W.as2 ▸ w : W F H ((pre ++ x) ++ (nz as vss ++ post))).nget h1 h2
theorem W.nset2 (w : W F H (pre ++ (x ++ (nz as vss ++ post)))) (us : List V) (h1 : as[j]? = some a) (h2 : vss[j]? = some vs) : W F (upd H a (.lst us)) (pre ++ (x ++ (nz as (vss.set j us) ++ post))) := by
  rw [W.as2] at w ⊢
  exact w.nset us h1 h2
theorem W.nadd2 (w : W F H ((p, .lst vs) :: (pre ++ (x ++ (nz as vss ++ post))))) (hl : as.length = vss.length) : W F H (pre ++ (x ++ (nz (as ++ [p]) (vss ++ [vs]) ++ post))) := by
  rw [W.as2] at w ⊢
  exact w.nadd hl
theorem W.dropL0 (w : W F H (nz as vss ++ post)) : W F H post := W.dropL (pre := []) (os := nz as vss) w
theorem W.dropL2 (w : W F H (pre ++ (x ++ (os ++ post)))) : W F H (pre ++ (x ++ post)) := by
  rw [W.as2] at w
  have h := w.dropL
  rw [List.append_assoc] at h
  exact h
theorem W.nfreeze2 (w : W F H (pre ++ (x ++ (nz as vss ++ post)))) : ∃ F', Same F F' ∧ W F' H (pre ++ (x ++ post)) ∧ ∀ (j : Nat) (a : Addr) (vs : List V), as[j]? = some a → vss[j]? = some vs → F' a = some (.lst vs) := by
  rw [W.as2] at w
  obtain ⟨F', s, w', h⟩ := w.nfreeze
  rw [List.append_assoc] at w'
  exact ⟨F', s, w', h⟩
theorem W.ntake2 (w : W F H (pre ++ (x ++ (nz as vss ++ post)))) (h1 : as[j]? = some a) (h2 : vss[j]? = some vs) : W F H ((a, .lst vs) :: (pre ++ (x ++ post))) := by
  rw [W.as2] at w
  have h := w.ntake h1 h2
  rw [List.append_assoc] at h
  exact h
end
section
variable {K : Fg} {F : Hp} {a : Addr} {β : Type} {vs : List V} {xs : List β} {r : V → β → Prop}
theorem tw_listR (h : A2 r vs xs) : TW (Itl K a) xs (fun H => SqL K H a vs) (fun b H x H' => H' = H ∧ r x b) := ⟨by
  rw [← h.length]
  exact walk_list.mono (fun _ g => g) fun i H x H' _ _ y => by
    obtain ⟨y1, y2⟩ := y
    obtain ⟨b, h1, h2⟩ := h.getV y2
    exact ⟨b, h1, y1, h2⟩⟩
end
section
variable {F H : Hp} {os pre post x : List (Addr × HO)} {q : Addr × HO} {as : List Addr} {vss : List (List V)}
/-- a store behind the cells -/
theorem W.nback (w : W F H (q :: (nz as vss ++ (pre ++ post)))) : W F H (q :: (pre ++ (nz as vss ++ post))) := by
  refine w.perm (List.Perm.cons _ ?_)
  rw [← List.append_assoc, ← List.append_assoc]
  exact List.perm_append_comm.append_right _
variable {α : Type} [Rep α] {K : Fg} {a : Addr} {us : List V} {js : List Ix} {st xss : List (List α)}
theorem rl_all (s : Same F H) (hf : ∀ (j : Nat) (a : Addr) (vs : List V), as[j]? = some a → vss[j]? = some vs → H a = some (.lst vs)) (h : Sto K F as vss st) (hv : A2 (RX as) us js) (e : deref st js = R.ok xss) : A2 (rep K H) us xss := deref_rep h hf s hv e
theorem W.rl (w : W F H (pre ++ (nz as vss ++ post))) (qa : H a = some (.lst us)) (h : Sto K F as vss st) (hv : A2 (RX as) us js) (e : deref st js = R.ok xss) : rep K H (.ref a) xss :=
  ⟨a, us, rfl, qa, rl_all w.same (fun _ _ _ h1 h2 => w.nget h1 h2) h hv e⟩
theorem W.rl2 (w : W F H (pre ++ (x ++ (nz as vss ++ post)))) (qa : H a = some (.lst us)) (h : Sto K F as vss st) (hv : A2 (RX as) us js) (e : deref st js = R.ok xss) : rep K H (.ref a) xss :=
  ⟨a, us, rfl, qa, rl_all w.same (fun _ _ _ h1 h2 => w.nget2 h1 h2) h hv e⟩
end
/-! ### comprehensions, what is made told by the state -/
section
variable {J : It} {β γ δ ε : Type} {items : List β} {G : Hp → Prop} {Y : β → Hp → V → Hp → Prop} {g : TG} {tt : TT} {te : TE} {P : ε → Prop} {X : Exn → Prop} {K : Fg} {vs : List Nat} {σ : St} {F H1 : Hp} {os : List (Addr × HO)} {D : Addr} {Qd : Hp → Prop}
theorem lcG (tw : TW J items G Y) {f : γ → β → R (Option δ × γ)} {s0 : γ} {k : List δ × γ → R ε} (hm : Post (filStG f s0 items >>= k) P X) (O : γ → Hp → List (Addr × HO) → List V → List δ → Prop) (w : W F H1 os) (o0 : O s0 F os [] []) (nD : H1 D = none)
    (hl : ∀ c F' os' us ys, O c F' os' us ys → us.length = ys.length)
    (hG : ∀ c F' H' os' acc ys, Same F F' → W F' H' ((D, .lst acc) :: os') → O c F' os' acc ys → G H')
    (hs : ∀ (b : β) (c : γ) (x : V) (F' H' H'' : Hp) (os' : List (Addr × HO)) (acc : List V) (ys : List δ) (N : V → Hp → Prop) (N0 : Hp → Prop) (P' : Option δ × γ → Prop), Same F F' → W F' H' ((D, .lst acc) :: os') → O c F' os' acc ys → Y b H' x H'' →
      (∀ d c', P' (some d, c') → ∀ y F'' H'' os'', W F'' H'' ((D, .lst acc) :: os'') → Same F' F'' → O c' F'' os'' (acc ++ [y]) (ys ++ [d]) → N y H'') →
      (∀ c', P' (none, c') → ∀ F'' H'' os'', W F'' H'' ((D, .lst acc) :: os'') → Same F' F'' → O c' F'' os'' acc ys → N0 H'') → Post (f c b) P' X →
      g x (wipe σ vs) H'' fun σ2 H2 => wipe σ2 vs = wipe σ vs ∧ tt σ2 H2 fun b H3 => if b = true then te σ2 H3 N else N0 H3)
    (hd : ∀ c us F' H' os' ys, Same F F' → W F' H' ((D, .lst us) :: os') → O c F' os' us ys → Post (k (ys, c)) P X → Qd H') : LcAsk J g tt te vs σ H1 D Qd := by
  obtain ⟨hlen, hm⟩ := pb_grd (pb_assoc hm)
  have hlen : items.length < sizeLine := Nat.lt_of_lt_of_le (of_decide_eq_true hlen) line5
  refine lc_it tw.walk (fun i H => ∃ c F' os' us ys, i ≤ items.length ∧ Same F F' ∧ W F' H ((D, .lst us) :: os') ∧ O c F' os' us ys ∧ ys.length ≤ i ∧ Post (filSt f c (items.drop i) >>= fun q => k (ys ++ q.1, q.2)) P X) ?_ ?_ ?_ ?_
  · exact ⟨s0, F, os, [], [], Nat.zero_le _, Same.refl _, w.new nD, o0, Nat.le_refl _, hm⟩
  · rintro i H _ ⟨c, F', os', us, ys, _, s, w', o, _⟩
    exact hG c F' H os' us ys s w' o
  · rintro i x H H' hi ⟨c, F', os', us, ys, _, s, w', o, hl2, hm⟩ ⟨b, hb, y⟩
    rw [drop_cons hb] at hm
    have hm' : Post ((f c b >>= fun p => filSt f p.2 (items.drop (i + 1)) >>= fun q => match p.1 with
      | some y => (R.ok (y :: q.1, q.2) : R (List δ × γ))
      | none => R.ok q) >>= fun q => k (ys ++ q.1, q.2)) P X := hm
    rw [bind_bind] at hm'
    have hm2 := post_bind hm'
    have hul : us.length = ys.length := hl _ _ _ _ _ o
    refine hs b c x F' H H' os' us ys (fun y H4 => ∃ acc, H4 D = some (.lst acc) ∧ acc.length < sizeLine ∧ _) _ _ s w' o y ?_ ?_ hm2
    · intro d c' p2 y F'' H'' os'' w2 s2 o2
      refine ⟨us, w2.get (pre := []), by omega, c', F'', os'', us ++ [y], ys ++ [d], hi, s.trans s2, w2.set (pre := []), o2, by rw [List.length_append, List.length_singleton]; omega, ?_⟩
      have p3 : Post ((filSt f c' (items.drop (i + 1)) >>= fun q => (R.ok (d :: q.1, q.2) : R (List δ × γ))) >>= fun q => k (ys ++ q.1, q.2)) P X := p2
      rw [bind_bind] at p3
      have e : (fun q : List δ × γ => (R.ok (d :: q.1, q.2) : R (List δ × γ)) >>= fun q => k (ys ++ q.1, q.2)) = fun q => k (ys ++ [d] ++ q.1, q.2) := by
        funext q
        show k (ys ++ (d :: q.1), q.2) = k (ys ++ [d] ++ q.1, q.2)
        rw [List.append_assoc]
        rfl
      rw [e] at p3
      exact p3
    · intro c' p2 F'' H'' os'' w2 s2 o2
      refine ⟨c', F'', os'', us, ys, hi, s.trans s2, w2, o2, by omega, ?_⟩
      have p3 : Post ((filSt f c' (items.drop (i + 1)) >>= fun q => (R.ok q : R (List δ × γ))) >>= fun q => k (ys ++ q.1, q.2)) P X := p2
      rw [bind_bind] at p3
      exact p3
  · rintro H ⟨c, F', os', us, ys, _, s, w', o, _, hm⟩
    rw [List.drop_length] at hm
    have hm' : Post (k (ys ++ [], c)) P X := hm
    rw [List.append_nil] at hm'
    exact hd c us F' H os' ys s w' o hm'
theorem lcGM (tw : TW J items G Y) {f : γ → β → R (δ × γ)} {s0 : γ} {k : List δ × γ → R ε} (hm : Post (mapStG f s0 items >>= k) P X) (O : γ → Hp → List (Addr × HO) → List V → List δ → Prop) (w : W F H1 os) (o0 : O s0 F os [] []) (nD : H1 D = none)
    (hl : ∀ c F' os' us ys, O c F' os' us ys → us.length = ys.length)
    (hG : ∀ c F' H' os' acc ys, Same F F' → W F' H' ((D, .lst acc) :: os') → O c F' os' acc ys → G H')
    (hs : ∀ (b : β) (c : γ) (x : V) (F' H' H'' : Hp) (os' : List (Addr × HO)) (acc : List V) (ys : List δ) (N : V → Hp → Prop) (P' : δ × γ → Prop), Same F F' → W F' H' ((D, .lst acc) :: os') → O c F' os' acc ys → Y b H' x H'' →
      (∀ d c', P' (d, c') → ∀ y F'' H'' os'', W F'' H'' ((D, .lst acc) :: os'') → Same F' F'' → O c' F'' os'' (acc ++ [y]) (ys ++ [d]) → N y H'') → Post (f c b) P' X →
      g x (wipe σ vs) H'' fun σ2 H2 => wipe σ2 vs = wipe σ vs ∧ te σ2 H2 N)
    (hd : ∀ c us F' H' os' ys, Same F F' → W F' H' ((D, .lst us) :: os') → O c F' os' us ys → Post (k (ys, c)) P X → Qd H') : LcAsk J g tYes te vs σ H1 D Qd := by
  have e : ∀ (s : γ) (l : List β), filSt (fun c b => f c b >>= fun p => R.ok (some p.1, p.2)) s l = mapSt f s l := by
    intro s l
    induction l generalizing s with
    | nil => rfl
    | cons b l ih =>
      show ((f s b >>= fun p => R.ok (some p.1, p.2)) >>= fun p => filSt (fun c b => f c b >>= fun p => R.ok (some p.1, p.2)) p.2 l >>= fun q => match p.1 with
        | some y => (R.ok (y :: q.1, q.2) : R (List δ × γ))
        | none => R.ok q) = (f s b >>= fun p => mapSt f p.2 l >>= fun q => .ok (p.1 :: q.1, q.2))
      rw [bind_bind]
      refine congrArg (f s b >>= ·) ?_
      funext p
      show (filSt (fun c b => f c b >>= fun p => R.ok (some p.1, p.2)) p.2 l >>= fun q => (R.ok (p.1 :: q.1, q.2) : R (List δ × γ))) = _
      rw [ih]
  have hm' : Post (filStG (fun c b => f c b >>= fun p => R.ok (some p.1, p.2)) s0 items >>= k) P X := by
    unfold filStG
    simp only [e]
    exact hm
  refine lcG tw hm' O w o0 nD hl hG (fun b c x F' H' H'' os' acc ys N N0 P' s w' o y hN hN0 hp => ?_) hd
  exact hs b c x F' H' H'' os' acc ys N _ s w' o y (fun d c' p2 y F'' H'' os'' w2 s2 o2 => hN d c' p2 y F'' H'' os'' w2 s2 o2) (post_bind hp)
end
end Z
/-! Z6: constants of the module, things, dicts as written and asked -/
namespace Z
open PySem L2
open Rep (rep)
section
variable {X : Cx}
theorem pe_globI {x : Str} {n : Int} {pos : Pos} (hg : Gl X x) (h : ∃ t, X.mg x = some (.int n t)) (hd : (x == ("__debug__" : Str)) = false := by decide) : PE X (.Name x pos) (tC (.int n)) := by
  obtain ⟨t, e⟩ := h
  exact pe_glob hg e ⟨_, rfl⟩ hd
theorem call_intB : CallR X (.type "int") (fun xs H Q => ∃ k, xs = [.bl k] ∧ Q (.int (if k = true then 1 else 0)) H) := by
  intro pins s σ H xs us Q I r ⟨k, e, q⟩
  exact call_int1 pins s σ H xs us Q I r (.inr ⟨k, e, q⟩)
end
theorem call_lenDR {X : Cx} : CallR X (.builtin "len") (fun xs H Q => ∃ (a : Addr) (kvs : List (Key × V)) (n : Nat), xs = [V.ref a] ∧ H a = some (.dK kvs) ∧ kvs.length = n ∧ Q (.int (n : Int)) H) := by
  intro pins s σ H xs us Q I r ⟨a, kvs, n, e, h, hn, q⟩
  subst hn
  exact call_lenD pins s σ H xs us Q I r ⟨a, kvs, e, h, q⟩
/-- a while's fuel, not to be reckoned with -/
@[irreducible] def fu (n : Nat) : Nat := n
theorem fu_eq (n : Nat) : fu n = n := by
  unfold fu
  rfl
/-- x in l -/
abbrev inB {α : Type} [DecidableEq α] (x : α) (l : List α) : Bool := decide (x ∈ l)
theorem inB_t {α : Type} [DecidableEq α] {x : α} {l : List α} : inB x l = true ↔ x ∈ l := decide_eq_true_iff
theorem inB_f {α : Type} [DecidableEq α] {x : α} {l : List α} : inB x l = false ↔ x ∉ l := decide_eq_false_iff_not
def b2i (b : Bool) : Int := if b = true then 1 else 0
/-! ### things -/
def Thing.isPl : Thing → Bool
  | .pl _ => true
  | .ti _ _ => false
def asPl : Thing → R Int
  | .pl i => .ok i
  | .ti _ _ => .bad
def asTi : Thing → R (Int × Int)
  | .pl _ => .bad
  | .ti a b => .ok (a, b)
def mkpl (xs : List Int) : List Thing := xs.map Thing.pl
def mkti (xs : List (Int × Int)) : List Thing := xs.map fun p => Thing.ti p.1 p.2
section
variable {δ : Type} {P : δ → Prop} {E : Exn → Prop} {K : Fg} {F H : Hp}
theorem pb_asPl {t : Thing} {f : Int → R δ} (h : Post (asPl t >>= f) P E) : ∃ i, t = .pl i ∧ Post (f i) P E := by
  cases t with
  | pl i => exact ⟨i, rfl, h⟩
  | ti a b => exact (show False from h).elim
theorem pb_asTi {t : Thing} {f : Int × Int → R δ} (h : Post (asTi t >>= f) P E) : ∃ q : Int × Int, t = .ti q.1 q.2 ∧ Post (f q) P E := by
  cases t with
  | pl i => exact (show False from h).elim
  | ti a b => exact ⟨(a, b), rfl, h⟩
theorem A2.pl : ∀ {vs : List V} {xs : List Int}, A2 (rep K F) vs xs → A2 (rep K F) vs (mkpl xs)
  | _, _, .nil => .nil
  | _, _, .cons h t => .cons h (A2.pl t)
theorem A2.ti : ∀ {vs : List V} {xs : List (Int × Int)}, A2 (rep K F) vs xs → A2 (rep K F) vs (mkti xs)
  | _, _, .nil => .nil
  | _, _, .cons h t => .cons h (A2.ti t)
theorem th_ty (s : Same F H) {v : V} {t : Thing} (r : rep K F v t) : ∃ a, TyOf K H v (.type a) ∧ (a = "int" ∧ t.isPl = true ∨ a = "tuple" ∧ t.isPl = false) := by
  cases t with
  | pl i =>
    have r' : v = V.int i := r
    subst r'
    exact ⟨_, .int i, .inl ⟨rfl, rfl⟩⟩
  | ti a b =>
    obtain ⟨c, u, w, rfl, q, _⟩ := (show rep K F v (a, b) from r)
    exact ⟨_, .tup (s _ _ q), .inr ⟨rfl, rfl⟩⟩
theorem th_int (s : Same F H) {v : V} {t : Thing} (r : rep K F v t) : ∃ a, TyOf K H v (.type a) ∧ kitB a "int" = some t.isPl := by
  obtain ⟨a, h, z⟩ := th_ty s r
  rcases z with ⟨rfl, e⟩ | ⟨rfl, e⟩
  · exact ⟨_, h, by rw [e]; decide +kernel⟩
  · exact ⟨_, h, by rw [e]; decide +kernel⟩
theorem th_tuple (s : Same F H) {v : V} {t : Thing} (r : rep K F v t) : ∃ a, TyOf K H v (.type a) ∧ kitB a "tuple" = some (!t.isPl) := by
  obtain ⟨a, h, z⟩ := th_ty s r
  rcases z with ⟨rfl, e⟩ | ⟨rfl, e⟩
  · exact ⟨_, h, by rw [e]; decide +kernel⟩
  · exact ⟨_, h, by rw [e]; decide +kernel⟩
theorem th_bool (s : Same F H) {v : V} {t : Thing} (r : rep K F v t) : ∃ a, TyOf K H v (.type a) ∧ kitB a "bool" = some false := by
  obtain ⟨a, h, z⟩ := th_ty s r
  rcases z with ⟨rfl, e⟩ | ⟨rfl, e⟩
  · exact ⟨_, h, by decide +kernel⟩
  · exact ⟨_, h, by decide +kernel⟩
end
/-! ### dicts of scalars: as written, asked -/
section
variable {κ β γ : Type} [DecidableEq κ]
/-- as a display makes it -/
def mmk (l : List (κ × β)) : List (κ × β) := l.foldl (fun m p => mput m p.1 p.2) []
theorem merge_enc {ev : β → V} (l m : List (Int × β)) : mergeK (encM kI ev m) (encM kI ev l) = encM kI ev (l.foldl (fun m p => mput m p.1 p.2) m) := by
  induction l generalizing m with
  | nil => rfl
  | cons p l ih =>
    show mergeK (putK (encM kI ev m) (kI p.1) (ev p.2)) (encM kI ev l) = _
    rw [put_enc kI_inj, ih]
    rfl
end
section
variable {β δ : Type} {ev : β → V} {H : Hp} {a b : Addr} {P : δ → Prop} {E : Exn → Prop}
theorem dgets_k {m : List (Int × β)} {k : Int} {t : β} (e : H a = some (.dK (encM kI ev m))) (q : mget m k = some t) : DGet H a (.int k) (some (ev t)) := by
  have h := dget_k (k := k) e
  rw [q] at h
  exact h
theorem dgets_p {m : List ((Int × Int) × β)} {k : Int × Int} {t : β} (e : H a = some (.dT (encM kP ev m))) (eb : H b = some (.tup [.int k.1, .int k.2])) (q : mget m k = some t) : DGet H a (.ref b) (some (ev t)) := by
  have h := dget_p (k := k) e eb
  rw [q] at h
  exact h
theorem pb_mget {κ : Type} [DecidableEq κ] {m : List (κ × β)} {k : κ} {f : β → R δ} (h : Post (mgetR m k >>= f) P E) : ∃ t, mget m k = some t ∧ Post (f t) P E := pb_ofO h
theorem getD_ev (f : β → V) (o : Option β) (d : β) : (o.map f).getD (f d) = f (o.getD d) := by cases o <;> rfl
theorem isD_k {kvs : List (Key × V)} (e : H a = some (.dK kvs)) : IsD H a := .inl ⟨kvs, .inl e⟩
theorem isD_t {kvs : List (List Key × V)} (e : H a = some (.dT kvs)) : IsD H a := .inr ⟨kvs, .inl e⟩
end
def tDGet2R (td ty tx : TE) : TE := fun σ H Q => td σ H fun x H1 => ∃ a, x = .ref a ∧ IsD H1 a ∧ ty σ H1 fun y H2 => tx σ H2 fun z H3 => ∃ o r, DGet H3 a y o ∧ o.getD z = r ∧ Q r H3
section
variable {X : Cx} {o e f : Expr} {apos cpos : Pos} {td ty tx : TE}
theorem pe_dget2R (hu : X.A.units + 1 < cLine) (ho : PE X o td) (he : PE X e ty) (hf : PE X f tx) (m : M2 X o "get" apos e f cpos) : PE X (.Call (.Attribute o "get" apos) [e, f] [] cpos) (tDGet2R td ty tx) := by
  refine ⟨fun pins s σ H Q I h => ?_⟩
  refine wpAny_Call_method m.base m.few m.line PySem.F.plainAttrs_dict PySem.F.slot_dict_get PySem.F.type_dict_get (thn (ho.run pins s σ H _ I h) fun u s1 ⟨x, H1, I1, rx, a, ex, d, q1⟩ => ?_)
  subst ex
  obtain rfl : u = Value.ref a := rx
  obtain ⟨t1, t2, _⟩ := isD_at I1 d
  refine ⟨t1, t2, ?_⟩
  rw [m.trees]
  refine Calls.callWith_builtin rfl (Calls.evalArgs_plain (Calls.spliced_cons (thn (he.run pins s1 σ H1 _ I1 q1) fun iv s2 ⟨y, H2, I2, ry, q2⟩ =>
    Calls.spliced_cons (thn (hf.run pins s2 σ H2 _ I2 q2) fun fv s3 ⟨z, H3, I3, rz, ov, r, g, er, q3⟩ => Calls.spliced_nil ?_))))
  subst er
  exact d_get2 hu I3 g ry rz fun w' s4 I4 rw' => ⟨_, H3, I4, rw', q3⟩
end
/-! ### tuples cut and joined -/
section
variable {X : Cx} {K : Fg}
theorem sl_tupU (hK : X.K = K) : SlR X (fun x lo hi H Q => ∃ (a : Addr) (xs : List V) (F : Hp) (os : List (Addr × HO)), x = .ref a ∧ W F H os ∧ F a = some (.tup xs) ∧ ∀ p F' H', Same F F' → W F' H' os → F' p = some (.tup (cutV xs lo hi)) → Q (.ref p) H') := by
  subst hK
  intro pins s σ H x v vl vu lo hi sl Q I rx hs pl pu ⟨a, xs, F, os, e, w, q, h⟩
  refine sl_tupA pins s σ H x v vl vu lo hi sl Q I rx hs pl pu ⟨a, xs, e, SqT.of (w.same _ _ q), fun c => ?_, fun _ p hp => ?_⟩
  · refine h a F H (Same.refl _) w ?_
    have ec : cutV xs lo hi = xs := by
      unfold cutV
      rw [c.1, c.2]
      simp
    rw [ec]
    exact q
  · obtain ⟨F', s', w', q'⟩ := w.frzE (o := .tup (cutV xs lo hi)) hp
    exact h p F' _ s' w' q'
theorem op_catU (hK : X.K = K) : OpR X (binaryOp .Add) (fun x y H Q => ∃ (a b : Addr) (xs ys : List V) (F : Hp) (os : List (Addr × HO)), x = .ref a ∧ y = .ref b ∧ W F H os ∧ F a = some (.tup xs) ∧ F b = some (.tup ys) ∧ xs.length + ys.length ≤ sizeLine ∧
    ∀ p F' H', Same F F' → W F' H' os → F' p = some (.tup (xs ++ ys)) → Q (.ref p) H') := by
  subst hK
  intro pins s σ H x y v u Q I rx ry ⟨a, b, xs, ys, F, os, e1, e2, w, qa, qb, hl, h⟩
  refine op_catA pins s σ H x y v u Q I rx ry ⟨a, b, xs, ys, e1, e2, SqT.of (w.same _ _ qa), SqT.of (w.same _ _ qb), hl, fun c => ?_, fun c d => ?_, fun _ _ p hp => ?_⟩
  · subst c
    exact h b F H (Same.refl _) w qb
  · subst d
    exact h a F H (Same.refl _) w (by rw [List.append_nil]; exact qa)
  · obtain ⟨F', s', w', q'⟩ := w.frzE (o := .tup (xs ++ ys)) hp
    exact h p F' _ s' w' q'
end
end Z
/-! Z7: dicts of tuple keys whose values are lists of a store; their values walked -/
namespace L2
open PySem PySem.Spec PyProof.Rows
/-- the values of the locked dict at d, of tuple keys -/
def ItdT (d : Addr) (o : Obj) (kvs : List (List Key × V)) : It :=
  ⟨fun i H => H d = some (.frz o (.dT kvs)) ∧ i < kvs.length, fun i H x H' => H' = H ∧ ∃ k, kvs[i]? = some (k, x), fun i H => H d = some (.frz o (.dT kvs)) ∧ kvs.length ≤ i⟩
section
variable {X : Cx} {pins : List (Addr × Obj)} {σ : St} {H : Hp} {s : Shared} {d : Addr} {o : Obj}
theorem Inv.frzTV {kvs : List (List Key × V)} (I : Inv X pins σ H s) (h : H d = some (.frz o (.dT kvs))) :
    (d == sysModules) = false ∧ s.heap.get? d = some o ∧ o.ExactDict ∧ ∃ (es : Array DictEntry) (ep : Nat), o.data = .dict es ep ∧ es.size = kvs.length ∧
      ∀ (i : Nat) (k : List Key) (v : V), kvs[i]? = some (k, v) → ∃ en : DictEntry, es[i]? = some en ∧ RelV v en.val := by
  obtain ⟨hd, z, hs, xs, pr, o', es, ep, ho, hx, hdt, he, _⟩ := I.hok d _ h
  rw [hd] at ho
  cases ho
  refine ⟨hs, hd, hx, es, ep, hdt, ?_, fun i k v e => ?_⟩
  · have l1 : es.size = xs.length := size_of_entries he
    have l2 : kvs.length = xs.length := Paired.length pr
    omega
  · obtain ⟨b, hb, e1, e2, e3⟩ := paired_get pr e
    have q := entry_at he i
    rw [hb] at q
    exact ⟨_, q, e3⟩
end
section
variable {P : Program} {w : World} {K : PySem.W.Frag} {tg : Expr} {d : Addr} {o : Obj} {es : Array DictEntry} {ep : Nat}
theorem turn_valsT {kvs : List (List Key × V)} (it : Addr) (hod : o.data = .dict es ep) : Turn P w K tg (ItdT d o kvs) [it] it (fun i h => h.IsValIter it d i kvs.length ep) where
  mem := by simp
  obj := fun i h st b hb => by
    have e : b = it := by simpa using hb
    subst e
    obtain ⟨oi, e, c, dd⟩ := st
    exact ⟨oi, e, fun v z => by rw [dd] at z; cases z⟩
  keep := fun i h h' st k => st.at fun oi e => k it (by simp) oi e
  item := by
    intro X hP hw hK hc i pins s σ H E I hf st hg
    subst hP hw hK
    obtain ⟨hd, hi⟩ := hg
    obtain ⟨f0, f1, f2, f3, f4, f5⟩ := hf it (by simp)
    obtain ⟨hs, hgd, hx, es', ep', hdt, hsz, ent⟩ := I.frzTV hd
    obtain ⟨rfl, rfl⟩ := dict_ep hod hdt
    obtain ⟨⟨k, v⟩, hkv⟩ : ∃ p, kvs[i]? = some p := ⟨kvs[i], List.getElem?_eq_getElem hi⟩
    obtain ⟨en, hen, ru⟩ := ent i k v hkv
    have hil : i < es'.size := by omega
    have een : es'[i] = en := by
      rw [Array.getElem?_eq_getElem hil] at hen
      exact Option.some.inj hen
    rw [← hsz] at st
    refine wpAny_pyNext_values_item_raw st ⟨o, hgd, hx, hdt⟩ hil fun h' st' sb => ?_
    have I1 : Inv X pins σ H { s with heap := h' } := I.turned (t' := s.toks) (fun b ob hb e => (sb.2 b hb).trans e) f0 f1 f3 f4 f5
    obtain ⟨oi, e, c, dd⟩ := id st'
    refine ⟨_, rfl, go_of (s := { s with heap := h' }) e c dd (by decide) ⟨v, H, I1, by rw [een]; exact ru, ⟨rfl, k, hkv⟩, ?_, fun b hb => (hf b hb).1⟩⟩
    show h'.IsValIter it d (i + 1) kvs.length _
    rw [← hsz]
    exact st'
  done := by
    intro X hP hw hK hc i pins s σ H E I hf st hg
    subst hP hw hK
    obtain ⟨hd, hi⟩ := hg
    obtain ⟨f0, f1, f2, f3, f4, f5⟩ := hf it (by simp)
    obtain ⟨hs, hgd, hx, es', ep', hdt, hsz, ent⟩ := I.frzTV hd
    obtain ⟨rfl, rfl⟩ := dict_ep hod hdt
    rw [← hsz] at st
    exact wpAny_pyNext_values_end_raw (I.ok.hd hc) st ⟨o, hgd, hx, hdt⟩ (by omega) fun h' eb => ⟨rfl, I.turned (t' := s.toks) (fun b ob hb e => eb b ob hb e) f0 f1 f3 f4 f5⟩
  self := fun A i s Q E st h => wpAny_pyIter_valiter st h
end
/-- d.values() of a dict that is locked from there on -/
def iValsT (td : TE) : TI := fun σ H R => td σ H fun x H1 => ∃ d kvs, x = .ref d ∧ H1 d = some (.dT kvs) ∧ ∀ od, R (ItdT d od kvs) (upd H1 d (.frz od (.dT kvs)))
section
variable {X : Cx} {tg e : Expr} {td : TE} {apos cpos : Pos}
theorem pi_valuesT (he : PE X e td) (hbase : attributeBase e "values" X.env (eval e X.env) = eval e X.env := by rfl) (hline : (apos.endLine == cpos.line) = true := by rfl) : PI X tg (.Call (.Attribute e "values" apos) [] [] cpos) (iValsT td) := by
  refine ⟨fun pins s σ H R I h => ?_⟩
  refine wpAny_Call_method (T := "dict") (id := "dict.values") hbase rfl hline F.plainAttrs_dict F.slot_dict_values F.type_dict_values (thn (he.run pins s σ H _ I h) fun u s1 ⟨x, H0, I0, rx, d, kvs, ex, hd0, q0⟩ => ?_)
  subst ex
  obtain rfl : u = Value.ref d := rx
  obtain ⟨od, I1⟩ := I0.lock hd0 (by exact True.intro)
  have q := q0 od
  have hd : upd H0 d (.frz od (.dT kvs)) d = some (.frz od (.dT kvs)) := upd_same
  obtain ⟨hs, hgd, hx, es, ep, hdt, hsz, ent⟩ := I1.frzTV hd
  have hm : s1.heap.DictRaw d es ep := ⟨od, hgd, hx, hdt⟩
  refine ⟨hm.typeIs, fun b hb => ?_, ?_⟩
  · cases hb
    exact ⟨od, hgd, hx.2.1⟩
  have I2 : Inv X pins σ (upd H0 d (.frz od (.dT kvs))) { s1 with heap := s1.heap.push { cls := .type "dict_values", data := .fields #[.ref d] } } := I1.kept (t' := s1.toks) fun b ob q => Heap.get?_push_of_some _ q
  have fin : wpAny (model X.prog X.w) X.A (pyIter (.ref s1.heap.objs.size)) (PIE X pins σ tg R) X.xe { s1 with heap := s1.heap.push { cls := .type "dict_values", data := .fields #[.ref d] } } := by
    refine wpAny_pyIter_values_raw (d := d) (es := es) (ep := ep) ⟨_, Heap.get?_push_size _ rfl, rfl, rfl⟩ (hm.at fun o q => Heap.get?_push_of_some _ q) (pi_one (tk := s1.toks) I2 _ (turn_valsT _ hdt) ⟨_, Heap.get?_push_size _ rfl, rfl, ?_⟩ q)
    rw [hsz] <;> rfl
  show wpAny _ _ (callWith cpos (.builtin "dict.values") [.ref d] [] []) _ X.xe s1
  exact method_meetsIn F.slot_dict_values F.entry_dict_values rfl (PySem.evalArgs_none ⟨rfl, hm.typeIs, F.args_dict_values_1 _, _, meets_dict_values_raw d hs, ⟨es, ep, hm⟩, fin⟩)
end
end L2
namespace Z
open PySem L2
open Rep (rep)
/-! ### dicts by what their values stand for -/
section
variable {κ β γ : Type} [DecidableEq κ] [DecidableEq γ] {e : κ → γ} {r r' : V → β → Prop}
inductive AD (e : κ → γ) (r : V → β → Prop) : List (γ × V) → List (κ × β) → Prop
  | nil : AD e r [] []
  | cons {k : κ} {v : V} {x : β} {kvs : List (γ × V)} {m : List (κ × β)} : r v x → AD e r kvs m → AD e r ((e k, v) :: kvs) ((k, x) :: m)
theorem AD.length : ∀ {kvs : List (γ × V)} {m : List (κ × β)}, AD e r kvs m → kvs.length = m.length
  | _, _, .nil => rfl
  | _, _, .cons _ t => by rw [List.length_cons, List.length_cons, AD.length t]
theorem AD.imp (f : ∀ v x, r v x → r' v x) : ∀ {kvs : List (γ × V)} {m : List (κ × β)}, AD e r kvs m → AD e r' kvs m
  | _, _, .nil => .nil
  | _, _, .cons h t => .cons (f _ _ h) (AD.imp f t)
theorem AD.no (he : ∀ a b, e a = e b → a = b) {k : κ} : ∀ {kvs : List (γ × V)} {m : List (κ × β)}, AD e r kvs m → (valV kvs (e k)).isSome = mhas m k
  | _, _, .nil => rfl
  | _, _, .cons (k := j) (v := v) (x := x) (kvs := kvs) (m := m) h t => by
    show _ = (decide (j = k) || mhas m k)
    by_cases q : j = k
    · rw [valV_pos (congrArg e q), decide_eq_true q]; rfl
    · rw [valV_neg (fun z => q (he _ _ z)), decide_eq_false q, AD.no he t]; rfl
theorem AD.get (he : ∀ a b, e a = e b → a = b) {k : κ} {y : β} : ∀ {kvs : List (γ × V)} {m : List (κ × β)}, AD e r kvs m → mget m k = some y → ∃ v, valV kvs (e k) = some v ∧ r v y
  | _, _, .nil, h => by cases h
  | _, _, .cons (k := j) (v := v) (x := x) (kvs := kvs) (m := m) h t, g => by
    unfold mget at g
    by_cases q : j = k
    · rw [List.find?_cons_of_pos (by simpa using q)] at g
      cases g
      exact ⟨v, valV_pos (congrArg e q), h⟩
    · rw [List.find?_cons_of_neg (by simpa using q)] at g
      obtain ⟨u, h1, h2⟩ := AD.get he (k := k) t g
      exact ⟨u, by rw [valV_neg (fun z => q (he _ _ z))]; exact h1, h2⟩
theorem AD.snoc {k : κ} {v : V} {x : β} (h : r v x) : ∀ {kvs : List (γ × V)} {m : List (κ × β)}, AD e r kvs m → AD e r (kvs ++ [(e k, v)]) (m ++ [(k, x)])
  | _, _, .nil => .cons h .nil
  | _, _, .cons a t => .cons a (AD.snoc h t)
theorem AD.upd (he : ∀ a b, e a = e b → a = b) {k : κ} {v : V} {x : β} (h : r v x) : ∀ {kvs : List (γ × V)} {m : List (κ × β)}, AD e r kvs m → AD e r (kvs.map fun p => if p.1 = e k then (p.1, v) else p) (m.map fun p => if p.1 = k then (p.1, x) else p)
  | _, _, .nil => .nil
  | _, _, .cons (k := j) (v := u) (x := y) (kvs := kvs) (m := m) a t => by
    rw [List.map_cons, List.map_cons]
    by_cases q : j = k
    · subst q
      rw [if_pos rfl, if_pos rfl]
      exact .cons h (AD.upd he h t)
    · rw [if_neg q, if_neg (fun z => q (he _ _ z))]
      exact .cons a (AD.upd he h t)
theorem AD.any (he : ∀ a b, e a = e b → a = b) {k : κ} : ∀ {kvs : List (γ × V)} {m : List (κ × β)}, AD e r kvs m → (kvs.any fun p => decide (p.1 = e k)) = m.any fun p => decide (p.1 = k)
  | _, _, .nil => rfl
  | _, _, .cons (k := j) (kvs := kvs) (m := m) a t => by
    rw [List.any_cons, List.any_cons, AD.any he t]
    congr 1
    by_cases q : j = k
    · rw [q]; simp
    · rw [decide_eq_false q, decide_eq_false (fun z => q (he _ _ z))]
theorem AD.put (he : ∀ a b, e a = e b → a = b) {k : κ} {v : V} {x : β} {kvs : List (γ × V)} {m : List (κ × β)} (t : AD e r kvs m) (h : r v x) : AD e r (putK kvs (e k) v) (mput m k x) := by
  unfold putK mput
  rw [t.any he]
  by_cases q : (m.any fun p => decide (p.1 = k)) = true
  · rw [if_pos q, if_pos q]
    exact t.upd he h
  · rw [if_neg q, if_neg q]
    exact t.snoc h
theorem AD.vals : ∀ {kvs : List (γ × V)} {m : List (κ × β)}, AD e r kvs m → ∀ {i : Nat} {k : γ} {v : V}, kvs[i]? = some (k, v) → ∃ x, (m.map (·.2))[i]? = some x ∧ r v x
  | _, _, .nil, i, k, v, h => by simp at h
  | _, _, .cons (k := j) (v := u) (x := x) a t, 0, k, v, h => by
    simp at h
    obtain ⟨_, rfl⟩ := h
    exact ⟨x, rfl, a⟩
  | _, _, .cons a t, i + 1, k, v, h => by
    obtain ⟨x, h1, h2⟩ := AD.vals t (i := i) (k := k) (v := v) (by simpa using h)
    exact ⟨x, by simpa using h1, h2⟩
end
/-- a tuple of ints as a key -/
def kT (t : Tup Int) : List Key := t.l.map Sum.inl
theorem kT_inj : ∀ a b, kT a = kT b → a = b := fun a b h => by
  have g : ∀ xs ys : List Int, (xs.map Sum.inl : List Key) = ys.map Sum.inl → xs = ys := by
    intro xs
    induction xs with
    | nil => intro ys e; cases ys <;> first | rfl | cases e
    | cons x xs ih =>
      intro ys e
      cases ys with
      | nil => cases e
      | cons y ys =>
        rw [List.map_cons, List.map_cons] at e
        injection e with e1 e2
        rw [Sum.inl.inj e1, ih ys e2]
  have : a.l = b.l := g _ _ h
  cases a
  cases b
  simp at this
  rw [this]
section
variable {K : Fg} {F H : Hp} {a b : Addr} {kvs : List (List Key × V)} {vs : List V} {t : Tup Int} {β : Type} {r : V → β → Prop} {m : List (Tup Int × β)}
theorem key_tup (s : Same F H) (q : F b = some (.tup vs)) (h : A2 (rep K F) vs t.l) : H b = some (.tup ((kT t).map kV)) := by
  have e : vs = (kT t).map kV := by
    rw [h.ints]
    unfold kT
    rw [List.map_map]
    rfl
  rw [← e]
  exact s _ _ q
theorem dgetA (e : H a = some (.dT kvs)) (eb : H b = some (.tup ((kT t).map kV))) : DGet H a (.ref b) (valV kvs (kT t)) := DGet.t e eb
theorem dgetsA {v : V} (e : H a = some (.dT kvs)) (eb : H b = some (.tup ((kT t).map kV))) (q : valV kvs (kT t) = some v) : DGet H a (.ref b) (some v) := by
  have h := dgetA (t := t) e eb
  rw [q] at h
  exact h
theorem dputA {v : V} (e : H a = some (.dT kvs)) (eb : H b = some (.tup ((kT t).map kV))) (h : AD kT r kvs m) (hl : m.length < sizeLine) : DPut H a (.ref b) v (upd H a (.dT (putK kvs (kT t) v))) := DPut.t e eb (by rw [h.length]; exact hl)
theorem tw_valsT {d : Addr} {o : Obj} (h : AD kT r kvs m) : TW (ItdT d o kvs) (m.map (·.2)) (fun H => H d = some (.frz o (.dT kvs))) (fun b H x H' => H' = H ∧ r x b) := ⟨by
  rw [List.length_map, ← h.length]
  refine ⟨fun _ _ hi q => ⟨q, hi⟩, fun _ q => ⟨q, Nat.le_refl _⟩, fun i H x H' _ _ y => ?_⟩
  obtain ⟨e, k, hk⟩ := y
  obtain ⟨b, h1, h2⟩ := h.vals hk
  exact ⟨b, h1, e, h2⟩⟩
end
section
variable {X : Cx} {K : Fg}
/-- l.index(x), of data -/
theorem mt_indexDt (hK : X.K = K) (α : Type) [Dat α] [DecidableEq α] (hd : Dat.dmax α ≤ 50) (hu : X.A.units + 65 < cLine) : MtR X "list.index" (fun x xs H Q => ∃ (a : Addr) (u : V) (ys : List α) (y : α) (j : Nat), x = V.ref a ∧ xs = [u] ∧ rep K H (V.ref a) ys ∧ rep K H u y ∧ fidx y ys = some j ∧ Q (.int (j : Int)) H) := by
  subst hK
  intro pins s σ H x xs v us Q I rx rxs ⟨a, u, ys, y, j, e1, e2, hs, hy, hj, q⟩
  obtain ⟨h1, h2⟩ := fidx_spec hj
  refine mt_indexD hu pins s σ H x xs v us Q I rx rxs ⟨a, u, Dat.toD y, ys.map Dat.toD, j, Dat.toD y, e1, e2, Dat.dp hs, Dat.dp hy, shapedD (α := List α) (by show Dat.dmax α + 1 ≤ 60; omega) ys, shapedD (by omega) y, ?_, ?_, fun m z hm hz => ?_, q⟩
  · rw [List.getElem?_map, h1]
    rfl
  · rw [eqvD]
    exact decide_eq_true rfl
  · rw [List.getElem?_map] at hz
    cases e : ys[m]? with
    | none => rw [e] at hz; cases hz
    | some t =>
      rw [e] at hz
      cases hz
      rw [eqvD]
      exact decide_eq_false (h2 m t hm e)
end
end Z
/-! Z8: set(list of ints), sorted of it; list.count of data; list.insert -/
namespace L2
open PySem PySem.Spec PyProof.Rows
section
variable {P : Program} {w : World} {A : Around} {E : Value → Shared → Prop} {s : Shared}
set_option maxHeartbeats 3200000 in
/-- set(l) of a list of ints (turned from the tuple's, call_set_tupI) -/
theorem set_of_listI {l : Addr} {items : Array Value} (ns : List Int) {Q : Value → Shared → Prop} (hh : A.handled = none) (hl : s.heap.IsList l items) (hit : IntsAre items.toList ns) (hb : ns.length + 1 < scanBound)
    (h : ∀ (h' : Heap) (tk c : Nat), SetR w h' s.heap.objs.size (fun j => decide (j ∈ ns)) c → c ≤ ns.length → (∀ b o, s.heap.get? b = some o → h'.get? b = some o) → Q (.ref s.heap.objs.size) { s with heap := h', toks := tk }) :
    wpAny (model P w) A (call (.type "set") [.ref l]) Q E s := by
  have hisz : items.size = ns.length := by
    have q := IntsAre.length hit
    rw [Array.length_toList] at q
    exact q
  obtain ⟨c, tl, hmro⟩ := F.called_set.mro
  have hmade := F.called_set.made
  have hsub := F.called_set.sub
  refine wpAny_call (codeAny_of_tree ?_)
  show wpAny _ _ (callAny (.type "set") _) _ _ _
  refine wpAny_pure ⟨Code.quiet_builtin _ (by decide +kernel), codeAny_builtin F.entry_type_call ?_⟩
  rw [Around.under_plain (weight_type_call_type "set" [.ref l] []) rfl]
  have h1 := F.called_set.notType
  have h2 := F.called_set.canCreate
  have hct := F.typeCall_set_1 (.ref l)
  repeat (any_goals (first | assumption | wp_step))
  refine codeAny_mono (code_set_led1 (.ref l) (E := E) (Q₁ := fun obj s₁ => obj = .ref s.heap.objs.size ∧ s₁ = { s with heap := s.heap.push { cls := .type "set", dict := none, data := .set #[] 0 (.fresh 0 0 (!w.params.followText "set-order")) } }) ⟨rfl, rfl⟩) fun r s₁ hr => ?_
  cases r with
  | error e => exact hr
  | ok fl =>
    cases fl with
    | ret obj =>
      obtain ⟨rfl, rfl⟩ := hr
      have hS : (s.heap.push { cls := .type "set", dict := none, data := .set #[] 0 (.fresh 0 0 (!w.params.followText "set-order")) }).get? s.heap.objs.size = some { cls := .type "set", dict := none, data := .set #[] 0 (.fresh 0 0 (!w.params.followText "set-order")) } := Heap.get?_push_size _ rfl
      have hT : Shared.TypeIs { s with heap := s.heap.push { cls := .type "set", dict := none, data := .set #[] 0 (.fresh 0 0 (!w.params.followText "set-order")) } } (.ref s.heap.objs.size) "set" := ⟨_, hS, rfl⟩
      have hli := F.called_set.init.lookup
      have hbi := F.called_set.init.bind (.ref s.heap.objs.size)
      repeat (any_goals (first | assumption | wp_step))
      refine codeAny_mono (codeAny_call_builtin (R := wants (fun r s₂ => r = .none ∧ ∃ h' tk c, s₂ = { s with heap := h', toks := tk } ∧ SetR w h' s.heap.objs.size (fun j => decide (j ∈ ns)) c ∧ c ≤ ns.length ∧
          (∀ b o, s.heap.get? b = some o → h'.get? b = some o)) E) F.called_set.init.plain F.entry_set_init (check_set_init_1 hT ?_)) fun r₂ s₂ hr₂ => ?_
      · obtain ⟨ol, hol, hcl, nl, hdl⟩ := hl
        obtain ⟨ocls, odict, odata, oslots⟩ := ol
        simp only at hcl hdl
        subst hcl; subst hdl
        have hol' : (s.heap.push { cls := .type "set", dict := none, data := .set #[] 0 (.fresh 0 0 (!w.params.followText "set-order")) }).get? l = some { cls := .type "list", dict := odict, data := .seq items nl, slots := oslots } := Heap.get?_push_of_some _ hol
        have hsls := F.sub_list_set
        have hslf := F.sub_list_frozenset
        have hne : (Value.type "list" == Value.type "dict") = false := by decide
        have hl1 : (s.heap.push { cls := .type "set", dict := none, data := .set #[] 0 (.fresh 0 0 (!w.params.followText "set-order")) }).IsList l items := ⟨_, hol', rfl, nl, rfl⟩
        unfold Builtin.«set.__init__» noKeywords Builtin.Frozenset.updateFrom
        generalize hPI : pyIter = PI
        wp_walk
        subst hPI
        refine wpAny_pyIter_list hl1 ?_
        refine wpAny_bind (wpAny_runValue ?_)
        have hlS : l < s.heap.objs.size := Heap.lt_size hol
        have hh3 : A.in1.in1.in1.handled = none := by simp [hh]
        have hz1 : (s.heap.push { cls := .type "set", dict := none, data := .set #[] 0 (.fresh 0 0 (!w.params.followText "set-order")) }).objs.size = s.heap.objs.size + 1 := Heap.size_push ..
        have hneI : l ≠ (s.heap.push { cls := .type "set", dict := none, data := .set #[] 0 (.fresh 0 0 (!w.params.followText "set-order")) }).objs.size := by
          rw [Heap.size_push]; exact Nat.ne_of_lt (Nat.lt_succ_of_lt hlS)
        have hSf : s.heap.objs.size ∉ [(s.heap.push { cls := .type "set", dict := none, data := .set #[] 0 (.fresh 0 0 (!w.params.followText "set-order")) }).objs.size, l] := by
          rw [Heap.size_push]; simp only [List.mem_cons, List.mem_singleton, List.not_mem_nil, or_false, not_or]
          exact ⟨Nat.ne_of_lt (Nat.lt_succ_self _), Nat.ne_of_gt hlS⟩
        have hval : ∀ (i : Nat) (v : Value), items[i]? = some v → ∃ k t, ns[i]? = some k ∧ v = .int k t := fun i v hv => by
          have hi : i < ns.length := by rw [← hisz]; exact (Array.getElem?_eq_some_iff.mp hv).1
          obtain ⟨t, e⟩ := PyProof.Rows.IntsAre.int_at hit i v (by rw [Array.getElem?_toList]; exact hv)
          refine ⟨ns[i], t, List.getElem?_eq_getElem hi, ?_⟩
          rw [e, List.getD_eq_getElem?_getD, List.getElem?_eq_getElem hi] <;> rfl
        refine set_update_ints ((Walks.list hh3 _ l hneI items).toS) s.heap.objs.size
          hSf ns hisz hb hval (items.size - 0) 0 _ (by omega) (Nat.zero_le _)
          ⟨⟨_, Heap.get?_push_size _ rfl, rfl, rfl⟩, (hl1.push _)⟩ ?hS0 ?hR
        case hS0 =>
          have hget : ((s.heap.push { cls := .type "set", dict := none, data := .set #[] 0 (.fresh 0 0 (!w.params.followText "set-order")) }).push { cls := .type "list_iterator", data := .fields #[.ref l, .int 0 0] }).get? s.heap.objs.size = some { cls := .type "set", dict := none, data := .set #[] 0 (.fresh 0 0 (!w.params.followText "set-order")) } := Heap.get?_push_of_some _ hS
          exact ⟨0, Nat.le_refl 0, setR_new_at hget⟩
        case hR =>
          intro s' c' hm hc' hS'
          obtain ⟨h', g2, d', tk', os'⟩ := s'
          have eg : g2 = s.gens := hm.gens
          have ed : d' = s.drawn := hm.drawn
          have eo : os' = s.os := hm.os
          subst eg; subst ed; subst eo
          show wpAny _ _ _ _ _ _
          refine wpAny_pure ?_
          show wpAny _ _ (ret Value.none) _ _ _
          rw [hisz] at hc'
          refine wpAny_pure ⟨rfl, h', tk', c', rfl, hS', hc', fun b o e => ?_⟩
          have hb0 : b < s.heap.objs.size := Heap.lt_size e
          have hb1 : b ≠ s.heap.objs.size := Nat.ne_of_lt hb0
          have hb2 : b ≠ (s.heap.push { cls := .type "set", dict := none, data := .set #[] 0 (.fresh 0 0 (!w.params.followText "set-order")) }).objs.size := by
            rw [Heap.size_push]; exact Nat.ne_of_lt (Nat.lt_succ_of_lt hb0)
          exact hm.heap b o (by simp only [List.mem_cons, List.mem_singleton, List.not_mem_nil, or_false, not_or]; exact ⟨hb1, hb2⟩) (Heap.get?_push_of_some _ (Heap.get?_push_of_some _ e))
      · cases r₂ with
        | error e => exact hr₂
        | ok fl₂ =>
          cases fl₂ with
          | ret r =>
            obtain ⟨rfl, h', tk, c', rfl, hS', hc', hk'⟩ := hr₂
            repeat (any_goals (first | assumption | wp_step))
            exact h _ _ _ hS' hc' hk'
          | _ => exact hr₂.elim
    | _ => exact hr.elim
end
end L2
namespace Z
open PySem L2
open Rep (rep)
section
variable {X : Cx} {K : Fg} {w : World}
theorem cr_setLI (hK : X.K = K) (hw : X.w = w) (hc : X.calm = true) : CallR X (.type "set") (fun xs H Q => ∃ (l : Addr) (ns : List Int), xs = [V.ref l] ∧ SqL K H l (ns.map V.int) ∧ ns.length < 4000 ∧ ∀ a, H a = none → Q (.ref a) (upd H a (SetO w a (fun j => decide (j ∈ ns)) (nub ns).length))) := by
  subst hK hw
  intro pins s σ H xs us Q I r h
  obtain ⟨l, ns, rfl, hl, hf, q⟩ := h
  rw [Vals.ref1 r]
  obtain ⟨its, rv, pl, hz⟩ := I.list hl
  have hn : H s.heap.objs.size = none := I.hok.fresh (Nat.le_refl _)
  refine set_of_listI ns (I.ok.hd hc) pl.isList (by simpa using ints_of_vals rv) (by unfold scanBound; omega) fun h' tk c R hcn k => ?_
  have ec : c = (nub ns).length := by
    obtain ⟨o, es, ep, t, ho, hex, hdt, g, nd, hm2, hb, hf, hcs, hr, hl2⟩ := R
    rw [← hcs]
    have e1 : (es.toList.map keyOf).length = (nub ns).length := nodup_len nd (nub_nodup _) fun y => by
      rw [nub_mem, ← hm2 y, decide_eq_true_eq]
    rw [← e1, List.length_map, Array.length_toList]
  subst ec
  exact ⟨.ref s.heap.objs.size, upd H s.heap.objs.size (SetO X.w s.heap.objs.size (fun j => decide (j ∈ ns)) (nub ns).length), I.laid (t' := tk) k (Nat.le_refl _) (setO_new R), rfl, q _ hn⟩
theorem cr_sortSet (hw : X.w = w) (hc : X.calm = true) : CallR X (.builtin "sorted") (rSortedSet w) := by
  subst hw
  exact cr_sortedSet hc
end
/-- sorted(set(xs)) -/
def ssI (xs : List Int) : List Int := sortI (nub xs)
def ssR (xs : List Int) : R (List Int) := grd (decide (xs.length < 4000) && decide ((nub xs).length < 64)) >>= fun _ => .ok (ssI xs)
theorem perm_ints {xs ys : List Int} (h1 : xs.Nodup) (h2 : ys.Nodup) (h : ∀ x, x ∈ xs ↔ x ∈ ys) : xs.Perm ys := by
  rw [List.perm_iff_count]
  intro a
  rw [h1.count, h2.count]
  by_cases q : a ∈ xs
  · rw [if_pos q, if_pos ((h a).mp q)]
  · rw [if_neg q, if_neg (fun z => q ((h a).mpr z))]
theorem ssI_uniq {xs ns : List Int} (h1 : ns.Pairwise (· < ·)) (h2 : ∀ k : Int, k ∈ ns ↔ decide (k ∈ xs) = true) : ns = ssI xs := by
  unfold ssI
  refine sort_uniq ?_ (h1.imp fun h => Int.le_of_lt h) (sortI_sorted _)
  refine List.Perm.trans ?_ (sortI_perm _).symm
  refine perm_ints (h1.imp fun h => Int.ne_of_lt h) (nub_nodup _) fun k => ?_
  rw [h2 k, decide_eq_true_iff, nub_mem]
theorem pb_ss {δ : Type} {xs : List Int} {f : List Int → R δ} {P : δ → Prop} {E : Exn → Prop} (h : Post (ssR xs >>= f) P E) : ∃ l, (xs.length < 4000 ∧ (nub xs).length < 64) ∧ l = ssI xs ∧ Post (f l) P E := by
  unfold ssR at h
  cases q : (decide (xs.length < 4000) && decide ((nub xs).length < 64)) with
  | true =>
    rw [q] at h
    rw [Bool.and_eq_true, decide_eq_true_iff, decide_eq_true_iff] at q
    exact ⟨_, q, rfl, h⟩
  | false =>
    rw [q] at h
    exact (show False from h).elim
/-- xs.insert(i, y), i not below nought -/
def insR {α : Type} (xs : List α) (i : Int) (y : α) : R (List α) := if xs.length < 100000 ∧ 0 ≤ i ∧ i < 9223372036854775808 then .ok (xs.take i.toNat ++ [y] ++ xs.drop i.toNat) else .bad
theorem pn_ins {α δ : Type} {xs : List α} {i : Int} {y : α} {f : List α → R δ} {P : δ → Prop} {E : Exn → Prop} (h : Post (insR xs i y >>= f) P E) : ∃ l, (xs.length < 100000 ∧ 0 ≤ i ∧ i < 9223372036854775808) ∧ l = xs.take i.toNat ++ [y] ++ xs.drop i.toNat ∧ Post (f l) P E := by
  unfold insR at h
  by_cases q : xs.length < 100000 ∧ 0 ≤ i ∧ i < 9223372036854775808
  · rw [if_pos q] at h
    exact ⟨_, q, rfl, h⟩
  · rw [if_neg q] at h
    exact (show False from h).elim
theorem A2.ins {α : Type} {r : V → α → Prop} {v : V} {y : α} (n : Nat) {vs : List V} {xs : List α} (h : A2 r vs xs) (g : r v y) : A2 r (vs.take n ++ [v] ++ vs.drop n) (xs.take n ++ [y] ++ xs.drop n) := A2.append (A2.append (A2.take n h) (.cons g .nil)) (A2.drop n h)
theorem line_ins {α : Type} {r : V → α → Prop} {vs : List V} {xs : List α} (h : A2 r vs xs) (g : xs.length < 100000) : vs.length < sizeLine := by
  rw [h.length]
  exact Nat.lt_of_lt_of_le g line5
/-- l.count(x), of data -/
def cntB {α : Type} [DecidableEq α] (xs : List α) (y : α) : Int := ((xs.countP fun z => decide (z = y) : Nat) : Int)
section
variable {X : Cx} {K : Fg}
theorem mt_countDt (hK : X.K = K) (α : Type) [Dat α] [DecidableEq α] (hd : Dat.dmax α ≤ 50) (hu : X.A.units + 65 < cLine) : MtR X "list.count" (fun x xs H Q => ∃ (a : Addr) (u : V) (ys : List α) (y : α), x = V.ref a ∧ xs = [u] ∧ rep K H (V.ref a) ys ∧ rep K H u y ∧ Q (.int (cntB ys y)) H) := by
  subst hK
  intro pins s σ H x xs v us Q I rx rxs ⟨a, y, ys, k, e1, e2, hs0, hy, q⟩
  subst e1 e2
  cases rx
  cases rxs with
  | cons ry rt =>
    rename_i uy ut
    cases rt
    have sl : SeqAt.shaped (.list (ys.map Dat.toD)) = true := shapedD (α := List α) (by show Dat.dmax α + 1 ≤ 60; omega) ys
    have sd : SeqAt.shaped (Dat.toD k) = true := shapedD (by omega) k
    have hl : Dp X.K H (V.ref a) (.list (ys.map Dat.toD)) := Dat.dp hs0
    obtain ⟨bs, r1⟩ := Dp.reads I (Dat.toD k) y uy (Dat.dp hy) ry
    have hxs : PyData.canLayAll0 (ys.map Dat.toD) = true := SeqAt.canLay_of_shaped sl
    have hroom : X.A.units + 1 + min (PyData.depthAll (ys.map Dat.toD)) (Dat.toD k).depth < cLine := PyProof.Rows.room_in_shaped sd hu
    cases hl with
    | lst hs ha =>
      obtain ⟨its, rv, ⟨⟨cls, dd, data, sls⟩, n, ho, hc, hdn, hdt⟩, hlen⟩ := I.list hs
      simp only at hc hdt
      subst hc hdt
      obtain ⟨as, h4⟩ := Dp.readsAll I _ _ its ha rv
      have hmap : its.map (SeqAt.readOf s.heap) = ys.map Dat.toD := SeqAt.readsAll_map _ its as hxs h4
      have hcount : its.toArray.toList.countP (fun u => PyData.eqv (SeqAt.readOf s.heap u) (Dat.toD k)) = ys.countP fun z => decide (z = k) := by
        have e1 : its.countP (fun u => PyData.eqv (SeqAt.readOf s.heap u) (Dat.toD k)) = (its.map (SeqAt.readOf s.heap)).countP fun z => PyData.eqv z (Dat.toD k) := by rw [List.countP_map]; rfl
        rw [List.toList_toArray, e1, hmap, List.countP_map]
        refine List.countP_congr fun z _ => ?_
        show PyData.eqv (Dat.toD z) (Dat.toD k) = true ↔ _
        rw [eqvD]
      refine call_meets PySem.F.slot_list_count ⟨_, ho, rfl⟩ PySem.F.entry_list_count (PySem.F.args_list_count_2 _ _)
        (SeqAt.list_countAt a its.toArray n dd sls uy (fun u => PyData.eqv (SeqAt.readOf s.heap u) (Dat.toD k))) ⟨ho, SeqAt.items_eqAt (vs := its.toArray) (show ReadsAll s.heap its.toArray.toList _ as from h4) r1 hxs (SeqAt.canLay_of_shaped sd) hroom, ?_⟩
      refine ⟨.int (cntB ys k), H, I.tok _, ⟨s.toks, ?_⟩, q⟩
      show Value.int ((its.toArray.toList.countP _ : Nat) : Int) s.toks = Value.int (cntB ys k) s.toks
      rw [hcount]
      rfl
end
end Z
namespace Z
open PySem L2
open Rep (rep)
/-- a dict that stays as it is -/
structure FzD (κ β : Type) where
  m : List (κ × β)
  deriving DecidableEq
instance repFD : Rep (FzD Int Int) := ⟨fun K H v d => ∃ a, v = .ref a ∧ H a = some (.dK (encM kI V.int d.m)), fun s ⟨a, e, q⟩ => ⟨a, e, s _ _ q⟩⟩
end Z
namespace Z
open PySem L2
open Rep (rep)
/-- a text as a key -/
def kS (s : Str) : Key := Sum.inr s
theorem kS_inj : ∀ a b, kS a = kS b → a = b := fun _ _ h => Sum.inr.inj h
theorem AD.merge {κ β : Type} [DecidableEq κ] {e : κ → Key} {r : V → β → Prop} (he : ∀ a b, e a = e b → a = b) : ∀ {more : List (Key × V)} {l : List (κ × β)}, AD e r more l → ∀ {kvs : List (Key × V)} {m : List (κ × β)}, AD e r kvs m → AD e r (mergeK kvs more) (l.foldl (fun m p => mput m p.1 p.2) m)
  | _, _, .nil, _, _, h => h
  | _, _, .cons a t, _, _, h => AD.merge he t (AD.put he h a)
theorem AD.mmk {κ β : Type} [DecidableEq κ] {e : κ → Key} {r : V → β → Prop} (he : ∀ a b, e a = e b → a = b) {more : List (Key × V)} {l : List (κ × β)} (h : AD e r more l) : AD e r (mergeK [] more) (Z.mmk l) := AD.merge he h .nil
theorem dgetsS {H : Hp} {a : Addr} {kvs : List (Key × V)} {s : Str} {v : V} (e : H a = some (.dK kvs)) (q : valV kvs (kS s) = some v) : DGet H a (.str s) (some v) := by
  have h : DGet H a (.str s) (valV kvs (kS s)) := DGet.k (k := kS s) e
  rw [q] at h
  exact h
end Z
namespace Z
open PySem L2
open Rep (rep)
section
variable {X : Cx} {K : Fg} {F H : Hp}
/-- isinstance(x, (b, c)) -/
theorem call_isBT (hK : X.K = K) : CallR X (.builtin "isinstance") (fun xs H Q => ∃ (x : V) (tp : Addr) (a b c : String) (r q : Bool), xs = [x, .ref tp] ∧ H tp = some (.tup [.ty b, .ty c]) ∧ TyOf K H x (.type a) ∧ kitB a b = some r ∧ kitB a c = some q ∧ Q (.bl (r || q)) H) := by
  subst hK
  intro pins s σ H xs us Q I rx ⟨x, tp, a, b, c, r, q, e, ht, h1, h2, h3, k⟩
  refine call_isiT pins s σ H xs us Q I rx ⟨x, tp, _, .type a, [.type b, .type c], r || q, e, ht, .cons (.ty b) (.cons (.ty c) .nil), .base h1, ?_, k⟩
  refine L2.kitAny_cons (L2.kit_ty h2) (fun e => ?_) fun e => by rw [e]; rfl
  rw [e, Bool.false_or]
  refine L2.kitAny_cons (L2.kit_ty h3) (fun e => ?_) fun e => e
  rw [e]
  exact L2.kitAny_nil
theorem th_it (s : Same F H) {v : V} {t : Thing} (r : rep K F v t) : ∃ a, TyOf K H v (.type a) ∧ kitB a "int" = some t.isPl ∧ kitB a "tuple" = some (!t.isPl) := by
  obtain ⟨a, h, z⟩ := th_ty s r
  rcases z with ⟨rfl, e⟩ | ⟨rfl, e⟩
  · exact ⟨_, h, by rw [e]; decide +kernel, by rw [e]; decide +kernel⟩
  · exact ⟨_, h, by rw [e]; decide +kernel, by rw [e]; decide +kernel⟩
theorem A2.some {α : Type} [Rep α] {vs : List V} {xs : List α} (h : A2 (rep K F) vs xs) : A2 (rep K F) vs (xs.map Option.some) := by
  induction h with
  | nil => exact .nil
  | cons a _ ih => exact .cons (rep_some a) ih
end
end Z
/-! ZM: lemmas about mirrors -/
namespace Z
open PySem L2
section
variable {α β γ : Type}
theorem foldR_inv {f : β → α → R β} (I : β → Prop) : ∀ {xs : List α} {s : β}, I s → (∀ s x, I s → x ∈ xs → ∃ s', f s x = R.ok s' ∧ I s') → ∃ s', foldR f s xs = R.ok s' ∧ I s'
  | [], s, h, _ => ⟨s, rfl, h⟩
  | x :: xs, s, h, hf => by
    obtain ⟨s', e, h'⟩ := hf s x h List.mem_cons_self
    obtain ⟨s2, e2, h2⟩ := foldR_inv I (xs := xs) (s := s') h' fun s y hs hy => hf s y hs (List.mem_cons_of_mem _ hy)
    exact ⟨s2, by show (f s x >>= fun s' => foldR f s' xs) = _; rw [e]; exact e2, h2⟩
/-- with how many items are gone through -/
theorem foldR_invN {f : β → α → R β} (I : Nat → β → Prop) : ∀ {xs : List α} {n : Nat} {s : β}, I n s → (∀ n s x, I n s → x ∈ xs → ∃ s', f s x = R.ok s' ∧ I (n + 1) s') → ∃ s', foldR f s xs = R.ok s' ∧ I (n + xs.length) s'
  | [], n, s, h, _ => ⟨s, rfl, h⟩
  | x :: xs, n, s, h, hf => by
    obtain ⟨s', e, h'⟩ := hf n s x h List.mem_cons_self
    obtain ⟨s2, e2, h2⟩ := foldR_invN I (xs := xs) (n := n + 1) (s := s') h' fun n s y hs hy => hf n s y hs (List.mem_cons_of_mem _ hy)
    refine ⟨s2, by show (f s x >>= fun s' => foldR f s' xs) = _; rw [e]; exact e2, ?_⟩
    rw [List.length_cons, show n + (xs.length + 1) = n + 1 + xs.length by omega]
    exact h2
theorem foldX_inv {ρ : Type} {f : β → α → R (Sum ρ (Bool × β))} (I : β → Prop) : ∀ {xs : List α} {s : β}, I s → (∀ s x, I s → x ∈ xs → ∃ s', f s x = R.ok (.inr (true, s')) ∧ I s') → ∃ s', foldX f s xs = R.ok (.inr s') ∧ I s'
  | [], s, h, _ => ⟨s, rfl, h⟩
  | x :: xs, s, h, hf => by
    obtain ⟨s', e, h'⟩ := hf s x h List.mem_cons_self
    obtain ⟨s2, e2, h2⟩ := foldX_inv I (xs := xs) (s := s') h' fun s y hs hy => hf s y hs (List.mem_cons_of_mem _ hy)
    refine ⟨s2, ?_, h2⟩
    show (f s x >>= fun r => match r with
      | .inl z => R.ok (.inl z)
      | .inr (true, s') => foldX f s' xs
      | .inr (false, s') => R.ok (.inr s')) = _
    rw [e]
    exact e2
/-- a search that never ends the whole -/
theorem foldX_unit {ρ : Type} {f : Unit → α → R (Sum ρ (Bool × Unit))} {xs : List α} (hf : ∀ x ∈ xs, f () x = R.ok (.inr (true, ()))) : foldX f () xs = R.ok (.inr ()) := by
  obtain ⟨s, e, _⟩ := foldX_inv (fun _ => True) (f := f) (xs := xs) (s := ()) trivial fun s x _ hx => ⟨(), hf x hx, trivial⟩
  exact e
theorem mapR_ok {f : α → R β} {g : α → β} : ∀ {xs : List α}, (∀ x ∈ xs, f x = R.ok (g x)) → mapR f xs = R.ok (xs.map g)
  | [], _ => rfl
  | x :: xs, h => by
    show (f x >>= fun y => mapR f xs >>= fun ys => R.ok (y :: ys)) = _
    rw [h x List.mem_cons_self, mapR_ok fun y hy => h y (List.mem_cons_of_mem _ hy)]
    rfl
theorem mapG_ok {f : α → R β} {g : α → β} {xs : List α} (hl : xs.length < 100000) (h : ∀ x ∈ xs, f x = R.ok (g x)) : mapG f xs = R.ok (xs.map g) := by
  unfold mapG
  rw [grd_t (decide_eq_true hl)]
  exact mapR_ok h
theorem mapR_ex {f : α → R β} (p : β → Prop) : ∀ {xs : List α}, (∀ x ∈ xs, ∃ y, f x = R.ok y ∧ p y) → ∃ ys, mapR f xs = R.ok ys ∧ ys.length = xs.length ∧ ∀ y ∈ ys, p y
  | [], _ => ⟨[], rfl, rfl, fun _ h => nomatch h⟩
  | x :: xs, h => by
    obtain ⟨y, e, hy⟩ := h x List.mem_cons_self
    obtain ⟨ys, e2, hl, hp⟩ := mapR_ex p fun y hy => h y (List.mem_cons_of_mem _ hy)
    refine ⟨y :: ys, ?_, by rw [List.length_cons, List.length_cons, hl], fun z hz => ?_⟩
    · show (f x >>= fun y => mapR f xs >>= fun ys => R.ok (y :: ys)) = _
      rw [e, e2]
      rfl
    · rcases List.mem_cons.mp hz with rfl | hz
      · exact hy
      · exact hp z hz
theorem mapG_ex {f : α → R β} (p : β → Prop) {xs : List α} (hl : xs.length < 100000) (h : ∀ x ∈ xs, ∃ y, f x = R.ok y ∧ p y) : ∃ ys, mapG f xs = R.ok ys ∧ ys.length = xs.length ∧ ∀ y ∈ ys, p y := by
  unfold mapG
  rw [grd_t (decide_eq_true hl)]
  exact mapR_ex p h
theorem filR_ok {f : α → R (Option β)} {g : α → Option β} : ∀ {xs : List α}, (∀ x ∈ xs, f x = R.ok (g x)) → filR f xs = R.ok (xs.filterMap g)
  | [], _ => rfl
  | x :: xs, h => by
    show (f x >>= fun o => filR f xs >>= fun ys => match o with
      | some y => R.ok (y :: ys)
      | none => R.ok ys) = _
    rw [h x List.mem_cons_self, filR_ok fun y hy => h y (List.mem_cons_of_mem _ hy)]
    show (match g x with
      | some y => R.ok (y :: xs.filterMap g)
      | none => R.ok (xs.filterMap g)) = R.ok ((x :: xs).filterMap g)
    rw [List.filterMap_cons]
    cases g x <;> rfl
theorem filG_ok {f : α → R (Option β)} {g : α → Option β} {xs : List α} (hl : xs.length < 100000) (h : ∀ x ∈ xs, f x = R.ok (g x)) : filG f xs = R.ok (xs.filterMap g) := by
  unfold filG
  rw [grd_t (decide_eq_true hl)]
  exact filR_ok h
theorem getI_nat {xs : List α} {i : Int} (h0 : 0 ≤ i) (h1 : i < xs.length) : ∃ x, getI xs i = R.ok x ∧ x ∈ xs ∧ xs[i.toNat]? = some x := by
  have hj : i.toNat < xs.length := by omega
  refine ⟨xs[i.toNat], ?_, List.getElem_mem hj, List.getElem?_eq_getElem hj⟩
  unfold getI
  have e : atI xs i = some xs[i.toNat] := by
    have := atI_nat (xs := xs) (j := i.toNat) (v := xs[i.toNat]) (List.getElem?_eq_getElem hj)
    rw [Int.toNat_of_nonneg h0] at this
    exact this
  rw [e]
  rfl
theorem getI_eq {xs : List α} {i : Int} {x : α} (h0 : 0 ≤ i) (h : xs[i.toNat]? = some x) : getI xs i = R.ok x := by
  have h1 := (List.getElem?_eq_some_iff.mp h).1
  obtain ⟨y, e, _, e2⟩ := getI_nat (xs := xs) (i := i) h0 (by omega)
  rw [h] at e2
  cases e2
  exact e
theorem getI_last {xs : List α} (x : α) : getI (xs ++ [x]) (-1) = R.ok x := by
  unfold getI
  rw [atI_last]
  rfl
theorem setI_nat {xs : List α} {i : Int} {x : α} (h0 : 0 ≤ i) (h1 : i < xs.length) : setI xs i x = R.ok (xs.set i.toNat x) := by
  have e : ixN xs.length i = some i.toNat := by
    unfold ixN
    rw [if_pos h0, if_pos h1]
  unfold setI
  rw [e]
theorem app_ok {xs : List α} {x : α} (h : xs.length < 100000) : app xs x = R.ok (xs ++ [x]) := by
  unfold app
  rw [if_pos h]
theorem extend_ok {xs ys : List α} (h : xs.length + ys.length < 100000) : extend xs ys = R.ok (xs ++ ys) := by
  unfold extend
  rw [if_pos h]
theorem modI_ok {i j : Int} (h : 0 < j) : modI i j = R.ok (i % j) := by
  unfold modI
  rw [if_pos h]
theorem divI_okW {i j : Int} (h : 0 < j) (h2 : j.natAbs.log2 < 9000) : divI i j = R.ok (i / j) := by
  unfold divI
  rw [if_pos ⟨h, h2⟩]
theorem divI_ok {i j : Int} (h : 0 < j) (h2 : j < 1073741824) : divI i j = R.ok (i / j) := by
  refine divI_okW h (Nat.lt_of_lt_of_le ((Nat.log2_lt (by omega)).mpr (show j.natAbs < 2 ^ 30 by omega)) (by decide))
theorem mulI_ok {i j : Int} (h : (-(2 ^ 64) < i ∧ i < 2 ^ 64) ∨ (-(2 ^ 64) < j ∧ j < 2 ^ 64)) : mulI i j = R.ok (i * j) := by
  unfold mulI
  rw [if_pos h]
theorem rngI_ok {i j : Int} (h1 : -(2 ^ 62) ≤ i) (h2 : i < 2 ^ 62) (h3 : -(2 ^ 62) ≤ j) (h4 : j < 2 ^ 62) : rngI i j = R.ok (rng i j) := by
  unfold rngI
  rw [if_pos ⟨h1, h2, h3, h4⟩]
theorem rng_mem {i j k : Int} : k ∈ rng i j ↔ i ≤ k ∧ k < j := by
  unfold rng
  rw [List.mem_map]
  constructor
  · rintro ⟨n, hn, rfl⟩
    have := List.mem_range.mp hn
    omega
  · intro h
    exact ⟨(k - i).toNat, List.mem_range.mpr (by omega), by omega⟩
/-! ### what holds of a result, step by step -/
section
variable {P Q : α → Prop} {S : β → Prop} {X : Exn → Prop}
theorem po_bind {m : R α} {k : α → R β} (h : Post m Q X) (hk : ∀ a, Q a → Post (k a) S X) : Post (m >>= k) S X := by
  cases m with
  | ok a => exact hk a h
  | exc e => exact h
  | bad => exact h
theorem po_ok {a : α} (h : P a) : Post (R.ok a) P X := h
theorem po_eq {m : R α} {a : α} (h : m = R.ok a) (hp : P a) : Post m P X := by
  rw [h]
  exact hp
theorem po_if {c : Prop} [Decidable c] {m n : R α} (h1 : c → Post m P X) (h2 : ¬ c → Post n P X) : Post (if c then m else n) P X := by
  by_cases h : c
  · rw [if_pos h]
    exact h1 h
  · rw [if_neg h]
    exact h2 h
theorem po_ex {m : R α} (h : Post m P noX) : ∃ a, m = R.ok a ∧ P a := by
  cases m with
  | ok a => exact ⟨a, rfl, h⟩
  | exc e => exact (show False from h).elim
  | bad => exact (show False from h).elim
theorem po_iff {m : R α} {a : α} (h : Post m (· = a) noX) : m = R.ok a := by
  obtain ⟨b, e, rfl⟩ := po_ex h
  exact e
theorem po_grd {b : Bool} {k : Unit → R β} (h : b = true) (hk : Post (k ()) S X) : Post (grd b >>= k) S X := by
  rw [grd_t h]
  exact hk
theorem po_get {xs : List α} {i : Int} {k : α → R β} (h0 : 0 ≤ i) (h1 : i < xs.length) (hk : ∀ x, x ∈ xs → xs[i.toNat]? = some x → Post (k x) S X) : Post (getI xs i >>= k) S X := by
  obtain ⟨x, e, h2, h3⟩ := getI_nat h0 h1
  rw [e]
  exact hk x h2 h3
theorem po_getE {xs : List α} {i : Int} {x : α} {k : α → R β} (h : getI xs i = R.ok x) (hk : Post (k x) S X) : Post (getI xs i >>= k) S X := by
  rw [h]
  exact hk
theorem po_last {xs : List α} {k : α → R β} (h : xs ≠ []) (hk : ∀ x, x ∈ xs → Post (k x) S X) : Post (getI xs (-1) >>= k) S X := by
  obtain ⟨ys, y, rfl⟩ : ∃ ys y, xs = ys ++ [y] := ⟨xs.dropLast, xs.getLast h, (List.dropLast_concat_getLast h).symm⟩
  rw [getI_last]
  exact hk y (List.mem_append_right _ List.mem_cons_self)
theorem po_set {xs : List α} {i : Int} {x : α} {k : List α → R β} (h0 : 0 ≤ i) (h1 : i < xs.length) (hk : Post (k (xs.set i.toNat x)) S X) : Post (setI xs i x >>= k) S X := by
  rw [setI_nat h0 h1]
  exact hk
theorem po_app {xs : List α} {x : α} {k : List α → R β} (h : xs.length < 100000) (hk : Post (k (xs ++ [x])) S X) : Post (app xs x >>= k) S X := by
  rw [app_ok h]
  exact hk
theorem po_extend {xs ys : List α} {k : List α → R β} (h : xs.length + ys.length < 100000) (hk : Post (k (xs ++ ys)) S X) : Post (extend xs ys >>= k) S X := by
  rw [extend_ok h]
  exact hk
theorem po_mod {i j : Int} {k : Int → R β} (h : 0 < j) (hk : 0 ≤ i % j → i % j < j → Post (k (i % j)) S X) : Post (modI i j >>= k) S X := by
  rw [modI_ok h]
  exact hk (Int.emod_nonneg _ (by omega)) (Int.emod_lt_of_pos _ h)
theorem po_div {i j : Int} {k : Int → R β} (h : 0 < j) (h2 : j < 1073741824) (hk : Post (k (i / j)) S X) : Post (divI i j >>= k) S X := by
  rw [divI_ok h h2]
  exact hk
theorem po_divW {i j : Int} {k : Int → R β} (h : 0 < j) (h2 : j.natAbs.log2 < 9000) (hk : Post (k (i / j)) S X) : Post (divI i j >>= k) S X := by
  rw [divI_okW h h2]
  exact hk
theorem po_mul {i j : Int} {k : Int → R β} (h : (-(2 ^ 64) < i ∧ i < 2 ^ 64) ∨ (-(2 ^ 64) < j ∧ j < 2 ^ 64)) (hk : Post (k (i * j)) S X) : Post (mulI i j >>= k) S X := by
  rw [mulI_ok h]
  exact hk
theorem po_rng {i j : Int} {k : List Int → R β} (h1 : -(2 ^ 62) ≤ i) (h2 : i < 2 ^ 62) (h3 : -(2 ^ 62) ≤ j) (h4 : j < 2 ^ 62) (hk : Post (k (rng i j)) S X) : Post (rngI i j >>= k) S X := by
  rw [rngI_ok h1 h2 h3 h4]
  exact hk
theorem po_fold {f : β → α → R β} {s : β} {xs : List α} (I : β → Prop) (h0 : I s) (hf : ∀ s x, I s → x ∈ xs → Post (f s x) I X) : Post (foldR f s xs) I X := by
  induction xs generalizing s with
  | nil => exact h0
  | cons x xs ih =>
    show Post (f s x >>= fun s' => foldR f s' xs) I X
    exact po_bind (hf s x h0 List.mem_cons_self) fun s' h' => ih h' fun s y hs hy => hf s y hs (List.mem_cons_of_mem _ hy)
/-- .. with the number of turns gone -/
theorem po_foldN {f : β → α → R β} {s : β} {xs : List α} (I : Nat → β → Prop) (h0 : I 0 s) (hf : ∀ n s x, n < xs.length → I n s → xs[n]? = some x → Post (f s x) (I (n + 1)) X) : Post (foldR f s xs) (I xs.length) X := by
  have key : ∀ (l : List α) (n : Nat) (s : β), xs.drop n = l → n ≤ xs.length → I n s → Post (foldR f s l) (I xs.length) X := by
    intro l
    induction l with
    | nil =>
      intro n s e hn h
      have : xs.length ≤ n := by
        have := congrArg List.length e
        rw [List.length_drop, List.length_nil] at this
        omega
      rw [show xs.length = n by omega]
      exact h
    | cons x l ih =>
      intro n s e hn h
      have hlt : n < xs.length := by
        have := congrArg List.length e
        rw [List.length_drop, List.length_cons] at this
        omega
      have e1 : xs[n] :: xs.drop (n + 1) = x :: l := (List.drop_eq_getElem_cons hlt).symm.trans e
      injection e1 with e2 e3
      show Post (f s x >>= fun s' => foldR f s' l) _ X
      exact po_bind (hf n s x hlt h (by rw [List.getElem?_eq_getElem hlt, e2])) fun s' h' => ih (n + 1) s' e3 (by omega) h'
  exact key xs 0 s rfl (Nat.zero_le _) h0
theorem po_foldX {ρ : Type} {f : β → α → R (Sum ρ (Bool × β))} {s : β} {xs : List α} (I : β → Prop) (h0 : I s) (hf : ∀ s x, I s → x ∈ xs → Post (f s x) (fun r => ∃ s', r = .inr (true, s') ∧ I s') X) : Post (foldX f s xs) (fun r => ∃ s', r = .inr s' ∧ I s') X := by
  induction xs generalizing s with
  | nil => exact ⟨s, rfl, h0⟩
  | cons x xs ih =>
    refine po_bind (S := fun r => ∃ s', r = Sum.inr s' ∧ I s') (k := fun r => match r with
      | .inl z => (R.ok (.inl z) : R (Sum ρ β))
      | .inr (true, s') => foldX f s' xs
      | .inr (false, s') => R.ok (.inr s')) (hf s x h0 List.mem_cons_self) fun r hr => ?_
    obtain ⟨s', rfl, h'⟩ := hr
    exact ih h' fun s y hs hy => hf s y hs (List.mem_cons_of_mem _ hy)
theorem po_mapG {f : α → R β} {xs : List α} (p : β → Prop) (hl : xs.length < 100000) (hf : ∀ x ∈ xs, Post (f x) p X) : Post (mapG f xs) (fun ys => ys.length = xs.length ∧ ∀ y ∈ ys, p y) X := by
  unfold mapG
  rw [grd_t (decide_eq_true hl)]
  show Post (mapR f xs) _ X
  clear hl
  induction xs with
  | nil => exact ⟨rfl, fun _ h => nomatch h⟩
  | cons x xs ih =>
    show Post (f x >>= fun y => mapR f xs >>= fun ys => R.ok (y :: ys)) _ X
    refine po_bind (hf x List.mem_cons_self) fun y hy => po_bind (ih fun z hz => hf z (List.mem_cons_of_mem _ hz)) fun ys ⟨h1, h2⟩ => ?_
    refine ⟨by rw [List.length_cons, List.length_cons, h1], fun z hz => ?_⟩
    rcases List.mem_cons.mp hz with rfl | hz
    · exact hy
    · exact h2 z hz
end
theorem cut_head (xs : List α) : cutL xs none (some 1) = xs.take 1 := by
  unfold cutL
  have e : HT.sIx xs.length xs.length (some 1) = min 1 xs.length := HT.sIx_nat xs.length xs.length 1
  have e0 : HT.sIx xs.length 0 none = 0 := rfl
  rw [e, e0, List.drop_zero]
  cases xs with
  | nil => rfl
  | cons x xs => simp
theorem cut_last (xs : List α) : cutL xs (some (-1)) none = xs.drop (xs.length - 1) := by
  unfold cutL
  have e : HT.sIx xs.length 0 (some (-1)) = xs.length - 1 := by
    unfold HT.sIx
    simp only [show ((-1 : Int) < 0) = True from eq_true (by decide), if_true]
    omega
  have e0 : HT.sIx xs.length xs.length none = xs.length := rfl
  rw [e, e0]
  refine List.take_of_length_le ?_
  rw [List.length_drop]
  exact Nat.le_refl _
end
section
variable {α β γ : Type} {X : Exn → Prop}
theorem po_mapStN {f : γ → α → R (β × γ)} {s : γ} {xs : List α} (I : Nat → γ → Prop) (p : β → Prop) (hl : xs.length < 100000) (h0 : I 0 s) (hf : ∀ n s x, n < xs.length → I n s → xs[n]? = some x → Post (f s x) (fun r => p r.1 ∧ I (n + 1) r.2) X) :
    Post (mapStG f s xs) (fun r => r.1.length = xs.length ∧ (∀ y ∈ r.1, p y) ∧ I xs.length r.2) X := by
  unfold mapStG
  rw [grd_t (decide_eq_true hl), ok_bind]
  clear hl
  have key : ∀ (l : List α) (n : Nat) (s : γ), xs.drop n = l → n ≤ xs.length → I n s → Post (mapSt f s l) (fun r => r.1.length = l.length ∧ (∀ y ∈ r.1, p y) ∧ I xs.length r.2) X := by
    intro l
    induction l with
    | nil =>
      intro n s e hn h
      have : xs.length ≤ n := by
        have := congrArg List.length e
        rw [List.length_drop, List.length_nil] at this
        omega
      rw [show n = xs.length by omega] at h
      exact ⟨rfl, by intro y hy; exact absurd hy List.not_mem_nil, h⟩
    | cons x l ih =>
      intro n s e hn h
      have hlt : n < xs.length := by
        have := congrArg List.length e
        rw [List.length_drop, List.length_cons] at this
        omega
      have e1 : xs[n] :: xs.drop (n + 1) = x :: l := (List.drop_eq_getElem_cons hlt).symm.trans e
      injection e1 with e2 e3
      refine po_bind (hf n s x hlt h (by rw [List.getElem?_eq_getElem hlt, e2])) fun r ⟨h1, h2⟩ => po_bind (ih (n + 1) r.2 e3 (by omega) h2) fun q ⟨h3, h4, h5⟩ => ?_
      refine ⟨by rw [List.length_cons, List.length_cons, h3], fun y hy => ?_, h5⟩
      rcases List.mem_cons.mp hy with rfl | hy
      · exact h1
      · exact h4 y hy
  exact key xs 0 s rfl (Nat.zero_le _) h0
end
section
variable {α : Type}
theorem cut_take (xs : List α) (n : Nat) : cutL xs none (some (n : Int)) = xs.take n := by
  unfold cutL
  have e : HT.sIx xs.length xs.length (some (n : Int)) = min n xs.length := HT.sIx_nat xs.length xs.length n
  have e0 : HT.sIx xs.length 0 none = 0 := rfl
  rw [e, e0, List.drop_zero, Nat.sub_zero]
  by_cases h : n ≤ xs.length
  · rw [Nat.min_eq_left h]
  · rw [Nat.min_eq_right (by omega), List.take_of_length_le (Nat.le_refl _), List.take_of_length_le (by omega)]
theorem cut_mid (xs : List α) (m n : Nat) : cutL xs (some (m : Int)) (some (n : Int)) = (xs.drop m).take (n - m) := by
  unfold cutL
  have e : HT.sIx xs.length xs.length (some (n : Int)) = min n xs.length := HT.sIx_nat xs.length xs.length n
  have e0 : HT.sIx xs.length 0 (some (m : Int)) = min m xs.length := HT.sIx_nat xs.length 0 m
  rw [e, e0]
  by_cases h : m ≤ xs.length
  · rw [Nat.min_eq_left h]
    by_cases h2 : n ≤ xs.length
    · rw [Nat.min_eq_left h2]
    · rw [Nat.min_eq_right (by omega), List.take_of_length_le (by rw [List.length_drop]; exact Nat.le_refl _), List.take_of_length_le (by rw [List.length_drop]; omega)]
  · rw [List.drop_of_length_le (by omega), List.drop_of_length_le (by omega), List.take_nil, List.take_nil]
end
/-! ### dicts -/
section
variable {κ β : Type} [DecidableEq κ]
theorem mhas_iff {m : List (κ × β)} {k : κ} : mhas m k = true ↔ ∃ p ∈ m, p.1 = k := by
  unfold mhas
  rw [List.any_eq_true]
  constructor
  · rintro ⟨p, h, e⟩
    exact ⟨p, h, of_decide_eq_true e⟩
  · rintro ⟨p, h, e⟩
    exact ⟨p, h, decide_eq_true e⟩
theorem mput_new {m : List (κ × β)} {k : κ} {v : β} (h : mhas m k = false) : mput m k v = m ++ [(k, v)] := by
  unfold mput
  have h' : (m.any fun p => decide (p.1 = k)) = false := h
  rw [h', if_neg (by decide)]
theorem mput_old {m : List (κ × β)} {k : κ} {v : β} (h : mhas m k = true) : mput m k v = m.map (fun p => if p.1 = k then (p.1, v) else p) := by
  unfold mput
  have h' : (m.any fun p => decide (p.1 = k)) = true := h
  rw [h', if_pos rfl]
theorem mput_keys {m : List (κ × β)} {k j : κ} {v : β} : (∃ p ∈ mput m k v, p.1 = j) ↔ (j = k ∨ ∃ p ∈ m, p.1 = j) := by
  cases h : mhas m k with
  | false =>
    rw [mput_new h]
    constructor
    · rintro ⟨p, hp, rfl⟩
      rcases List.mem_append.mp hp with hp | hp
      · exact .inr ⟨p, hp, rfl⟩
      · rw [List.mem_singleton] at hp
        exact .inl (by rw [hp])
    · rintro (rfl | ⟨p, hp, rfl⟩)
      · exact ⟨(j, v), List.mem_append_right _ List.mem_cons_self, rfl⟩
      · exact ⟨p, List.mem_append_left _ hp, rfl⟩
  | true =>
    rw [mput_old h]
    have fst : ∀ p : κ × β, (if p.1 = k then (p.1, v) else p).1 = p.1 := fun p => by split <;> rfl
    constructor
    · rintro ⟨p, hp, rfl⟩
      obtain ⟨q, hq, rfl⟩ := List.mem_map.mp hp
      rw [fst]
      exact .inr ⟨q, hq, rfl⟩
    · rintro (rfl | ⟨p, hp, rfl⟩)
      · obtain ⟨p, hp, e⟩ := mhas_iff.mp h
        exact ⟨_, List.mem_map.mpr ⟨p, hp, rfl⟩, by rw [fst]; exact e⟩
      · exact ⟨_, List.mem_map.mpr ⟨p, hp, rfl⟩, fst p⟩
theorem mput_length {m : List (κ × β)} {k : κ} {v : β} : (mput m k v).length = m.length + if mhas m k = true then 0 else 1 := by
  cases h : mhas m k with
  | false =>
    rw [mput_new h, List.length_append]
    rfl
  | true =>
    rw [mput_old h, List.length_map]
    rfl
theorem po_mput {δ : Type} {m : List (κ × β)} {k : κ} {v : β} {f : List (κ × β) → R δ} {S : δ → Prop} {X : Exn → Prop} (h : m.length < 100000) (hk : Post (f (mput m k v)) S X) : Post (mputR m k v >>= f) S X := by
  unfold mputR
  rw [if_pos h]
  exact hk
end
end Z
/-! ZG: webs: joined, how far; no program in sight -/
namespace Z
open PySem L2
/-! ### more steps -/
section
variable {α β γ δ : Type} {P Q : α → Prop} {S : β → Prop} {X : Exn → Prop}
/-- a fold, by what is gone through -/
theorem po_foldP {f : β → α → R β} {s : β} {xs : List α} (I : List α → β → Prop) (h0 : I [] s) (hf : ∀ pre s x post, xs = pre ++ x :: post → I pre s → Post (f s x) (I (pre ++ [x])) X) : Post (foldR f s xs) (I xs) X := by
  have key : ∀ (l pre : List α) (s : β), xs = pre ++ l → I pre s → Post (foldR f s l) (I xs) X := by
    intro l
    induction l with
    | nil =>
      intro pre s e h
      rw [List.append_nil] at e
      rw [e]
      exact h
    | cons x l ih =>
      intro pre s e h
      show Post (f s x >>= fun s' => foldR f s' l) _ X
      exact po_bind (hf pre s x l e h) fun s' h' => ih (pre ++ [x]) s' (by rw [e, List.append_assoc]; rfl) h'
  exact key xs [] s rfl h0
/-- items for items with a state, by what is made -/
theorem po_mapStA {f : γ → α → R (β × γ)} {s : γ} {xs : List α} (I : List α → List β → γ → Prop) (hl : xs.length < 100000) (h0 : I [] [] s)
    (hf : ∀ pre acc s x post, xs = pre ++ x :: post → I pre acc s → Post (f s x) (fun r => I (pre ++ [x]) (acc ++ [r.1]) r.2) X) : Post (mapStG f s xs) (fun r => I xs r.1 r.2) X := by
  unfold mapStG
  rw [grd_t (decide_eq_true hl), ok_bind]
  have key : ∀ (l pre : List α) (acc : List β) (s : γ), xs = pre ++ l → I pre acc s → Post (mapSt f s l) (fun r => I xs (acc ++ r.1) r.2) X := by
    intro l
    induction l with
    | nil =>
      intro pre acc s e h
      rw [List.append_nil] at e
      show I xs (acc ++ []) s
      rw [List.append_nil, e]
      exact h
    | cons x l ih =>
      intro pre acc s e h
      refine po_bind (hf pre acc s x l e h) fun r hr => po_bind (ih (pre ++ [x]) (acc ++ [r.1]) r.2 (by rw [e, List.append_assoc]; rfl) hr) fun q hq => ?_
      show I xs (acc ++ (r.1 :: q.1)) q.2
      rw [List.append_assoc] at hq
      exact hq
  exact key xs [] [] s rfl h0
theorem po_mapGE {f : α → R β} {g : α → β} {xs : List α} {k : List β → R γ} {T : γ → Prop} (hl : xs.length < 100000) (h : ∀ x ∈ xs, f x = R.ok (g x)) (hk : Post (k (xs.map g)) T X) : Post (mapG f xs >>= k) T X := by
  rw [mapG_ok hl h]
  exact hk
theorem po_filGE {f : α → R (Option β)} {g : α → Option β} {xs : List α} {k : List β → R γ} {T : γ → Prop} (hl : xs.length < 100000) (h : ∀ x ∈ xs, f x = R.ok (g x)) (hk : Post (k (xs.filterMap g)) T X) : Post (filG f xs >>= k) T X := by
  rw [filG_ok hl h]
  exact hk
/-- a while: an invariant, a measure -/
theorem po_while {c : γ → R Bool} {b : γ → R γ} {T : γ → Prop} (I : γ → Prop) (μ : γ → Nat)
    (hs : ∀ s, I s → Post (c s) (fun t => (t = true → Post (b s) (fun s' => I s' ∧ μ s' < μ s) X) ∧ (t = false → T s)) X) : ∀ {n : Nat} {s : γ}, I s → μ s < n → Post (whileR c b n s) T X
  | 0, s, _, h => absurd h (Nat.not_lt_zero _)
  | n + 1, s, hi, h => by
    refine po_bind (hs s hi) fun t ⟨h1, h2⟩ => ?_
    cases t with
    | false => exact h2 rfl
    | true => exact po_bind (h1 rfl) fun s' ⟨a, d⟩ => po_while I μ hs a (by omega)
theorem po_getS {st : List (List α)} {j : Nat} {xs : List α} {k : List α → R γ} {T : γ → Prop} (h : st[j]? = some xs) (hk : Post (k xs) T X) : Post (getS st j >>= k) T X := by
  unfold getS
  rw [h]
  exact hk
theorem po_setS {st : List (List α)} {j : Nat} {xs : List α} {k : List (List α) → R γ} {T : γ → Prop} (hk : Post (k (st.set j xs)) T X) : Post (setS st j xs >>= k) T X := hk
theorem po_newS {st : List (List α)} {xs : List α} {k : Nat × List (List α) → R γ} {T : γ → Prop} (hk : Post (k (st.length, st ++ [xs])) T X) : Post (newS st xs >>= k) T X := hk
theorem po_listRng {i j : Int} {k : List Int → R γ} {T : γ → Prop} (h1 : -(2 ^ 62) ≤ i) (h2 : i < 2 ^ 62) (h3 : -(2 ^ 62) ≤ j) (h4 : j < 2 ^ 62) (h5 : (j - i).toNat ≤ 100000) (hk : Post (k (rng i j)) T X) : Post (listRng i j >>= k) T X := by
  unfold listRng
  rw [if_pos ⟨h1, h2, h3, h4, h5⟩]
  exact hk
theorem po_rep {xs : List α} {i : Int} {k : List α → R γ} {T : γ → Prop} (h1 : 0 ≤ i) (h2 : i < 1000) (h3 : xs.length < 100) (hk : Post (k (repL xs i)) T X) : Post (repR xs i >>= k) T X := by
  unfold repR
  have h4 : xs.length * i.toNat ≤ 100 * 1000 := Nat.mul_le_mul (by omega) (by omega)
  have h5 : xs.length * i.toNat < 100000 := by
    have h6 : xs.length * i.toNat ≤ 99 * 999 := Nat.mul_le_mul (by omega) (by omega)
    omega
  rw [if_pos ⟨by omega, by omega, h5⟩]
  exact hk
theorem po_ofO {o : Option α} {x : α} {k : α → R γ} {T : γ → Prop} (h : o = some x) (hk : Post (k x) T X) : Post (ofO o >>= k) T X := by
  rw [h]
  exact hk
theorem po_mgetE {κ : Type} [DecidableEq κ] {m : List (κ × α)} {j : κ} {x : α} {k : α → R γ} {T : γ → Prop} (h : mget m j = some x) (hk : Post (k x) T X) : Post (mgetR m j >>= k) T X := po_ofO h hk
theorem po_popB {xs : List α} {i : Int} {k : α × List α → R γ} {T : γ → Prop} (h0 : 0 ≤ i) (h1 : i < xs.length) (h2 : i < 2 ^ 62) (hk : ∀ x, xs[i.toNat]? = some x → Post (k (x, xs.eraseIdx i.toNat)) T X) : Post (popB xs i >>= k) T X := by
  have hj : i.toNat < xs.length := by omega
  have e : popB xs i = R.ok (xs[i.toNat], xs.eraseIdx i.toNat) := by
    unfold popB popAt
    rw [if_pos (by omega)]
    have ei : ixN xs.length i = some i.toNat := by
      unfold ixN
      rw [if_pos h0, if_pos h1]
    rw [ei]
    dsimp only
    rw [List.getElem?_eq_getElem hj]
  rw [e]
  exact hk _ (List.getElem?_eq_getElem hj)
end
theorem rng_len {n : Int} (h : 0 ≤ n) : ((rng 0 n).length : Int) = n := by
  rw [rng_length]
  omega
theorem rng_atE {i j : Int} {k : Nat} (h : k < (j - i).toNat) : (rng i j)[k]? = some (i + k) := rng_get h
theorem rng_nodup (i j : Int) : (rng i j).Nodup := by
  unfold rng
  refine List.Pairwise.map _ (fun a b h => ?_) List.nodup_range
  intro e
  exact h (by omega)
theorem rng_pre {i j x : Int} {pre post : List Int} (h : rng i j = pre ++ x :: post) : x = i + pre.length := by
  have h1 : (rng i j)[pre.length]? = some x := by rw [h]; simp
  have hl : pre.length < (rng i j).length := by rw [h]; simp
  rw [rng_length] at hl
  rw [rng_atE hl] at h1
  cases h1
  rfl
theorem rng_split {i j x : Int} {pre post : List Int} (h : rng i j = pre ++ x :: post) : pre = rng i x ∧ i ≤ x ∧ x < j := by
  have e := rng_pre h
  have hl : (rng i j).length = pre.length + (post.length + 1) := by rw [h]; simp
  rw [rng_length] at hl
  refine ⟨?_, by omega, by omega⟩
  apply List.ext_getElem?
  intro k
  by_cases hk : k < pre.length
  · have h1 : (rng i j)[k]? = pre[k]? := by rw [h, List.getElem?_append_left hk]
    rw [← h1, rng_atE (by omega), rng_atE (by omega)]
  · rw [List.getElem?_eq_none (by omega), List.getElem?_eq_none (by rw [rng_length]; omega)]
theorem rng_snoc {i j : Int} (h : i ≤ j) : rng i (j + 1) = rng i j ++ [j] := by
  apply List.ext_getElem?
  intro k
  by_cases hk : k < (j - i).toNat
  · rw [List.getElem?_append_left (by rw [rng_length]; exact hk), rng_atE hk, rng_atE (by omega)]
  · by_cases hk2 : k = (j - i).toNat
    · rw [List.getElem?_append_right (by rw [rng_length]; omega), rng_atE (by omega), rng_length, hk2]
      simp
      omega
    · rw [List.getElem?_eq_none (by rw [rng_length]; omega), List.getElem?_eq_none (by rw [List.length_append, rng_length]; simp; omega)]
/-! ### joined -/
def Adj (ts : List (Int × Int)) (a b : Int) : Prop := (a, b) ∈ ts ∨ (b, a) ∈ ts
theorem Adj.symm {ts : List (Int × Int)} {a b : Int} (h : Adj ts a b) : Adj ts b a := h.elim .inr .inl
/-- what holds of a place and goes along all ties holds of all places -/
def Conn (n : Int) (ts : List (Int × Int)) : Prop := ∀ S : Int → Prop, S 0 → (∀ p ∈ ts, S p.1 ↔ S p.2) → ∀ k, 0 ≤ k → k < n → S k
theorem Conn.any {n : Int} {ts : List (Int × Int)} (h : Conn n ts) {S : Int → Prop} {r : Int} (r0 : 0 ≤ r) (r1 : r < n) (hr : S r) (hc : ∀ p ∈ ts, S p.1 ↔ S p.2) : ∀ k, 0 ≤ k → k < n → S k := by
  by_cases h0 : S 0
  · exact h S h0 hc
  · exact absurd hr (h (fun k => ¬ S k) h0 (fun p hp => not_congr (hc p hp)) r r0 r1)
theorem Conn.mono {n : Int} {ts us : List (Int × Int)} (h : Conn n ts) (hs : ∀ p ∈ ts, p ∈ us) : Conn n us := fun S h0 hc => h S h0 fun p hp => hc p (hs p hp)
theorem conn_tree {n : Int} {ts : List (Int × Int)} (h : ∀ k, 1 ≤ k → k < n → ∃ j, 0 ≤ j ∧ j < k ∧ Adj ts j k) : Conn n ts := by
  intro S h0 hc
  have key : ∀ (m : Nat) (k : Int), k.toNat ≤ m → 0 ≤ k → k < n → S k := by
    intro m
    induction m with
    | zero =>
      intro k hk k0 _
      rw [show k = 0 by omega]
      exact h0
    | succ m ih =>
      intro k hk k0 k1
      by_cases hz : k = 0
      · rw [hz]; exact h0
      · obtain ⟨j, j0, jk, hj⟩ := h k (by omega) k1
        have hj' := ih j (by omega) j0 (by omega)
        rcases hj with hj | hj
        · exact (hc _ hj).mp hj'
        · exact (hc _ hj).mpr hj'
  exact fun k k0 k1 => key k.toNat k (Nat.le_refl _) k0 k1
/-! ### how far -/
structure IsDist (n : Int) (ts : List (Int × Int)) (p : Int) (f : Int → Int) : Prop where
  zero : f p = 0
  nn : ∀ v, 0 ≤ v → v < n → 0 ≤ f v
  lip : ∀ a b, Adj ts a b → f b ≤ f a + 1
  desc : ∀ v, 0 ≤ v → v < n → v ≠ p → ∃ w, 0 ≤ w ∧ w < n ∧ Adj ts w v ∧ f w + 1 = f v
theorem IsDist.le {n : Int} {ts : List (Int × Int)} {p : Int} {f g : Int → Int} (hf : IsDist n ts p f) (hg : IsDist n ts p g) : ∀ v, 0 ≤ v → v < n → f v ≤ g v := by
  have key : ∀ (m : Nat) (v : Int), (g v).toNat ≤ m → 0 ≤ v → v < n → f v ≤ g v := by
    intro m
    induction m with
    | zero =>
      intro v hm v0 v1
      by_cases hv : v = p
      · rw [hv, hf.zero, hg.zero]; exact Int.le_refl _
      · obtain ⟨w, w0, w1, _, e⟩ := hg.desc v v0 v1 hv
        have := hg.nn w w0 w1
        omega
    | succ m ih =>
      intro v hm v0 v1
      by_cases hv : v = p
      · rw [hv, hf.zero, hg.zero]; exact Int.le_refl _
      · obtain ⟨w, w0, w1, ha, e⟩ := hg.desc v v0 v1 hv
        have h1 := hg.nn w w0 w1
        have h2 := ih w (by omega) w0 w1
        have h3 := hf.lip w v ha
        omega
  exact fun v v0 v1 => key _ v (Nat.le_refl _) v0 v1
theorem IsDist.uniq {n : Int} {ts : List (Int × Int)} {p : Int} {f g : Int → Int} (hf : IsDist n ts p f) (hg : IsDist n ts p g) (v : Int) (v0 : 0 ≤ v) (v1 : v < n) : f v = g v :=
  Int.le_antisymm (hf.le hg v v0 v1) (hg.le hf v v0 v1)
theorem IsDist.level {n : Int} {ts : List (Int × Int)} {p : Int} {f : Int → Int} (hf : IsDist n ts p f) : ∀ (m : Nat) (v : Int), 0 ≤ v → v < n → (f v).toNat = m → ∀ k : Nat, k ≤ m → ∃ w, 0 ≤ w ∧ w < n ∧ f w = k := by
  intro m
  induction m with
  | zero =>
    intro v v0 v1 e k hk
    have := hf.nn v v0 v1
    exact ⟨v, v0, v1, by omega⟩
  | succ m ih =>
    intro v v0 v1 e k hk
    have hv := hf.nn v v0 v1
    by_cases hk2 : k = m + 1
    · exact ⟨v, v0, v1, by omega⟩
    · have hne : v ≠ p := by
        intro e2
        rw [e2, hf.zero] at e
        simp at e
      obtain ⟨w, w0, w1, _, e2⟩ := hf.desc v v0 v1 hne
      exact ih w w0 w1 (by omega) k (by omega)
/-- no place is as far as there are places -/
theorem IsDist.lt {n : Int} {ts : List (Int × Int)} {p : Int} {f : Int → Int} (hf : IsDist n ts p f) (v : Int) (v0 : 0 ≤ v) (v1 : v < n) : f v < n := by
  have hv := hf.nn v v0 v1
  have hl := hf.level _ v v0 v1 rfl
  have key : ∀ m : Nat, m ≤ (f v).toNat + 1 → ∃ ws : List Int, ws.length = m ∧ ws.Nodup ∧ (∀ w ∈ ws, w ∈ rng 0 n ∧ f w < m) := by
    intro m
    induction m with
    | zero => exact fun _ => ⟨[], rfl, List.nodup_nil, fun _ h => nomatch h⟩
    | succ m ih =>
      intro hm
      obtain ⟨ws, h1, h2, h3⟩ := ih (by omega)
      obtain ⟨w, w0, w1, e⟩ := hl m (by omega)
      refine ⟨w :: ws, by rw [List.length_cons, h1], List.nodup_cons.mpr ⟨fun h => ?_, h2⟩, fun u hu => ?_⟩
      · have := (h3 w h).2
        omega
      · rcases List.mem_cons.mp hu with rfl | hu
        · exact ⟨rng_mem.mpr ⟨w0, w1⟩, by omega⟩
        · have := h3 u hu
          exact ⟨this.1, by omega⟩
  obtain ⟨ws, h1, h2, h3⟩ := key _ (Nat.le_refl _)
  have := nodup_le h2 fun w hw => (h3 w hw).1
  rw [h1, rng_length] at this
  omega
/-- how far places are from one, in a web that hangs together -/
noncomputable def dst (n : Int) (ts : List (Int × Int)) (p : Int) : Int → Int := by
  classical
  exact if h : ∃ f, IsDist n ts p f then Classical.choose h else fun _ => 0
theorem dst_is {n : Int} {ts : List (Int × Int)} {p : Int} {f : Int → Int} (h : IsDist n ts p f) : IsDist n ts p (dst n ts p) := by
  have e : ∃ f, IsDist n ts p f := ⟨f, h⟩
  unfold dst
  rw [dif_pos e]
  exact Classical.choose_spec e
theorem dst_eq {n : Int} {ts : List (Int × Int)} {p : Int} {f : Int → Int} (h : IsDist n ts p f) (v : Int) (v0 : 0 ≤ v) (v1 : v < n) : f v = dst n ts p v := h.uniq (dst_is h) v v0 v1
/-! ### there is a distance -/
inductive Rch (ts : List (Int × Int)) (p : Int) : Nat → Int → Prop
  | here : Rch ts p 0 p
  | step {k : Nat} {a b : Int} : Rch ts p k a → Adj ts a b → Rch ts p (k + 1) b
theorem least {P : Nat → Prop} (h : ∃ k, P k) : ∃ k, P k ∧ ∀ j, j < k → ¬ P j := by
  obtain ⟨k, hk⟩ := h
  induction k using Nat.strongRecOn with
  | _ k ih =>
    by_cases q : ∃ j, j < k ∧ P j
    · obtain ⟨j, h1, h2⟩ := q
      exact ih j h1 h2
    · exact ⟨k, hk, fun j hj hp => q ⟨j, hj, hp⟩⟩
theorem conn_ex {n : Int} {ts : List (Int × Int)} {p : Int} (hr : ∀ q ∈ ts, 0 ≤ q.1 ∧ q.1 < n ∧ 0 ≤ q.2 ∧ q.2 < n) (hc : Conn n ts) (p0 : 0 ≤ p) (p1 : p < n) : IsDist n ts p (dst n ts p) := by
  classical
  have all : ∀ v, 0 ≤ v → v < n → ∃ k, Rch ts p k v := hc.any (S := fun v => ∃ k, Rch ts p k v) p0 p1 ⟨0, .here⟩ fun q hq => ⟨fun ⟨k, h⟩ => ⟨k + 1, h.step (.inl hq)⟩, fun ⟨k, h⟩ => ⟨k + 1, h.step (.inr hq)⟩⟩
  have adj : ∀ a b, Adj ts a b → (0 ≤ a ∧ a < n) ∧ (0 ≤ b ∧ b < n) := fun a b h => by
    rcases h with h | h
    · have := hr _ h
      exact ⟨⟨this.1, this.2.1⟩, ⟨this.2.2.1, this.2.2.2⟩⟩
    · have := hr _ h
      exact ⟨⟨this.2.2.1, this.2.2.2⟩, ⟨this.1, this.2.1⟩⟩
  have key : ∀ v, ∃ d : Int, 0 ≤ d ∧ (0 ≤ v → v < n → ∃ k : Nat, d = k ∧ Rch ts p k v ∧ ∀ j, j < k → ¬ Rch ts p j v) := fun v => by
    by_cases hv : 0 ≤ v ∧ v < n
    · obtain ⟨k, h1, h2⟩ := least (all v hv.1 hv.2)
      exact ⟨k, by omega, fun _ _ => ⟨k, rfl, h1, h2⟩⟩
    · exact ⟨0, Int.le_refl 0, fun a b => absurd ⟨a, b⟩ hv⟩
  have hf : ∃ f : Int → Int, ∀ v, 0 ≤ f v ∧ (0 ≤ v → v < n → ∃ k : Nat, f v = k ∧ Rch ts p k v ∧ ∀ j, j < k → ¬ Rch ts p j v) := ⟨fun v => Classical.choose (key v), fun v => Classical.choose_spec (key v)⟩
  obtain ⟨f, hf⟩ := hf
  have lip : ∀ a b, Adj ts a b → f b ≤ f a + 1 := fun a b h => by
    obtain ⟨⟨a0, a1⟩, ⟨b0, b1⟩⟩ := adj a b h
    obtain ⟨k, e1, h1, _⟩ := (hf a).2 a0 a1
    obtain ⟨j, e2, _, h2⟩ := (hf b).2 b0 b1
    have : ¬ k + 1 < j := fun q => h2 (k + 1) q (h1.step h)
    omega
  refine dst_is (f := f) ⟨?_, fun v _ _ => (hf v).1, lip, fun v v0 v1 hne => ?_⟩
  · obtain ⟨k, e, _, h2⟩ := (hf p).2 p0 p1
    have : ¬ 0 < k := fun q => h2 0 q .here
    omega
  · obtain ⟨k, e, h1, h2⟩ := (hf v).2 v0 v1
    cases h1 with
    | here => exact absurd rfl hne
    | step h3 h4 =>
      rename_i j w
      obtain ⟨⟨w0, w1⟩, _⟩ := adj _ _ h4
      refine ⟨w, w0, w1, h4, ?_⟩
      obtain ⟨i, e2, _, h5⟩ := (hf w).2 w0 w1
      have h6 : ¬ j < i := fun q => h5 j q h3
      have := lip w v h4
      omega
end Z
/-! ZN: dicts as lists of pairs -/
namespace Z
open PySem L2
section
variable {κ β γ : Type} [DecidableEq κ]
def mkeys (m : List (κ × β)) : List κ := m.map (·.1)
theorem mget_nil (j : κ) : mget ([] : List (κ × β)) j = none := rfl
theorem mget_cons (p : κ × β) (m : List (κ × β)) (j : κ) : mget (p :: m) j = if p.1 = j then some p.2 else mget m j := by
  unfold mget
  by_cases h : p.1 = j
  · rw [List.find?_cons_of_pos (by simpa using h), if_pos h]
    rfl
  · rw [List.find?_cons_of_neg (by simpa using h), if_neg h]
theorem mget_append (m m' : List (κ × β)) (j : κ) : mget (m ++ m') j = (mget m j).or (mget m' j) := by
  induction m with
  | nil => rfl
  | cons p m ih =>
    rw [List.cons_append, mget_cons, mget_cons, ih]
    by_cases h : p.1 = j
    · rw [if_pos h, if_pos h]; rfl
    · rw [if_neg h, if_neg h]
theorem mhas_mget (m : List (κ × β)) (j : κ) : mhas m j = (mget m j).isSome := by
  unfold mhas mget
  rw [Option.isSome_map, List.isSome_find?]
theorem mhas_keys {m : List (κ × β)} {j : κ} : mhas m j = true ↔ j ∈ mkeys m := by
  rw [mhas_iff]
  unfold mkeys
  rw [List.mem_map]
theorem mget_mput (m : List (κ × β)) (k : κ) (v : β) (j : κ) : mget (mput m k v) j = if j = k then some v else mget m j := by
  cases h : mhas m k with
  | false =>
    rw [mput_new h, mget_append, mget_cons, mget_nil]
    by_cases e : j = k
    · subst e
      rw [if_pos rfl, if_pos rfl]
      rw [mhas_mget] at h
      cases q : mget m j with
      | none => rfl
      | some x => rw [q] at h; cases h
    · rw [if_neg (fun q => e q.symm), if_neg e]
      cases mget m j <;> rfl
  | true =>
    rw [mput_old h]
    by_cases e : j = k
    · subst e
      rw [if_pos rfl]
      induction m with
      | nil => cases h
      | cons p m ih =>
        rw [List.map_cons, mget_cons]
        by_cases q : p.1 = j
        · rw [if_pos q, if_pos q]
        · rw [if_neg q, if_neg q]
          refine ih ?_
          rw [mhas_mget, mget_cons, if_neg q, ← mhas_mget] at h
          exact h
    · rw [if_neg e]
      clear h
      induction m with
      | nil => rfl
      | cons p m ih =>
        rw [List.map_cons, mget_cons, mget_cons, ih]
        by_cases q : p.1 = k
        · rw [if_pos q, if_neg (by rw [q]; exact fun z => e z.symm), if_neg (by rw [q]; exact fun z => e z.symm)]
        · rw [if_neg q]
theorem mkeys_mput (m : List (κ × β)) (k : κ) (v : β) : mkeys (mput m k v) = if k ∈ mkeys m then mkeys m else mkeys m ++ [k] := by
  cases h : mhas m k with
  | false =>
    rw [mput_new h, if_neg (fun q => by rw [mhas_keys.mpr q] at h; cases h)]
    unfold mkeys
    rw [List.map_append]
    rfl
  | true =>
    rw [mput_old h, if_pos (mhas_keys.mp h)]
    unfold mkeys
    rw [List.map_map]
    refine List.map_congr_left fun p _ => ?_
    show (if p.1 = k then (p.1, v) else p).1 = p.1
    split <;> rfl
theorem mkeys_nodup {m : List (κ × β)} {k : κ} {v : β} (h : (mkeys m).Nodup) : (mkeys (mput m k v)).Nodup := by
  rw [mkeys_mput]
  split
  · exact h
  · rename_i q
    rw [List.nodup_append]
    refine ⟨h, by simp, fun a ha c hc e => ?_⟩
    rw [List.mem_singleton] at hc
    rw [e, hc] at ha
    exact q ha
theorem mkeys_length (m : List (κ × β)) : (mkeys m).length = m.length := List.length_map _
theorem mget_keys {m : List (κ × β)} {j : κ} : j ∈ mkeys m ↔ ∃ v, mget m j = some v := by
  rw [← mhas_keys, mhas_mget, Option.isSome_iff_exists]
end
end Z
namespace G
open PySem L2 Z
open Rep (rep)
def top (i : Nat) : Stmt := PySem.Challenge.pw_farhail_k23_whole_a_look_less_or_more.main.body.getD i (.Pass ⟨0, 0, 0, 0⟩)
abbrev s_near_lists : Stmt := top 6
abbrev s_place_asked : Stmt := top 7
abbrev s_neighbours_of : Stmt := top 8
abbrev s_is_tree : Stmt := top 10
abbrev s_tree_asked : Stmt := top 11
abbrev s_rising_asked : Stmt := top 12
abbrev s_all_near : Stmt := top 13
abbrev s_piece_from : Stmt := top 14
abbrev s_pieces_by : Stmt := top 15
abbrev s_looks_in : Stmt := top 16
abbrev s_tree_strength : Stmt := top 17
abbrev s_law_cells : Stmt := top 19
abbrev s_law_pool : Stmt := top 20
abbrev s_law_take : Stmt := top 21
abbrev s_law_some : Stmt := top 22
abbrev s_law_named : Stmt := top 23
abbrev s_law_tree : Stmt := top 24
abbrev s_law_looks : Stmt := top 25
abbrev s_law_less : Stmt := top 26
abbrev s_law_called : Stmt := top 27
abbrev s_law_right : Stmt := top 28
abbrev s_law : Stmt := top 29
/-! ### the mirrors -/
/-! near_lists -/
def near_lists (x_web : (Int × (Tup (Int × Int)))) : R (List (List Int)) := do
  let l4 ← rngI 0 x_web.1
  let l5 ← mapStG (fun (g5 : (List (List Int))) (b5 : Int) => do
      let r9 ← newS g5 ([] : (List Int))
      R.ok (r9.1, r9.2)) ([] : List (List Int)) l4
  let g11 ← foldR (fun (g11 : (List (List Int))) (b11 : (Int × Int)) => do
      let t14 ← getI l5.1 b11.1
      let x16 ← getS g11 t14
      let l17 ← app x16 b11.2
      let r17 ← setS g11 t14 l17
      let t18 ← getI l5.1 b11.2
      let x20 ← getS r17 t18
      let l21 ← app x20 b11.1
      let r21 ← setS r17 t18 l21
      R.ok r21) l5.2 x_web.2.l
  let l22 ← mapG (fun (b22 : Ix) => do
      let x26 ← getS g11 b22
      R.ok (sortI x26)) l5.1
  R.ok l22
/-! place_asked -/
def place_asked (x_web : (Int × (Tup (Int × Int)))) (x_place : Int) : R Unit := do
  if (!((decide ((0 : Int) ≤ x_place)) && (decide (x_place < x_web.1)))) = true then do
    R.bad
  else do
    R.ok ()
/-! neighbours_of -/
def neighbours_of (x_web : (Int × (Tup (Int × Int)))) (x_place : Int) : R (List Int) := do
  let y3 ← place_asked x_web x_place
  let y4 ← near_lists x_web
  let t6 ← getI y4 x_place
  R.ok t6
/-! is_tree -/
def is_tree (x_web : (Int × (Tup (Int × Int)))) : R Bool := do
  R.ok (decide ((x_web.2.l.length : Int) = (x_web.1 - (1 : Int))))
/-! tree_asked -/
def tree_asked (x_web : (Int × (Tup (Int × Int)))) : R Unit := do
  let y3 ← is_tree x_web
  if (!y3) = true then do
    R.bad
  else do
    R.ok ()
/-! rising_asked -/
def rising_asked (x_web : (Int × (Tup (Int × Int)))) (x_looks : (List Int)) : R Unit := do
  let j4 ← (do
    let l5 ← ssR x_looks
    if (!decide (x_looks = l5)) = true then do
      R.ok true
    else do
      let l10 ← mapG (fun (b10 : Int) => do
          R.ok ((decide ((0 : Int) ≤ b10)) && (decide (b10 < x_web.1)))) x_looks
      R.ok (!(l10.all id)) : R (Bool))
  if j4 = true then do
    R.bad
  else do
    R.ok ()
/-! all_near -/
def all_near (x_web : (Int × (Tup (Int × Int)))) : R (List (List Int)) := do
  let l3 ← rngI 0 x_web.1
  let l4 ← mapG (fun (b4 : Int) => do
      let y6 ← neighbours_of x_web b4
      R.ok y6) l3
  R.ok l4
/-! piece_from -/
def piece_from (x_near : (List (List Int))) (x_place : Int) (x_start : Int) : R (List Int) := do
  let g6 ← whileR (fun (g6 : Int × (List Int) × (List (Int × Bool))) => do
      R.ok (decide (g6.1 < (g6.2.1.length : Int)))) (fun (g6 : Int × (List Int) × (List (Int × Bool))) => do
      let t8 ← getI g6.2.1 g6.1
      let t9 ← getI x_near t8
      let g7 ← foldR (fun (g7 : (List Int) × (List (Int × Bool))) (b7 : Int) => do
          if (!mhas g7.2 b7) = true then do
            let l13 ← mputR g7.2 b7 true
            let l15 ← app g7.1 b7
            R.ok (l15, l13)
          else do
            R.ok (g7.1, g7.2)) (g6.2.1, g6.2.2) t9
      R.ok ((g6.1 + (1 : Int)), g7.1, g7.2)) (fu 1000) ((0 : Int), ([x_start] : (List Int)), (mmk ([(x_place, true), (x_start, true)] : List (Int × Bool))))
  R.ok (sortI g6.2.1)
/-! pieces_by -/
def pieces_by (x_near : (List (List Int))) (x_place : Int) : R (List (List Int)) := do
  let t2 ← getI x_near x_place
  let l4 ← mapG (fun (b4 : Int) => do
      let y7 ← piece_from x_near x_place b4
      R.ok y7) t2
  R.ok l4
/-! looks_in -/
def looks_in (x_near : (List (List Int))) (x_place : Int) (x_looks : (List Int)) : R (List Int) := do
  let y3 ← pieces_by x_near x_place
  let l5 ← mapG (fun (b5 : (List Int)) => do
      let l9 ← filG (fun (b9 : Int) => do
          if (inB b9 b5) = true then do
            R.ok (some b9)
          else
            R.ok none) x_looks
      R.ok (l9.length : Int)) y3
  R.ok l5
/-! tree_strength -/
def tree_strength (x_web : (Int × (Tup (Int × Int)))) (x_looks : (List Int)) (x_kind : Str) : R (Option Int) := do
  let y4 ← tree_asked x_web
  let y5 ← rising_asked x_web x_looks
  if ((decide (x_web.1 = (1 : Int))) || ((decide (x_web.1 = (2 : Int))) && (decide (x_kind = ("ties" : Str))))) = true then do
    R.ok none
  else do
    if ((decide (x_web.1 = (2 : Int))) && (decide (x_kind = ("places" : Str)))) = true then do
      R.ok (some (x_looks.length : Int))
    else do
      let y20 ← all_near x_web
      let l25 ← rngI 0 x_web.1
      let g24 ← foldR (fun (g24 : (List Int)) (b24 : Int) => do
          let y26 ← looks_in y20 b24 x_looks
          if (decide (x_kind = ("all" : Str))) = true then do
            let t32 ← getI (sortI y26) (0 : Int)
            let l33 ← app g24 t32
            R.ok l33
          else do
            if (decide ((1 : Int) < ((sortI y26).length : Int))) = true then do
              let t36 ← getI (sortI y26) (0 : Int)
              let t37 ← getI (sortI y26) (1 : Int)
              let l38 ← app g24 (t36 + t37)
              R.ok l38
            else do
              R.ok g24) ([] : (List Int)) l25
      let t40 ← minL g24
      R.ok (some t40)
/-! _law_cells -/
def law_cells (x_script : Scr) (x_many : Int) : R (List Int) := do
  let g7 ← foldR (fun (g7 : (List Int)) (b7 : (Int × Int)) => do
      let t12 ← modI b7.1 x_many
      let t13 ← getI g7 t12
      let t15 ← modI b7.1 x_many
      let l16 ← setI g7 t15 ((t13 * (31 : Int)) + b7.2)
      R.ok l16) (cutL x_script.l none (some x_many)) (enum (cutL x_script.l (some x_many) (some (63 : Int))))
  R.ok g7
/-! _law_pool -/
def law_pool (x_cells : (List Int)) (x_k : Int) : R (List Int) := do
  let g2 ← (do
    if (decide ((0 : Int) < (x_cells.length : Int))) = true then do
      let t4 ← modI x_k (x_cells.length : Int)
      let t5 ← getI x_cells t4
      let t6 ← divI x_k (x_cells.length : Int)
      R.ok (t5 + t6)
    else do
      R.ok (0 : Int) : R (Int))
  let g7 ← (do
    let j8 ← (do
      if (decide (g2 < (0 : Int))) = true then do
        R.ok true
      else do
        R.ok (decide (((10 : Int) ^ ((18 : Int) : Int).toNat) ≤ g2)) : R (Bool))
    if j8 = true then do
      R.ok (absI g2)
    else do
      R.ok (0 : Int) : R (Int))
  let t17 ← mulI ((40009 : Int) * (x_k + (1 : Int))) (x_k + (3 : Int))
  R.ok ([g7, ((((g2 % (2147483629 : Int)) * (69621 : Int)) + t17) % (2147483629 : Int))] : (List Int))
/-! _law_take -/
def law_take (x_pool : (List Int)) (x_many : Int) : R (Int × (List Int)) := do
  let t2 ← getI x_pool (0 : Int)
  if (decide ((0 : Int) < t2)) = true then do
    let t4 ← getI x_pool (0 : Int)
    let t5 ← modI t4 x_many
    let t6 ← getI x_pool (0 : Int)
    let t7 ← divI t6 x_many
    let l8 ← setI x_pool (0 : Int) t7
    R.ok (t5, l8)
  else do
    let t10 ← getI x_pool (1 : Int)
    let l13 ← setI x_pool (1 : Int) (((t10 * (48271 : Int)) + (12820163 : Int)) % (2147483647 : Int))
    let t15 ← getI l13 (1 : Int)
    let t16 ← getI l13 (1 : Int)
    let t17 ← mulI t15 t16
    let t22 ← modI ((((t17 % (2147483629 : Int)) * (69621 : Int)) % (2147483587 : Int)) / (8 : Int)) x_many
    R.ok (t22, l13)
/-! _law_some -/
def law_some (x_pool : (List Int)) (x_menu : (List Int)) (x_many : Int) : R ((List Int) × (List Int)) := do
  let l5 ← rngI 0 x_many
  let l6 ← mapStG (fun (g6 : (List Int) × (List Int)) (b6 : Int) => do
      let y10 ← law_take g6.2 (g6.1.length : Int)
      let l8 ← popB g6.1 y10.1
      R.ok (l8.1, (l8.2, y10.2))) (x_menu, x_pool) l5
  R.ok (l6.1, l6.2.2)
/-! _law_named -/
def law_named (x_pool : (List Int)) (x_many : Int) (x_ties : (List (Int × Int))) : R ((Int × (Tup (Int × Int))) × (List Int)) := do
  let l3 ← listRng 0 x_many
  let y6 ← law_some x_pool l3 x_many
  let l9 ← mapG (fun (b9 : (Int × Int)) => do
      let t13 ← getI y6.1 b9.1
      let t14 ← getI y6.1 b9.2
      let t15 ← getI y6.1 b9.1
      let t16 ← getI y6.1 b9.2
      R.ok ((min2 t13 t14), (max2 t15 t16))) x_ties
  R.ok ((x_many, (Tup.mk (sortP l9))), y6.2)
/-! _law_tree -/
def law_tree (x_pool : (List Int)) (x_most : Int) : R ((Int × (Tup (Int × Int))) × (List Int)) := do
  let y2 ← law_take x_pool x_most
  let y3 ← law_take y2.2 (6 : Int)
  let l7 ← rngI (1 : Int) ((1 : Int) + y2.1)
  let g6 ← foldR (fun (g6 : (List (Int × Int)) × (List Int)) (b6 : Int) => do
      let y9 ← law_take g6.2 b6
      let y10 ← law_take y9.2 (3 : Int)
      let y11 ← law_take y10.2 (min2 b6 (3 : Int))
      let l18 ← extend ([(b6 - (1 : Int)), (0 : Int), y9.1, (max2 (0 : Int) ((b6 - (1 : Int)) - y10.1)), y11.1] : (List Int)) ([((b6 - (1 : Int)) / (2 : Int))] : (List Int))
      let t20 ← getI l18 y3.1
      let l22 ← app g6.1 (t20, b6)
      R.ok (l22, y11.2)) (([] : (List (Int × Int))), y3.2) l7
  let y28 ← law_named g6.2 ((1 : Int) + y2.1) g6.1
  R.ok (y28.1, y28.2)
/-! _law_looks -/
def law_looks (x_pool : (List Int)) (x_many : Int) : R ((List Int) × (List Int)) := do
  let y2 ← law_take x_pool (6 : Int)
  let l3 ← rngI 0 x_many
  let l4 ← filStG (fun (g4 : (List Int)) (b4 : Int) => do
      let y7 ← law_take g4 (6 : Int)
      let t10 ← getI ([(0 : Int), (1 : Int), (2 : Int), (3 : Int), (5 : Int), (6 : Int)] : (List Int)) y2.1
      if (decide (y7.1 < t10)) = true then do
        R.ok ((some b4), y7.2)
      else
        R.ok (none, y7.2)) y2.2 l3
  R.ok (l4.1, l4.2)
/-! _law_less -/
def law_less (x_web : (Int × (Tup (Int × Int)))) (x_looks : (List Int)) (x_kind : Str) : R Bool := do
  let y7 ← tree_strength x_web x_looks x_kind
  let l9 ← mapG (fun (b9 : Int) => do
      let l12 ← filG (fun (b12 : Int) => do
          if (!decide (b12 = b9)) = true then do
            R.ok (some b12)
          else
            R.ok none) x_looks
      let y18 ← tree_strength x_web l12 x_kind
      R.ok y18) x_looks
  if (decide (y7 = (some (0 : Int)))) = true then do
    let l23 ← mapG (fun (b23 : (Option Int)) => do
        R.ok (decide (b23 = (some (0 : Int))))) l9
    R.ok (l23.all id)
  else do
    let j29 ← (do
      let l30 ← allS l9
      let t31 ← minL l30
      let t32 ← ofO y7
      if (decide (t31 = (t32 - (1 : Int)))) = true then do
        let l34 ← allS l9
        let t35 ← maxL l34
        R.ok (decide (t35 ≤ t32))
      else do
        R.ok false : R (Bool))
    R.ok j29
/-! _law_called -/
def law_called (x_pool : (List Int)) (x_web : (Int × (Tup (Int × Int)))) (x_looks : (List Int)) : R (((Int × (Tup (Int × Int))) × (List Int)) × (List Int)) := do
  let l5 ← listRng 0 x_web.1
  let y9 ← law_some x_pool l5 x_web.1
  let l12 ← mapG (fun (b12 : (Int × Int)) => do
      let t16 ← getI y9.1 b12.1
      let t17 ← getI y9.1 b12.2
      let t18 ← getI y9.1 b12.1
      let t19 ← getI y9.1 b12.2
      R.ok ((min2 t16 t17), (max2 t18 t19))) x_web.2.l
  let l28 ← mapG (fun (b28 : Int) => do
      let t31 ← getI y9.1 b28
      R.ok t31) x_looks
  R.ok (((x_web.1, (Tup.mk (sortP l12))), (sortI l28)), y9.2)
/-! _law_right -/
def law_right (x_pool : (List Int)) (x_web : (Int × (Tup (Int × Int)))) (x_looks : (List Int)) (x_others : (List Int)) (x_kind : Str) : R (Bool × (List Int)) := do
  let y9 ← tree_strength x_web x_looks x_kind
  if y9.isNone = true then do
    let y15 ← tree_strength x_web x_others x_kind
    R.ok (y15.isNone, x_pool)
  else do
    let y17 ← law_less x_web x_looks x_kind
    if (!y17) = true then do
      R.ok (false, x_pool)
    else do
      let l19 ← extend x_looks x_others
      let y24 ← tree_strength x_web (sortI l19) x_kind
      let j27 ← (do
        let t28 ← ofO y9
        let y32 ← tree_strength x_web x_others x_kind
        let t34 ← ofO y32
        let t35 ← ofO y24
        if (decide (t35 < (t28 + t34))) = true then do
          R.ok true
        else do
          let l38 ← listRng 0 x_web.1
          let y41 ← tree_strength x_web l38 x_kind
          let t43 ← ofO y41
          R.ok (decide (t43 < t35)) : R (Bool))
      if j27 = true then do
        R.ok (false, x_pool)
      else do
        let y46 ← law_called x_pool x_web x_looks
        let y51 ← tree_strength y46.1.1 y46.1.2 x_kind
        R.ok ((decide (y51 = y9)), y46.2)
/-! law -/
def law (x_script : Scr) : R Bool := do
  let y2 ← law_cells x_script (3 : Int)
  let l6 ← rngI 0 (max2 (1 : Int) (y2.length : Int))
  let r5 ← foldX (fun (g5 : Unit) (b5 : Int) => do
      let y7 ← law_pool y2 b5
      let y12 ← law_take y7 (8 : Int)
      let t13 ← getI ([(24 : Int), (40 : Int)] : (List Int)) (b2i (decide (y12.1 = (0 : Int))))
      let y14 ← law_tree y12.2 t13
      let y18 ← law_looks y14.2 y14.1.1
      let y24 ← law_looks y18.2 y14.1.1
      let l27 ← filG (fun (b27 : Int) => do
          if (!inB b27 (cutL y18.1 none (some (10 : Int)))) = true then do
            R.ok (some b27)
          else
            R.ok none) y24.1
      let r33 ← foldX (fun (g33 : (List Int)) (b33 : Str) => do
          let y38 ← law_right g33 y14.1 (cutL y18.1 none (some (10 : Int))) l27 b33
          if (!y38.1) = true then do
            R.ok (.inl false)
          else do
            R.ok (.inr (true, y38.2))) y24.2 ([("places" : Str), ("ties" : Str), ("all" : Str)] : (List Str))
      match r33 with
      | .inl z => R.ok (.inl z)
      | .inr g33 => do
        R.ok (.inr (true, ()))) () l6
  match r5 with
  | .inl z => R.ok z
  | .inr g5 => do
    R.ok true
/-! ### what the top has written -/
structure Dn (K : Fg) (mg : Str → Option Value) (x y : Str) (st : Stmt) (ps : List Str) (f : Addr) (fd : FuncData) : Prop where
  fn : Fun K y y st f fd
  mg : mg x = some (.ref f)
  b : Binds K fd ps []
structure Tx (K : Fg) (mg : Str → Option Value) (A : Nat → Addr) (FD : Nat → FuncData) : Prop where
  d6 : Dn K mg "near_lists" "near_lists" s_near_lists ["web"] (A 6) (FD 6)
  d7 : Dn K mg "place_asked" "place_asked" s_place_asked ["web", "place"] (A 7) (FD 7)
  d8 : Dn K mg "neighbours_of" "neighbours_of" s_neighbours_of ["web", "place"] (A 8) (FD 8)
  d10 : Dn K mg "is_tree" "is_tree" s_is_tree ["web"] (A 10) (FD 10)
  d11 : Dn K mg "tree_asked" "tree_asked" s_tree_asked ["web"] (A 11) (FD 11)
  d12 : Dn K mg "rising_asked" "rising_asked" s_rising_asked ["web", "looks"] (A 12) (FD 12)
  d13 : Dn K mg "all_near" "all_near" s_all_near ["web"] (A 13) (FD 13)
  d14 : Dn K mg "piece_from" "piece_from" s_piece_from ["near", "place", "start"] (A 14) (FD 14)
  d15 : Dn K mg "pieces_by" "pieces_by" s_pieces_by ["near", "place"] (A 15) (FD 15)
  d16 : Dn K mg "looks_in" "looks_in" s_looks_in ["near", "place", "looks"] (A 16) (FD 16)
  d17 : Dn K mg "tree_strength" "tree_strength" s_tree_strength ["web", "looks", "kind"] (A 17) (FD 17)
  d19 : Dn K mg "_law_cells" "_law_cells" s_law_cells ["script", "many"] (A 19) (FD 19)
  d20 : Dn K mg "_law_pool" "_law_pool" s_law_pool ["cells", "k"] (A 20) (FD 20)
  d21 : Dn K mg "_law_take" "_law_take" s_law_take ["pool", "many"] (A 21) (FD 21)
  d22 : Dn K mg "_law_some" "_law_some" s_law_some ["pool", "menu", "many"] (A 22) (FD 22)
  d23 : Dn K mg "_law_named" "_law_named" s_law_named ["pool", "many", "ties"] (A 23) (FD 23)
  d24 : Dn K mg "_law_tree" "_law_tree" s_law_tree ["pool", "most"] (A 24) (FD 24)
  d25 : Dn K mg "_law_looks" "_law_looks" s_law_looks ["pool", "many"] (A 25) (FD 25)
  d26 : Dn K mg "_law_less" "_law_less" s_law_less ["web", "looks", "kind"] (A 26) (FD 26)
  d27 : Dn K mg "_law_called" "_law_called" s_law_called ["pool", "web", "looks"] (A 27) (FD 27)
  d28 : Dn K mg "_law_right" "_law_right" s_law_right ["pool", "web", "looks", "others", "kind"] (A 28) (FD 28)
  d29 : Dn K mg "law" "law" s_law ["script"] (A 29) (FD 29)
  n_abs : mg "abs" = none
  n_all : mg "all" = none
  n_enumerate : mg "enumerate" = none
  n_int : mg "int" = none
  n_len : mg "len" = none
  n_list : mg "list" = none
  n_max : mg "max" = none
  n_min : mg "min" = none
  n_range : mg "range" = none
  n_set : mg "set" = none
  n_sorted : mg "sorted" = none
  n_tuple : mg "tuple" = none
section
variable {P : Program} {w : World} {K : PySem.W.Frag} {mg : Str → Option Value} {base : Heap} {A : Nat → Addr} {FD : Nat → FuncData}
def sp_near_lists (K : Fg) : Sp := fun vs H Q E => ∃ (F : Hp) (os : List (Addr × HO)) (v_web : V) (x_web : (Int × (Tup (Int × Int)))), vs = [v_web] ∧ W F H (os) ∧ rep K F v_web x_web ∧ Post (near_lists x_web) (Ret K F os Q) noX
theorem sc_near_lists : FnScope ["web", "found", "one", "other", "place", "row"] ["web"] (defScope s_near_lists) := ⟨rfl, rfl, rfl, by decide +kernel, rfl, by decide +kernel, by decide +kernel⟩
theorem ok_near_lists (T : Tx K mg A FD) : FnOk P w K mg base CX0 1 (A 6) (FD 6) ["web"] (sp_near_lists K) := by
  refine T.d6.fn.ok sc_near_lists (fun vs H Q E h => ?_) (fun cdv Ar outer s H vs Q E hr h => ?_)
  · obtain ⟨F, os, v_web, x_web, rfl, _⟩ := h
    rfl
  · obtain ⟨F0, os, v_web, x_web, rfl, w0, r_web, hm⟩ := h
    have sF : Same F0 F0 := Same.refl _
    obtain ⟨a1, u1, z1, rfl, q1, r1a, r1b⟩ := r_web
    obtain rfl : u1 = V.int x_web.1 := r1a
    obtain ⟨a2, vs2, rfl, q2, h2⟩ := r1b
    have hr_g : Sto K F0 [] [] ([] : List (List Int)) := Sto.nil
    replace w0 : W F0 _ ((nz [] [] ++ os)) := w0
    refine ⟨_, (pss_cons (ps_setLc (i := 1) (own := [("place", 4)]) (g := gName 4) (by rfl) sc_near_lists.nd rfl rfl (sw_true rfl rfl rfl (by decide +kernel)) (pi_range1 (by rfl) T.n_range (pa_cons (pe_ix (ix_tupK (K := K) rfl) (pv 0) pe_int (fun _ _ => rfl)) pa_nil)) (blkOk_by (own := [("place", 4)]) (N := ["web", "found", "one", "other", "place", "row"]) (sc := defScope s_near_lists) (by decide +kernel)) (fun _ _ _ _ _ => (pg_name (i := 4) sc_near_lists.nd rfl (Or.inl rfl))) (fun _ _ _ _ _ => pts_nil) (fun _ _ _ _ _ => (pe_lst pa_nil))) (pss_cons (ps_for PassesOwn.never rfl (pi_tupK (K := K) rfl (pe_ix (ix_tupK (K := K) rfl) (pv 0) pe_int (fun _ _ => rfl))) (pg_k (K := K) (t := fun K => gTup K 2 _) rfl (pg_tup (n := 2) rfl (pgs_cons (pg_name (i := 2) sc_near_lists.nd rfl (Or.inl rfl)) (pgs_cons (pg_name (i := 3) sc_near_lists.nd rfl (Or.inl rfl)) pgs_nil)))) (pss_cons (ps_expr (pe_bm PySem.F.plainAttrs_list PySem.F.slot_list_append PySem.F.type_list_append mt_append (pe_ix (ix_listK (K := K) rfl) (pv 1) (pv 2) (fun _ _ => rfl)) (pa_cons (pv 3) pa_nil))) (pss_one (ps_expr (pe_bm PySem.F.plainAttrs_list PySem.F.slot_list_append PySem.F.type_list_append mt_append (pe_ix (ix_listK (K := K) rfl) (pv 1) (pv 3) (fun _ _ => rfl)) (pa_cons (pv 2) pa_nil)))))) (pss_one (ps_ret (pe_lc (own := [("row", 5)]) (g := gName 5) (by rfl) sc_near_lists.nd (pi_listK (K := K) rfl (pv 1)) (blkOk_by (own := [("row", 5)]) (N := ["web", "found", "one", "other", "place", "row"]) (sc := defScope s_near_lists) (by decide +kernel)) (fun _ _ _ _ _ => (pg_name (i := 5) sc_near_lists.nd rfl (Or.inl rfl))) (fun _ _ _ _ _ => pts_nil) (fun _ _ _ _ _ => (pe_callB (cr_sortI (K := K) rfl) (by rfl) T.n_sorted (by decide +kernel) (pa_cons (pv 5) pa_nil)))))))), ?_⟩
    obtain ⟨c4, hm⟩ := pb_rng hm
    refine ⟨_, rfl, _, _, _, _, rfl, rfl, SqT.of (w0.same _ _ q1), rfl, _, rfl, c4.2.2.1, c4.2.2.2, fun D5 nD5 => ?_⟩
    refine lcGM (tw_rng0 (j := x_web.1)) hm (fun (g5 : (List (List Int))) F' os' us ys => ∃ (as5_0 : List Addr) (vs5_0 : List (List V)), os' = (nz as5_0 vs5_0 ++ os) ∧ [] <+: as5_0 ∧ Sto K F' as5_0 vs5_0 g5 ∧ A2 (RX as5_0) us ys) w0 ⟨_, _, rfl, pfx_refl, hr_g, .nil⟩ nD5 (fun _ _ _ _ _ o => by obtain ⟨_, _, rfl, _, _, h⟩ := o; exact h.length) (fun g F' H' os' acc ys s w o => by obtain ⟨_, _, rfl, _, _, _⟩ := o; exact trivial) ?_ ?_
    · -- one turn
      intro b5 g5 x5 F5 H5 H5' os5 acc5 ya5 N5 P5 s5 w5 o5 y5 hN5 hm
      obtain ⟨as5_0, vs5_0, rfl, p5_0, h5_0, ha5⟩ := o5
      replace q1 := s5 _ _ q1
      replace q2 := s5 _ _ q2
      replace h2 := A2.mono s5 h2
      replace sF := sF.trans s5
      obtain ⟨rfl, rfl⟩ := y5
      have h7 : A2 (rep K F5) [] ([] : (List Int)) := .nil
      refine ⟨rfl, (by show 0 ≤ sizeLine; decide), fun p8 n8 => ?_⟩
      have w8 : W F5 _ ((p8, .lst []) :: (D5, .lst acc5) :: (nz as5_0 vs5_0 ++ os)) := w5.new n8
      obtain ⟨j9, st9, ej9, es9, hm⟩ := pn_newS hm
      have w9 : W F5 _ ((D5, .lst acc5) :: (nz (as5_0 ++ [p8]) (vs5_0 ++ [[]]) ++ os)) := w8.nadd (pre := [_]) h5_0.len
      have q9 : (as5_0 ++ [p8])[j9]? = some p8 := IQ.new (h5_0.len2.trans ej9.symm)
      have h9 : Sto K F5 (as5_0 ++ [p8]) (vs5_0 ++ [[]]) st9 := es9 ▸ Sto.snoc (p := p8) h5_0 h7
      replace ha5 := A2.imp (fun _ _ => RX.mono (pfx_snoc (p := p8))) ha5
      exact hN5 _ _ (post_ok hm) _ _ _ _ w9 (Same.refl _) ⟨_, _, rfl, (pfx_trans p5_0 (pfx_snoc (p := p8))), h9, A2.snoc ha5 ⟨_, rfl, q9⟩⟩
    intro g5 us5 F5 H5 os5 ys5 s5 w5 o5 hm
    obtain ⟨as5_0, vs5_0, rfl, p5_0, h5_0, gg5⟩ := o5
    replace q1 := s5 _ _ q1
    replace q2 := s5 _ _ q2
    replace h2 := A2.mono s5 h2
    replace sF := sF.trans s5
    refine ⟨_, rfl, _, _, _, _, rfl, rfl, SqT.of (w5.same _ _ q1), rfl, _, rfl, ⟨_, SqT.of (w5.same _ _ q2)⟩, ?_⟩
    refine forS (tw_tup (a := a2) h2) hm (fun (g11 : (List (List Int))) σ H' => ∃ (F' : Hp) (as11_0 : List Addr) (vs11_0 : List (List V)) (o11_2 : Option V) (o11_3 : Option V), σ = [some (.ref a1), some (.ref D5), o11_2, o11_3, none, none] ∧ Same F5 F' ∧ W F' H' ((D5, .lst us5) :: (nz as11_0 vs11_0 ++ os)) ∧ as5_0 <+: as11_0 ∧ Sto K F' as11_0 vs11_0 g11) ⟨_, _, _, _, _, rfl, Same.refl _, w5, pfx_refl, h5_0⟩ (fun g σ H' hI => by obtain ⟨F', _, _, _, _, _, s, w, _⟩ := hI; exact SqT.of (w.same _ _ (s _ _ q2))) ?_ ?_
    · -- a turn
      intro b11 g11 x11 σ11 H11 H11' N11 P11 hI hy hN11 hm
      obtain ⟨F11, as11_0, vs11_0, o11_2, o11_3, rfl, s11, w11, p11_0, h11_0⟩ := hI
      replace q1 := s11 _ _ q1
      replace h2 := A2.mono s11 h2
      replace q2 := s11 _ _ q2
      replace sF := sF.trans s11
      replace gg5 := A2.imp (fun _ _ => RX.mono p11_0) gg5
      obtain ⟨rfl, r12⟩ := hy
      replace r12 := Rep.mono s11 r12
      obtain ⟨a13, u13, z13, rfl, q13, r13a, r13b⟩ := r12
      obtain rfl : u13 = V.int b11.1 := r13a
      obtain rfl : z13 = V.int b11.2 := r13b
      obtain ⟨t14, e14, hm⟩ := pb_get hm
      obtain ⟨u14, f14, r14⟩ := A2.at gg5 e14
      obtain ⟨a15, rfl, q15⟩ := r14
      obtain ⟨x16, e16, hm⟩ := pb_getS hm
      obtain ⟨vs16, i16, h16⟩ := Sto.getq h11_0 e16 q15
      obtain ⟨l17, z17, e17, hm⟩ := pn_app hm
      obtain ⟨st17, es17, hm⟩ := pn_setS hm
      refine ⟨_, _, rfl, SqT.of (w11.same _ _ q13), rfl, _, _, rfl, _, _, rfl, rfl, _, rfl, _, rfl, _, _, _, _, rfl, rfl, SqL.of (w11.get (pre := [])), f14, .inl ⟨rfl, _, SqL.of (W.nget (pre := [_]) w11 q15 i16)⟩, _, rfl, _, _, _, rfl, rfl, (W.nget (pre := [_]) w11 q15 i16), (A2.lt h16 z17), ?_⟩
      have h17 : Sto K F11 as11_0 (vs11_0.set t14 (vs16 ++ [(.int b11.2)])) st17 := es17 ▸ Sto.set h11_0 (e17 ▸ A2.snoc h16 rep_i)
      have w17 : W F11 _ ((D5, .lst us5) :: (nz as11_0 (vs11_0.set t14 (vs16 ++ [(.int b11.2)])) ++ os)) := w11.nset (pre := [_]) (vs16 ++ [(.int b11.2)]) q15 i16
      obtain ⟨t18, e18, hm⟩ := pb_get hm
      obtain ⟨u18, f18, r18⟩ := A2.at gg5 e18
      obtain ⟨a19, rfl, q19⟩ := r18
      obtain ⟨x20, e20, hm⟩ := pb_getS hm
      obtain ⟨vs20, i20, h20⟩ := Sto.getq h17 e20 q19
      obtain ⟨l21, z21, e21, hm⟩ := pn_app hm
      obtain ⟨st21, es21, hm⟩ := pn_setS hm
      refine ⟨_, rfl, _, rfl, _, _, _, _, rfl, rfl, SqL.of (w17.get (pre := [])), f18, .inl ⟨rfl, _, SqL.of (W.nget (pre := [_]) w17 q19 i20)⟩, _, rfl, _, _, _, rfl, rfl, (W.nget (pre := [_]) w17 q19 i20), (A2.lt h20 z21), ?_⟩
      have h21 : Sto K F11 as11_0 ((vs11_0.set t14 (vs16 ++ [(.int b11.2)])).set t18 (vs20 ++ [(.int b11.1)])) st21 := es21 ▸ Sto.set h17 (e21 ▸ A2.snoc h20 rep_i)
      have w21 : W F11 _ ((D5, .lst us5) :: (nz as11_0 ((vs11_0.set t14 (vs16 ++ [(.int b11.2)])).set t18 (vs20 ++ [(.int b11.1)])) ++ os)) := w17.nset (pre := [_]) (vs20 ++ [(.int b11.1)]) q19 i20
      exact hN11 _ (post_ok hm) _ _ ⟨_, _, _, _, _, rfl, s11, w21, p11_0, h21⟩
    intro g11 σ11 H11 hI hm
    obtain ⟨F11, as11_0, vs11_0, o11_2, o11_3, rfl, s11, w11, p11_0, h11_0⟩ := hI
    replace q1 := s11 _ _ q1
    replace h2 := A2.mono s11 h2
    replace q2 := s11 _ _ q2
    replace sF := sF.trans s11
    replace gg5 := A2.imp (fun _ _ => RX.mono p11_0) gg5
    refine ⟨_, rfl, _, rfl, ⟨_, SqL.of (w11.get (pre := []))⟩, fun D22 nD22 => ?_⟩
    refine lcM (K := K) (tw_listR (a := D5) gg5) hm w11 nD22 (fun F' H' acc s w => SqL.of (w.get (pre := [_]))) ?_ ?_
    · -- one turn
      intro b22 x22 F22 H22 H22' acc22 N22 P22 s22 w22 y22 hN22 hm
      replace q1 := s22 _ _ q1
      replace h2 := A2.mono s22 h2
      replace q2 := s22 _ _ q2
      replace h11_0 := Sto.mono s22 h11_0
      replace sF := sF.trans s22
      obtain ⟨rfl, r24⟩ := y22
      obtain ⟨a25, rfl, q25⟩ := r24
      obtain ⟨x26, e26, hm⟩ := pb_getS hm
      obtain ⟨vs26, i26, h26⟩ := Sto.getq h11_0 e26 q25
      have h27 : A2 (rep K F22) ((sortI x26).map V.int) (sortI x26) := A2.of_ints
      refine ⟨rfl, _, rfl, _, _, rfl, ints_q (SqL.of (W.nget (pre := [_, _]) w22 q25 i26)) h26, fun p28 n28 => ?_⟩
      have w28 : W F22 _ ((p28, .lst ((sortI x26).map V.int)) :: (D22, .lst acc22) :: (D5, .lst us5) :: (nz as11_0 vs11_0 ++ os)) := w22.new n28
      obtain ⟨F29, s29, w29, q29⟩ : ∃ F', Same F22 F' ∧ W F' _ ((D22, .lst acc22) :: (D5, .lst us5) :: (nz as11_0 vs11_0 ++ os)) ∧ F' p28 = some (.lst ((sortI x26).map V.int)) := w28.freezeE (pre := [])
      replace q1 := s29 _ _ q1
      replace h2 := A2.mono s29 h2
      replace q2 := s29 _ _ q2
      replace h11_0 := Sto.mono s29 h11_0
      replace h26 := A2.mono s29 h26
      replace h27 := A2.mono s29 h27
      replace sF := sF.trans s29
      exact hN22 _ (post_ok hm) _ _ _ w29 s29 (rep_lst q29 h27)
    intro us22 F22 H22 ys22 s22 w22 gg22 hm
    replace q1 := s22 _ _ q1
    replace h2 := A2.mono s22 h2
    replace q2 := s22 _ _ q2
    replace h11_0 := Sto.mono s22 h11_0
    replace sF := sF.trans s22
    obtain ⟨F31, s31, w31, q31⟩ : ∃ F', Same F22 F' ∧ W F' _ ((D5, .lst us5) :: (nz as11_0 vs11_0 ++ os)) ∧ F' D22 = some (.lst us22) := w22.freezeE (pre := [])
    replace q1 := s31 _ _ q1
    replace h2 := A2.mono s31 h2
    replace q2 := s31 _ _ q2
    replace h11_0 := Sto.mono s31 h11_0
    replace gg22 := A2.mono s31 gg22
    replace sF := sF.trans s31
    have w32 : W F31 _ ((nz as11_0 vs11_0 ++ os)) := w31.drop (pre := [])
    have w33 : W F31 _ (os) := w32.dropL (pre := [])
    exact (post_ok hm) _ _ _ w33 sF (rep_lst q31 gg22)
def sp_place_asked (K : Fg) : Sp := fun vs H Q E => ∃ (F : Hp) (os : List (Addr × HO)) (v_web : V) (x_web : (Int × (Tup (Int × Int)))) (x_place : Int), vs = [v_web, .int x_place] ∧ W F H (os) ∧ rep K F v_web x_web ∧ Post (place_asked x_web x_place) (Ret K F os Q) noX
theorem sc_place_asked : FnScope ["web", "place"] ["web", "place"] (defScope s_place_asked) := ⟨rfl, rfl, rfl, by decide +kernel, rfl, by decide +kernel, by decide +kernel⟩
theorem ok_place_asked (T : Tx K mg A FD) : FnOk P w K mg base CX0 1 (A 7) (FD 7) ["web", "place"] (sp_place_asked K) := by
  refine T.d7.fn.ok sc_place_asked (fun vs H Q E h => ?_) (fun cdv Ar outer s H vs Q E hr h => ?_)
  · obtain ⟨F, os, v_web, x_web, x_place, rfl, _⟩ := h
    rfl
  · obtain ⟨F0, os, v_web, x_web, x_place, rfl, w0, r_web, hm⟩ := h
    have sF : Same F0 F0 := Same.refl _
    obtain ⟨a1, u1, z1, rfl, q1, r1a, r1b⟩ := r_web
    obtain rfl : u1 = V.int x_web.1 := r1a
    obtain ⟨a2, vs2, rfl, q2, h2⟩ := r1b
    refine ⟨_, (pss_one (ps_if (pt_not (pt_chain op_le op_lt pe_int (pv 1) (pe_ix (ix_tupK (K := K) rfl) (pv 0) pe_int (fun _ _ => rfl)))) (pss_one ps_absurd) pss_nil)), ?_⟩
    try dsimp only
    refine stepIf ?_
    refine stepNot ?_
    refine cutT (fun c H' => c = ((decide ((0 : Int) ≤ x_place)) && (decide (x_place < x_web.1))) ∧ ∃ F', Same F0 F' ∧ W F' H' (os)) (fun Q3 q3 => ?_) (fun c3 H3 hc3 => ?_)
    · -- the ways
      refine ⟨_, rfl, _, _, rfl, rfl, _, rfl, ?_⟩
      refine ifB (fun k4 => ?_) (fun k4 => ?_)
      · skip
        exact ⟨_, rfl, _, _, _, _, rfl, rfl, SqT.of (w0.same _ _ q1), rfl, _, _, rfl, rfl, _, rfl, q3 _ _ ⟨(by first | rfl | (simp [k4]; done) | ((try simp only [Bool.not_eq_true] at k4); simp only [k4, Bool.true_or, Bool.false_or, Bool.or_false, Bool.or_true, Bool.true_and, Bool.false_and, Bool.and_true, Bool.and_false])), _, Same.refl _, w0⟩⟩
      · skip
        exact ⟨_, rfl, q3 _ _ ⟨(by first | rfl | (simp [k4]; done) | ((try simp only [Bool.not_eq_true] at k4); simp only [k4, Bool.true_or, Bool.false_or, Bool.or_false, Bool.or_true, Bool.true_and, Bool.false_and, Bool.and_true, Bool.and_false])), _, Same.refl _, w0⟩⟩
    obtain ⟨rfl, F3, s3, w3⟩ := hc3
    replace q1 := s3 _ _ q1
    replace q2 := s3 _ _ q2
    replace h2 := A2.mono s3 h2
    replace sF := sF.trans s3
    refine post_ite hm (fun k7 hm => ?_) (fun k7 hm => ?_)
    · skip
      try dsimp only
      exact hm
    · skip
      exact (post_ok hm) _ _ _ w3 sF rep_n
def sp_neighbours_of (K : Fg) : Sp := fun vs H Q E => ∃ (F : Hp) (os : List (Addr × HO)) (v_web : V) (x_web : (Int × (Tup (Int × Int)))) (x_place : Int), vs = [v_web, .int x_place] ∧ W F H (os) ∧ rep K F v_web x_web ∧ Post (neighbours_of x_web x_place) (Ret K F os Q) noX
theorem sc_neighbours_of : FnScope ["web", "place"] ["web", "place"] (defScope s_neighbours_of) := ⟨rfl, rfl, rfl, by decide +kernel, rfl, by decide +kernel, by decide +kernel⟩
theorem ok_neighbours_of (T : Tx K mg A FD) : FnOk P w K mg base CX0 2 (A 8) (FD 8) ["web", "place"] (sp_neighbours_of K) := by
  refine T.d8.fn.ok sc_neighbours_of (fun vs H Q E h => ?_) (fun cdv Ar outer s H vs Q E hr h => ?_)
  · obtain ⟨F, os, v_web, x_web, x_place, rfl, _⟩ := h
    rfl
  · obtain ⟨F0, os, v_web, x_web, x_place, rfl, w0, r_web, hm⟩ := h
    have sF : Same F0 F0 := Same.refl _
    obtain ⟨a1, u1, z1, rfl, q1, r1a, r1b⟩ := r_web
    obtain rfl : u1 = V.int x_web.1 := r1a
    obtain ⟨a2, vs2, rfl, q2, h2⟩ := r1b
    refine ⟨_, (pss_cons (ps_expr (pe_call (ok_place_asked T) (hr.mono (by decide)) (by rfl) T.d7.mg T.d7.fn.kp T.d7.b .nil pass0 (pa_cons (pv 0) (pa_cons (pv 1) pa_nil)))) (pss_one (ps_ret (pe_ix (ix_listK (K := K) rfl) (pe_call (ok_near_lists T) (hr.mono (by decide)) (by rfl) T.d6.mg T.d6.fn.kp T.d6.b .nil pass0 (pa_cons (pv 0) pa_nil)) (pv 1) (fun _ _ => rfl))))), ?_⟩
    refine ⟨_, rfl, _, rfl, _, _, _, (x_web : (Int × (Tup (Int × Int)))), _, rfl, w0, (rep_pair q1 rep_i (rep_tup q2 h2)), ?_⟩
    refine (post_bind hm).mono (fun y3 hm v3 F3 H3 w3 s3 r3 => ?_) (fun _ z => z)
    replace q1 := s3 _ _ q1
    replace q2 := s3 _ _ q2
    replace h2 := A2.mono s3 h2
    replace sF := sF.trans s3
    obtain rfl : v3 = V.non := r3
    refine ⟨_, rfl, _, _, _, (x_web : (Int × (Tup (Int × Int)))), rfl, w3, (rep_pair q1 rep_i (rep_tup q2 h2)), ?_⟩
    refine (post_bind hm).mono (fun y4 hm v4 F4 H4 w4 s4 r4 => ?_) (fun _ z => z)
    replace q1 := s4 _ _ q1
    replace h2 := A2.mono s4 h2
    replace q2 := s4 _ _ q2
    replace sF := sF.trans s4
    obtain ⟨a5, vs5, rfl, q5, h5⟩ := r4
    obtain ⟨t6, e6, hm⟩ := pb_get hm
    obtain ⟨u6, f6, r6⟩ := A2.at h5 e6
    obtain ⟨a7, vs7, rfl, q7, h7⟩ := r6
    exact ⟨_, rfl, _, _, _, _, rfl, rfl, SqL.of (w4.same _ _ q5), f6, (post_ok hm) _ _ _ w4 sF (rep_lst q7 h7)⟩
def sp_is_tree (K : Fg) : Sp := fun vs H Q E => ∃ (F : Hp) (os : List (Addr × HO)) (v_web : V) (x_web : (Int × (Tup (Int × Int)))), vs = [v_web] ∧ W F H (os) ∧ rep K F v_web x_web ∧ Post (is_tree x_web) (Ret K F os Q) noX
theorem sc_is_tree : FnScope ["web"] ["web"] (defScope s_is_tree) := ⟨rfl, rfl, rfl, by decide +kernel, rfl, by decide +kernel, by decide +kernel⟩
theorem ok_is_tree (T : Tx K mg A FD) : FnOk P w K mg base CX0 1 (A 10) (FD 10) ["web"] (sp_is_tree K) := by
  refine T.d10.fn.ok sc_is_tree (fun vs H Q E h => ?_) (fun cdv Ar outer s H vs Q E hr h => ?_)
  · obtain ⟨F, os, v_web, x_web, rfl, _⟩ := h
    rfl
  · obtain ⟨F0, os, v_web, x_web, rfl, w0, r_web, hm⟩ := h
    have sF : Same F0 F0 := Same.refl _
    obtain ⟨a1, u1, z1, rfl, q1, r1a, r1b⟩ := r_web
    obtain rfl : u1 = V.int x_web.1 := r1a
    obtain ⟨a2, vs2, rfl, q2, h2⟩ := r1b
    refine ⟨_, (pss_one (ps_ret (pe_cmp (pc_eqI (pe_callB (call_lenN (K := K) rfl) (by rfl) T.n_len (by decide +kernel) (pa_cons (pe_ix (ix_tupK (K := K) rfl) (pv 0) pe_int (fun _ _ => rfl)) pa_nil)) (pe_op op_sub (pe_ix (ix_tupK (K := K) rfl) (pv 0) pe_int (fun _ _ => rfl)) pe_int))))), ?_⟩
    exact ⟨_, rfl, _, _, _, _, rfl, rfl, SqT.of (w0.same _ _ q1), rfl, _, _, _, rfl, .inr (SqT.of (w0.same _ _ q2)), h2.length, _, rfl, _, _, _, _, rfl, rfl, SqT.of (w0.same _ _ q1), rfl, _, _, rfl, rfl, _, _, rfl, rfl, (post_ok hm) _ _ _ w0 sF rep_b⟩
def sp_tree_asked (K : Fg) : Sp := fun vs H Q E => ∃ (F : Hp) (os : List (Addr × HO)) (v_web : V) (x_web : (Int × (Tup (Int × Int)))), vs = [v_web] ∧ W F H (os) ∧ rep K F v_web x_web ∧ Post (tree_asked x_web) (Ret K F os Q) noX
theorem sc_tree_asked : FnScope ["web"] ["web"] (defScope s_tree_asked) := ⟨rfl, rfl, rfl, by decide +kernel, rfl, by decide +kernel, by decide +kernel⟩
theorem ok_tree_asked (T : Tx K mg A FD) : FnOk P w K mg base CX0 2 (A 11) (FD 11) ["web"] (sp_tree_asked K) := by
  refine T.d11.fn.ok sc_tree_asked (fun vs H Q E h => ?_) (fun cdv Ar outer s H vs Q E hr h => ?_)
  · obtain ⟨F, os, v_web, x_web, rfl, _⟩ := h
    rfl
  · obtain ⟨F0, os, v_web, x_web, rfl, w0, r_web, hm⟩ := h
    have sF : Same F0 F0 := Same.refl _
    obtain ⟨a1, u1, z1, rfl, q1, r1a, r1b⟩ := r_web
    obtain rfl : u1 = V.int x_web.1 := r1a
    obtain ⟨a2, vs2, rfl, q2, h2⟩ := r1b
    refine ⟨_, (pss_one (ps_if (pt_not (pt_val (pe_call (ok_is_tree T) (hr.mono (by decide)) (by rfl) T.d10.mg T.d10.fn.kp T.d10.b .nil pass0 (pa_cons (pv 0) pa_nil)))) (pss_one ps_absurd) pss_nil)), ?_⟩
    refine ⟨_, rfl, _, _, _, (x_web : (Int × (Tup (Int × Int)))), rfl, w0, (rep_pair q1 rep_i (rep_tup q2 h2)), ?_⟩
    refine (post_bind hm).mono (fun y3 hm v3 F3 H3 w3 s3 r3 => ?_) (fun _ z => z)
    replace q1 := s3 _ _ q1
    replace q2 := s3 _ _ q2
    replace h2 := A2.mono s3 h2
    replace sF := sF.trans s3
    obtain rfl : v3 = V.bl y3 := r3
    refine ⟨_, rfl, ?_⟩
    refine post_ite hm (fun k4 hm => ?_) (fun k4 hm => ?_)
    · skip
      try dsimp only
      exact hm
    · skip
      exact (post_ok hm) _ _ _ w3 sF rep_n
def sp_rising_asked (K : Fg) : Sp := fun vs H Q E => ∃ (F : Hp) (os : List (Addr × HO)) (v_web : V) (x_web : (Int × (Tup (Int × Int)))) (v_looks : V) (x_looks : (List Int)), vs = [v_web, v_looks] ∧ W F H (os) ∧ rep K F v_web x_web ∧ rep K F v_looks x_looks ∧ Post (rising_asked x_web x_looks) (Ret K F os Q) noX
theorem sc_rising_asked : FnScope ["web", "looks", "look"] ["web", "looks"] (defScope s_rising_asked) := ⟨rfl, rfl, rfl, by decide +kernel, rfl, by decide +kernel, by decide +kernel⟩
theorem ok_rising_asked (T : Tx K mg A FD) : FnOk P w K mg base CX0 1 (A 12) (FD 12) ["web", "looks"] (sp_rising_asked K) := by
  refine T.d12.fn.ok sc_rising_asked (fun vs H Q E h => ?_) (fun cdv Ar outer s H vs Q E hr h => ?_)
  · obtain ⟨F, os, v_web, x_web, v_looks, x_looks, rfl, _⟩ := h
    rfl
  · obtain ⟨F0, os, v_web, x_web, v_looks, x_looks, rfl, w0, r_web, r_looks, hm⟩ := h
    have sF : Same F0 F0 := Same.refl _
    obtain ⟨a1, u1, z1, rfl, q1, r1a, r1b⟩ := r_web
    obtain rfl : u1 = V.int x_web.1 := r1a
    obtain ⟨a2, vs2, rfl, q2, h2⟩ := r1b
    obtain ⟨a3, vs3, rfl, q3, h3⟩ := r_looks
    refine ⟨_, (pss_one (ps_if (PW.pt (pw_or (pt_cmpR (op_neDt (K := K) rfl (List Int) (by decide) hr.units) (pv 1) (pe_callB (cr_sortSet (w := w) rfl rfl) (by rfl) T.n_sorted (by decide +kernel) (pa_cons (pe_callTy (cr_setLI (K := K) (w := w) rfl rfl rfl) (by rfl) T.n_set (by decide +kernel) (pa_cons (pv 1) pa_nil)) pa_nil)) (nomark _)) (pw_or1 (pt_not (pt_val (pe_callB (cr_allK (K := K) rfl rfl) (by rfl) T.n_all (by decide +kernel) (pa_cons (pe_lc (own := [("look", 2)]) (g := gName 2) (by rfl) sc_rising_asked.nd (pi_listK (K := K) rfl (pv 1)) (blkOk_by (own := [("look", 2)]) (N := ["web", "looks", "look"]) (sc := defScope s_rising_asked) (by decide +kernel)) (fun _ _ _ _ _ => (pg_name (i := 2) sc_rising_asked.nd rfl (Or.inl rfl))) (fun _ _ _ _ _ => pts_nil) (fun _ _ _ _ _ => (pe_chain op_le op_lt pe_int (pv 2) (pe_ix (ix_tupK (K := K) rfl) (pv 0) pe_int (fun _ _ => rfl))))) pa_nil))))))) (pss_one ps_absurd) pss_nil)), ?_⟩
    try dsimp only
    refine stepIf ?_
    refine joinT hm (fun (j4 : Bool) c H' => c = j4 ∧ ∃ (F' : Hp), Same F0 F' ∧ W F' H' (os)) ?_ ?_
    · intro Q4 P4 q4 hm
      obtain ⟨l5, c5, e5, hm⟩ := pb_ss hm
      refine ⟨_, rfl, _, rfl, _, _, rfl, ints_q (SqL.of (w0.same _ _ q3)) h3, c5.1, fun p5 n5 => ?_⟩
      obtain ⟨F5, s5, w5, q5⟩ := w0.frzE (o := SetO w p5 (fun j => decide (j ∈ x_looks)) (nub x_looks).length) n5
      replace q1 := s5 _ _ q1
      replace q2 := s5 _ _ q2
      replace h2 := A2.mono s5 h2
      replace q3 := s5 _ _ q3
      replace h3 := A2.mono s5 h3
      replace sF := sF.trans s5
      refine ⟨_, _, _, rfl, w5.same _ _ q5, c5.2, fun ns6 p6 u6 i6 j6 n6 => ?_⟩
      obtain rfl : ns6 = l5 := (ssI_uniq u6 i6).trans e5.symm
      have h6 : A2 (rep K F5) (ns6.map V.int) ns6 := A2.of_ints
      have w6 : W F5 _ ((p6, .lst (ns6.map V.int)) :: os) := w5.new n6
      refine ⟨(x_looks : (List Int)), (ns6 : (List Int)), (Rep.mono w6.same (rep_lst q3 h3)), (rep_own (pre := []) w6 h6), _, rfl, ?_⟩
      refine post_ite hm (fun k7 hm => ?_) (fun k7 hm => ?_)
      · skip
        have w9 : W F5 _ (os) := w6.drop (pre := [])
        exact q4 _ (post_ok hm) _ _ ⟨rfl, _, s5, w9⟩
      · skip
        refine ⟨_, rfl, _, rfl, ⟨_, SqL.of (w6.same _ _ q3)⟩, fun D10 nD10 => ?_⟩
        refine lcM (K := K) (tw_list (a := a3) h3) hm w6 nD10 (fun F' H' acc s w => SqL.of (w.same _ _ (s _ _ q3))) ?_ ?_
        · -- one turn
          intro b10 x10 F10 H10 H10' acc10 N10 P10 s10 w10 y10 hN10 hm
          replace q1 := s10 _ _ q1
          replace q2 := s10 _ _ q2
          replace h2 := A2.mono s10 h2
          replace q3 := s10 _ _ q3
          replace h3 := A2.mono s10 h3
          replace h6 := A2.mono s10 h6
          replace sF := sF.trans s10
          obtain ⟨rfl, r12⟩ := y10
          obtain rfl : x10 = V.int b10 := r12
          refine ⟨rfl, ?_⟩
          refine cutE (fun c H' => c = V.bl ((decide ((0 : Int) ≤ b10)) && (decide (b10 < x_web.1))) ∧ ∃ F', Same F10 F' ∧ W F' H' ((D10, .lst acc10) :: (p6, .lst (ns6.map V.int)) :: os)) (fun Q13 q13 => ?_) (fun c13 H13 hc13 => ?_)
          · -- the ways
            refine ⟨_, rfl, _, _, rfl, rfl, _, rfl, ?_⟩
            refine ifB (fun k14 => ?_) (fun k14 => ?_)
            · skip
              exact ⟨_, rfl, _, _, _, _, rfl, rfl, SqT.of (w10.same _ _ q1), rfl, _, _, rfl, rfl, q13 _ _ ⟨(by first | rfl | (simp [k14]; done) | ((try simp only [Bool.not_eq_true] at k14); simp only [k14, Bool.true_or, Bool.false_or, Bool.or_false, Bool.or_true, Bool.true_and, Bool.false_and, Bool.and_true, Bool.and_false])), _, Same.refl _, w10⟩⟩
            · skip
              exact q13 _ _ ⟨(by first | rfl | (simp [k14]; done) | ((try simp only [Bool.not_eq_true] at k14); simp only [k14, Bool.true_or, Bool.false_or, Bool.or_false, Bool.or_true, Bool.true_and, Bool.false_and, Bool.and_true, Bool.and_false])), _, Same.refl _, w10⟩
          obtain ⟨rfl, F13, s13, w13⟩ := hc13
          replace q1 := s13 _ _ q1
          replace q2 := s13 _ _ q2
          replace h2 := A2.mono s13 h2
          replace q3 := s13 _ _ q3
          replace h3 := A2.mono s13 h3
          replace h6 := A2.mono s13 h6
          replace sF := sF.trans s13
          exact hN10 _ (post_ok hm) _ _ _ w13 s13 rep_b
        intro us10 F10 H10 ys10 s10 w10 gg10 hm
        replace q1 := s10 _ _ q1
        replace q2 := s10 _ _ q2
        replace h2 := A2.mono s10 h2
        replace q3 := s10 _ _ q3
        replace h3 := A2.mono s10 h3
        replace h6 := A2.mono s10 h6
        replace sF := sF.trans s10
        have w19 : W F10 _ ((p6, .lst (ns6.map V.int)) :: os) := w10.drop (pre := [])
        have w20 : W F10 _ (os) := w19.drop (pre := [])
        exact ⟨_, _, rfl, bools_q (SqL.of (w10.get (pre := []))) gg10, _, rfl, q4 _ (post_ok hm) _ _ ⟨rfl, _, (s5.trans s10), w20⟩⟩
    intro j4 c4 H4 hc4 hm
    obtain ⟨rfl, F4, s4, w4⟩ := hc4
    replace q1 := s4 _ _ q1
    replace q2 := s4 _ _ q2
    replace h2 := A2.mono s4 h2
    replace q3 := s4 _ _ q3
    replace h3 := A2.mono s4 h3
    replace sF := sF.trans s4
    refine post_ite hm (fun k21 hm => ?_) (fun k21 hm => ?_)
    · skip
      try dsimp only
      exact hm
    · skip
      exact (post_ok hm) _ _ _ w4 sF rep_n
def sp_all_near (K : Fg) : Sp := fun vs H Q E => ∃ (F : Hp) (os : List (Addr × HO)) (v_web : V) (x_web : (Int × (Tup (Int × Int)))), vs = [v_web] ∧ W F H (os) ∧ rep K F v_web x_web ∧ Post (all_near x_web) (Ret K F os Q) noX
theorem sc_all_near : FnScope ["web", "place"] ["web"] (defScope s_all_near) := ⟨rfl, rfl, rfl, by decide +kernel, rfl, by decide +kernel, by decide +kernel⟩
theorem ok_all_near (T : Tx K mg A FD) : FnOk P w K mg base CX0 3 (A 13) (FD 13) ["web"] (sp_all_near K) := by
  refine T.d13.fn.ok sc_all_near (fun vs H Q E h => ?_) (fun cdv Ar outer s H vs Q E hr h => ?_)
  · obtain ⟨F, os, v_web, x_web, rfl, _⟩ := h
    rfl
  · obtain ⟨F0, os, v_web, x_web, rfl, w0, r_web, hm⟩ := h
    have sF : Same F0 F0 := Same.refl _
    obtain ⟨a1, u1, z1, rfl, q1, r1a, r1b⟩ := r_web
    obtain rfl : u1 = V.int x_web.1 := r1a
    obtain ⟨a2, vs2, rfl, q2, h2⟩ := r1b
    refine ⟨_, (pss_one (ps_ret (pe_lc (own := [("place", 1)]) (g := gName 1) (by rfl) sc_all_near.nd (pi_range1 (by rfl) T.n_range (pa_cons (pe_ix (ix_tupK (K := K) rfl) (pv 0) pe_int (fun _ _ => rfl)) pa_nil)) (blkOk_by (own := [("place", 1)]) (N := ["web", "place"]) (sc := defScope s_all_near) (by decide +kernel)) (fun _ _ _ _ _ => (pg_name (i := 1) sc_all_near.nd rfl (Or.inl rfl))) (fun _ _ _ _ _ => pts_nil) (fun _ _ _ _ _ => (pe_call (ok_neighbours_of T) (hr.mono (by decide)) (by rfl) T.d8.mg T.d8.fn.kp T.d8.b .nil pass0 (pa_cons (pv 0) (pa_cons (pv 1) pa_nil))))))), ?_⟩
    obtain ⟨c3, hm⟩ := pb_rng hm
    refine ⟨_, rfl, _, _, _, _, rfl, rfl, SqT.of (w0.same _ _ q1), rfl, _, rfl, c3.2.2.1, c3.2.2.2, fun D4 nD4 => ?_⟩
    refine lcM (K := K) (tw_rng0 (j := x_web.1)) hm w0 nD4 (fun F' H' acc s w => trivial) ?_ ?_
    · -- one turn
      intro b4 x4 F4 H4 H4' acc4 N4 P4 s4 w4 y4 hN4 hm
      replace q1 := s4 _ _ q1
      replace q2 := s4 _ _ q2
      replace h2 := A2.mono s4 h2
      replace sF := sF.trans s4
      obtain ⟨rfl, rfl⟩ := y4
      refine ⟨rfl, _, rfl, _, rfl, _, _, _, (x_web : (Int × (Tup (Int × Int)))), _, rfl, w4, (rep_pair q1 rep_i (rep_tup q2 h2)), ?_⟩
      refine (post_bind hm).mono (fun y6 hm v6 F6 H6 w6 s6 r6 => ?_) (fun _ z => z)
      replace q1 := s6 _ _ q1
      replace q2 := s6 _ _ q2
      replace h2 := A2.mono s6 h2
      replace sF := sF.trans s6
      obtain ⟨a7, vs7, rfl, q7, h7⟩ := r6
      exact hN4 _ (post_ok hm) _ _ _ w6 s6 (rep_lst q7 h7)
    intro us4 F4 H4 ys4 s4 w4 gg4 hm
    replace q1 := s4 _ _ q1
    replace q2 := s4 _ _ q2
    replace h2 := A2.mono s4 h2
    replace sF := sF.trans s4
    obtain ⟨F9, s9, w9, q9⟩ : ∃ F', Same F4 F' ∧ W F' _ (os) ∧ F' D4 = some (.lst us4) := w4.freezeE (pre := [])
    replace q1 := s9 _ _ q1
    replace q2 := s9 _ _ q2
    replace h2 := A2.mono s9 h2
    replace gg4 := A2.mono s9 gg4
    replace sF := sF.trans s9
    exact (post_ok hm) _ _ _ w9 sF (rep_lst q9 gg4)
def sp_piece_from (K : Fg) : Sp := fun vs H Q E => ∃ (F : Hp) (os : List (Addr × HO)) (v_near : V) (x_near : (List (List Int))) (x_place : Int) (x_start : Int), vs = [v_near, .int x_place, .int x_start] ∧ W F H (os) ∧ rep K F v_near x_near ∧ Post (piece_from x_near x_place x_start) (RetL K F os Q) noX
theorem sc_piece_from : FnScope ["near", "place", "start", "found", "line", "at", "other"] ["near", "place", "start"] (defScope s_piece_from) := ⟨rfl, rfl, rfl, by decide +kernel, rfl, by decide +kernel, by decide +kernel⟩
theorem ok_piece_from (T : Tx K mg A FD) : FnOk P w K mg base CX0 1 (A 14) (FD 14) ["near", "place", "start"] (sp_piece_from K) := by
  refine T.d14.fn.ok sc_piece_from (fun vs H Q E h => ?_) (fun cdv Ar outer s H vs Q E hr h => ?_)
  · obtain ⟨F, os, v_near, x_near, x_place, x_start, rfl, _⟩ := h
    rfl
  · obtain ⟨F0, os, v_near, x_near, x_place, x_start, rfl, w0, r_near, hm⟩ := h
    have sF : Same F0 F0 := Same.refl _
    obtain ⟨a1, vs1, rfl, q1, h1⟩ := r_near
    refine ⟨_, (pss_cons (ps_set (i := 3) sc_piece_from.nd rfl (Or.inl rfl) (pe_disp (pps_cons (pv 1) pe_bl (pps_cons (pv 2) pe_bl pps_nil)) rfl rfl (by simp) (by simp))) (pss_cons (ps_set (i := 4) sc_piece_from.nd rfl (Or.inl rfl) (pe_lst (pa_cons (pv 2) pa_nil))) (pss_cons (ps_set (i := 5) sc_piece_from.nd rfl (Or.inl rfl) pe_int1) (pss_cons (ps_while PassesOwn.never (pt_cmp (pc_lt (pv 5) (pe_callB (call_lenN (K := K) rfl) (by rfl) T.n_len (by decide +kernel) (pa_cons (pv 4) pa_nil)))) (pss_cons (ps_for PassesOwn.never rfl (pi_listK (K := K) rfl (pe_ix (ix_listK (K := K) rfl) (pv 0) (pe_ix (ix_listK (K := K) rfl) (pv 4) (pv 5) (fun _ _ => rfl)) (fun _ _ => rfl))) (pg_name (i := 6) sc_piece_from.nd rfl (Or.inl rfl)) (pss_one (ps_if (pt_cmp (pc_dnotinH (Room.units1 hr) (pv 6) (pv 3))) (pss_cons (ps_dput (Room.units1 hr) (pv 3) (pv 6) pe_bl (by rfl)) (pss_one (ps_expr (pe_bm PySem.F.plainAttrs_list PySem.F.slot_list_append PySem.F.type_list_append mt_append (pv 4) (pa_cons (pv 6) pa_nil))))) pss_nil))) (pss_one (ps_set (i := 5) sc_piece_from.nd rfl (Or.inl rfl) (pe_op op_add (pv 5) pe_int))))) (pss_one (ps_ret (pe_callB (cr_sortI (K := K) rfl) (by rfl) T.n_sorted (by decide +kernel) (pa_cons (pv 4) pa_nil)))))))), ?_⟩
    refine fun p2 n2 => ?_
    have w2 : W F0 _ ((p2, .dK []) :: os) := w0.new n2
    refine ⟨_, rfl, _, rfl, (w2.get (pre := [])), encM kI V.bl ([(x_place, true), (x_start, true)] : List (Int × Bool)), rfl, (by show 2 ≤ 15; decide), ?_⟩
    have w3 : W F0 _ ((p2, .dK (mergeK [] (encM kI V.bl ([(x_place, true), (x_start, true)] : List (Int × Bool))))) :: os) := w2.set (pre := [])
    have h2 : (mergeK [] (encM kI V.bl ([(x_place, true), (x_start, true)] : List (Int × Bool)))) = encM kI V.bl (mmk ([(x_place, true), (x_start, true)] : List (Int × Bool))) := merge_enc _ []
    have h4 : A2 (rep K F0) [(.int x_start)] ([x_start] : (List Int)) := .cons rep_i (.nil)
    refine ⟨_, rfl, (by show 1 ≤ sizeLine; decide), fun p5 n5 => ?_⟩
    have w5 : W F0 _ ((p5, .lst [(.int x_start)]) :: (p2, .dK (mergeK [] (encM kI V.bl ([(x_place, true), (x_start, true)] : List (Int × Bool))))) :: os) := w3.new n5
    refine ⟨trivial, ?_⟩
    refine stepN ?_
    try dsimp only
    refine stepSeq (whileS hm (fun (g6 : Int × (List Int) × (List (Int × Bool))) σ H' => ∃ (F' : Hp) (vs6_0 : List V) (vs6_1 : List (Key × V)) (o6_6 : Option V), σ = [some (.ref a1), some (.int x_place), some (.int x_start), some (.ref p2), some (.ref p5), some (.int g6.1), o6_6] ∧ Same F0 F' ∧ W F' H' ((p5, .lst vs6_0) :: (p2, .dK vs6_1) :: os) ∧ A2 (rep K F') vs6_0 g6.2.1 ∧ vs6_1 = encM kI V.bl g6.2.2) ⟨_, _, _, _, rfl, Same.refl _, w5, h4, h2⟩ ?_ ?_ ?_)
    · intro g6 σ6 H6 N6 P6 hI hN6 hm
      obtain ⟨F6, vs6_0, vs6_1, o6_6, rfl, s6, w6, h6_0, h6_1⟩ := hI
      replace h1 := A2.mono s6 h1
      replace q1 := s6 _ _ q1
      replace sF := sF.trans s6
      exact ⟨_, rfl, _, rfl, _, _, _, rfl, .inl (SqL.of (w6.get (pre := []))), h6_0.length, _, _, rfl, rfl, _, rfl, hN6 _ (post_ok hm) _ ⟨_, _, _, _, rfl, s6, w6, h6_0, h6_1⟩⟩
    · intro g6 σ6 H6 N6 P6 hI hN6 hm
      obtain ⟨F6, vs6_0, vs6_1, o6_6, rfl, s6, w6, h6_0, h6_1⟩ := hI
      replace h1 := A2.mono s6 h1
      replace q1 := s6 _ _ q1
      replace sF := sF.trans s6
      obtain ⟨t8, e8, hm⟩ := pb_get hm
      obtain ⟨u8, f8, r8⟩ := A2.at h6_0 e8
      obtain rfl : u8 = V.int t8 := r8
      obtain ⟨t9, e9, hm⟩ := pb_get hm
      obtain ⟨u9, f9, r9⟩ := A2.at h1 e9
      obtain ⟨a10, vs10, rfl, q10, h10⟩ := r9
      refine ⟨_, rfl, _, rfl, _, rfl, _, _, _, _, rfl, rfl, SqL.of (w6.get (pre := [])), f8, _, _, _, _, rfl, rfl, SqL.of (w6.same _ _ q1), f9, _, rfl, ⟨_, SqL.of (w6.same _ _ q10)⟩, ?_⟩
      refine forS (tw_list (a := a10) h10) hm (fun (g7 : (List Int) × (List (Int × Bool))) σ H' => ∃ (F' : Hp) (vs7_0 : List V) (vs7_1 : List (Key × V)) (o7_6 : Option V), σ = [some (.ref a1), some (.int x_place), some (.int x_start), some (.ref p2), some (.ref p5), some (.int g6.1), o7_6] ∧ Same F6 F' ∧ W F' H' ((p5, .lst vs7_0) :: (p2, .dK vs7_1) :: os) ∧ A2 (rep K F') vs7_0 g7.1 ∧ vs7_1 = encM kI V.bl g7.2) ⟨_, _, _, _, rfl, Same.refl _, w6, h6_0, h6_1⟩ (fun g σ H' hI => by obtain ⟨F', _, _, _, _, s, w, _⟩ := hI; exact SqL.of (w.same _ _ (s _ _ q10))) ?_ ?_
      · -- a turn
        intro b7 g7 x7 σ7 H7 H7' N7 P7 hI hy hN7 hm
        obtain ⟨F7, vs7_0, vs7_1, o7_6, rfl, s7, w7, h7_0, h7_1⟩ := hI
        replace h1 := A2.mono s7 h1
        replace q1 := s7 _ _ q1
        replace q10 := s7 _ _ q10
        replace h10 := A2.mono s7 h10
        replace sF := sF.trans s7
        obtain ⟨rfl, r11⟩ := hy
        obtain rfl : x7 = V.int b7 := r11
        refine ⟨_, rfl, _, rfl, _, _, _, rfl, dget_k (ev := V.bl) (m := g7.2) (k := b7) ((w7.get (pre := [_])).trans (congrArg (fun z => some (HO.dK z)) h7_1)), get_has _ _ _, _, rfl, ?_⟩
        refine post_ite hm (fun k12 hm => ?_) (fun k12 hm => ?_)
        · skip
          obtain ⟨l13, z13, e13, hm⟩ := pn_mput hm
          refine ⟨_, rfl, _, rfl, _, _, rfl, dput_k (ev := V.bl) (m := g7.2) (k := b7) (v := true) ((w7.get (pre := [_])).trans (congrArg (fun z => some (HO.dK z)) h7_1)) z13, ?_⟩
          have h13 : (encM kI V.bl (mput g7.2 b7 true)) = encM kI V.bl l13 := by rw [e13]
          have w14 : W F7 _ ((p5, .lst vs7_0) :: (p2, .dK (encM kI V.bl (mput g7.2 b7 true))) :: os) := w7.set (pre := [_])
          obtain ⟨l15, z15, e15, hm⟩ := pn_app hm
          refine ⟨_, rfl, .inl ⟨rfl, _, SqL.of (w14.get (pre := []))⟩, _, rfl, _, _, _, rfl, rfl, (w14.get (pre := [])), (A2.lt h7_0 z15), ?_⟩
          have h15 : A2 (rep K F7) (vs7_0 ++ [(V.int b7)]) l15 := e15 ▸ A2.snoc h7_0 rep_i
          have w16 : W F7 _ ((p5, .lst (vs7_0 ++ [(V.int b7)])) :: (p2, .dK (encM kI V.bl (mput g7.2 b7 true))) :: os) := w14.set (pre := [])
          exact hN7 _ (post_ok hm) _ _ ⟨_, _, _, _, rfl, s7, w16, h15, h13⟩
        · skip
          exact hN7 _ (post_ok hm) _ _ ⟨_, _, _, _, rfl, s7, w7, h7_0, h7_1⟩
      intro g7 σ7 H7 hI hm
      obtain ⟨F7, vs7_0, vs7_1, o7_6, rfl, s7, w7, h7_0, h7_1⟩ := hI
      replace h1 := A2.mono s7 h1
      replace q1 := s7 _ _ q1
      replace q10 := s7 _ _ q10
      replace h10 := A2.mono s7 h10
      replace sF := sF.trans s7
      exact ⟨_, rfl, _, _, rfl, rfl, hN6 _ (post_ok hm) _ _ ⟨_, _, _, _, rfl, (s6.trans s7), w7, h7_0, h7_1⟩⟩
    intro g6 σ6 H6 hI hm
    obtain ⟨F6, vs6_0, vs6_1, o6_6, rfl, s6, w6, h6_0, h6_1⟩ := hI
    replace h1 := A2.mono s6 h1
    replace q1 := s6 _ _ q1
    replace sF := sF.trans s6
    have h17 : A2 (rep K F6) ((sortI g6.2.1).map V.int) (sortI g6.2.1) := A2.of_ints
    refine ⟨_, rfl, _, _, rfl, ints_q (SqL.of (w6.get (pre := []))) h6_0, fun p18 n18 => ?_⟩
    have w18 : W F6 _ ((p18, .lst ((sortI g6.2.1).map V.int)) :: (p5, .lst vs6_0) :: (p2, .dK vs6_1) :: os) := w6.new n18
    have w19 : W F6 _ ((p18, .lst ((sortI g6.2.1).map V.int)) :: (p2, .dK vs6_1) :: os) := w18.drop (pre := [_])
    have w20 : W F6 _ ((p18, .lst ((sortI g6.2.1).map V.int)) :: os) := w19.drop (pre := [_])
    exact (post_ok hm) _ _ _ _ w20 sF h17
def sp_pieces_by (K : Fg) : Sp := fun vs H Q E => ∃ (F : Hp) (os : List (Addr × HO)) (v_near : V) (x_near : (List (List Int))) (x_place : Int), vs = [v_near, .int x_place] ∧ W F H (os) ∧ rep K F v_near x_near ∧ Post (pieces_by x_near x_place) (Ret K F os Q) noX
theorem sc_pieces_by : FnScope ["near", "place", "start"] ["near", "place"] (defScope s_pieces_by) := ⟨rfl, rfl, rfl, by decide +kernel, rfl, by decide +kernel, by decide +kernel⟩
theorem ok_pieces_by (T : Tx K mg A FD) : FnOk P w K mg base CX0 2 (A 15) (FD 15) ["near", "place"] (sp_pieces_by K) := by
  refine T.d15.fn.ok sc_pieces_by (fun vs H Q E h => ?_) (fun cdv Ar outer s H vs Q E hr h => ?_)
  · obtain ⟨F, os, v_near, x_near, x_place, rfl, _⟩ := h
    rfl
  · obtain ⟨F0, os, v_near, x_near, x_place, rfl, w0, r_near, hm⟩ := h
    have sF : Same F0 F0 := Same.refl _
    obtain ⟨a1, vs1, rfl, q1, h1⟩ := r_near
    refine ⟨_, (pss_one (ps_ret (pe_lc (own := [("start", 2)]) (g := gName 2) (by rfl) sc_pieces_by.nd (pi_listK (K := K) rfl (pe_ix (ix_listK (K := K) rfl) (pv 0) (pv 1) (fun _ _ => rfl))) (blkOk_by (own := [("start", 2)]) (N := ["near", "place", "start"]) (sc := defScope s_pieces_by) (by decide +kernel)) (fun _ _ _ _ _ => (pg_name (i := 2) sc_pieces_by.nd rfl (Or.inl rfl))) (fun _ _ _ _ _ => pts_nil) (fun _ _ _ _ _ => (pe_call (ok_piece_from T) (hr.mono (by decide)) (by rfl) T.d14.mg T.d14.fn.kp T.d14.b .nil pass0 (pa_cons (pv 0) (pa_cons (pv 1) (pa_cons (pv 2) pa_nil)))))))), ?_⟩
    obtain ⟨t2, e2, hm⟩ := pb_get hm
    obtain ⟨u2, f2, r2⟩ := A2.at h1 e2
    obtain ⟨a3, vs3, rfl, q3, h3⟩ := r2
    refine ⟨_, rfl, _, rfl, _, _, _, _, rfl, rfl, SqL.of (w0.same _ _ q1), f2, _, rfl, ⟨_, SqL.of (w0.same _ _ q3)⟩, fun D4 nD4 => ?_⟩
    refine lcM (K := K) (tw_list (a := a3) h3) hm w0 nD4 (fun F' H' acc s w => SqL.of (w.same _ _ (s _ _ q3))) ?_ ?_
    · -- one turn
      intro b4 x4 F4 H4 H4' acc4 N4 P4 s4 w4 y4 hN4 hm
      replace q1 := s4 _ _ q1
      replace h1 := A2.mono s4 h1
      replace q3 := s4 _ _ q3
      replace h3 := A2.mono s4 h3
      replace sF := sF.trans s4
      obtain ⟨rfl, r6⟩ := y4
      obtain rfl : x4 = V.int b4 := r6
      refine ⟨rfl, _, rfl, _, rfl, _, rfl, _, _, _, (x_near : (List (List Int))), _, _, rfl, w4, (rep_lst q1 h1), ?_⟩
      refine (post_bind hm).mono (fun y7 hm p7 us7 F7 H7 w7 s7 g7 => ?_) (fun _ z => z)
      replace q1 := s7 _ _ q1
      replace h1 := A2.mono s7 h1
      replace q3 := s7 _ _ q3
      replace h3 := A2.mono s7 h3
      replace sF := sF.trans s7
      obtain ⟨F9, s9, w9, q9⟩ : ∃ F', Same F7 F' ∧ W F' _ ((D4, .lst acc4) :: os) ∧ F' p7 = some (.lst us7) := w7.freezeE (pre := [])
      replace q1 := s9 _ _ q1
      replace h1 := A2.mono s9 h1
      replace q3 := s9 _ _ q3
      replace h3 := A2.mono s9 h3
      replace g7 := A2.mono s9 g7
      replace sF := sF.trans s9
      exact hN4 _ (post_ok hm) _ _ _ w9 (s7.trans s9) (rep_lst q9 g7)
    intro us4 F4 H4 ys4 s4 w4 gg4 hm
    replace q1 := s4 _ _ q1
    replace h1 := A2.mono s4 h1
    replace q3 := s4 _ _ q3
    replace h3 := A2.mono s4 h3
    replace sF := sF.trans s4
    obtain ⟨F11, s11, w11, q11⟩ : ∃ F', Same F4 F' ∧ W F' _ (os) ∧ F' D4 = some (.lst us4) := w4.freezeE (pre := [])
    replace q1 := s11 _ _ q1
    replace h1 := A2.mono s11 h1
    replace q3 := s11 _ _ q3
    replace h3 := A2.mono s11 h3
    replace gg4 := A2.mono s11 gg4
    replace sF := sF.trans s11
    exact (post_ok hm) _ _ _ w11 sF (rep_lst q11 gg4)
def sp_looks_in (K : Fg) : Sp := fun vs H Q E => ∃ (F : Hp) (os : List (Addr × HO)) (v_near : V) (x_near : (List (List Int))) (x_place : Int) (v_looks : V) (x_looks : (List Int)), vs = [v_near, .int x_place, v_looks] ∧ W F H (os) ∧ rep K F v_near x_near ∧ rep K F v_looks x_looks ∧ Post (looks_in x_near x_place x_looks) (Ret K F os Q) noX
theorem sc_looks_in : FnScope ["near", "place", "looks", "piece", "look"] ["near", "place", "looks"] (defScope s_looks_in) := ⟨rfl, rfl, rfl, by decide +kernel, rfl, by decide +kernel, by decide +kernel⟩
theorem ok_looks_in (T : Tx K mg A FD) : FnOk P w K mg base CX0 3 (A 16) (FD 16) ["near", "place", "looks"] (sp_looks_in K) := by
  refine T.d16.fn.ok sc_looks_in (fun vs H Q E h => ?_) (fun cdv Ar outer s H vs Q E hr h => ?_)
  · obtain ⟨F, os, v_near, x_near, x_place, v_looks, x_looks, rfl, _⟩ := h
    rfl
  · obtain ⟨F0, os, v_near, x_near, x_place, v_looks, x_looks, rfl, w0, r_near, r_looks, hm⟩ := h
    have sF : Same F0 F0 := Same.refl _
    obtain ⟨a1, vs1, rfl, q1, h1⟩ := r_near
    obtain ⟨a2, vs2, rfl, q2, h2⟩ := r_looks
    refine ⟨_, (pss_one (ps_ret (pe_lc (own := [("piece", 3)]) (g := gName 3) (by rfl) sc_looks_in.nd (pi_listK (K := K) rfl (pe_call (ok_pieces_by T) (hr.mono (by decide)) (by rfl) T.d15.mg T.d15.fn.kp T.d15.b .nil pass0 (pa_cons (pv 0) (pa_cons (pv 1) pa_nil)))) (blkOk_by (own := [("piece", 3)]) (N := ["near", "place", "looks", "piece", "look"]) (sc := defScope s_looks_in) (by decide +kernel)) (fun _ _ _ _ _ => (pg_name (i := 3) sc_looks_in.nd rfl (Or.inr rfl))) (fun _ _ _ _ _ => pts_nil) (fun _ _ _ _ _ => (pe_callB (call_lenN (K := K) rfl) (by rfl) T.n_len (by decide +kernel) (pa_cons (pe_lc (own := [("look", 4)]) (g := gName 4) (by rfl) sc_looks_in.nd (pi_listK (K := K) rfl (pv 2)) (blkOk_by (own := [("look", 4)]) (N := ["near", "place", "looks", "piece", "look"]) (sc := _) (by kernel_rfl)) (fun _ _ _ _ _ => (pg_name (i := 4) sc_looks_in.nd rfl (Or.inl rfl))) (fun _ _ _ _ _ => (pts_one (pt_cmpR (op_inL (K := K) rfl Int (by decide) (Room.units65 hr)) (pv 4) (pv 3) (by rfl)))) (fun _ _ _ _ _ => (pv 4))) pa_nil)))))), ?_⟩
    refine ⟨_, rfl, _, rfl, _, _, _, (x_near : (List (List Int))), _, rfl, w0, (rep_lst q1 h1), ?_⟩
    refine (post_bind hm).mono (fun y3 hm v3 F3 H3 w3 s3 r3 => ?_) (fun _ z => z)
    replace q1 := s3 _ _ q1
    replace h1 := A2.mono s3 h1
    replace q2 := s3 _ _ q2
    replace h2 := A2.mono s3 h2
    replace sF := sF.trans s3
    obtain ⟨a4, vs4, rfl, q4, h4⟩ := r3
    refine ⟨_, rfl, ⟨_, SqL.of (w3.same _ _ q4)⟩, fun D5 nD5 => ?_⟩
    refine lcM (K := K) (tw_list (a := a4) h4) hm w3 nD5 (fun F' H' acc s w => SqL.of (w.same _ _ (s _ _ q4))) ?_ ?_
    · -- one turn
      intro b5 x5 F5 H5 H5' acc5 N5 P5 s5 w5 y5 hN5 hm
      replace q1 := s5 _ _ q1
      replace h1 := A2.mono s5 h1
      replace q2 := s5 _ _ q2
      replace h2 := A2.mono s5 h2
      replace q4 := s5 _ _ q4
      replace h4 := A2.mono s5 h4
      replace sF := sF.trans s5
      obtain ⟨rfl, r7⟩ := y5
      replace r7 := Rep.mono s5 r7
      obtain ⟨a8, vs8, rfl, q8, h8⟩ := r7
      refine ⟨rfl, _, rfl, _, rfl, ⟨_, SqL.of (w5.same _ _ q2)⟩, fun D9 nD9 => ?_⟩
      refine lcF (K := K) (tw_list (a := a2) h2) hm w5 nD9 (fun F' H' acc s w => SqL.of (w.same _ _ (s _ _ q2))) ?_ ?_
      · -- one turn
        intro b9 x9 F9 H9 H9' acc9 N9 M9 P9 s9 w9 y9 hN9 hM9 hm
        replace q1 := s9 _ _ q1
        replace h1 := A2.mono s9 h1
        replace q2 := s9 _ _ q2
        replace h2 := A2.mono s9 h2
        replace q4 := s9 _ _ q4
        replace h4 := A2.mono s9 h4
        replace q8 := s9 _ _ q8
        replace h8 := A2.mono s9 h8
        replace sF := sF.trans s9
        obtain ⟨rfl, r11⟩ := y9
        obtain rfl : x9 = V.int b9 := r11
        refine ⟨rfl, _, rfl, _, rfl, (b9 : Int), _, rep_i, (Rep.mono w9.same (rep_lst q8 h8)), _, rfl, ?_⟩
        refine post_ite hm (fun k12 hm => ?_) (fun k12 hm => ?_)
        · skip
          exact ⟨_, rfl, hN9 _ (post_ok hm) _ _ _ w9 (Same.refl _) rep_i⟩
        · skip
          exact hM9 (post_ok hm) _ _ w9 (Same.refl _)
      intro us9 F9 H9 ys9 s9 w9 gg9 hm
      replace q1 := s9 _ _ q1
      replace h1 := A2.mono s9 h1
      replace q2 := s9 _ _ q2
      replace h2 := A2.mono s9 h2
      replace q4 := s9 _ _ q4
      replace h4 := A2.mono s9 h4
      replace q8 := s9 _ _ q8
      replace h8 := A2.mono s9 h8
      replace sF := sF.trans s9
      have w14 : W F9 _ ((D5, .lst acc5) :: os) := w9.drop (pre := [])
      exact ⟨_, _, _, rfl, .inl (SqL.of (w9.get (pre := []))), gg9.length, hN5 _ (post_ok hm) _ _ _ w14 s9 rep_i⟩
    intro us5 F5 H5 ys5 s5 w5 gg5 hm
    replace q1 := s5 _ _ q1
    replace h1 := A2.mono s5 h1
    replace q2 := s5 _ _ q2
    replace h2 := A2.mono s5 h2
    replace q4 := s5 _ _ q4
    replace h4 := A2.mono s5 h4
    replace sF := sF.trans s5
    obtain ⟨F16, s16, w16, q16⟩ : ∃ F', Same F5 F' ∧ W F' _ (os) ∧ F' D5 = some (.lst us5) := w5.freezeE (pre := [])
    replace q1 := s16 _ _ q1
    replace h1 := A2.mono s16 h1
    replace q2 := s16 _ _ q2
    replace h2 := A2.mono s16 h2
    replace q4 := s16 _ _ q4
    replace h4 := A2.mono s16 h4
    replace gg5 := A2.mono s16 gg5
    replace sF := sF.trans s16
    exact (post_ok hm) _ _ _ w16 sF (rep_lst q16 gg5)
def sp_tree_strength (K : Fg) : Sp := fun vs H Q E => ∃ (F : Hp) (os : List (Addr × HO)) (v_web : V) (x_web : (Int × (Tup (Int × Int)))) (v_looks : V) (x_looks : (List Int)) (x_kind : Str), vs = [v_web, v_looks, .str x_kind] ∧ W F H (os) ∧ rep K F v_web x_web ∧ rep K F v_looks x_looks ∧ Post (tree_strength x_web x_looks x_kind) (Ret K F os Q) noX
theorem sc_tree_strength : FnScope ["web", "looks", "kind", "near", "found", "place", "counts"] ["web", "looks", "kind"] (defScope s_tree_strength) := ⟨rfl, rfl, rfl, by decide +kernel, rfl, by decide +kernel, by decide +kernel⟩
theorem ok_tree_strength (T : Tx K mg A FD) : FnOk P w K mg base CX0 4 (A 17) (FD 17) ["web", "looks", "kind"] (sp_tree_strength K) := by
  refine T.d17.fn.ok sc_tree_strength (fun vs H Q E h => ?_) (fun cdv Ar outer s H vs Q E hr h => ?_)
  · obtain ⟨F, os, v_web, x_web, v_looks, x_looks, x_kind, rfl, _⟩ := h
    rfl
  · obtain ⟨F0, os, v_web, x_web, v_looks, x_looks, x_kind, rfl, w0, r_web, r_looks, hm⟩ := h
    have sF : Same F0 F0 := Same.refl _
    obtain ⟨a1, u1, z1, rfl, q1, r1a, r1b⟩ := r_web
    obtain rfl : u1 = V.int x_web.1 := r1a
    obtain ⟨a2, vs2, rfl, q2, h2⟩ := r1b
    obtain ⟨a3, vs3, rfl, q3, h3⟩ := r_looks
    refine ⟨_, (pss_cons (ps_expr (pe_call (ok_tree_asked T) (hr.mono (by decide)) (by rfl) T.d11.mg T.d11.fn.kp T.d11.b .nil pass0 (pa_cons (pv 0) pa_nil))) (pss_cons (ps_expr (pe_call (ok_rising_asked T) (hr.mono (by decide)) (by rfl) T.d12.mg T.d12.fn.kp T.d12.b .nil pass0 (pa_cons (pv 0) (pa_cons (pv 1) pa_nil)))) (pss_cons (ps_if (PW.pt (pw_or (pt_cmp (pc_eqI (pe_ix (ix_tupK (K := K) rfl) (pv 0) pe_int (fun _ _ => rfl)) pe_int)) (pw_or1 (PW.pt (pw_and (pt_cmp (pc_eqI (pe_ix (ix_tupK (K := K) rfl) (pv 0) pe_int (fun _ _ => rfl)) pe_int)) (pw_and1 (pt_cmpR op_eqS (pv 2) pe_str (nomark _)))))))) (pss_one (ps_ret pe_non)) pss_nil) (pss_cons (ps_if (PW.pt (pw_and (pt_cmp (pc_eqI (pe_ix (ix_tupK (K := K) rfl) (pv 0) pe_int (fun _ _ => rfl)) pe_int)) (pw_and1 (pt_cmpR op_eqS (pv 2) pe_str (nomark _))))) (pss_one (ps_ret (pe_callB (call_lenN (K := K) rfl) (by rfl) T.n_len (by decide +kernel) (pa_cons (pv 1) pa_nil)))) pss_nil) (pss_cons (ps_set (i := 3) sc_tree_strength.nd rfl (Or.inl rfl) (pe_call (ok_all_near T) (hr.mono (by decide)) (by rfl) T.d13.mg T.d13.fn.kp T.d13.b .nil pass0 (pa_cons (pv 0) pa_nil))) (pss_cons (ps_set (i := 4) sc_tree_strength.nd rfl (Or.inl rfl) (pe_lst pa_nil)) (pss_cons (ps_for PassesOwn.never rfl (pi_range1 (by rfl) T.n_range (pa_cons (pe_ix (ix_tupK (K := K) rfl) (pv 0) pe_int (fun _ _ => rfl)) pa_nil)) (pg_name (i := 5) sc_tree_strength.nd rfl (Or.inl rfl)) (pss_cons (ps_set (i := 6) sc_tree_strength.nd rfl (Or.inl rfl) (pe_callB (cr_sortI (K := K) rfl) (by rfl) T.n_sorted (by decide +kernel) (pa_cons (pe_call (ok_looks_in T) (hr.mono (by decide)) (by rfl) T.d16.mg T.d16.fn.kp T.d16.b .nil pass0 (pa_cons (pv 3) (pa_cons (pv 5) (pa_cons (pv 1) pa_nil)))) pa_nil))) (pss_one (ps_if (pt_cmpR op_eqS (pv 2) pe_str (nomark _)) (pss_one (ps_expr (pe_bm PySem.F.plainAttrs_list PySem.F.slot_list_append PySem.F.type_list_append mt_append (pv 4) (pa_cons (pe_ix (ix_listK (K := K) rfl) (pv 6) pe_int (fun _ _ => rfl)) pa_nil)))) (pss_one (ps_if (pt_cmp (pc_gt (pe_callB (call_lenN (K := K) rfl) (by rfl) T.n_len (by decide +kernel) (pa_cons (pv 6) pa_nil)) pe_int)) (pss_one (ps_expr (pe_bm PySem.F.plainAttrs_list PySem.F.slot_list_append PySem.F.type_list_append mt_append (pv 4) (pa_cons (pe_op op_add (pe_ix (ix_listK (K := K) rfl) (pv 6) pe_int (fun _ _ => rfl)) (pe_ix (ix_listK (K := K) rfl) (pv 6) pe_int (fun _ _ => rfl))) pa_nil)))) pss_nil)))))) (pss_one (ps_ret (pe_callB (cr_minI (K := K) rfl rfl) (by rfl) T.n_min (by decide +kernel) (pa_cons (pv 4) pa_nil))))))))))), ?_⟩
    refine ⟨_, rfl, _, _, _, (x_web : (Int × (Tup (Int × Int)))), rfl, w0, (rep_pair q1 rep_i (rep_tup q2 h2)), ?_⟩
    refine (post_bind hm).mono (fun y4 hm v4 F4 H4 w4 s4 r4 => ?_) (fun _ z => z)
    replace q1 := s4 _ _ q1
    replace q2 := s4 _ _ q2
    replace h2 := A2.mono s4 h2
    replace q3 := s4 _ _ q3
    replace h3 := A2.mono s4 h3
    replace sF := sF.trans s4
    obtain rfl : v4 = V.non := r4
    refine ⟨_, rfl, _, rfl, _, _, _, (x_web : (Int × (Tup (Int × Int)))), _, (x_looks : (List Int)), rfl, w4, (rep_pair q1 rep_i (rep_tup q2 h2)), (rep_lst q3 h3), ?_⟩
    refine (post_bind hm).mono (fun y5 hm v5 F5 H5 w5 s5 r5 => ?_) (fun _ z => z)
    replace q1 := s5 _ _ q1
    replace h2 := A2.mono s5 h2
    replace q2 := s5 _ _ q2
    replace h3 := A2.mono s5 h3
    replace q3 := s5 _ _ q3
    replace sF := sF.trans s5
    obtain rfl : v5 = V.non := r5
    try dsimp only
    refine stepSeq (stepIf ?_)
    refine cutT (fun c H' => c = (((decide (x_web.1 = (1 : Int))) || ((decide (x_web.1 = (2 : Int))) && (decide (x_kind = ("ties" : Str)))))) ∧ ∃ F', Same F5 F' ∧ W F' H' (os)) (fun Q6 q6 => ?_) (fun c6 H6 hc6 => ?_)
    · -- the ways
      refine ⟨_, rfl, _, _, _, _, rfl, rfl, SqT.of (w5.same _ _ q1), rfl, _, _, rfl, rfl, _, rfl, ?_⟩
      refine ifB (fun k7 => ?_) (fun k7 => ?_)
      · skip
        exact q6 _ _ ⟨(by first | rfl | (simp [k7]; done) | ((try simp only [Bool.not_eq_true] at k7); simp only [k7, Bool.true_or, Bool.false_or, Bool.or_false, Bool.or_true, Bool.true_and, Bool.false_and, Bool.and_true, Bool.and_false])), _, Same.refl _, w5⟩
      · skip
        refine cutT (fun c H' => c = (((decide (x_web.1 = (2 : Int))) && (decide (x_kind = ("ties" : Str))))) ∧ ∃ F', Same F5 F' ∧ W F' H' (os)) (fun Q9 q9 => ?_) (fun c9 H9 hc9 => ?_)
        · -- the ways
          refine ⟨_, rfl, _, _, _, _, rfl, rfl, SqT.of (w5.same _ _ q1), rfl, _, _, rfl, rfl, _, rfl, ?_⟩
          refine ifB (fun k10 => ?_) (fun k10 => ?_)
          · skip
            exact ⟨_, rfl, _, _, rfl, rfl, _, rfl, q9 _ _ ⟨(by first | rfl | (simp [k10]; done) | ((try simp only [Bool.not_eq_true] at k10); simp only [k10, Bool.true_or, Bool.false_or, Bool.or_false, Bool.or_true, Bool.true_and, Bool.false_and, Bool.and_true, Bool.and_false])), _, Same.refl _, w5⟩⟩
          · skip
            exact q9 _ _ ⟨(by first | rfl | (simp [k10]; done) | ((try simp only [Bool.not_eq_true] at k10); simp only [k10, Bool.true_or, Bool.false_or, Bool.or_false, Bool.or_true, Bool.true_and, Bool.false_and, Bool.and_true, Bool.and_false])), _, Same.refl _, w5⟩
        obtain ⟨rfl, F9, s9, w9⟩ := hc9
        replace q1 := s9 _ _ q1
        replace h2 := A2.mono s9 h2
        replace q2 := s9 _ _ q2
        replace h3 := A2.mono s9 h3
        replace q3 := s9 _ _ q3
        replace sF := sF.trans s9
        exact q6 _ _ ⟨(by first | rfl | (simp [k7]; done) | ((try simp only [Bool.not_eq_true] at k7); simp only [k7, Bool.true_or, Bool.false_or, Bool.or_false, Bool.or_true, Bool.true_and, Bool.false_and, Bool.and_true, Bool.and_false])), _, s9, w9⟩
    obtain ⟨rfl, F6, s6, w6⟩ := hc6
    replace q1 := s6 _ _ q1
    replace h2 := A2.mono s6 h2
    replace q2 := s6 _ _ q2
    replace h3 := A2.mono s6 h3
    replace q3 := s6 _ _ q3
    replace sF := sF.trans s6
    refine post_ite hm (fun k14 hm => ?_) (fun k14 hm => ?_)
    · skip
      exact (post_ok hm) _ _ _ w6 sF rep_none
    · skip
      refine stepX ?_
      try dsimp only
      refine stepSeq (stepIf ?_)
      refine cutT (fun c H' => c = (((decide (x_web.1 = (2 : Int))) && (decide (x_kind = ("places" : Str))))) ∧ ∃ F', Same F6 F' ∧ W F' H' (os)) (fun Q15 q15 => ?_) (fun c15 H15 hc15 => ?_)
      · -- the ways
        refine ⟨_, rfl, _, _, _, _, rfl, rfl, SqT.of (w6.same _ _ q1), rfl, _, _, rfl, rfl, _, rfl, ?_⟩
        refine ifB (fun k16 => ?_) (fun k16 => ?_)
        · skip
          exact ⟨_, rfl, _, _, rfl, rfl, _, rfl, q15 _ _ ⟨(by first | rfl | (simp [k16]; done) | ((try simp only [Bool.not_eq_true] at k16); simp only [k16, Bool.true_or, Bool.false_or, Bool.or_false, Bool.or_true, Bool.true_and, Bool.false_and, Bool.and_true, Bool.and_false])), _, Same.refl _, w6⟩⟩
        · skip
          exact q15 _ _ ⟨(by first | rfl | (simp [k16]; done) | ((try simp only [Bool.not_eq_true] at k16); simp only [k16, Bool.true_or, Bool.false_or, Bool.or_false, Bool.or_true, Bool.true_and, Bool.false_and, Bool.and_true, Bool.and_false])), _, Same.refl _, w6⟩
      obtain ⟨rfl, F15, s15, w15⟩ := hc15
      replace q1 := s15 _ _ q1
      replace h2 := A2.mono s15 h2
      replace q2 := s15 _ _ q2
      replace h3 := A2.mono s15 h3
      replace q3 := s15 _ _ q3
      replace sF := sF.trans s15
      refine post_ite hm (fun k19 hm => ?_) (fun k19 hm => ?_)
      · skip
        exact ⟨_, rfl, _, _, _, rfl, .inl (SqL.of (w15.same _ _ q3)), h3.length, (post_ok hm) _ _ _ w15 sF (rep_some rep_i)⟩
      · skip
        refine ⟨_, rfl, _, _, _, (x_web : (Int × (Tup (Int × Int)))), rfl, w15, (rep_pair q1 rep_i (rep_tup q2 h2)), ?_⟩
        refine (post_bind hm).mono (fun y20 hm v20 F20 H20 w20 s20 r20 => ?_) (fun _ z => z)
        replace q1 := s20 _ _ q1
        replace h2 := A2.mono s20 h2
        replace q2 := s20 _ _ q2
        replace h3 := A2.mono s20 h3
        replace q3 := s20 _ _ q3
        replace sF := sF.trans s20
        obtain ⟨a21, vs21, rfl, q21, h21⟩ := r20
        have h22 : A2 (rep K F20) [] ([] : (List Int)) := .nil
        refine ⟨(by show 0 ≤ sizeLine; decide), fun p23 n23 => ?_⟩
        have w23 : W F20 _ ((p23, .lst []) :: os) := w20.new n23
        obtain ⟨c25, hm⟩ := pb_rng hm
        refine ⟨_, rfl, _, _, _, _, rfl, rfl, SqT.of (w23.same _ _ q1), rfl, _, rfl, c25.2.2.1, c25.2.2.2, ?_⟩
        refine forS (tw_rng0 (j := x_web.1)) hm (fun (g24 : (List Int)) σ H' => ∃ (F' : Hp) (vs24_0 : List V) (o24_6 : Option V) (o24_5 : Option V), σ = [some (.ref a1), some (.ref a3), some (.str x_kind), some (.ref a21), some (.ref p23), o24_5, o24_6] ∧ Same F20 F' ∧ W F' H' ((p23, .lst vs24_0) :: os) ∧ A2 (rep K F') vs24_0 g24) ⟨_, _, _, _, rfl, Same.refl _, w23, h22⟩ (fun _ _ _ _ => trivial) ?_ ?_
        · -- a turn
          intro b24 g24 x24 σ24 H24 H24' N24 P24 hI hy hN24 hm
          obtain ⟨F24, vs24_0, o24_6, o24_5, rfl, s24, w24, h24_0⟩ := hI
          replace q1 := s24 _ _ q1
          replace h2 := A2.mono s24 h2
          replace q2 := s24 _ _ q2
          replace h3 := A2.mono s24 h3
          replace q3 := s24 _ _ q3
          replace h21 := A2.mono s24 h21
          replace q21 := s24 _ _ q21
          replace sF := sF.trans s24
          obtain ⟨rfl, rfl⟩ := hy
          refine ⟨_, rfl, _, rfl, _, rfl, _, _, _, (y20 : (List (List Int))), _, _, (x_looks : (List Int)), rfl, w24, (rep_lst q21 h21), (rep_lst q3 h3), ?_⟩
          refine (post_bind hm).mono (fun y26 hm v26 F26 H26 w26 s26 r26 => ?_) (fun _ z => z)
          replace q1 := s26 _ _ q1
          replace h2 := A2.mono s26 h2
          replace q2 := s26 _ _ q2
          replace h3 := A2.mono s26 h3
          replace q3 := s26 _ _ q3
          replace h21 := A2.mono s26 h21
          replace q21 := s26 _ _ q21
          replace h24_0 := A2.mono s26 h24_0
          replace sF := sF.trans s26
          obtain ⟨a27, vs27, rfl, q27, h27⟩ := r26
          have h28 : A2 (rep K F26) ((sortI y26).map V.int) (sortI y26) := A2.of_ints
          refine ⟨_, _, rfl, ints_q (SqL.of (w26.same _ _ q27)) h27, fun p29 n29 => ?_⟩
          have w29 : W F26 _ ((p29, .lst ((sortI y26).map V.int)) :: (p23, .lst vs24_0) :: os) := w26.new n29
          obtain ⟨F30, s30, w30, q30⟩ : ∃ F', Same F26 F' ∧ W F' _ ((p23, .lst vs24_0) :: os) ∧ F' p29 = some (.lst ((sortI y26).map V.int)) := w29.freezeE (pre := [])
          replace q1 := s30 _ _ q1
          replace h2 := A2.mono s30 h2
          replace q2 := s30 _ _ q2
          replace h3 := A2.mono s30 h3
          replace q3 := s30 _ _ q3
          replace h21 := A2.mono s30 h21
          replace q21 := s30 _ _ q21
          replace h24_0 := A2.mono s30 h24_0
          replace q27 := s30 _ _ q27
          replace h27 := A2.mono s30 h27
          replace h28 := A2.mono s30 h28
          replace sF := sF.trans s30
          refine ⟨_, rfl, _, _, rfl, rfl, _, rfl, ?_⟩
          refine post_ite hm (fun k31 hm => ?_) (fun k31 hm => ?_)
          · skip
            obtain ⟨t32, e32, hm⟩ := pb_get hm
            obtain ⟨u32, f32, r32⟩ := A2.at h28 e32
            obtain rfl : u32 = V.int t32 := r32
            obtain ⟨l33, z33, e33, hm⟩ := pn_app hm
            refine ⟨_, rfl, .inl ⟨rfl, _, SqL.of (w30.get (pre := []))⟩, _, rfl, _, _, _, _, rfl, rfl, SqL.of (w30.same _ _ q30), f32, _, _, _, rfl, rfl, (w30.get (pre := [])), (A2.lt h24_0 z33), ?_⟩
            have h33 : A2 (rep K F30) (vs24_0 ++ [(V.int t32)]) l33 := e33 ▸ A2.snoc h24_0 rep_i
            have w34 : W F30 _ ((p23, .lst (vs24_0 ++ [(V.int t32)])) :: os) := w30.set (pre := [])
            exact hN24 _ (post_ok hm) _ _ ⟨_, _, _, _, rfl, (s24.trans (s26.trans s30)), w34, h33⟩
          · skip
            refine ⟨_, rfl, _, _, _, rfl, .inl (SqL.of (w30.same _ _ q30)), h28.length, _, _, rfl, rfl, _, rfl, ?_⟩
            refine post_ite hm (fun k35 hm => ?_) (fun k35 hm => ?_)
            · skip
              obtain ⟨t36, e36, hm⟩ := pb_get hm
              obtain ⟨u36, f36, r36⟩ := A2.at h28 e36
              obtain rfl : u36 = V.int t36 := r36
              obtain ⟨t37, e37, hm⟩ := pb_get hm
              obtain ⟨u37, f37, r37⟩ := A2.at h28 e37
              obtain rfl : u37 = V.int t37 := r37
              obtain ⟨l38, z38, e38, hm⟩ := pn_app hm
              refine ⟨_, rfl, .inl ⟨rfl, _, SqL.of (w30.get (pre := []))⟩, _, rfl, _, _, _, _, rfl, rfl, SqL.of (w30.same _ _ q30), f36, _, rfl, _, _, _, _, rfl, rfl, SqL.of (w30.same _ _ q30), f37, _, _, rfl, rfl, _, _, _, rfl, rfl, (w30.get (pre := [])), (A2.lt h24_0 z38), ?_⟩
              have h38 : A2 (rep K F30) (vs24_0 ++ [(V.int (t36 + t37))]) l38 := e38 ▸ A2.snoc h24_0 rep_i
              have w39 : W F30 _ ((p23, .lst (vs24_0 ++ [(V.int (t36 + t37))])) :: os) := w30.set (pre := [])
              exact hN24 _ (post_ok hm) _ _ ⟨_, _, _, _, rfl, (s24.trans (s26.trans s30)), w39, h38⟩
            · skip
              exact hN24 _ (post_ok hm) _ _ ⟨_, _, _, _, rfl, (s24.trans (s26.trans s30)), w30, h24_0⟩
        intro g24 σ24 H24 hI hm
        obtain ⟨F24, vs24_0, o24_6, o24_5, rfl, s24, w24, h24_0⟩ := hI
        replace q1 := s24 _ _ q1
        replace h2 := A2.mono s24 h2
        replace q2 := s24 _ _ q2
        replace h3 := A2.mono s24 h3
        replace q3 := s24 _ _ q3
        replace h21 := A2.mono s24 h21
        replace q21 := s24 _ _ q21
        replace sF := sF.trans s24
        obtain ⟨t40, e40, hm⟩ := pb_min hm
        have w41 : W F24 _ (os) := w24.drop (pre := [])
        exact ⟨_, rfl, _, _, _, rfl, ints_q (SqL.of (w24.get (pre := []))) h24_0, e40, (post_ok hm) _ _ _ w41 sF (rep_some rep_i)⟩
def sp_law_cells (K : Fg) : Sp := fun vs H Q E => ∃ (F : Hp) (os : List (Addr × HO)) (v_script : V) (x_script : Scr) (x_many : Int), vs = [v_script, .int x_many] ∧ W F H (os) ∧ rep K F v_script x_script ∧ Post (law_cells x_script x_many) (RetL K F os Q) noX
theorem sc_law_cells : FnScope ["script", "many", "cells", "k", "cell"] ["script", "many"] (defScope s_law_cells) := ⟨rfl, rfl, rfl, by decide +kernel, rfl, by decide +kernel, by decide +kernel⟩
theorem ok_law_cells (T : Tx K mg A FD) : FnOk P w K mg base CX0 1 (A 19) (FD 19) ["script", "many"] (sp_law_cells K) := by
  refine T.d19.fn.ok sc_law_cells (fun vs H Q E h => ?_) (fun cdv Ar outer s H vs Q E hr h => ?_)
  · obtain ⟨F, os, v_script, x_script, x_many, rfl, _⟩ := h
    rfl
  · obtain ⟨F0, os, v_script, x_script, x_many, rfl, w0, r_script, hm⟩ := h
    have sF : Same F0 F0 := Same.refl _
    obtain ⟨a1, rfl, q1⟩ := r_script
    have h1 : A2 (rep K F0) (x_script.l.map V.int) x_script.l := A2.of_ints
    refine ⟨_, (pss_cons (ps_set (i := 2) sc_law_cells.nd rfl (Or.inl rfl) (pe_callTy (call_list_ofK (K := K) rfl) (by rfl) T.n_list (by decide +kernel) (pa_cons (pe_slice (sl_listK (K := K) rfl) (pv 0) po_none (po_some (pv 1))) pa_nil))) (pss_cons (ps_for PassesOwn.never rfl (pi_k (K := K) (wi := fun K => iEnum K _) rfl (pi_enum (by rfl) T.n_enumerate (pa_cons (pe_slice (sl_listK (K := K) rfl) (pv 0) (po_some (pv 1)) (po_some pe_int)) pa_nil))) (pg_k (K := K) (t := fun K => gTup K 2 _) rfl (pg_tup (n := 2) rfl (pgs_cons (pg_name (i := 3) sc_law_cells.nd rfl (Or.inl rfl)) (pgs_cons (pg_name (i := 4) sc_law_cells.nd rfl (Or.inl rfl)) pgs_nil)))) (pss_one (ps_asg (pe_op op_add (pe_op op_mul (pe_ix (ix_listK (K := K) rfl) (pv 2) (pe_op op_mod (pv 3) (pv 1)) (fun _ _ => rfl)) pe_int) (pv 4)) (pg_sub (pv 2) (pe_op op_mod (pv 3) (pv 1)) set_list)))) (pss_one (ps_ret (pv 2))))), ?_⟩
    have h2 : A2 (rep K F0) (cutV (x_script.l.map V.int) none (some x_many)) (cutL x_script.l none (some x_many)) := sl_cut h1 _ _
    refine ⟨_, rfl, _, rfl, _, rfl, _, _, rfl, w0.same.seq q1, fun p3 n3 => ?_⟩
    have w3 : W F0 _ ((p3, .lst (cutV (x_script.l.map V.int) none (some x_many))) :: os) := w0.new n3
    have h4 : A2 (rep K F0) (cutV (x_script.l.map V.int) none (some x_many)) (cutL x_script.l none (some x_many)) := h2
    refine ⟨_, _, rfl, .inl (SqL.of (w3.get (pre := []))), fun p5 n5 => ?_⟩
    have w5 : W F0 _ ((p5, .lst (cutV (x_script.l.map V.int) none (some x_many))) :: (p3, .lst (cutV (x_script.l.map V.int) none (some x_many))) :: os) := w3.new n5
    have w6 : W F0 _ ((p5, .lst (cutV (x_script.l.map V.int) none (some x_many))) :: os) := w5.drop (pre := [_])
    have h8 : A2 (rep K F0) (cutV (x_script.l.map V.int) (some x_many) (some (63 : Int))) (cutL x_script.l (some x_many) (some (63 : Int))) := sl_cut h1 _ _
    refine ⟨_, rfl, _, rfl, _, rfl, _, rfl, _, _, rfl, w6.same.seq q1, fun p9 n9 => ?_⟩
    have w9 : W F0 _ ((p9, .lst (cutV (x_script.l.map V.int) (some x_many) (some (63 : Int)))) :: (p5, .lst (cutV (x_script.l.map V.int) none (some x_many))) :: os) := w6.new n9
    obtain ⟨F10, s10, w10, q10⟩ : ∃ F', Same F0 F' ∧ W F' _ ((p5, .lst (cutV (x_script.l.map V.int) none (some x_many))) :: os) ∧ F' p9 = some (.lst (cutV (x_script.l.map V.int) (some x_many) (some (63 : Int)))) := w9.freezeE (pre := [])
    replace h1 := A2.mono s10 h1
    replace q1 := s10.seq q1
    replace h4 := A2.mono s10 h4
    replace h8 := A2.mono s10 h8
    replace sF := sF.trans s10
    refine ⟨_, _, rfl, SqL.of (w10.same _ _ q10), ?_⟩
    refine forS (tw_enum (a := p9) h8) hm (fun (g7 : (List Int)) σ H' => ∃ (F' : Hp) (vs7_0 : List V) (o7_3 : Option V) (o7_4 : Option V), σ = [some (.ref a1), some (.int x_many), some (.ref p5), o7_3, o7_4] ∧ Same F10 F' ∧ W F' H' ((p5, .lst vs7_0) :: os) ∧ A2 (rep K F') vs7_0 g7) ⟨_, _, _, _, rfl, Same.refl _, w10, h4⟩ (fun g σ H' hI => by obtain ⟨F', _, _, _, _, s, w, _⟩ := hI; exact SqL.of (w.same _ _ (s _ _ q10))) ?_ ?_
    · -- a turn
      intro b7 g7 x7 σ7 H7 H7' N7 P7 hI hy hN7 hm
      obtain ⟨F7, vs7_0, o7_3, o7_4, rfl, s7, w7, h7_0⟩ := hI
      replace h1 := A2.mono s7 h1
      replace q1 := s7.seq q1
      replace h8 := A2.mono s7 h8
      replace q10 := s7 _ _ q10
      replace sF := sF.trans s7
      obtain ⟨T11, u11, rfl, n11, rfl, r11⟩ := hy
      obtain ⟨F11, s11, w11, q11⟩ := w7.frzE (o := .tup [.int b7.1, u11]) n11
      replace r11 := Rep.mono s7 r11
      replace h1 := A2.mono s11 h1
      replace q1 := s11.seq q1
      replace h8 := A2.mono s11 h8
      replace q10 := s11 _ _ q10
      replace h7_0 := A2.mono s11 h7_0
      replace sF := sF.trans s11
      replace r11 := Rep.mono s11 r11
      obtain rfl : u11 = V.int b7.2 := r11
      obtain ⟨c12, hm⟩ := pb_mod hm
      obtain ⟨t13, e13, hm⟩ := pb_get hm
      obtain ⟨u13, f13, r13⟩ := A2.at h7_0 e13
      obtain rfl : u13 = V.int t13 := r13
      obtain ⟨c15, hm⟩ := pb_mod hm
      obtain ⟨j16, l16, z16, e16, hm⟩ := pn_set hm
      refine ⟨_, _, rfl, SqT.of (w11.same _ _ q11), rfl, _, _, rfl, _, _, rfl, rfl, _, rfl, _, rfl, _, rfl, _, _, rfl, rfl, c12, _, _, _, _, rfl, rfl, SqL.of (w11.get (pre := [])), f13, _, _, rfl, rfl, (.inr (by constructor <;> decide)), _, rfl, _, _, rfl, rfl, _, rfl, _, rfl, _, rfl, _, _, rfl, rfl, c15, _, _, _, _, rfl, rfl, (w11.get (pre := [])), (A2.ix h7_0 z16), ?_⟩
      have h16 : A2 (rep K F11) (vs7_0.set j16 (V.int ((t13 * (31 : Int)) + b7.2))) l16 := e16 ▸ A2.set rep_i j16 h7_0
      have w17 : W F11 _ ((p5, .lst (vs7_0.set j16 (V.int ((t13 * (31 : Int)) + b7.2)))) :: os) := w11.set (pre := [])
      exact hN7 _ (post_ok hm) _ _ ⟨_, _, _, _, rfl, (s7.trans s11), w17, h16⟩
    intro g7 σ7 H7 hI hm
    obtain ⟨F7, vs7_0, o7_3, o7_4, rfl, s7, w7, h7_0⟩ := hI
    replace h1 := A2.mono s7 h1
    replace q1 := s7.seq q1
    replace h8 := A2.mono s7 h8
    replace q10 := s7 _ _ q10
    replace sF := sF.trans s7
    exact ⟨_, rfl, (post_ok hm) _ _ _ _ w7 sF h7_0⟩
def sp_law_pool (K : Fg) : Sp := fun vs H Q E => ∃ (F : Hp) (os : List (Addr × HO)) (v_cells : V) (x_cells : (List Int)) (x_k : Int), vs = [v_cells, .int x_k] ∧ W F H (os) ∧ rep K F v_cells x_cells ∧ Post (law_pool x_cells x_k) (RetL K F os Q) noX
theorem sc_law_pool : FnScope ["cells", "k", "cell", "rest"] ["cells", "k"] (defScope s_law_pool) := ⟨rfl, rfl, rfl, by decide +kernel, rfl, by decide +kernel, by decide +kernel⟩
theorem ok_law_pool (T : Tx K mg A FD) : FnOk P w K mg base CX0 1 (A 20) (FD 20) ["cells", "k"] (sp_law_pool K) := by
  refine T.d20.fn.ok sc_law_pool (fun vs H Q E h => ?_) (fun cdv Ar outer s H vs Q E hr h => ?_)
  · obtain ⟨F, os, v_cells, x_cells, x_k, rfl, _⟩ := h
    rfl
  · obtain ⟨F0, os, v_cells, x_cells, x_k, rfl, w0, r_cells, hm⟩ := h
    have sF : Same F0 F0 := Same.refl _
    obtain ⟨a1, vs1, rfl, q1, h1⟩ := r_cells
    refine ⟨_, (pss_cons (ps_set (i := 2) sc_law_pool.nd rfl (Or.inl rfl) pe_int1) (pss_cons (ps_if (pt_cmp (pc_gt (pe_callB (call_lenN (K := K) rfl) (by rfl) T.n_len (by decide +kernel) (pa_cons (pv 0) pa_nil)) pe_int)) (pss_one (ps_set (i := 2) sc_law_pool.nd rfl (Or.inl rfl) (pe_op op_add (pe_ix (ix_listK (K := K) rfl) (pv 0) (pe_op op_mod (pv 1) (pe_callB (call_lenN (K := K) rfl) (by rfl) T.n_len (by decide +kernel) (pa_cons (pv 0) pa_nil))) (fun _ _ => rfl)) (pe_op op_fdivW (pv 1) (pe_callB (call_lenN (K := K) rfl) (by rfl) T.n_len (by decide +kernel) (pa_cons (pv 0) pa_nil)))))) pss_nil) (pss_cons (ps_set (i := 3) sc_law_pool.nd rfl (Or.inl rfl) pe_int1) (pss_cons (ps_if (PW.pt (pw_or (pt_cmp (pc_lt (pv 2) pe_int)) (pw_or1 (pt_cmp (pc_ge (pv 2) (pe_op op_pow pe_int pe_int)))))) (pss_one (ps_set (i := 3) sc_law_pool.nd rfl (Or.inl rfl) (pe_callB call_abs (by rfl) T.n_abs (by decide +kernel) (pa_cons (pv 2) pa_nil)))) pss_nil) (pss_one (ps_ret (pe_lst (pa_cons (pv 3) (pa_cons (pe_op op_mod (pe_op op_add (pe_op op_mul (pe_op op_mod (pv 2) pe_int) pe_int) (pe_op op_mul (pe_op op_mul pe_int (pe_op op_add (pv 1) pe_int)) (pe_op op_add (pv 1) pe_int))) pe_int) pa_nil))))))))), ?_⟩
    refine ⟨trivial, ?_⟩
    refine stepN ?_
    try dsimp only
    refine joinS hm (fun (g2 : Int) σ H' => ∃ (F' : Hp), σ = [some (.ref a1), some (.int x_k), some (.int g2), none] ∧ Same F0 F' ∧ W F' H' (os)) ?_ ?_
    · intro N2 P2 hN2 hm
      refine ⟨_, rfl, _, _, _, rfl, .inl (SqL.of (w0.same _ _ q1)), h1.length, _, _, rfl, rfl, _, rfl, ?_⟩
      refine post_ite hm (fun k3 hm => ?_) (fun k3 hm => ?_)
      · skip
        obtain ⟨c4, hm⟩ := pb_mod hm
        obtain ⟨t5, e5, hm⟩ := pb_get hm
        obtain ⟨u5, f5, r5⟩ := A2.at h1 e5
        obtain rfl : u5 = V.int t5 := r5
        obtain ⟨c6, hm⟩ := pb_div hm
        exact ⟨_, rfl, _, rfl, _, rfl, _, _, _, rfl, .inl (SqL.of (w0.same _ _ q1)), h1.length, _, _, rfl, rfl, c4, _, _, _, _, rfl, rfl, SqL.of (w0.same _ _ q1), f5, _, rfl, _, rfl, _, _, _, rfl, .inl (SqL.of (w0.same _ _ q1)), h1.length, _, _, rfl, rfl, c6, _, _, rfl, rfl, hN2 _ (post_ok hm) _ _ ⟨_, rfl, Same.refl _, w0⟩⟩
      · skip
        exact hN2 _ (post_ok hm) _ _ ⟨_, rfl, Same.refl _, w0⟩
    intro g2 σ2 H2 hI hm
    obtain ⟨F2, rfl, s2, w2⟩ := hI
    replace h1 := A2.mono s2 h1
    replace q1 := s2 _ _ q1
    replace sF := sF.trans s2
    refine ⟨trivial, ?_⟩
    refine stepN ?_
    try dsimp only
    refine joinS hm (fun (g7 : Int) σ H' => ∃ (F' : Hp), σ = [some (.ref a1), some (.int x_k), some (.int g2), some (.int g7)] ∧ Same F2 F' ∧ W F' H' (os)) ?_ ?_
    · intro N7 P7 hN7 hm
      refine stepIf ?_
      refine joinT hm (fun (j8 : Bool) c H' => c = j8 ∧ ∃ (F' : Hp), Same F2 F' ∧ W F' H' (os)) ?_ ?_
      · intro Q8 P8 q8 hm
        refine ⟨_, rfl, _, _, rfl, rfl, _, rfl, ?_⟩
        refine post_ite hm (fun k9 hm => ?_) (fun k9 hm => ?_)
        · skip
          exact q8 _ (post_ok hm) _ _ ⟨rfl, _, Same.refl _, w2⟩
        · skip
          exact ⟨_, rfl, _, _, rfl, rfl, (by refine ⟨?_, ?_, ?_⟩ <;> decide), _, _, rfl, rfl, _, rfl, q8 _ (post_ok hm) _ _ ⟨rfl, _, Same.refl _, w2⟩⟩
      intro j8 c8 H8 hc8 hm
      obtain ⟨rfl, F8, s8, w8⟩ := hc8
      replace h1 := A2.mono s8 h1
      replace q1 := s8 _ _ q1
      replace sF := sF.trans s8
      refine post_ite hm (fun k13 hm => ?_) (fun k13 hm => ?_)
      · skip
        exact ⟨_, rfl, _, rfl, hN7 _ (post_ok hm) _ _ ⟨_, rfl, s8, w8⟩⟩
      · skip
        exact hN7 _ (post_ok hm) _ _ ⟨_, rfl, s8, w8⟩
    intro g7 σ7 H7 hI hm
    obtain ⟨F7, rfl, s7, w7⟩ := hI
    replace h1 := A2.mono s7 h1
    replace q1 := s7 _ _ q1
    replace sF := sF.trans s7
    obtain ⟨c17, hm⟩ := pb_mul hm
    have h19 : A2 (rep K F7) [(.int g7), (.int ((((g2 % (2147483629 : Int)) * (69621 : Int)) + (((40009 : Int) * (x_k + (1 : Int))) * (x_k + (3 : Int)))) % (2147483629 : Int)))] ([g7, ((((g2 % (2147483629 : Int)) * (69621 : Int)) + (((40009 : Int) * (x_k + (1 : Int))) * (x_k + (3 : Int)))) % (2147483629 : Int))] : (List Int)) := .cons rep_i (.cons rep_i (.nil))
    refine ⟨_, rfl, _, rfl, _, _, rfl, rfl, (by show (0 : Int) < (2147483629 : Int); decide), _, _, rfl, rfl, (.inr (by constructor <;> decide)), _, rfl, _, _, rfl, rfl, _, _, rfl, rfl, (.inl (by constructor <;> decide)), _, rfl, _, _, rfl, rfl, _, _, rfl, rfl, c17, _, _, rfl, rfl, _, _, rfl, rfl, (by show (0 : Int) < (2147483629 : Int); decide), (by show 2 ≤ sizeLine; decide), fun p20 n20 => ?_⟩
    have w20 : W F7 _ ((p20, .lst [(.int g7), (.int ((((g2 % (2147483629 : Int)) * (69621 : Int)) + (((40009 : Int) * (x_k + (1 : Int))) * (x_k + (3 : Int)))) % (2147483629 : Int)))]) :: os) := w7.new n20
    exact (post_ok hm) _ _ _ _ w20 sF h19
def sp_law_take (K : Fg) : Sp := fun vs H Q E => ∃ (F : Hp) (os : List (Addr × HO)) (a_pool : Addr) (vs_pool : List V) (x_pool : (List Int)) (x_many : Int), vs = [.ref a_pool, .int x_many] ∧ W F H ((a_pool, .lst vs_pool) :: os) ∧ A2 (rep K F) vs_pool x_pool ∧ Post (law_take x_pool x_many) (RetM K F a_pool os Q) noX
theorem sc_law_take : FnScope ["pool", "many", "found"] ["pool", "many"] (defScope s_law_take) := ⟨rfl, rfl, rfl, by decide +kernel, rfl, by decide +kernel, by decide +kernel⟩
theorem ok_law_take (T : Tx K mg A FD) : FnOk P w K mg base CX0 1 (A 21) (FD 21) ["pool", "many"] (sp_law_take K) := by
  refine T.d21.fn.ok sc_law_take (fun vs H Q E h => ?_) (fun cdv Ar outer s H vs Q E hr h => ?_)
  · obtain ⟨F, os, a_pool, vs_pool, x_pool, x_many, rfl, _⟩ := h
    rfl
  · obtain ⟨F0, os, a_pool, vs_pool, x_pool, x_many, rfl, w0, h_pool, hm⟩ := h
    have sF : Same F0 F0 := Same.refl _
    refine ⟨_, (pss_cons (ps_if (pt_cmp (pc_gt (pe_ix (ix_listK (K := K) rfl) (pv 0) pe_int (fun _ _ => rfl)) pe_int)) (pss_cons (ps_set (i := 2) sc_law_take.nd rfl (Or.inl rfl) (pe_op op_mod (pe_ix (ix_listK (K := K) rfl) (pv 0) pe_int (fun _ _ => rfl)) (pv 1))) (pss_cons (ps_asg (pe_op op_fdivW (pe_ix (ix_listK (K := K) rfl) (pv 0) pe_int (fun _ _ => rfl)) (pv 1)) (pg_sub (pv 0) pe_int set_list)) (pss_one (ps_ret (pv 2))))) pss_nil) (pss_cons (ps_asg (pe_op op_mod (pe_op op_add (pe_op op_mul (pe_ix (ix_listK (K := K) rfl) (pv 0) pe_int (fun _ _ => rfl)) pe_int) pe_int) pe_int) (pg_sub (pv 0) pe_int set_list)) (pss_one (ps_ret (pe_op op_mod (pe_op op_fdiv (pe_op op_mod (pe_op op_mul (pe_op op_mod (pe_op op_mul (pe_ix (ix_listK (K := K) rfl) (pv 0) pe_int (fun _ _ => rfl)) (pe_ix (ix_listK (K := K) rfl) (pv 0) pe_int (fun _ _ => rfl))) pe_int) pe_int) pe_int) pe_int) (pv 1)))))), ?_⟩
    obtain ⟨t2, e2, hm⟩ := pb_get hm
    obtain ⟨u2, f2, r2⟩ := A2.at h_pool e2
    obtain rfl : u2 = V.int t2 := r2
    refine ⟨_, rfl, _, _, _, _, rfl, rfl, SqL.of (w0.get (pre := [])), f2, _, _, rfl, rfl, _, rfl, ?_⟩
    refine post_ite hm (fun k3 hm => ?_) (fun k3 hm => ?_)
    · skip
      obtain ⟨t4, e4, hm⟩ := pb_get hm
      obtain ⟨u4, f4, r4⟩ := A2.at h_pool e4
      obtain rfl : u4 = V.int t4 := r4
      obtain ⟨c5, hm⟩ := pb_mod hm
      obtain ⟨t6, e6, hm⟩ := pb_get hm
      obtain ⟨u6, f6, r6⟩ := A2.at h_pool e6
      obtain rfl : u6 = V.int t6 := r6
      obtain ⟨c7, hm⟩ := pb_div hm
      obtain ⟨j8, l8, z8, e8, hm⟩ := pn_set hm
      refine ⟨_, rfl, _, _, _, _, rfl, rfl, SqL.of (w0.get (pre := [])), f4, _, rfl, _, _, rfl, rfl, c5, _, rfl, _, _, _, _, rfl, rfl, SqL.of (w0.get (pre := [])), f6, _, rfl, _, _, rfl, rfl, c7, _, rfl, _, _, _, _, rfl, rfl, (w0.get (pre := [])), (A2.ix h_pool z8), ?_⟩
      have h8 : A2 (rep K F0) (vs_pool.set j8 (V.int (t6 / x_many))) l8 := e8 ▸ A2.set rep_i j8 h_pool
      have w9 : W F0 _ ((a_pool, .lst (vs_pool.set j8 (V.int (t6 / x_many)))) :: os) := w0.set (pre := [])
      exact ⟨_, rfl, (post_ok hm) _ _ _ _ w9 sF rep_i h8⟩
    · skip
      obtain ⟨t10, e10, hm⟩ := pb_get hm
      obtain ⟨u10, f10, r10⟩ := A2.at h_pool e10
      obtain rfl : u10 = V.int t10 := r10
      obtain ⟨j13, l13, z13, e13, hm⟩ := pn_set hm
      refine ⟨_, rfl, _, _, _, _, rfl, rfl, SqL.of (w0.get (pre := [])), f10, _, _, rfl, rfl, (.inr (by constructor <;> decide)), _, _, rfl, rfl, _, _, rfl, rfl, (by show (0 : Int) < (2147483647 : Int); decide), _, rfl, _, _, _, _, rfl, rfl, (w0.get (pre := [])), (A2.ix h_pool z13), ?_⟩
      have h13 : A2 (rep K F0) (vs_pool.set j13 (V.int (((t10 * (48271 : Int)) + (12820163 : Int)) % (2147483647 : Int)))) l13 := e13 ▸ A2.set rep_i j13 h_pool
      have w14 : W F0 _ ((a_pool, .lst (vs_pool.set j13 (V.int (((t10 * (48271 : Int)) + (12820163 : Int)) % (2147483647 : Int))))) :: os) := w0.set (pre := [])
      obtain ⟨t15, e15, hm⟩ := pb_get hm
      obtain ⟨u15, f15, r15⟩ := A2.at h13 e15
      obtain rfl : u15 = V.int t15 := r15
      obtain ⟨t16, e16, hm⟩ := pb_get hm
      obtain ⟨u16, f16, r16⟩ := A2.at h13 e16
      obtain rfl : u16 = V.int t16 := r16
      obtain ⟨c17, hm⟩ := pb_mul hm
      obtain ⟨c22, hm⟩ := pb_mod hm
      exact ⟨_, rfl, _, _, _, _, rfl, rfl, SqL.of (w14.get (pre := [])), f15, _, rfl, _, _, _, _, rfl, rfl, SqL.of (w14.get (pre := [])), f16, _, _, rfl, rfl, c17, _, _, rfl, rfl, (by show (0 : Int) < (2147483629 : Int); decide), _, _, rfl, rfl, (.inr (by constructor <;> decide)), _, _, rfl, rfl, (by show (0 : Int) < (2147483587 : Int); decide), _, _, rfl, rfl, (by constructor <;> decide), _, rfl, _, _, rfl, rfl, c22, (post_ok hm) _ _ _ _ w14 sF rep_i h13⟩
def sp_law_some (K : Fg) : Sp := fun vs H Q E => ∃ (F : Hp) (os : List (Addr × HO)) (a_pool : Addr) (vs_pool : List V) (x_pool : (List Int)) (v_menu : V) (x_menu : (List Int)) (x_many : Int), vs = [.ref a_pool, v_menu, .int x_many] ∧ W F H ((a_pool, .lst vs_pool) :: os) ∧ A2 (rep K F) vs_pool x_pool ∧ rep K F v_menu x_menu ∧ Post (law_some x_pool x_menu x_many) (RetLM K F a_pool os Q) noX
theorem sc_law_some : FnScope ["pool", "menu", "many", "rest", "k"] ["pool", "menu", "many"] (defScope s_law_some) := ⟨rfl, rfl, rfl, by decide +kernel, rfl, by decide +kernel, by decide +kernel⟩
theorem ok_law_some (T : Tx K mg A FD) : FnOk P w K mg base CX0 2 (A 22) (FD 22) ["pool", "menu", "many"] (sp_law_some K) := by
  refine T.d22.fn.ok sc_law_some (fun vs H Q E h => ?_) (fun cdv Ar outer s H vs Q E hr h => ?_)
  · obtain ⟨F, os, a_pool, vs_pool, x_pool, v_menu, x_menu, x_many, rfl, _⟩ := h
    rfl
  · obtain ⟨F0, os, a_pool, vs_pool, x_pool, v_menu, x_menu, x_many, rfl, w0, h_pool, r_menu, hm⟩ := h
    have sF : Same F0 F0 := Same.refl _
    obtain ⟨a2, vs2, rfl, q2, h2⟩ := r_menu
    refine ⟨_, (pss_cons (ps_set (i := 3) sc_law_some.nd rfl (Or.inr rfl) (pe_callTy (call_list_ofK (K := K) rfl) (by rfl) T.n_list (by decide +kernel) (pa_cons (pv 1) pa_nil))) (pss_one (ps_ret (pe_lc (own := [("k", 4)]) (g := gName 4) (by rfl) sc_law_some.nd (pi_range1 (by rfl) T.n_range (pa_cons (pv 2) pa_nil)) (blkOk_by (own := [("k", 4)]) (N := ["pool", "menu", "many", "rest", "k"]) (sc := defScope s_law_some) (by decide +kernel)) (fun _ _ _ _ _ => (pg_name (i := 4) sc_law_some.nd rfl (Or.inl rfl))) (fun _ _ _ _ _ => pts_nil) (fun _ _ _ _ _ => (pe_k (K := K) (t := fun K => tBM K _ _ _ _) rfl (pe_bm PySem.F.plainAttrs_list PySem.F.slot_list_pop PySem.F.type_list_pop mt_popAt (pv 3) (pa_cons (pe_call (ok_law_take T) (hr.mono (by decide)) (by rfl) T.d21.mg T.d21.fn.kp T.d21.b .nil pass0 (pa_cons (pv 0) (pa_cons (pe_callB (call_lenN (K := K) rfl) (by rfl) T.n_len (by decide +kernel) (pa_cons (pv 3) pa_nil)) pa_nil))) pa_nil)))))))), ?_⟩
    have h3 : A2 (rep K F0) vs2 x_menu := h2
    refine ⟨_, rfl, _, _, rfl, .inl (SqL.of (w0.same _ _ q2)), fun p4 n4 => ?_⟩
    have w4 : W F0 _ ((p4, .lst vs2) :: (a_pool, .lst vs_pool) :: os) := w0.new n4
    obtain ⟨c5, hm⟩ := pb_rng hm
    refine ⟨_, rfl, _, rfl, c5.2.2.1, c5.2.2.2, fun D6 nD6 => ?_⟩
    refine lcMap (K := K) (tw_rng0 (j := x_many)) hm (fun (g6 : (List Int) × (List Int)) F' os' => ∃ (vs6_0 : List V) (vs6_1 : List V), os' = (p4, .lst vs6_0) :: (a_pool, .lst vs6_1) :: os ∧ A2 (rep K F') vs6_0 g6.1 ∧ A2 (rep K F') vs6_1 g6.2) w4 ⟨_, _, rfl, h3, h_pool⟩ nD6 (fun g F' H' os' acc s w o => by obtain ⟨_, _, rfl, _, _⟩ := o; exact trivial) ?_ ?_
    · -- one turn
      intro b6 g6 x6 F6 H6 H6' os6 acc6 N6 P6 s6 w6 o6 y6 hN6 hm
      obtain ⟨vs6_0, vs6_1, rfl, h6_0, h6_1⟩ := o6
      replace h2 := A2.mono s6 h2
      replace q2 := s6 _ _ q2
      replace sF := sF.trans s6
      obtain ⟨rfl, rfl⟩ := y6
      have w9 : W F6 _ ((a_pool, .lst vs6_1) :: (D6, .lst acc6) :: (p4, .lst vs6_0) :: os) := w6.front (pre := [_, _])
      refine ⟨rfl, _, rfl, .inl ⟨rfl, _, SqL.of (w6.get (pre := [_]))⟩, _, rfl, _, rfl, _, _, _, rfl, .inl (SqL.of (w6.get (pre := [_]))), h6_0.length, _, _, _, _, _, _, rfl, w9, h6_1, ?_⟩
      refine (post_bind hm).mono (fun y10 hm v10 vs10 F10 H10 w10 s10 r10 h10 => ?_) (fun _ z => z)
      replace h2 := A2.mono s10 h2
      replace q2 := s10 _ _ q2
      replace h6_0 := A2.mono s10 h6_0
      replace sF := sF.trans s10
      obtain rfl : v10 = V.int y10.1 := r10
      obtain ⟨j8, x8, l8, z8, i8, y8, e8, hm⟩ := pn_popB hm
      obtain ⟨u8, f8, r8⟩ := A2.get h6_0 y8
      refine ⟨_, _, _, _, _, rfl, rfl, (w10.get (pre := [_, _])), z8.1, z8.2, (ixN_seq (A2.ix h6_0 i8)).1, f8, ?_⟩
      have h8 : A2 (rep K F10) (vs6_0.eraseIdx j8) l8 := e8 ▸ A2.eraseIdx j8 h6_0
      obtain rfl : u8 = V.int x8 := r8
      have w11 : W F10 _ ((a_pool, .lst vs10) :: (D6, .lst acc6) :: (p4, .lst (vs6_0.eraseIdx j8)) :: os) := w10.set (pre := [_, _])
      have w12 : W F10 _ ((p4, .lst (vs6_0.eraseIdx j8)) :: (a_pool, .lst vs10) :: (D6, .lst acc6) :: os) := w11.front (pre := [_, _])
      have w13 : W F10 _ ((D6, .lst acc6) :: (p4, .lst (vs6_0.eraseIdx j8)) :: (a_pool, .lst vs10) :: os) := w12.front (pre := [_, _])
      exact hN6 _ _ (post_ok hm) _ _ _ _ w13 s10 ⟨_, _, rfl, h8, h10⟩ rep_i
    intro g6 us6 F6 H6 os6 ys6 s6 w6 o6 gg6 hm
    obtain ⟨vs6_0, vs6_1, rfl, h6_0, h6_1⟩ := o6
    replace h2 := A2.mono s6 h2
    replace q2 := s6 _ _ q2
    replace sF := sF.trans s6
    have w15 : W F6 _ ((D6, .lst us6) :: (a_pool, .lst vs6_1) :: os) := w6.drop (pre := [_])
    exact (post_ok hm) _ _ _ _ _ w15 sF gg6 h6_1
def sp_law_named (K : Fg) : Sp := fun vs H Q E => ∃ (F : Hp) (os : List (Addr × HO)) (a_pool : Addr) (vs_pool : List V) (x_pool : (List Int)) (x_many : Int) (v_ties : V) (x_ties : (List (Int × Int))), vs = [.ref a_pool, .int x_many, v_ties] ∧ W F H ((a_pool, .lst vs_pool) :: os) ∧ A2 (rep K F) vs_pool x_pool ∧ rep K F v_ties x_ties ∧ Post (law_named x_pool x_many x_ties) (RetM K F a_pool os Q) noX
theorem sc_law_named : FnScope ["pool", "many", "ties", "names", "a", "b"] ["pool", "many", "ties"] (defScope s_law_named) := ⟨rfl, rfl, rfl, by decide +kernel, rfl, by decide +kernel, by decide +kernel⟩
theorem ok_law_named (T : Tx K mg A FD) : FnOk P w K mg base CX0 3 (A 23) (FD 23) ["pool", "many", "ties"] (sp_law_named K) := by
  refine T.d23.fn.ok sc_law_named (fun vs H Q E h => ?_) (fun cdv Ar outer s H vs Q E hr h => ?_)
  · obtain ⟨F, os, a_pool, vs_pool, x_pool, x_many, v_ties, x_ties, rfl, _⟩ := h
    rfl
  · obtain ⟨F0, os, a_pool, vs_pool, x_pool, x_many, v_ties, x_ties, rfl, w0, h_pool, r_ties, hm⟩ := h
    have sF : Same F0 F0 := Same.refl _
    obtain ⟨a2, vs2, rfl, q2, h2⟩ := r_ties
    refine ⟨_, (pss_cons (ps_set (i := 3) sc_law_named.nd rfl (Or.inr rfl) (pe_call (ok_law_some T) (hr.mono (by decide)) (by rfl) T.d22.mg T.d22.fn.kp T.d22.b .nil pass0 (pa_cons (pv 0) (pa_cons (pe_listRg rfl (by rfl) T.n_list (prg_1 (by rfl) T.n_range (pv 1))) (pa_cons (pv 1) pa_nil))))) (pss_one (ps_ret (pe_tup (pa_cons (pv 1) (pa_cons (pe_callTy (call_tuple_ofK (K := K) rfl) (by rfl) T.n_tuple (by decide +kernel) (pa_cons (pe_callB (cr_sortP (K := K) rfl) (by rfl) T.n_sorted (by decide +kernel) (pa_cons (pe_lc (own := [("a", 4), ("b", 5)]) (g := _) (by rfl) sc_law_named.nd (pi_listK (K := K) rfl (pv 2)) (blkOk_by (own := [("a", 4), ("b", 5)]) (N := ["pool", "many", "ties", "names", "a", "b"]) (sc := defScope s_law_named) (by decide +kernel)) (fun _ _ _ _ _ => (pg_k (K := K) (t := fun K => gTup K 2 _) rfl (pg_tup (n := 2) rfl (pgs_cons (pg_name (i := 4) sc_law_named.nd rfl (Or.inl rfl)) (pgs_cons (pg_name (i := 5) sc_law_named.nd rfl (Or.inl rfl)) pgs_nil))))) (fun _ _ _ _ _ => pts_nil) (fun _ _ _ _ _ => (pe_tup (pa_cons (pe_callB (call_min2 rfl) (by rfl) T.n_min (by decide +kernel) (pa_cons (pe_ix (ix_listK (K := K) rfl) (pv 3) (pv 4) (fun _ _ => rfl)) (pa_cons (pe_ix (ix_listK (K := K) rfl) (pv 3) (pv 5) (fun _ _ => rfl)) pa_nil))) (pa_cons (pe_callB (call_max2 rfl) (by rfl) T.n_max (by decide +kernel) (pa_cons (pe_ix (ix_listK (K := K) rfl) (pv 3) (pv 4) (fun _ _ => rfl)) (pa_cons (pe_ix (ix_listK (K := K) rfl) (pv 3) (pv 5) (fun _ _ => rfl)) pa_nil))) pa_nil))))) pa_nil)) pa_nil)) pa_nil)))))), ?_⟩
    obtain ⟨l3, z3, e3, hm⟩ := pb_lrng hm
    have h3 : A2 (rep K F0) (rgV 0 x_many) l3 := by rw [e3, rgV_eq]; exact A2.of_ints
    refine ⟨_, rfl, _, rfl, _, rfl, z3, fun p4 n4 => ?_⟩
    have w4 : W F0 _ ((p4, .lst (rgV 0 x_many)) :: (a_pool, .lst vs_pool) :: os) := w0.new n4
    obtain ⟨F5, s5, w5, q5⟩ : ∃ F', Same F0 F' ∧ W F' _ ((a_pool, .lst vs_pool) :: os) ∧ F' p4 = some (.lst (rgV 0 x_many)) := w4.freezeE (pre := [])
    replace h_pool := A2.mono s5 h_pool
    replace q2 := s5 _ _ q2
    replace h2 := A2.mono s5 h2
    replace h3 := A2.mono s5 h3
    replace sF := sF.trans s5
    refine ⟨_, rfl, _, _, _, _, _, _, (l3 : (List Int)), _, rfl, w5, h_pool, (rep_lst q5 h3), ?_⟩
    refine (post_bind hm).mono (fun y6 hm p6 us6 vs6 F6 H6 w6 s6 g6 h6 => ?_) (fun _ z => z)
    replace q2 := s6 _ _ q2
    replace h2 := A2.mono s6 h2
    replace h3 := A2.mono s6 h3
    replace q5 := s6 _ _ q5
    replace sF := sF.trans s6
    obtain ⟨F8, s8, w8, q8⟩ : ∃ F', Same F6 F' ∧ W F' _ ((a_pool, .lst vs6) :: os) ∧ F' p6 = some (.lst us6) := w6.freezeE (pre := [])
    replace q2 := s8 _ _ q2
    replace h2 := A2.mono s8 h2
    replace h3 := A2.mono s8 h3
    replace q5 := s8 _ _ q5
    replace h6 := A2.mono s8 h6
    replace g6 := A2.mono s8 g6
    replace sF := sF.trans s8
    refine ⟨_, rfl, _, rfl, _, rfl, ⟨_, SqL.of (w8.same _ _ q2)⟩, fun D9 nD9 => ?_⟩
    refine lcM (K := K) (tw_list (a := a2) h2) hm w8 nD9 (fun F' H' acc s w => SqL.of (w.same _ _ (s _ _ q2))) ?_ ?_
    · -- one turn
      intro b9 x9 F9 H9 H9' acc9 N9 P9 s9 w9 y9 hN9 hm
      replace h2 := A2.mono s9 h2
      replace q2 := s9 _ _ q2
      replace g6 := A2.mono s9 g6
      replace q8 := s9 _ _ q8
      replace h6 := A2.mono s9 h6
      replace sF := sF.trans s9
      obtain ⟨rfl, r11⟩ := y9
      replace r11 := Rep.mono s9 r11
      obtain ⟨a12, u12, z12, rfl, q12, r12a, r12b⟩ := r11
      obtain rfl : u12 = V.int b9.1 := r12a
      obtain rfl : z12 = V.int b9.2 := r12b
      obtain ⟨t13, e13, hm⟩ := pb_get hm
      obtain ⟨u13, f13, r13⟩ := A2.at g6 e13
      obtain rfl : u13 = V.int t13 := r13
      obtain ⟨t14, e14, hm⟩ := pb_get hm
      obtain ⟨u14, f14, r14⟩ := A2.at g6 e14
      obtain rfl : u14 = V.int t14 := r14
      obtain ⟨t15, e15, hm⟩ := pb_get hm
      obtain ⟨u15, f15, r15⟩ := A2.at g6 e15
      obtain rfl : u15 = V.int t15 := r15
      obtain ⟨t16, e16, hm⟩ := pb_get hm
      obtain ⟨u16, f16, r16⟩ := A2.at g6 e16
      obtain rfl : u16 = V.int t16 := r16
      refine ⟨_, _, rfl, SqT.of (w9.same _ _ q12), rfl, _, _, rfl, _, _, rfl, rfl, rfl, _, rfl, _, rfl, _, _, _, _, rfl, rfl, SqL.of (w9.same _ _ q8), f13, _, rfl, _, rfl, _, _, _, _, rfl, rfl, SqL.of (w9.same _ _ q8), f14, _, _, rfl, _, rfl, _, rfl, _, _, _, _, rfl, rfl, SqL.of (w9.same _ _ q8), f15, _, rfl, _, rfl, _, _, _, _, rfl, rfl, SqL.of (w9.same _ _ q8), f16, _, _, rfl, (by show 2 ≤ sizeLine; decide), fun p17 n17 => ?_⟩
      obtain ⟨F17, s17, w17, q17⟩ := w9.frzE (o := .tup [(.int (min2 t13 t14)), (.int (max2 t15 t16))]) n17
      replace h2 := A2.mono s17 h2
      replace q2 := s17 _ _ q2
      replace g6 := A2.mono s17 g6
      replace q8 := s17 _ _ q8
      replace h6 := A2.mono s17 h6
      replace q12 := s17 _ _ q12
      replace sF := sF.trans s17
      exact hN9 _ (post_ok hm) _ _ _ w17 s17 (rep_pair q17 rep_i rep_i)
    intro us9 F9 H9 ys9 s9 w9 gg9 hm
    replace h2 := A2.mono s9 h2
    replace q2 := s9 _ _ q2
    replace g6 := A2.mono s9 g6
    replace q8 := s9 _ _ q8
    replace h6 := A2.mono s9 h6
    replace sF := sF.trans s9
    refine ⟨_, _, F9, ys9, rfl, SqL.of (w9.get (pre := [])), w9.same, gg9, fun p19 us19 n19 h19 => ?_⟩
    have w19 : W F9 _ ((p19, .lst us19) :: (D9, .lst us9) :: (a_pool, .lst vs6) :: os) := w9.new n19
    have h21 : A2 (rep K F9) us19 (sortP ys9) := h19
    refine ⟨_, _, rfl, .inl ⟨SqL.of (w19.get (pre := [])), fun p22 n22 => ?_⟩⟩
    obtain ⟨F22, s22, w22, q22⟩ := w19.frzE (o := .tup us19) n22
    replace h2 := A2.mono s22 h2
    replace q2 := s22 _ _ q2
    replace g6 := A2.mono s22 g6
    replace q8 := s22 _ _ q8
    replace h6 := A2.mono s22 h6
    replace gg9 := A2.mono s22 gg9
    replace h19 := A2.mono s22 h19
    replace h21 := A2.mono s22 h21
    replace sF := sF.trans s22
    refine ⟨(by show 2 ≤ sizeLine; decide), fun p23 n23 => ?_⟩
    obtain ⟨F23, s23, w23, q23⟩ := w22.frzE (o := .tup [(.int x_many), (.ref p22)]) n23
    replace h2 := A2.mono s23 h2
    replace q2 := s23 _ _ q2
    replace g6 := A2.mono s23 g6
    replace q8 := s23 _ _ q8
    replace h6 := A2.mono s23 h6
    replace gg9 := A2.mono s23 gg9
    replace h19 := A2.mono s23 h19
    replace h21 := A2.mono s23 h21
    replace q22 := s23 _ _ q22
    replace sF := sF.trans s23
    have w24 : W F23 _ ((D9, .lst us9) :: (a_pool, .lst vs6) :: os) := w23.drop (pre := [])
    have w25 : W F23 _ ((a_pool, .lst vs6) :: os) := w24.drop (pre := [])
    exact (post_ok hm) _ _ _ _ w25 sF (rep_pair q23 rep_i (rep_tup q22 h21)) h6
def sp_law_tree (K : Fg) : Sp := fun vs H Q E => ∃ (F : Hp) (os : List (Addr × HO)) (a_pool : Addr) (vs_pool : List V) (x_pool : (List Int)) (x_most : Int), vs = [.ref a_pool, .int x_most] ∧ W F H ((a_pool, .lst vs_pool) :: os) ∧ A2 (rep K F) vs_pool x_pool ∧ Post (law_tree x_pool x_most) (RetM K F a_pool os Q) noX
theorem sc_law_tree : FnScope ["pool", "most", "many", "shape", "ties", "k", "ahead"] ["pool", "most"] (defScope s_law_tree) := ⟨rfl, rfl, rfl, by decide +kernel, rfl, by decide +kernel, by decide +kernel⟩
theorem ok_law_tree (T : Tx K mg A FD) : FnOk P w K mg base CX0 4 (A 24) (FD 24) ["pool", "most"] (sp_law_tree K) := by
  refine T.d24.fn.ok sc_law_tree (fun vs H Q E h => ?_) (fun cdv Ar outer s H vs Q E hr h => ?_)
  · obtain ⟨F, os, a_pool, vs_pool, x_pool, x_most, rfl, _⟩ := h
    rfl
  · obtain ⟨F0, os, a_pool, vs_pool, x_pool, x_most, rfl, w0, h_pool, hm⟩ := h
    have sF : Same F0 F0 := Same.refl _
    refine ⟨_, (pss_cons (ps_set (i := 2) sc_law_tree.nd rfl (Or.inl rfl) (pe_op op_add pe_int (pe_call (ok_law_take T) (hr.mono (by decide)) (by rfl) T.d21.mg T.d21.fn.kp T.d21.b .nil pass0 (pa_cons (pv 0) (pa_cons (pv 1) pa_nil))))) (pss_cons (ps_set (i := 3) sc_law_tree.nd rfl (Or.inl rfl) (pe_call (ok_law_take T) (hr.mono (by decide)) (by rfl) T.d21.mg T.d21.fn.kp T.d21.b .nil pass0 (pa_cons (pv 0) (pa_cons pe_int pa_nil)))) (pss_cons (ps_set (i := 4) sc_law_tree.nd rfl (Or.inl rfl) (pe_lst pa_nil)) (pss_cons (ps_for PassesOwn.never rfl (pi_range2 (by rfl) T.n_range (pa_cons pe_int (pa_cons (pv 2) pa_nil))) (pg_name (i := 5) sc_law_tree.nd rfl (Or.inl rfl)) (pss_cons (ps_set (i := 6) sc_law_tree.nd rfl (Or.inl rfl) (pe_lst (pa_cons (pe_op op_sub (pv 5) pe_int) (pa_cons pe_int (pa_cons (pe_call (ok_law_take T) (hr.mono (by decide)) (by rfl) T.d21.mg T.d21.fn.kp T.d21.b .nil pass0 (pa_cons (pv 0) (pa_cons (pv 5) pa_nil))) (pa_cons (pe_callB (call_max2 rfl) (by rfl) T.n_max (by decide +kernel) (pa_cons pe_int (pa_cons (pe_op op_sub (pe_op op_sub (pv 5) pe_int) (pe_call (ok_law_take T) (hr.mono (by decide)) (by rfl) T.d21.mg T.d21.fn.kp T.d21.b .nil pass0 (pa_cons (pv 0) (pa_cons pe_int pa_nil)))) pa_nil))) (pa_cons (pe_call (ok_law_take T) (hr.mono (by decide)) (by rfl) T.d21.mg T.d21.fn.kp T.d21.b .nil pass0 (pa_cons (pv 0) (pa_cons (pe_callB (call_min2 rfl) (by rfl) T.n_min (by decide +kernel) (pa_cons (pv 5) (pa_cons pe_int pa_nil))) pa_nil))) pa_nil))))))) (pss_one (ps_expr (pe_bm PySem.F.plainAttrs_list PySem.F.slot_list_append PySem.F.type_list_append mt_append (pv 4) (pa_cons (pe_tup (pa_cons (pe_ix (ix_listK (K := K) rfl) (pe_op op_cat (pv 6) (pe_lst (pa_cons (pe_op op_fdiv (pe_op op_sub (pv 5) pe_int) pe_int) pa_nil))) (pv 3) (fun _ _ => rfl)) (pa_cons (pv 5) pa_nil))) pa_nil)))))) (pss_one (ps_ret (pe_call (ok_law_named T) (hr.mono (by decide)) (by rfl) T.d23.mg T.d23.fn.kp T.d23.b .nil pass0 (pa_cons (pv 0) (pa_cons (pv 2) (pa_cons (pv 4) pa_nil)))))))))), ?_⟩
    refine ⟨_, rfl, _, rfl, _, _, _, _, _, _, rfl, w0, h_pool, ?_⟩
    refine (post_bind hm).mono (fun y2 hm v2 vs2 F2 H2 w2 s2 r2 h2 => ?_) (fun _ z => z)
    replace sF := sF.trans s2
    obtain rfl : v2 = V.int y2.1 := r2
    refine ⟨_, _, rfl, rfl, _, rfl, _, _, _, _, _, _, rfl, w2, h2, ?_⟩
    refine (post_bind hm).mono (fun y3 hm v3 vs3 F3 H3 w3 s3 r3 h3 => ?_) (fun _ z => z)
    replace sF := sF.trans s3
    obtain rfl : v3 = V.int y3.1 := r3
    have h4 : A2 (rep K F3) [] ([] : (List (Int × Int))) := .nil
    refine ⟨(by show 0 ≤ sizeLine; decide), fun p5 n5 => ?_⟩
    have w5 : W F3 _ ((p5, .lst []) :: (a_pool, .lst vs3) :: os) := w3.new n5
    obtain ⟨c7, hm⟩ := pb_rng hm
    refine ⟨_, rfl, _, _, rfl, c7, ?_⟩
    refine forS (tw_rng (i := (1 : Int)) (j := ((1 : Int) + y2.1))) hm (fun (g6 : (List (Int × Int)) × (List Int)) σ H' => ∃ (F' : Hp) (vs6_0 : List V) (vs6_1 : List V) (o6_6 : Option V) (o6_5 : Option V), σ = [some (.ref a_pool), some (.int x_most), some (.int ((1 : Int) + y2.1)), some (.int y3.1), some (.ref p5), o6_5, o6_6] ∧ Same F3 F' ∧ W F' H' ((p5, .lst vs6_0) :: (a_pool, .lst vs6_1) :: os) ∧ A2 (rep K F') vs6_0 g6.1 ∧ A2 (rep K F') vs6_1 g6.2) ⟨_, _, _, _, _, rfl, Same.refl _, w5, h4, h3⟩ (fun _ _ _ _ => trivial) ?_ ?_
    · -- a turn
      intro b6 g6 x6 σ6 H6 H6' N6 P6 hI hy hN6 hm
      obtain ⟨F6, vs6_0, vs6_1, o6_6, o6_5, rfl, s6, w6, h6_0, h6_1⟩ := hI
      replace sF := sF.trans s6
      obtain ⟨rfl, rfl⟩ := hy
      have w8 : W F6 _ ((a_pool, .lst vs6_1) :: (p5, .lst vs6_0) :: os) := w6.front (pre := [_])
      refine ⟨_, rfl, _, _, rfl, rfl, _, rfl, _, rfl, _, _, _, _, _, _, rfl, w8, h6_1, ?_⟩
      refine (post_bind hm).mono (fun y9 hm v9 vs9 F9 H9 w9 s9 r9 h9 => ?_) (fun _ z => z)
      replace h6_0 := A2.mono s9 h6_0
      replace sF := sF.trans s9
      obtain rfl : v9 = V.int y9.1 := r9
      refine ⟨_, rfl, _, _, rfl, rfl, _, rfl, _, _, _, _, _, _, rfl, w9, h9, ?_⟩
      refine (post_bind hm).mono (fun y10 hm v10 vs10 F10 H10 w10 s10 r10 h10 => ?_) (fun _ z => z)
      replace h6_0 := A2.mono s10 h6_0
      replace sF := sF.trans s10
      obtain rfl : v10 = V.int y10.1 := r10
      refine ⟨_, _, rfl, rfl, _, _, rfl, _, rfl, _, rfl, _, _, rfl, _, _, _, _, _, _, rfl, w10, h10, ?_⟩
      refine (post_bind hm).mono (fun y11 hm v11 vs11 F11 H11 w11 s11 r11 h11 => ?_) (fun _ z => z)
      replace h6_0 := A2.mono s11 h6_0
      replace sF := sF.trans s11
      obtain rfl : v11 = V.int y11.1 := r11
      have h12 : A2 (rep K F11) [(.int (b6 - (1 : Int))), (.int 0), (.int y9.1), (.int (max2 (0 : Int) ((b6 - (1 : Int)) - y10.1))), (.int y11.1)] ([(b6 - (1 : Int)), (0 : Int), y9.1, (max2 (0 : Int) ((b6 - (1 : Int)) - y10.1)), y11.1] : (List Int)) := .cons rep_i (.cons rep_i (.cons rep_i (.cons rep_i (.cons rep_i (.nil)))))
      refine ⟨(by show 5 ≤ sizeLine; decide), fun p13 n13 => ?_⟩
      have w13 : W F11 _ ((p13, .lst [(.int (b6 - (1 : Int))), (.int 0), (.int y9.1), (.int (max2 (0 : Int) ((b6 - (1 : Int)) - y10.1))), (.int y11.1)]) :: (a_pool, .lst vs11) :: (p5, .lst vs6_0) :: os) := w11.new n13
      obtain ⟨F14, s14, w14, q14⟩ : ∃ F', Same F11 F' ∧ W F' _ ((a_pool, .lst vs11) :: (p5, .lst vs6_0) :: os) ∧ F' p13 = some (.lst [(.int (b6 - (1 : Int))), (.int 0), (.int y9.1), (.int (max2 (0 : Int) ((b6 - (1 : Int)) - y10.1))), (.int y11.1)]) := w13.freezeE (pre := [])
      replace h6_0 := A2.mono s14 h6_0
      replace h11 := A2.mono s14 h11
      replace h12 := A2.mono s14 h12
      replace sF := sF.trans s14
      have h16 : A2 (rep K F14) [(.int ((b6 - (1 : Int)) / (2 : Int)))] ([((b6 - (1 : Int)) / (2 : Int))] : (List Int)) := .cons rep_i (.nil)
      refine ⟨_, rfl, .inl ⟨rfl, _, SqL.of (w14.get (pre := [_]))⟩, _, rfl, _, rfl, _, _, rfl, rfl, _, _, rfl, rfl, (by constructor <;> decide), (by show 1 ≤ sizeLine; decide), fun p17 n17 => ?_⟩
      have w17 : W F14 _ ((p17, .lst [(.int ((b6 - (1 : Int)) / (2 : Int)))]) :: (a_pool, .lst vs11) :: (p5, .lst vs6_0) :: os) := w14.new n17
      obtain ⟨l18, z18, e18, hm⟩ := pn_extend hm
      have h18 : A2 (rep K F14) ([(.int (b6 - (1 : Int))), (.int 0), (.int y9.1), (.int (max2 (0 : Int) ((b6 - (1 : Int)) - y10.1))), (.int y11.1)] ++ [(.int ((b6 - (1 : Int)) / (2 : Int)))]) l18 := e18 ▸ A2.append h12 h16
      refine ⟨_, _, _, _, rfl, rfl, (w17.same _ _ q14), (w17.get (pre := [])), (A2.le2 h12 h16 z18), fun p19 n19 => ?_⟩
      have w19 : W F14 _ ((p19, .lst ([(.int (b6 - (1 : Int))), (.int 0), (.int y9.1), (.int (max2 (0 : Int) ((b6 - (1 : Int)) - y10.1))), (.int y11.1)] ++ [(.int ((b6 - (1 : Int)) / (2 : Int)))])) :: (p17, .lst [(.int ((b6 - (1 : Int)) / (2 : Int)))]) :: (a_pool, .lst vs11) :: (p5, .lst vs6_0) :: os) := w17.new n19
      obtain ⟨t20, e20, hm⟩ := pb_get hm
      obtain ⟨u20, f20, r20⟩ := A2.at h18 e20
      obtain rfl : u20 = V.int t20 := r20
      refine ⟨_, rfl, _, _, _, _, rfl, rfl, SqL.of (w19.get (pre := [])), f20, _, rfl, (by show 2 ≤ sizeLine; decide), fun p21 n21 => ?_⟩
      obtain ⟨F21, s21, w21, q21⟩ := w19.frzE (o := .tup [(.int t20), (.int b6)]) n21
      replace h12 := A2.mono s21 h12
      replace q14 := s21 _ _ q14
      replace h11 := A2.mono s21 h11
      replace h6_0 := A2.mono s21 h6_0
      replace h16 := A2.mono s21 h16
      replace h18 := A2.mono s21 h18
      replace sF := sF.trans s21
      obtain ⟨l22, z22, e22, hm⟩ := pn_app hm
      refine ⟨_, _, _, rfl, rfl, (w21.get (pre := [_, _, _])), (A2.lt h6_0 z22), ?_⟩
      have h22 : A2 (rep K F21) (vs6_0 ++ [(V.ref p21)]) l22 := e22 ▸ A2.snoc h6_0 (rep_pair q21 rep_i rep_i)
      have w23 : W F21 _ ((p19, .lst ([(.int (b6 - (1 : Int))), (.int 0), (.int y9.1), (.int (max2 (0 : Int) ((b6 - (1 : Int)) - y10.1))), (.int y11.1)] ++ [(.int ((b6 - (1 : Int)) / (2 : Int)))])) :: (p17, .lst [(.int ((b6 - (1 : Int)) / (2 : Int)))]) :: (a_pool, .lst vs11) :: (p5, .lst (vs6_0 ++ [(V.ref p21)])) :: os) := w21.set (pre := [_, _, _])
      have w24 : W F21 _ ((p17, .lst [(.int ((b6 - (1 : Int)) / (2 : Int)))]) :: (a_pool, .lst vs11) :: (p5, .lst (vs6_0 ++ [(V.ref p21)])) :: os) := w23.drop (pre := [])
      have w25 : W F21 _ ((a_pool, .lst vs11) :: (p5, .lst (vs6_0 ++ [(V.ref p21)])) :: os) := w24.drop (pre := [])
      have w26 : W F21 _ ((p5, .lst (vs6_0 ++ [(V.ref p21)])) :: (a_pool, .lst vs11) :: os) := w25.front (pre := [_])
      exact hN6 _ (post_ok hm) _ _ ⟨_, _, _, _, _, rfl, (s6.trans (s9.trans (s10.trans (s11.trans (s14.trans s21))))), w26, h22, h11⟩
    intro g6 σ6 H6 hI hm
    obtain ⟨F6, vs6_0, vs6_1, o6_6, o6_5, rfl, s6, w6, h6_0, h6_1⟩ := hI
    replace sF := sF.trans s6
    obtain ⟨F27, s27, w27, q27⟩ : ∃ F', Same F6 F' ∧ W F' _ ((a_pool, .lst vs6_1) :: os) ∧ F' p5 = some (.lst vs6_0) := w6.freezeE (pre := [])
    replace h6_0 := A2.mono s27 h6_0
    replace h6_1 := A2.mono s27 h6_1
    replace sF := sF.trans s27
    refine ⟨_, rfl, _, rfl, _, rfl, _, _, _, _, _, _, _, (g6.1 : (List (Int × Int))), rfl, w27, h6_1, (rep_lst q27 h6_0), ?_⟩
    refine (post_bind hm).mono (fun y28 hm v28 vs28 F28 H28 w28 s28 r28 h28 => ?_) (fun _ z => z)
    replace h6_0 := A2.mono s28 h6_0
    replace q27 := s28 _ _ q27
    replace sF := sF.trans s28
    obtain ⟨a29, u29, z29, rfl, q29, r29a, r29b⟩ := r28
    obtain rfl : u29 = V.int y28.1.1 := r29a
    obtain ⟨a30, vs30, rfl, q30, h30⟩ := r29b
    exact (post_ok hm) _ _ _ _ w28 sF (rep_pair q29 rep_i (rep_tup q30 h30)) h28
def sp_law_looks (K : Fg) : Sp := fun vs H Q E => ∃ (F : Hp) (os : List (Addr × HO)) (a_pool : Addr) (vs_pool : List V) (x_pool : (List Int)) (x_many : Int), vs = [.ref a_pool, .int x_many] ∧ W F H ((a_pool, .lst vs_pool) :: os) ∧ A2 (rep K F) vs_pool x_pool ∧ Post (law_looks x_pool x_many) (RetLM K F a_pool os Q) noX
theorem sc_law_looks : FnScope ["pool", "many", "part", "place"] ["pool", "many"] (defScope s_law_looks) := ⟨rfl, rfl, rfl, by decide +kernel, rfl, by decide +kernel, by decide +kernel⟩
theorem ok_law_looks (T : Tx K mg A FD) : FnOk P w K mg base CX0 2 (A 25) (FD 25) ["pool", "many"] (sp_law_looks K) := by
  refine T.d25.fn.ok sc_law_looks (fun vs H Q E h => ?_) (fun cdv Ar outer s H vs Q E hr h => ?_)
  · obtain ⟨F, os, a_pool, vs_pool, x_pool, x_many, rfl, _⟩ := h
    rfl
  · obtain ⟨F0, os, a_pool, vs_pool, x_pool, x_many, rfl, w0, h_pool, hm⟩ := h
    have sF : Same F0 F0 := Same.refl _
    refine ⟨_, (pss_cons (ps_set (i := 2) sc_law_looks.nd rfl (Or.inr rfl) (pe_call (ok_law_take T) (hr.mono (by decide)) (by rfl) T.d21.mg T.d21.fn.kp T.d21.b .nil pass0 (pa_cons (pv 0) (pa_cons pe_int pa_nil)))) (pss_one (ps_ret (pe_lc (own := [("place", 3)]) (g := gName 3) (by rfl) sc_law_looks.nd (pi_range1 (by rfl) T.n_range (pa_cons (pv 1) pa_nil)) (blkOk_by (own := [("place", 3)]) (N := ["pool", "many", "part", "place"]) (sc := defScope s_law_looks) (by decide +kernel)) (fun _ _ _ _ _ => (pg_name (i := 3) sc_law_looks.nd rfl (Or.inl rfl))) (fun _ _ _ _ _ => (pts_one (pt_cmp (pc_lt (pe_call (ok_law_take T) (hr.mono (by decide)) (by rfl) T.d21.mg T.d21.fn.kp T.d21.b .nil pass0 (pa_cons (pv 0) (pa_cons pe_int pa_nil))) (pe_ix (ix_listK (K := K) rfl) (pe_lst (pa_cons pe_int (pa_cons pe_int (pa_cons pe_int (pa_cons pe_int (pa_cons pe_int (pa_cons pe_int pa_nil))))))) (pv 2) (fun _ _ => rfl)))))) (fun _ _ _ _ _ => (pv 3)))))), ?_⟩
    refine ⟨_, rfl, _, _, _, _, _, _, rfl, w0, h_pool, ?_⟩
    refine (post_bind hm).mono (fun y2 hm v2 vs2 F2 H2 w2 s2 r2 h2 => ?_) (fun _ z => z)
    replace sF := sF.trans s2
    obtain rfl : v2 = V.int y2.1 := r2
    obtain ⟨c3, hm⟩ := pb_rng hm
    refine ⟨_, rfl, _, rfl, c3.2.2.1, c3.2.2.2, fun D4 nD4 => ?_⟩
    refine lcFil (K := K) (tw_rng0 (j := x_many)) hm (fun (g4 : (List Int)) F' os' => ∃ (vs4_0 : List V), os' = (a_pool, .lst vs4_0) :: os ∧ A2 (rep K F') vs4_0 g4) w2 ⟨_, rfl, h2⟩ nD4 (fun g F' H' os' acc s w o => by obtain ⟨_, rfl, _⟩ := o; exact trivial) ?_ ?_
    · -- one turn
      intro b4 g4 x4 F4 H4 H4' os4 acc4 N4 M4 P4 s4 w4 o4 y4 hN4 hM4 hm
      obtain ⟨vs4_0, rfl, h4_0⟩ := o4
      replace sF := sF.trans s4
      obtain ⟨rfl, rfl⟩ := y4
      have w6 : W F4 _ ((a_pool, .lst vs4_0) :: (D4, .lst acc4) :: os) := w4.front (pre := [_])
      refine ⟨rfl, _, rfl, _, _, _, _, _, _, rfl, w6, h4_0, ?_⟩
      refine (post_bind hm).mono (fun y7 hm v7 vs7 F7 H7 w7 s7 r7 h7 => ?_) (fun _ z => z)
      replace sF := sF.trans s7
      obtain rfl : v7 = V.int y7.1 := r7
      have h8 : A2 (rep K F7) [(.int 0), (.int 1), (.int 2), (.int 3), (.int 5), (.int 6)] ([(0 : Int), (1 : Int), (2 : Int), (3 : Int), (5 : Int), (6 : Int)] : (List Int)) := .cons rep_i (.cons rep_i (.cons rep_i (.cons rep_i (.cons rep_i (.cons rep_i (.nil))))))
      refine ⟨(by show 6 ≤ sizeLine; decide), fun p9 n9 => ?_⟩
      have w9 : W F7 _ ((p9, .lst [(.int 0), (.int 1), (.int 2), (.int 3), (.int 5), (.int 6)]) :: (a_pool, .lst vs7) :: (D4, .lst acc4) :: os) := w7.new n9
      obtain ⟨t10, e10, hm⟩ := pb_get hm
      obtain ⟨u10, f10, r10⟩ := A2.at h8 e10
      obtain rfl : u10 = V.int t10 := r10
      refine ⟨_, rfl, _, _, _, _, rfl, rfl, SqL.of (w9.get (pre := [])), f10, _, _, rfl, rfl, _, rfl, ?_⟩
      refine post_ite hm (fun k11 hm => ?_) (fun k11 hm => ?_)
      · skip
        have w12 : W F7 _ ((a_pool, .lst vs7) :: (D4, .lst acc4) :: os) := w9.drop (pre := [])
        have w13 : W F7 _ ((D4, .lst acc4) :: (a_pool, .lst vs7) :: os) := w12.front (pre := [_])
        exact ⟨_, rfl, hN4 _ _ (post_ok hm) _ _ _ _ w13 s7 ⟨_, rfl, h7⟩ rep_i⟩
      · skip
        have w14 : W F7 _ ((a_pool, .lst vs7) :: (D4, .lst acc4) :: os) := w9.drop (pre := [])
        have w15 : W F7 _ ((D4, .lst acc4) :: (a_pool, .lst vs7) :: os) := w14.front (pre := [_])
        exact hM4 _ (post_ok hm) _ _ _ w15 s7 ⟨_, rfl, h7⟩
    intro g4 us4 F4 H4 os4 ys4 s4 w4 o4 gg4 hm
    obtain ⟨vs4_0, rfl, h4_0⟩ := o4
    replace sF := sF.trans s4
    exact (post_ok hm) _ _ _ _ _ w4 sF gg4 h4_0
def sp_law_less (K : Fg) : Sp := fun vs H Q E => ∃ (F : Hp) (os : List (Addr × HO)) (v_web : V) (x_web : (Int × (Tup (Int × Int)))) (v_looks : V) (x_looks : (List Int)) (x_kind : Str), vs = [v_web, v_looks, .str x_kind] ∧ W F H (os) ∧ rep K F v_web x_web ∧ rep K F v_looks x_looks ∧ Post (law_less x_web x_looks x_kind) (Ret K F os Q) noX
theorem sc_law_less : FnScope ["web", "looks", "kind", "whole", "found", "look", "one", "strength"] ["web", "looks", "kind"] (defScope s_law_less) := ⟨rfl, rfl, rfl, by decide +kernel, rfl, by decide +kernel, by decide +kernel⟩
theorem ok_law_less (T : Tx K mg A FD) : FnOk P w K mg base CX0 5 (A 26) (FD 26) ["web", "looks", "kind"] (sp_law_less K) := by
  refine T.d26.fn.ok sc_law_less (fun vs H Q E h => ?_) (fun cdv Ar outer s H vs Q E hr h => ?_)
  · obtain ⟨F, os, v_web, x_web, v_looks, x_looks, x_kind, rfl, _⟩ := h
    rfl
  · obtain ⟨F0, os, v_web, x_web, v_looks, x_looks, x_kind, rfl, w0, r_web, r_looks, hm⟩ := h
    have sF : Same F0 F0 := Same.refl _
    obtain ⟨a1, u1, z1, rfl, q1, r1a, r1b⟩ := r_web
    obtain rfl : u1 = V.int x_web.1 := r1a
    obtain ⟨a2, vs2, rfl, q2, h2⟩ := r1b
    obtain ⟨a3, vs3, rfl, q3, h3⟩ := r_looks
    refine ⟨_, (pss_cons (ps_set (i := 3) sc_law_less.nd rfl (Or.inl rfl) (pe_call (ok_tree_strength T) (hr.mono (by decide)) (by rfl) T.d17.mg T.d17.fn.kp T.d17.b .nil pass0 (pa_cons (pv 0) (pa_cons (pe_callTy (call_list_ofK (K := K) rfl) (by rfl) T.n_list (by decide +kernel) (pa_cons (pv 1) pa_nil)) (pa_cons (pv 2) pa_nil))))) (pss_cons (ps_setLc (i := 4) (own := [("look", 5)]) (g := gName 5) (by rfl) sc_law_less.nd rfl rfl (sw_true rfl rfl rfl (by decide +kernel)) (pi_listK (K := K) rfl (pv 1)) (blkOk_by (own := [("look", 5)]) (N := ["web", "looks", "kind", "whole", "found", "look", "one", "strength"]) (sc := defScope s_law_less) (by decide +kernel)) (fun _ _ _ _ _ => (pg_name (i := 5) sc_law_less.nd rfl (Or.inr rfl))) (fun _ _ _ _ _ => pts_nil) (fun _ _ _ _ _ => (pe_call (ok_tree_strength T) (hr.mono (by decide)) (by rfl) T.d17.mg T.d17.fn.kp T.d17.b .nil pass0 (pa_cons (pv 0) (pa_cons (pe_lc (own := [("one", 6)]) (g := gName 6) (by rfl) sc_law_less.nd (pi_listK (K := K) rfl (pv 1)) (blkOk_by (own := [("one", 6)]) (N := ["web", "looks", "kind", "whole", "found", "look", "one", "strength"]) (sc := _) (by kernel_rfl)) (fun _ _ _ _ _ => (pg_name (i := 6) sc_law_less.nd rfl (Or.inl rfl))) (fun _ _ _ _ _ => (pts_one (pt_cmp (pc_neI (pv 6) (pv 5))))) (fun _ _ _ _ _ => (pv 6))) (pa_cons (pv 2) pa_nil)))))) (pss_cons (ps_if (pt_cmpR (op_eqDt (K := K) rfl (Option Int) (by decide) hr.units) (pv 3) pe_int (nomark _)) (pss_one (ps_ret (pe_callB (cr_allK (K := K) rfl rfl) (by rfl) T.n_all (by decide +kernel) (pa_cons (pe_lc (own := [("strength", 7)]) (g := gName 7) (by rfl) sc_law_less.nd (pi_listK (K := K) rfl (pv 4)) (blkOk_by (own := [("strength", 7)]) (N := ["web", "looks", "kind", "whole", "found", "look", "one", "strength"]) (sc := defScope s_law_less) (by decide +kernel)) (fun _ _ _ _ _ => (pg_name (i := 7) sc_law_less.nd rfl (Or.inl rfl))) (fun _ _ _ _ _ => pts_nil) (fun _ _ _ _ _ => (pe_cmpR (op_eqDt (K := K) rfl (Option Int) (by decide) hr.units) (pv 7) pe_int (nomark _)))) pa_nil)))) pss_nil) (pss_one (ps_ret (pe_and (pe_cmp (pc_eqI (pe_callB (cr_minI (K := K) rfl rfl) (by rfl) T.n_min (by decide +kernel) (pa_cons (pv 4) pa_nil)) (pe_op op_sub (pv 3) pe_int))) (pe_one (pe_cmp (pc_le (pe_callB (cr_maxI (K := K) rfl rfl) (by rfl) T.n_max (by decide +kernel) (pa_cons (pv 4) pa_nil)) (pv 3)))))))))), ?_⟩
    have h4 : A2 (rep K F0) vs3 x_looks := h3
    refine ⟨_, rfl, _, rfl, _, _, rfl, .inl (SqL.of (w0.same _ _ q3)), fun p5 n5 => ?_⟩
    have w5 : W F0 _ ((p5, .lst vs3) :: os) := w0.new n5
    obtain ⟨F6, s6, w6, q6⟩ : ∃ F', Same F0 F' ∧ W F' _ (os) ∧ F' p5 = some (.lst vs3) := w5.freezeE (pre := [])
    replace q1 := s6 _ _ q1
    replace q2 := s6 _ _ q2
    replace h2 := A2.mono s6 h2
    replace q3 := s6 _ _ q3
    replace h3 := A2.mono s6 h3
    replace h4 := A2.mono s6 h4
    replace sF := sF.trans s6
    refine ⟨_, rfl, _, _, _, (x_web : (Int × (Tup (Int × Int)))), _, (x_looks : (List Int)), _, rfl, w6, (rep_pair q1 rep_i (rep_tup q2 h2)), (rep_lst q6 h4), ?_⟩
    refine (post_bind hm).mono (fun y7 hm v7 F7 H7 w7 s7 r7 => ?_) (fun _ z => z)
    replace q1 := s7 _ _ q1
    replace q2 := s7 _ _ q2
    replace h2 := A2.mono s7 h2
    replace q3 := s7 _ _ q3
    replace h3 := A2.mono s7 h3
    replace h4 := A2.mono s7 h4
    replace q6 := s7 _ _ q6
    replace sF := sF.trans s7
    refine ⟨_, rfl, _, rfl, ⟨_, SqL.of (w7.same _ _ q3)⟩, fun D9 nD9 => ?_⟩
    refine lcM (K := K) (tw_list (a := a3) h3) hm w7 nD9 (fun F' H' acc s w => SqL.of (w.same _ _ (s _ _ q3))) ?_ ?_
    · -- one turn
      intro b9 x9 F9 H9 H9' acc9 N9 P9 s9 w9 y9 hN9 hm
      replace q1 := s9 _ _ q1
      replace h2 := A2.mono s9 h2
      replace q2 := s9 _ _ q2
      replace h3 := A2.mono s9 h3
      replace q3 := s9 _ _ q3
      replace r7 := Rep.mono s9 r7
      replace sF := sF.trans s9
      obtain ⟨rfl, r11⟩ := y9
      obtain rfl : x9 = V.int b9 := r11
      refine ⟨rfl, _, rfl, _, rfl, _, rfl, ⟨_, SqL.of (w9.same _ _ q3)⟩, fun D12 nD12 => ?_⟩
      refine lcF (K := K) (tw_list (a := a3) h3) hm w9 nD12 (fun F' H' acc s w => SqL.of (w.same _ _ (s _ _ q3))) ?_ ?_
      · -- one turn
        intro b12 x12 F12 H12 H12' acc12 N12 M12 P12 s12 w12 y12 hN12 hM12 hm
        replace q1 := s12 _ _ q1
        replace h2 := A2.mono s12 h2
        replace q2 := s12 _ _ q2
        replace h3 := A2.mono s12 h3
        replace q3 := s12 _ _ q3
        replace r7 := Rep.mono s12 r7
        replace sF := sF.trans s12
        obtain ⟨rfl, r14⟩ := y12
        obtain rfl : x12 = V.int b12 := r14
        refine ⟨rfl, _, rfl, _, rfl, _, _, rfl, rfl, _, rfl, ?_⟩
        refine post_ite hm (fun k15 hm => ?_) (fun k15 hm => ?_)
        · skip
          exact ⟨_, rfl, hN12 _ (post_ok hm) _ _ _ w12 (Same.refl _) rep_i⟩
        · skip
          exact hM12 (post_ok hm) _ _ w12 (Same.refl _)
      intro us12 F12 H12 ys12 s12 w12 gg12 hm
      replace q1 := s12 _ _ q1
      replace h2 := A2.mono s12 h2
      replace q2 := s12 _ _ q2
      replace h3 := A2.mono s12 h3
      replace q3 := s12 _ _ q3
      replace r7 := Rep.mono s12 r7
      replace sF := sF.trans s12
      obtain ⟨F17, s17, w17, q17⟩ : ∃ F', Same F12 F' ∧ W F' _ ((D9, .lst acc9) :: os) ∧ F' D12 = some (.lst us12) := w12.freezeE (pre := [])
      replace q1 := s17 _ _ q1
      replace h2 := A2.mono s17 h2
      replace q2 := s17 _ _ q2
      replace h3 := A2.mono s17 h3
      replace q3 := s17 _ _ q3
      replace r7 := Rep.mono s17 r7
      replace gg12 := A2.mono s17 gg12
      replace sF := sF.trans s17
      refine ⟨_, rfl, _, _, _, (x_web : (Int × (Tup (Int × Int)))), _, (ys12 : (List Int)), _, rfl, w17, (rep_pair q1 rep_i (rep_tup q2 h2)), (rep_lst q17 gg12), ?_⟩
      refine (post_bind hm).mono (fun y18 hm v18 F18 H18 w18 s18 r18 => ?_) (fun _ z => z)
      replace q1 := s18 _ _ q1
      replace h2 := A2.mono s18 h2
      replace q2 := s18 _ _ q2
      replace h3 := A2.mono s18 h3
      replace q3 := s18 _ _ q3
      replace r7 := Rep.mono s18 r7
      replace gg12 := A2.mono s18 gg12
      replace q17 := s18 _ _ q17
      replace sF := sF.trans s18
      exact hN9 _ (post_ok hm) _ _ _ w18 (s12.trans (s17.trans s18)) r18
    intro us9 F9 H9 ys9 s9 w9 gg9 hm
    replace q1 := s9 _ _ q1
    replace h2 := A2.mono s9 h2
    replace q2 := s9 _ _ q2
    replace h3 := A2.mono s9 h3
    replace q3 := s9 _ _ q3
    replace r7 := Rep.mono s9 r7
    replace sF := sF.trans s9
    obtain ⟨F21, s21, w21, q21⟩ : ∃ F', Same F9 F' ∧ W F' _ (os) ∧ F' D9 = some (.lst us9) := w9.freezeE (pre := [])
    replace q1 := s21 _ _ q1
    replace h2 := A2.mono s21 h2
    replace q2 := s21 _ _ q2
    replace h3 := A2.mono s21 h3
    replace q3 := s21 _ _ q3
    replace r7 := Rep.mono s21 r7
    replace gg9 := A2.mono s21 gg9
    replace sF := sF.trans s21
    refine ⟨_, rfl, (y7 : (Option Int)), ((some (0 : Int)) : (Option Int)), (Rep.mono w21.same r7), (Rep.mono w21.same (rep_some rep_i)), _, rfl, ?_⟩
    refine post_ite hm (fun k22 hm => ?_) (fun k22 hm => ?_)
    · skip
      refine ⟨_, rfl, _, rfl, ⟨_, SqL.of (w21.same _ _ q21)⟩, fun D23 nD23 => ?_⟩
      refine lcM (K := K) (tw_list (a := D9) gg9) hm w21 nD23 (fun F' H' acc s w => SqL.of (w.same _ _ (s _ _ q21))) ?_ ?_
      · -- one turn
        intro b23 x23 F23 H23 H23' acc23 N23 P23 s23 w23 y23 hN23 hm
        replace q1 := s23 _ _ q1
        replace h2 := A2.mono s23 h2
        replace q2 := s23 _ _ q2
        replace h3 := A2.mono s23 h3
        replace q3 := s23 _ _ q3
        replace r7 := Rep.mono s23 r7
        replace gg9 := A2.mono s23 gg9
        replace q21 := s23 _ _ q21
        replace sF := sF.trans s23
        obtain ⟨rfl, r25⟩ := y23
        replace r25 := Rep.mono s23 r25
        exact ⟨rfl, _, rfl, (b23 : (Option Int)), ((some (0 : Int)) : (Option Int)), (Rep.mono w23.same r25), (Rep.mono w23.same (rep_some rep_i)), hN23 _ (post_ok hm) _ _ _ w23 (Same.refl _) rep_b⟩
      intro us23 F23 H23 ys23 s23 w23 gg23 hm
      replace q1 := s23 _ _ q1
      replace h2 := A2.mono s23 h2
      replace q2 := s23 _ _ q2
      replace h3 := A2.mono s23 h3
      replace q3 := s23 _ _ q3
      replace r7 := Rep.mono s23 r7
      replace gg9 := A2.mono s23 gg9
      replace q21 := s23 _ _ q21
      replace sF := sF.trans s23
      have w28 : W F23 _ (os) := w23.drop (pre := [])
      exact ⟨_, _, rfl, bools_q (SqL.of (w23.get (pre := []))) gg23, (post_ok hm) _ _ _ w28 sF rep_b⟩
    · skip
      refine stepX ?_
      try dsimp only
      refine stepRet ?_
      refine joinE hm (fun (j29 : Bool) c H' => c = V.bl j29 ∧ ∃ (F' : Hp), Same F21 F' ∧ W F' H' (os)) ?_ ?_
      · intro Q29 P29 q29 hm
        obtain ⟨l30, e30, hm⟩ := pb_allS hm
        have h30 : A2 (rep K F21) us9 l30 := A2.unsome (e30 ▸ gg9)
        obtain ⟨t31, e31, hm⟩ := pb_min hm
        obtain ⟨t32, e32, hm⟩ := pb_ofO hm
        have r32 : rep K F21 v7 (some t32) := e32 ▸ r7
        replace r32 : v7 = V.int t32 := r32
        subst r32
        refine ⟨_, rfl, _, _, _, rfl, ints_q (SqL.of (w21.same _ _ q21)) h30, e31, _, rfl, _, _, rfl, rfl, _, _, rfl, rfl, _, rfl, ?_⟩
        refine post_ite hm (fun k33 hm => ?_) (fun k33 hm => ?_)
        · skip
          obtain ⟨l34, e34, hm⟩ := pb_allS hm
          have h34 : A2 (rep K F21) us9 l34 := A2.unsome (e34 ▸ gg9)
          obtain ⟨t35, e35, hm⟩ := pb_max hm
          exact ⟨_, rfl, _, _, _, rfl, ints_q (SqL.of (w21.same _ _ q21)) h34, e35, _, rfl, _, _, rfl, rfl, q29 _ (post_ok hm) _ _ ⟨rfl, _, Same.refl _, w21⟩⟩
        · skip
          exact q29 _ (post_ok hm) _ _ ⟨rfl, _, Same.refl _, w21⟩
      intro j29 c29 H29 hc29 hm
      obtain ⟨rfl, F29, s29, w29⟩ := hc29
      replace q1 := s29 _ _ q1
      replace h2 := A2.mono s29 h2
      replace q2 := s29 _ _ q2
      replace h3 := A2.mono s29 h3
      replace q3 := s29 _ _ q3
      replace r7 := Rep.mono s29 r7
      replace gg9 := A2.mono s29 gg9
      replace q21 := s29 _ _ q21
      replace sF := sF.trans s29
      exact (post_ok hm) _ _ _ w29 sF rep_b
def sp_law_called (K : Fg) : Sp := fun vs H Q E => ∃ (F : Hp) (os : List (Addr × HO)) (a_pool : Addr) (vs_pool : List V) (x_pool : (List Int)) (v_web : V) (x_web : (Int × (Tup (Int × Int)))) (v_looks : V) (x_looks : (List Int)), vs = [.ref a_pool, v_web, v_looks] ∧ W F H ((a_pool, .lst vs_pool) :: os) ∧ A2 (rep K F) vs_pool x_pool ∧ rep K F v_web x_web ∧ rep K F v_looks x_looks ∧ Post (law_called x_pool x_web x_looks) (RetM K F a_pool os Q) noX
theorem sc_law_called : FnScope ["pool", "web", "looks", "names", "ties", "a", "b", "look"] ["pool", "web", "looks"] (defScope s_law_called) := ⟨rfl, rfl, rfl, by decide +kernel, rfl, by decide +kernel, by decide +kernel⟩
theorem ok_law_called (T : Tx K mg A FD) : FnOk P w K mg base CX0 3 (A 27) (FD 27) ["pool", "web", "looks"] (sp_law_called K) := by
  refine T.d27.fn.ok sc_law_called (fun vs H Q E h => ?_) (fun cdv Ar outer s H vs Q E hr h => ?_)
  · obtain ⟨F, os, a_pool, vs_pool, x_pool, v_web, x_web, v_looks, x_looks, rfl, _⟩ := h
    rfl
  · obtain ⟨F0, os, a_pool, vs_pool, x_pool, v_web, x_web, v_looks, x_looks, rfl, w0, h_pool, r_web, r_looks, hm⟩ := h
    have sF : Same F0 F0 := Same.refl _
    obtain ⟨a2, u2, z2, rfl, q2, r2a, r2b⟩ := r_web
    obtain rfl : u2 = V.int x_web.1 := r2a
    obtain ⟨a3, vs3, rfl, q3, h3⟩ := r2b
    obtain ⟨a4, vs4, rfl, q4, h4⟩ := r_looks
    refine ⟨_, (pss_cons (ps_set (i := 3) sc_law_called.nd rfl (Or.inr rfl) (pe_call (ok_law_some T) (hr.mono (by decide)) (by rfl) T.d22.mg T.d22.fn.kp T.d22.b .nil pass0 (pa_cons (pv 0) (pa_cons (pe_listRg rfl (by rfl) T.n_list (prg_1 (by rfl) T.n_range (pe_ix (ix_tupK (K := K) rfl) (pv 1) pe_int (fun _ _ => rfl)))) (pa_cons (pe_ix (ix_tupK (K := K) rfl) (pv 1) pe_int (fun _ _ => rfl)) pa_nil))))) (pss_cons (ps_setLc (i := 4) (own := [("a", 5), ("b", 6)]) (g := _) (by rfl) sc_law_called.nd rfl rfl (sw_true rfl rfl rfl (by decide +kernel)) (pi_tupK (K := K) rfl (pe_ix (ix_tupK (K := K) rfl) (pv 1) pe_int (fun _ _ => rfl))) (blkOk_by (own := [("a", 5), ("b", 6)]) (N := ["pool", "web", "looks", "names", "ties", "a", "b", "look"]) (sc := defScope s_law_called) (by decide +kernel)) (fun _ _ _ _ _ => (pg_k (K := K) (t := fun K => gTup K 2 _) rfl (pg_tup (n := 2) rfl (pgs_cons (pg_name (i := 5) sc_law_called.nd rfl (Or.inl rfl)) (pgs_cons (pg_name (i := 6) sc_law_called.nd rfl (Or.inl rfl)) pgs_nil))))) (fun _ _ _ _ _ => pts_nil) (fun _ _ _ _ _ => (pe_tup (pa_cons (pe_callB (call_min2 rfl) (by rfl) T.n_min (by decide +kernel) (pa_cons (pe_ix (ix_listK (K := K) rfl) (pv 3) (pv 5) (fun _ _ => rfl)) (pa_cons (pe_ix (ix_listK (K := K) rfl) (pv 3) (pv 6) (fun _ _ => rfl)) pa_nil))) (pa_cons (pe_callB (call_max2 rfl) (by rfl) T.n_max (by decide +kernel) (pa_cons (pe_ix (ix_listK (K := K) rfl) (pv 3) (pv 5) (fun _ _ => rfl)) (pa_cons (pe_ix (ix_listK (K := K) rfl) (pv 3) (pv 6) (fun _ _ => rfl)) pa_nil))) pa_nil))))) (pss_one (ps_ret (pe_tup (pa_cons (pe_tup (pa_cons (pe_ix (ix_tupK (K := K) rfl) (pv 1) pe_int (fun _ _ => rfl)) (pa_cons (pe_callTy (call_tuple_ofK (K := K) rfl) (by rfl) T.n_tuple (by decide +kernel) (pa_cons (pe_callB (cr_sortP (K := K) rfl) (by rfl) T.n_sorted (by decide +kernel) (pa_cons (pv 4) pa_nil)) pa_nil)) pa_nil))) (pa_cons (pe_callB (cr_sortI (K := K) rfl) (by rfl) T.n_sorted (by decide +kernel) (pa_cons (pe_lc (own := [("look", 7)]) (g := gName 7) (by rfl) sc_law_called.nd (pi_listK (K := K) rfl (pv 2)) (blkOk_by (own := [("look", 7)]) (N := ["pool", "web", "looks", "names", "ties", "a", "b", "look"]) (sc := defScope s_law_called) (by decide +kernel)) (fun _ _ _ _ _ => (pg_name (i := 7) sc_law_called.nd rfl (Or.inl rfl))) (fun _ _ _ _ _ => pts_nil) (fun _ _ _ _ _ => (pe_ix (ix_listK (K := K) rfl) (pv 3) (pv 7) (fun _ _ => rfl)))) pa_nil)) pa_nil))))))), ?_⟩
    obtain ⟨l5, z5, e5, hm⟩ := pb_lrng hm
    have h5 : A2 (rep K F0) (rgV 0 x_web.1) l5 := by rw [e5, rgV_eq]; exact A2.of_ints
    refine ⟨_, rfl, _, rfl, _, _, _, _, rfl, rfl, SqT.of (w0.same _ _ q2), rfl, _, rfl, z5, fun p6 n6 => ?_⟩
    have w6 : W F0 _ ((p6, .lst (rgV 0 x_web.1)) :: (a_pool, .lst vs_pool) :: os) := w0.new n6
    obtain ⟨F7, s7, w7, q7⟩ : ∃ F', Same F0 F' ∧ W F' _ ((a_pool, .lst vs_pool) :: os) ∧ F' p6 = some (.lst (rgV 0 x_web.1)) := w6.freezeE (pre := [])
    replace h_pool := A2.mono s7 h_pool
    have k8_q2 := q2
    replace q2 := s7 _ _ q2
    replace q3 := s7 _ _ q3
    replace h3 := A2.mono s7 h3
    replace q4 := s7 _ _ q4
    replace h4 := A2.mono s7 h4
    replace h5 := A2.mono s7 h5
    replace sF := sF.trans s7
    refine ⟨_, rfl, _, _, _, _, rfl, rfl, SqT.of (w6.same _ _ k8_q2), rfl, _, _, _, _, _, _, (l5 : (List Int)), _, rfl, w7, h_pool, (rep_lst q7 h5), ?_⟩
    refine (post_bind hm).mono (fun y9 hm p9 us9 vs9 F9 H9 w9 s9 g9 h9 => ?_) (fun _ z => z)
    replace q2 := s9 _ _ q2
    replace q3 := s9 _ _ q3
    replace h3 := A2.mono s9 h3
    replace q4 := s9 _ _ q4
    replace h4 := A2.mono s9 h4
    replace h5 := A2.mono s9 h5
    replace q7 := s9 _ _ q7
    replace sF := sF.trans s9
    obtain ⟨F11, s11, w11, q11⟩ : ∃ F', Same F9 F' ∧ W F' _ ((a_pool, .lst vs9) :: os) ∧ F' p9 = some (.lst us9) := w9.freezeE (pre := [])
    replace q2 := s11 _ _ q2
    replace q3 := s11 _ _ q3
    replace h3 := A2.mono s11 h3
    replace q4 := s11 _ _ q4
    replace h4 := A2.mono s11 h4
    replace h5 := A2.mono s11 h5
    replace q7 := s11 _ _ q7
    replace h9 := A2.mono s11 h9
    replace g9 := A2.mono s11 g9
    replace sF := sF.trans s11
    refine ⟨_, rfl, _, _, _, _, rfl, rfl, SqT.of (w11.same _ _ q2), rfl, _, rfl, ⟨_, SqT.of (w11.same _ _ q3)⟩, fun D12 nD12 => ?_⟩
    refine lcM (K := K) (tw_tup (a := a3) h3) hm w11 nD12 (fun F' H' acc s w => SqT.of (w.same _ _ (s _ _ q3))) ?_ ?_
    · -- one turn
      intro b12 x12 F12 H12 H12' acc12 N12 P12 s12 w12 y12 hN12 hm
      replace q2 := s12 _ _ q2
      replace h3 := A2.mono s12 h3
      replace q3 := s12 _ _ q3
      replace h4 := A2.mono s12 h4
      replace q4 := s12 _ _ q4
      replace g9 := A2.mono s12 g9
      replace q11 := s12 _ _ q11
      replace h9 := A2.mono s12 h9
      replace sF := sF.trans s12
      obtain ⟨rfl, r14⟩ := y12
      replace r14 := Rep.mono s12 r14
      obtain ⟨a15, u15, z15, rfl, q15, r15a, r15b⟩ := r14
      obtain rfl : u15 = V.int b12.1 := r15a
      obtain rfl : z15 = V.int b12.2 := r15b
      obtain ⟨t16, e16, hm⟩ := pb_get hm
      obtain ⟨u16, f16, r16⟩ := A2.at g9 e16
      obtain rfl : u16 = V.int t16 := r16
      obtain ⟨t17, e17, hm⟩ := pb_get hm
      obtain ⟨u17, f17, r17⟩ := A2.at g9 e17
      obtain rfl : u17 = V.int t17 := r17
      obtain ⟨t18, e18, hm⟩ := pb_get hm
      obtain ⟨u18, f18, r18⟩ := A2.at g9 e18
      obtain rfl : u18 = V.int t18 := r18
      obtain ⟨t19, e19, hm⟩ := pb_get hm
      obtain ⟨u19, f19, r19⟩ := A2.at g9 e19
      obtain rfl : u19 = V.int t19 := r19
      refine ⟨_, _, rfl, SqT.of (w12.same _ _ q15), rfl, _, _, rfl, _, _, rfl, rfl, rfl, _, rfl, _, rfl, _, _, _, _, rfl, rfl, SqL.of (w12.same _ _ q11), f16, _, rfl, _, rfl, _, _, _, _, rfl, rfl, SqL.of (w12.same _ _ q11), f17, _, _, rfl, _, rfl, _, rfl, _, _, _, _, rfl, rfl, SqL.of (w12.same _ _ q11), f18, _, rfl, _, rfl, _, _, _, _, rfl, rfl, SqL.of (w12.same _ _ q11), f19, _, _, rfl, (by show 2 ≤ sizeLine; decide), fun p20 n20 => ?_⟩
      obtain ⟨F20, s20, w20, q20⟩ := w12.frzE (o := .tup [(.int (min2 t16 t17)), (.int (max2 t18 t19))]) n20
      replace q2 := s20 _ _ q2
      replace h3 := A2.mono s20 h3
      replace q3 := s20 _ _ q3
      replace h4 := A2.mono s20 h4
      replace q4 := s20 _ _ q4
      replace g9 := A2.mono s20 g9
      replace q11 := s20 _ _ q11
      replace h9 := A2.mono s20 h9
      replace q15 := s20 _ _ q15
      replace sF := sF.trans s20
      exact hN12 _ (post_ok hm) _ _ _ w20 s20 (rep_pair q20 rep_i rep_i)
    intro us12 F12 H12 ys12 s12 w12 gg12 hm
    replace q2 := s12 _ _ q2
    replace h3 := A2.mono s12 h3
    replace q3 := s12 _ _ q3
    replace h4 := A2.mono s12 h4
    replace q4 := s12 _ _ q4
    replace g9 := A2.mono s12 g9
    replace q11 := s12 _ _ q11
    replace h9 := A2.mono s12 h9
    replace sF := sF.trans s12
    obtain ⟨F22, s22, w22, q22⟩ : ∃ F', Same F12 F' ∧ W F' _ ((a_pool, .lst vs9) :: os) ∧ F' D12 = some (.lst us12) := w12.freezeE (pre := [])
    replace q2 := s22 _ _ q2
    replace h3 := A2.mono s22 h3
    replace q3 := s22 _ _ q3
    replace h4 := A2.mono s22 h4
    replace q4 := s22 _ _ q4
    replace g9 := A2.mono s22 g9
    replace q11 := s22 _ _ q11
    replace h9 := A2.mono s22 h9
    replace gg12 := A2.mono s22 gg12
    replace sF := sF.trans s22
    refine ⟨_, rfl, _, _, _, _, rfl, rfl, SqT.of (w22.same _ _ q2), rfl, _, rfl, _, _, F22, ys12, rfl, SqL.of (w22.same _ _ q22), w22.same, gg12, fun p23 us23 n23 h23 => ?_⟩
    have w23 : W F22 _ ((p23, .lst us23) :: (a_pool, .lst vs9) :: os) := w22.new n23
    have h25 : A2 (rep K F22) us23 (sortP ys12) := h23
    refine ⟨_, _, rfl, .inl ⟨SqL.of (w23.get (pre := [])), fun p26 n26 => ?_⟩⟩
    obtain ⟨F26, s26, w26, q26⟩ := w23.frzE (o := .tup us23) n26
    replace q2 := s26 _ _ q2
    replace h3 := A2.mono s26 h3
    replace q3 := s26 _ _ q3
    replace h4 := A2.mono s26 h4
    replace q4 := s26 _ _ q4
    replace g9 := A2.mono s26 g9
    replace q11 := s26 _ _ q11
    replace gg12 := A2.mono s26 gg12
    replace q22 := s26 _ _ q22
    replace h9 := A2.mono s26 h9
    replace h23 := A2.mono s26 h23
    replace h25 := A2.mono s26 h25
    replace sF := sF.trans s26
    refine ⟨(by show 2 ≤ sizeLine; decide), fun p27 n27 => ?_⟩
    obtain ⟨F27, s27, w27, q27⟩ := w26.frzE (o := .tup [(.int x_web.1), (.ref p26)]) n27
    replace q2 := s27 _ _ q2
    replace h3 := A2.mono s27 h3
    replace q3 := s27 _ _ q3
    replace h4 := A2.mono s27 h4
    replace q4 := s27 _ _ q4
    replace g9 := A2.mono s27 g9
    replace q11 := s27 _ _ q11
    replace gg12 := A2.mono s27 gg12
    replace q22 := s27 _ _ q22
    replace h9 := A2.mono s27 h9
    replace h23 := A2.mono s27 h23
    replace h25 := A2.mono s27 h25
    replace q26 := s27 _ _ q26
    replace sF := sF.trans s27
    refine ⟨_, rfl, _, rfl, ⟨_, SqL.of (w27.same _ _ q4)⟩, fun D28 nD28 => ?_⟩
    refine lcM (K := K) (tw_list (a := a4) h4) hm w27 nD28 (fun F' H' acc s w => SqL.of (w.same _ _ (s _ _ q4))) ?_ ?_
    · -- one turn
      intro b28 x28 F28 H28 H28' acc28 N28 P28 s28 w28 y28 hN28 hm
      replace q2 := s28 _ _ q2
      replace h3 := A2.mono s28 h3
      replace q3 := s28 _ _ q3
      replace h4 := A2.mono s28 h4
      replace q4 := s28 _ _ q4
      replace g9 := A2.mono s28 g9
      replace q11 := s28 _ _ q11
      replace gg12 := A2.mono s28 gg12
      replace q22 := s28 _ _ q22
      replace h9 := A2.mono s28 h9
      replace h23 := A2.mono s28 h23
      replace h25 := A2.mono s28 h25
      replace q26 := s28 _ _ q26
      replace q27 := s28 _ _ q27
      replace sF := sF.trans s28
      obtain ⟨rfl, r30⟩ := y28
      obtain rfl : x28 = V.int b28 := r30
      obtain ⟨t31, e31, hm⟩ := pb_get hm
      obtain ⟨u31, f31, r31⟩ := A2.at g9 e31
      obtain rfl : u31 = V.int t31 := r31
      exact ⟨rfl, _, rfl, _, rfl, _, _, _, _, rfl, rfl, SqL.of (w28.same _ _ q11), f31, hN28 _ (post_ok hm) _ _ _ w28 (Same.refl _) rep_i⟩
    intro us28 F28 H28 ys28 s28 w28 gg28 hm
    replace q2 := s28 _ _ q2
    replace h3 := A2.mono s28 h3
    replace q3 := s28 _ _ q3
    replace h4 := A2.mono s28 h4
    replace q4 := s28 _ _ q4
    replace g9 := A2.mono s28 g9
    replace q11 := s28 _ _ q11
    replace gg12 := A2.mono s28 gg12
    replace q22 := s28 _ _ q22
    replace h9 := A2.mono s28 h9
    replace h23 := A2.mono s28 h23
    replace h25 := A2.mono s28 h25
    replace q26 := s28 _ _ q26
    replace q27 := s28 _ _ q27
    replace sF := sF.trans s28
    have h33 : A2 (rep K F28) ((sortI ys28).map V.int) (sortI ys28) := A2.of_ints
    refine ⟨_, _, rfl, ints_q (SqL.of (w28.get (pre := []))) gg28, fun p34 n34 => ?_⟩
    have w34 : W F28 _ ((p34, .lst ((sortI ys28).map V.int)) :: (D28, .lst us28) :: (p23, .lst us23) :: (a_pool, .lst vs9) :: os) := w28.new n34
    obtain ⟨F35, s35, w35, q35⟩ : ∃ F', Same F28 F' ∧ W F' _ ((D28, .lst us28) :: (p23, .lst us23) :: (a_pool, .lst vs9) :: os) ∧ F' p34 = some (.lst ((sortI ys28).map V.int)) := w34.freezeE (pre := [])
    replace q2 := s35 _ _ q2
    replace h3 := A2.mono s35 h3
    replace q3 := s35 _ _ q3
    replace h4 := A2.mono s35 h4
    replace q4 := s35 _ _ q4
    replace g9 := A2.mono s35 g9
    replace q11 := s35 _ _ q11
    replace gg12 := A2.mono s35 gg12
    replace q22 := s35 _ _ q22
    replace h9 := A2.mono s35 h9
    replace h23 := A2.mono s35 h23
    replace h25 := A2.mono s35 h25
    replace q26 := s35 _ _ q26
    replace q27 := s35 _ _ q27
    replace gg28 := A2.mono s35 gg28
    replace h33 := A2.mono s35 h33
    replace sF := sF.trans s35
    refine ⟨(by show 2 ≤ sizeLine; decide), fun p36 n36 => ?_⟩
    obtain ⟨F36, s36, w36, q36⟩ := w35.frzE (o := .tup [(.ref p27), (.ref p34)]) n36
    replace q2 := s36 _ _ q2
    replace h3 := A2.mono s36 h3
    replace q3 := s36 _ _ q3
    replace h4 := A2.mono s36 h4
    replace q4 := s36 _ _ q4
    replace g9 := A2.mono s36 g9
    replace q11 := s36 _ _ q11
    replace gg12 := A2.mono s36 gg12
    replace q22 := s36 _ _ q22
    replace h9 := A2.mono s36 h9
    replace h23 := A2.mono s36 h23
    replace h25 := A2.mono s36 h25
    replace q26 := s36 _ _ q26
    replace q27 := s36 _ _ q27
    replace gg28 := A2.mono s36 gg28
    replace h33 := A2.mono s36 h33
    replace q35 := s36 _ _ q35
    replace sF := sF.trans s36
    have w37 : W F36 _ ((p23, .lst us23) :: (a_pool, .lst vs9) :: os) := w36.drop (pre := [])
    have w38 : W F36 _ ((a_pool, .lst vs9) :: os) := w37.drop (pre := [])
    exact (post_ok hm) _ _ _ _ w38 sF (rep_pair q36 (rep_pair q27 rep_i (rep_tup q26 h25)) (rep_lst q35 h33)) h9
def sp_law_right (K : Fg) : Sp := fun vs H Q E => ∃ (F : Hp) (os : List (Addr × HO)) (a_pool : Addr) (vs_pool : List V) (x_pool : (List Int)) (v_web : V) (x_web : (Int × (Tup (Int × Int)))) (v_looks : V) (x_looks : (List Int)) (v_others : V) (x_others : (List Int)) (x_kind : Str), vs = [.ref a_pool, v_web, v_looks, v_others, .str x_kind] ∧ W F H ((a_pool, .lst vs_pool) :: os) ∧ A2 (rep K F) vs_pool x_pool ∧ rep K F v_web x_web ∧ rep K F v_looks x_looks ∧ rep K F v_others x_others ∧ Post (law_right x_pool x_web x_looks x_others x_kind) (RetM K F a_pool os Q) noX
theorem sc_law_right : FnScope ["pool", "web", "looks", "others", "kind", "whole", "both", "other", "called"] ["pool", "web", "looks", "others", "kind"] (defScope s_law_right) := ⟨rfl, rfl, rfl, by decide +kernel, rfl, by decide +kernel, by decide +kernel⟩
theorem ok_law_right (T : Tx K mg A FD) : FnOk P w K mg base CX0 6 (A 28) (FD 28) ["pool", "web", "looks", "others", "kind"] (sp_law_right K) := by
  refine T.d28.fn.ok sc_law_right (fun vs H Q E h => ?_) (fun cdv Ar outer s H vs Q E hr h => ?_)
  · obtain ⟨F, os, a_pool, vs_pool, x_pool, v_web, x_web, v_looks, x_looks, v_others, x_others, x_kind, rfl, _⟩ := h
    rfl
  · obtain ⟨F0, os, a_pool, vs_pool, x_pool, v_web, x_web, v_looks, x_looks, v_others, x_others, x_kind, rfl, w0, h_pool, r_web, r_looks, r_others, hm⟩ := h
    have sF : Same F0 F0 := Same.refl _
    obtain ⟨a2, u2, z2, rfl, q2, r2a, r2b⟩ := r_web
    obtain rfl : u2 = V.int x_web.1 := r2a
    obtain ⟨a3, vs3, rfl, q3, h3⟩ := r2b
    obtain ⟨a4, vs4, rfl, q4, h4⟩ := r_looks
    obtain ⟨a5, vs5, rfl, q5, h5⟩ := r_others
    refine ⟨_, (pss_cons (ps_set (i := 5) sc_law_right.nd rfl (Or.inl rfl) (pe_call (ok_tree_strength T) (hr.mono (by decide)) (by rfl) T.d17.mg T.d17.fn.kp T.d17.b .nil pass0 (pa_cons (pv 1) (pa_cons (pe_callTy (call_list_ofK (K := K) rfl) (by rfl) T.n_list (by decide +kernel) (pa_cons (pv 2) pa_nil)) (pa_cons (pv 4) pa_nil))))) (pss_cons (ps_if (pt_cmpR op_isN2 (pv 5) pe_non (nomark _)) (pss_one (ps_ret (pe_cmpR op_isN2 (pe_call (ok_tree_strength T) (hr.mono (by decide)) (by rfl) T.d17.mg T.d17.fn.kp T.d17.b .nil pass0 (pa_cons (pv 1) (pa_cons (pe_callTy (call_list_ofK (K := K) rfl) (by rfl) T.n_list (by decide +kernel) (pa_cons (pv 3) pa_nil)) (pa_cons (pv 4) pa_nil)))) pe_non (nomark _)))) pss_nil) (pss_cons (ps_if (pt_not (pt_val (pe_call (ok_law_less T) (hr.mono (by decide)) (by rfl) T.d26.mg T.d26.fn.kp T.d26.b .nil pass0 (pa_cons (pv 1) (pa_cons (pv 2) (pa_cons (pv 4) pa_nil)))))) (pss_one (ps_ret pe_bl)) pss_nil) (pss_cons (ps_set (i := 6) sc_law_right.nd rfl (Or.inl rfl) (pe_call (ok_tree_strength T) (hr.mono (by decide)) (by rfl) T.d17.mg T.d17.fn.kp T.d17.b .nil pass0 (pa_cons (pv 1) (pa_cons (pe_callB (cr_sortI (K := K) rfl) (by rfl) T.n_sorted (by decide +kernel) (pa_cons (pe_op op_cat (pv 2) (pv 3)) pa_nil)) (pa_cons (pv 4) pa_nil))))) (pss_cons (ps_if (PW.pt (pw_or (pt_cmp (pc_lt (pv 6) (pe_op op_add (pv 5) (pe_call (ok_tree_strength T) (hr.mono (by decide)) (by rfl) T.d17.mg T.d17.fn.kp T.d17.b .nil pass0 (pa_cons (pv 1) (pa_cons (pe_callTy (call_list_ofK (K := K) rfl) (by rfl) T.n_list (by decide +kernel) (pa_cons (pv 3) pa_nil)) (pa_cons (pv 4) pa_nil))))))) (pw_or1 (pt_cmp (pc_lt (pe_call (ok_tree_strength T) (hr.mono (by decide)) (by rfl) T.d17.mg T.d17.fn.kp T.d17.b .nil pass0 (pa_cons (pv 1) (pa_cons (pe_listRg rfl (by rfl) T.n_list (prg_1 (by rfl) T.n_range (pe_ix (ix_tupK (K := K) rfl) (pv 1) pe_int (fun _ _ => rfl)))) (pa_cons (pv 4) pa_nil)))) (pv 6)))))) (pss_one (ps_ret pe_bl)) pss_nil) (pss_cons (ps_asg (pe_call (ok_law_called T) (hr.mono (by decide)) (by rfl) T.d27.mg T.d27.fn.kp T.d27.b .nil pass0 (pa_cons (pv 0) (pa_cons (pv 1) (pa_cons (pv 2) pa_nil)))) (pg_k (K := K) (t := fun K => gTup K 2 _) rfl (pg_tup (n := 2) rfl (pgs_cons (pg_name (i := 7) sc_law_right.nd rfl (Or.inl rfl)) (pgs_cons (pg_name (i := 8) sc_law_right.nd rfl (Or.inl rfl)) pgs_nil))))) (pss_one (ps_ret (pe_cmpR (op_eqDt (K := K) rfl (Option Int) (by decide) hr.units) (pe_call (ok_tree_strength T) (hr.mono (by decide)) (by rfl) T.d17.mg T.d17.fn.kp T.d17.b .nil pass0 (pa_cons (pv 7) (pa_cons (pv 8) (pa_cons (pv 4) pa_nil)))) (pv 5) (nomark _)))))))))), ?_⟩
    have h6 : A2 (rep K F0) vs4 x_looks := h4
    refine ⟨_, rfl, _, rfl, _, _, rfl, .inl (SqL.of (w0.same _ _ q4)), fun p7 n7 => ?_⟩
    have w7 : W F0 _ ((p7, .lst vs4) :: (a_pool, .lst vs_pool) :: os) := w0.new n7
    obtain ⟨F8, s8, w8, q8⟩ : ∃ F', Same F0 F' ∧ W F' _ ((a_pool, .lst vs_pool) :: os) ∧ F' p7 = some (.lst vs4) := w7.freezeE (pre := [])
    replace h_pool := A2.mono s8 h_pool
    replace q2 := s8 _ _ q2
    replace q3 := s8 _ _ q3
    replace h3 := A2.mono s8 h3
    replace q4 := s8 _ _ q4
    replace h4 := A2.mono s8 h4
    replace q5 := s8 _ _ q5
    replace h5 := A2.mono s8 h5
    replace h6 := A2.mono s8 h6
    replace sF := sF.trans s8
    refine ⟨_, rfl, _, _, _, (x_web : (Int × (Tup (Int × Int)))), _, (x_looks : (List Int)), _, rfl, w8, (rep_pair q2 rep_i (rep_tup q3 h3)), (rep_lst q8 h6), ?_⟩
    refine (post_bind hm).mono (fun y9 hm v9 F9 H9 w9 s9 r9 => ?_) (fun _ z => z)
    replace h_pool := A2.mono s9 h_pool
    replace q2 := s9 _ _ q2
    replace q3 := s9 _ _ q3
    replace h3 := A2.mono s9 h3
    replace q4 := s9 _ _ q4
    replace h4 := A2.mono s9 h4
    replace q5 := s9 _ _ q5
    replace h5 := A2.mono s9 h5
    replace h6 := A2.mono s9 h6
    replace q8 := s9 _ _ q8
    replace sF := sF.trans s9
    refine ⟨_, rfl, rfl, _, isN_eq r9, _, rfl, ?_⟩
    refine post_ite hm (fun k11 hm => ?_) (fun k11 hm => ?_)
    · skip
      have h12 : A2 (rep K F9) vs5 x_others := h5
      refine ⟨_, rfl, _, rfl, _, _, rfl, .inl (SqL.of (w9.same _ _ q5)), fun p13 n13 => ?_⟩
      have w13 : W F9 _ ((p13, .lst vs5) :: (a_pool, .lst vs_pool) :: os) := w9.new n13
      obtain ⟨F14, s14, w14, q14⟩ : ∃ F', Same F9 F' ∧ W F' _ ((a_pool, .lst vs_pool) :: os) ∧ F' p13 = some (.lst vs5) := w13.freezeE (pre := [])
      replace q2 := s14 _ _ q2
      replace h3 := A2.mono s14 h3
      replace q3 := s14 _ _ q3
      replace h4 := A2.mono s14 h4
      replace q4 := s14 _ _ q4
      replace h5 := A2.mono s14 h5
      replace q5 := s14 _ _ q5
      replace r9 := Rep.mono s14 r9
      replace h_pool := A2.mono s14 h_pool
      replace h12 := A2.mono s14 h12
      replace sF := sF.trans s14
      refine ⟨_, rfl, _, _, _, (x_web : (Int × (Tup (Int × Int)))), _, (x_others : (List Int)), _, rfl, w14, (rep_pair q2 rep_i (rep_tup q3 h3)), (rep_lst q14 h12), ?_⟩
      refine (post_bind hm).mono (fun y15 hm v15 F15 H15 w15 s15 r15 => ?_) (fun _ z => z)
      replace q2 := s15 _ _ q2
      replace h3 := A2.mono s15 h3
      replace q3 := s15 _ _ q3
      replace h4 := A2.mono s15 h4
      replace q4 := s15 _ _ q4
      replace h5 := A2.mono s15 h5
      replace q5 := s15 _ _ q5
      replace r9 := Rep.mono s15 r9
      replace h_pool := A2.mono s15 h_pool
      replace h12 := A2.mono s15 h12
      replace q14 := s15 _ _ q14
      replace sF := sF.trans s15
      exact ⟨rfl, _, isN_eq r15, (post_ok hm) _ _ _ _ w15 sF rep_b h_pool⟩
    · skip
      refine ⟨_, rfl, _, rfl, _, rfl, _, _, _, (x_web : (Int × (Tup (Int × Int)))), _, (x_looks : (List Int)), _, rfl, w9, (rep_pair q2 rep_i (rep_tup q3 h3)), (rep_lst q4 h4), ?_⟩
      refine (post_bind hm).mono (fun y17 hm v17 F17 H17 w17 s17 r17 => ?_) (fun _ z => z)
      replace q2 := s17 _ _ q2
      replace h3 := A2.mono s17 h3
      replace q3 := s17 _ _ q3
      replace h4 := A2.mono s17 h4
      replace q4 := s17 _ _ q4
      replace h5 := A2.mono s17 h5
      replace q5 := s17 _ _ q5
      replace r9 := Rep.mono s17 r9
      replace h_pool := A2.mono s17 h_pool
      replace sF := sF.trans s17
      obtain rfl : v17 = V.bl y17 := r17
      refine ⟨_, rfl, ?_⟩
      refine post_ite hm (fun k18 hm => ?_) (fun k18 hm => ?_)
      · skip
        exact (post_ok hm) _ _ _ _ w17 sF rep_b h_pool
      · skip
        obtain ⟨l19, z19, e19, hm⟩ := pn_extend hm
        have h19 : A2 (rep K F17) (vs4 ++ vs5) l19 := e19 ▸ A2.append h4 h5
        refine ⟨_, rfl, _, rfl, _, rfl, _, _, _, _, rfl, rfl, (w17.same _ _ q4), (w17.same _ _ q5), (A2.le2 h4 h5 z19), fun p20 n20 => ?_⟩
        have w20 : W F17 _ ((p20, .lst (vs4 ++ vs5)) :: (a_pool, .lst vs_pool) :: os) := w17.new n20
        have h21 : A2 (rep K F17) ((sortI l19).map V.int) (sortI l19) := A2.of_ints
        refine ⟨_, _, rfl, ints_q (SqL.of (w20.get (pre := []))) h19, fun p22 n22 => ?_⟩
        have w22 : W F17 _ ((p22, .lst ((sortI l19).map V.int)) :: (p20, .lst (vs4 ++ vs5)) :: (a_pool, .lst vs_pool) :: os) := w20.new n22
        obtain ⟨F23, s23, w23, q23⟩ : ∃ F', Same F17 F' ∧ W F' _ ((p20, .lst (vs4 ++ vs5)) :: (a_pool, .lst vs_pool) :: os) ∧ F' p22 = some (.lst ((sortI l19).map V.int)) := w22.freezeE (pre := [])
        replace q2 := s23 _ _ q2
        replace h3 := A2.mono s23 h3
        replace q3 := s23 _ _ q3
        replace h4 := A2.mono s23 h4
        replace q4 := s23 _ _ q4
        replace h5 := A2.mono s23 h5
        replace q5 := s23 _ _ q5
        replace r9 := Rep.mono s23 r9
        replace h_pool := A2.mono s23 h_pool
        replace h19 := A2.mono s23 h19
        replace h21 := A2.mono s23 h21
        replace sF := sF.trans s23
        refine ⟨_, rfl, _, _, _, (x_web : (Int × (Tup (Int × Int)))), _, ((sortI l19) : (List Int)), _, rfl, w23, (rep_pair q2 rep_i (rep_tup q3 h3)), (rep_lst q23 h21), ?_⟩
        refine (post_bind hm).mono (fun y24 hm v24 F24 H24 w24 s24 r24 => ?_) (fun _ z => z)
        replace q2 := s24 _ _ q2
        replace h3 := A2.mono s24 h3
        replace q3 := s24 _ _ q3
        replace h4 := A2.mono s24 h4
        replace q4 := s24 _ _ q4
        replace h5 := A2.mono s24 h5
        replace q5 := s24 _ _ q5
        replace r9 := Rep.mono s24 r9
        replace h_pool := A2.mono s24 h_pool
        replace h19 := A2.mono s24 h19
        replace h21 := A2.mono s24 h21
        replace q23 := s24 _ _ q23
        replace sF := sF.trans s24
        have w26 : W F24 _ ((a_pool, .lst vs_pool) :: os) := w24.drop (pre := [])
        refine stepN ?_
        try dsimp only
        refine stepSeq (stepIf ?_)
        refine joinT hm (fun (j27 : Bool) c H' => c = j27 ∧ ∃ (F' : Hp), Same F24 F' ∧ W F' H' ((a_pool, .lst vs_pool) :: os)) ?_ ?_
        · intro Q27 P27 q27 hm
          obtain ⟨t28, e28, hm⟩ := pb_ofO hm
          have r28 : rep K F24 v9 (some t28) := e28 ▸ r9
          replace r28 : v9 = V.int t28 := r28
          subst r28
          have h29 : A2 (rep K F24) vs5 x_others := h5
          refine ⟨_, rfl, _, rfl, _, rfl, _, rfl, _, _, rfl, .inl (SqL.of (w26.same _ _ q5)), fun p30 n30 => ?_⟩
          have w30 : W F24 _ ((p30, .lst vs5) :: (a_pool, .lst vs_pool) :: os) := w26.new n30
          obtain ⟨F31, s31, w31, q31⟩ : ∃ F', Same F24 F' ∧ W F' _ ((a_pool, .lst vs_pool) :: os) ∧ F' p30 = some (.lst vs5) := w30.freezeE (pre := [])
          replace q2 := s31 _ _ q2
          replace h3 := A2.mono s31 h3
          replace q3 := s31 _ _ q3
          replace h4 := A2.mono s31 h4
          replace q4 := s31 _ _ q4
          replace h5 := A2.mono s31 h5
          replace q5 := s31 _ _ q5
          replace r9 := Rep.mono s31 r9
          replace r24 := Rep.mono s31 r24
          replace h_pool := A2.mono s31 h_pool
          replace h29 := A2.mono s31 h29
          replace sF := sF.trans s31
          refine ⟨_, rfl, _, _, _, (x_web : (Int × (Tup (Int × Int)))), _, (x_others : (List Int)), _, rfl, w31, (rep_pair q2 rep_i (rep_tup q3 h3)), (rep_lst q31 h29), ?_⟩
          refine (post_bind hm).mono (fun y32 hm v32 F32 H32 w32 s32 r32 => ?_) (fun _ z => z)
          replace q2 := s32 _ _ q2
          replace h3 := A2.mono s32 h3
          replace q3 := s32 _ _ q3
          replace h4 := A2.mono s32 h4
          replace q4 := s32 _ _ q4
          replace h5 := A2.mono s32 h5
          replace q5 := s32 _ _ q5
          replace r9 := Rep.mono s32 r9
          replace r24 := Rep.mono s32 r24
          replace h_pool := A2.mono s32 h_pool
          replace h29 := A2.mono s32 h29
          replace q31 := s32 _ _ q31
          replace sF := sF.trans s32
          obtain ⟨t34, e34, hm⟩ := pb_ofO hm
          have r34 : rep K F32 v32 (some t34) := e34 ▸ r32
          replace r34 : v32 = V.int t34 := r34
          subst r34
          obtain ⟨t35, e35, hm⟩ := pb_ofO hm
          have r35 : rep K F32 v24 (some t35) := e35 ▸ r24
          replace r35 : v24 = V.int t35 := r35
          subst r35
          refine ⟨_, _, rfl, rfl, _, _, rfl, rfl, _, rfl, ?_⟩
          refine post_ite hm (fun k36 hm => ?_) (fun k36 hm => ?_)
          · skip
            exact q27 _ (post_ok hm) _ _ ⟨rfl, _, (s31.trans s32), w32⟩
          · skip
            obtain ⟨l38, z38, e38, hm⟩ := pb_lrng hm
            have h38 : A2 (rep K F32) (rgV 0 x_web.1) l38 := by rw [e38, rgV_eq]; exact A2.of_ints
            refine ⟨_, rfl, _, rfl, _, _, _, _, rfl, rfl, SqT.of (w32.same _ _ q2), rfl, _, rfl, z38, fun p39 n39 => ?_⟩
            have w39 : W F32 _ ((p39, .lst (rgV 0 x_web.1)) :: (a_pool, .lst vs_pool) :: os) := w32.new n39
            obtain ⟨F40, s40, w40, q40⟩ : ∃ F', Same F32 F' ∧ W F' _ ((a_pool, .lst vs_pool) :: os) ∧ F' p39 = some (.lst (rgV 0 x_web.1)) := w39.freezeE (pre := [])
            replace q2 := s40 _ _ q2
            replace h3 := A2.mono s40 h3
            replace q3 := s40 _ _ q3
            replace h4 := A2.mono s40 h4
            replace q4 := s40 _ _ q4
            replace h5 := A2.mono s40 h5
            replace q5 := s40 _ _ q5
            replace r9 := Rep.mono s40 r9
            replace r24 := Rep.mono s40 r24
            replace h_pool := A2.mono s40 h_pool
            replace h29 := A2.mono s40 h29
            replace q31 := s40 _ _ q31
            replace r32 := Rep.mono s40 r32
            replace h38 := A2.mono s40 h38
            replace sF := sF.trans s40
            refine ⟨_, rfl, _, _, _, (x_web : (Int × (Tup (Int × Int)))), _, (l38 : (List Int)), _, rfl, w40, (rep_pair q2 rep_i (rep_tup q3 h3)), (rep_lst q40 h38), ?_⟩
            refine (post_bind hm).mono (fun y41 hm v41 F41 H41 w41 s41 r41 => ?_) (fun _ z => z)
            replace q2 := s41 _ _ q2
            replace h3 := A2.mono s41 h3
            replace q3 := s41 _ _ q3
            replace h4 := A2.mono s41 h4
            replace q4 := s41 _ _ q4
            replace h5 := A2.mono s41 h5
            replace q5 := s41 _ _ q5
            replace r9 := Rep.mono s41 r9
            replace r24 := Rep.mono s41 r24
            replace h_pool := A2.mono s41 h_pool
            replace h29 := A2.mono s41 h29
            replace q31 := s41 _ _ q31
            replace r32 := Rep.mono s41 r32
            replace h38 := A2.mono s41 h38
            replace q40 := s41 _ _ q40
            replace sF := sF.trans s41
            obtain ⟨t43, e43, hm⟩ := pb_ofO hm
            have r43 : rep K F41 v41 (some t43) := e43 ▸ r41
            replace r43 : v41 = V.int t43 := r43
            subst r43
            exact ⟨_, rfl, _, _, rfl, rfl, _, rfl, q27 _ (post_ok hm) _ _ ⟨rfl, _, (s31.trans (s32.trans (s40.trans s41))), w41⟩⟩
        intro j27 c27 H27 hc27 hm
        obtain ⟨rfl, F27, s27, w27⟩ := hc27
        replace q2 := s27 _ _ q2
        replace h3 := A2.mono s27 h3
        replace q3 := s27 _ _ q3
        replace h4 := A2.mono s27 h4
        replace q4 := s27 _ _ q4
        replace h5 := A2.mono s27 h5
        replace q5 := s27 _ _ q5
        replace r9 := Rep.mono s27 r9
        replace r24 := Rep.mono s27 r24
        replace h_pool := A2.mono s27 h_pool
        replace sF := sF.trans s27
        refine post_ite hm (fun k45 hm => ?_) (fun k45 hm => ?_)
        · skip
          exact (post_ok hm) _ _ _ _ w27 sF rep_b h_pool
        · skip
          refine ⟨_, rfl, _, rfl, _, rfl, _, _, _, _, _, _, (x_web : (Int × (Tup (Int × Int)))), _, (x_looks : (List Int)), rfl, w27, h_pool, (rep_pair q2 rep_i (rep_tup q3 h3)), (rep_lst q4 h4), ?_⟩
          refine (post_bind hm).mono (fun y46 hm v46 vs46 F46 H46 w46 s46 r46 h46 => ?_) (fun _ z => z)
          replace q2 := s46 _ _ q2
          replace h3 := A2.mono s46 h3
          replace q3 := s46 _ _ q3
          replace h4 := A2.mono s46 h4
          replace q4 := s46 _ _ q4
          replace h5 := A2.mono s46 h5
          replace q5 := s46 _ _ q5
          replace r9 := Rep.mono s46 r9
          replace r24 := Rep.mono s46 r24
          replace sF := sF.trans s46
          obtain ⟨a47, u47, z47, rfl, q47, r47a, r47b⟩ := r46
          obtain ⟨a48, u48, z48, rfl, q48, r48a, r48b⟩ := r47a
          obtain rfl : u48 = V.int y46.1.1.1 := r48a
          obtain ⟨a49, vs49, rfl, q49, h49⟩ := r48b
          obtain ⟨a50, vs50, rfl, q50, h50⟩ := r47b
          refine ⟨_, _, rfl, SqT.of (w46.same _ _ q47), rfl, _, _, rfl, _, _, rfl, rfl, _, rfl, _, rfl, _, rfl, _, _, _, (y46.1.1 : (Int × (Tup (Int × Int)))), _, (y46.1.2 : (List Int)), _, rfl, w46, (rep_pair q48 rep_i (rep_tup q49 h49)), (rep_lst q50 h50), ?_⟩
          refine (post_bind hm).mono (fun y51 hm v51 F51 H51 w51 s51 r51 => ?_) (fun _ z => z)
          replace q2 := s51 _ _ q2
          replace h3 := A2.mono s51 h3
          replace q3 := s51 _ _ q3
          replace h4 := A2.mono s51 h4
          replace q4 := s51 _ _ q4
          replace h5 := A2.mono s51 h5
          replace q5 := s51 _ _ q5
          replace r9 := Rep.mono s51 r9
          replace r24 := Rep.mono s51 r24
          replace q48 := s51 _ _ q48
          replace h49 := A2.mono s51 h49
          replace q49 := s51 _ _ q49
          replace h50 := A2.mono s51 h50
          replace q50 := s51 _ _ q50
          replace h46 := A2.mono s51 h46
          replace sF := sF.trans s51
          exact ⟨_, rfl, (y51 : (Option Int)), (y9 : (Option Int)), (Rep.mono w51.same r51), (Rep.mono w51.same r9), (post_ok hm) _ _ _ _ w51 sF rep_b h46⟩
def sp_law (K : Fg) : Sp := fun vs H Q E => ∃ (F : Hp) (os : List (Addr × HO)) (v_script : V) (x_script : Scr), vs = [v_script] ∧ W F H (os) ∧ rep K F v_script x_script ∧ Post (law x_script) (Ret K F os Q) noX
theorem sc_law : FnScope ["script", "cells", "k", "pool", "web", "looks", "others", "kind", "place"] ["script"] (defScope s_law) := ⟨rfl, rfl, rfl, by decide +kernel, rfl, by decide +kernel, by decide +kernel⟩
theorem ok_law (T : Tx K mg A FD) : FnOk P w K mg base CX0 7 (A 29) (FD 29) ["script"] (sp_law K) := by
  refine T.d29.fn.ok sc_law (fun vs H Q E h => ?_) (fun cdv Ar outer s H vs Q E hr h => ?_)
  · obtain ⟨F, os, v_script, x_script, rfl, _⟩ := h
    rfl
  · obtain ⟨F0, os, v_script, x_script, rfl, w0, r_script, hm⟩ := h
    have sF : Same F0 F0 := Same.refl _
    obtain ⟨a1, rfl, q1⟩ := r_script
    have h1 : A2 (rep K F0) (x_script.l.map V.int) x_script.l := A2.of_ints
    refine ⟨_, (pss_cons (ps_set (i := 1) sc_law.nd rfl (Or.inl rfl) (pe_call (ok_law_cells T) (hr.mono (by decide)) (by rfl) T.d19.mg T.d19.fn.kp T.d19.b .nil pass0 (pa_cons (pv 0) (pa_cons pe_int pa_nil)))) (pss_cons (ps_for PassesOwn.never rfl (pi_range1 (by rfl) T.n_range (pa_cons (pe_callB (call_max2 rfl) (by rfl) T.n_max (by decide +kernel) (pa_cons pe_int (pa_cons (pe_callB (call_lenN (K := K) rfl) (by rfl) T.n_len (by decide +kernel) (pa_cons (pv 1) pa_nil)) pa_nil))) pa_nil)) (pg_name (i := 2) sc_law.nd rfl (Or.inl rfl)) (pss_cons (ps_set (i := 3) sc_law.nd rfl (Or.inl rfl) (pe_call (ok_law_pool T) (hr.mono (by decide)) (by rfl) T.d20.mg T.d20.fn.kp T.d20.b .nil pass0 (pa_cons (pv 1) (pa_cons (pv 2) pa_nil)))) (pss_cons (ps_set (i := 4) sc_law.nd rfl (Or.inl rfl) (pe_call (ok_law_tree T) (hr.mono (by decide)) (by rfl) T.d24.mg T.d24.fn.kp T.d24.b .nil pass0 (pa_cons (pv 3) (pa_cons (pe_ix (ix_listK (K := K) rfl) (pe_lst (pa_cons pe_int (pa_cons pe_int pa_nil))) (pe_callTy call_intB (by rfl) T.n_int (by decide +kernel) (pa_cons (pe_cmp (pc_eqI (pe_call (ok_law_take T) (hr.mono (by decide)) (by rfl) T.d21.mg T.d21.fn.kp T.d21.b .nil pass0 (pa_cons (pv 3) (pa_cons pe_int pa_nil))) pe_int)) pa_nil)) (fun _ _ => rfl)) pa_nil)))) (pss_cons (ps_set (i := 5) sc_law.nd rfl (Or.inr rfl) (pe_slice (sl_listK (K := K) rfl) (pe_call (ok_law_looks T) (hr.mono (by decide)) (by rfl) T.d25.mg T.d25.fn.kp T.d25.b .nil pass0 (pa_cons (pv 3) (pa_cons (pe_ix (ix_tupK (K := K) rfl) (pv 4) pe_int (fun _ _ => rfl)) pa_nil))) po_none (po_some pe_int))) (pss_cons (ps_setLc (i := 6) (own := [("place", 8)]) (g := gName 8) (by rfl) sc_law.nd rfl rfl (sw_true rfl rfl rfl (by decide +kernel)) (pi_listK (K := K) rfl (pe_call (ok_law_looks T) (hr.mono (by decide)) (by rfl) T.d25.mg T.d25.fn.kp T.d25.b .nil pass0 (pa_cons (pv 3) (pa_cons (pe_ix (ix_tupK (K := K) rfl) (pv 4) pe_int (fun _ _ => rfl)) pa_nil)))) (blkOk_by (own := [("place", 8)]) (N := ["script", "cells", "k", "pool", "web", "looks", "others", "kind", "place"]) (sc := defScope s_law) (by decide +kernel)) (fun _ _ _ _ _ => (pg_name (i := 8) sc_law.nd rfl (Or.inl rfl))) (fun _ _ _ _ _ => (pts_one (pt_cmpR (op_notInL (K := K) rfl Int (by decide) (Room.units65 hr)) (pv 8) (pv 5) (by rfl)))) (fun _ _ _ _ _ => (pv 8))) (pss_one (ps_for PassesOwn.never rfl (pi_listK (K := K) rfl (pe_lst (pa_cons pe_str (pa_cons pe_str (pa_cons pe_str pa_nil))))) (pg_name (i := 7) sc_law.nd rfl (Or.inl rfl)) (pss_one (ps_if (pt_not (pt_val (pe_call (ok_law_right T) (hr.mono (by decide)) (by rfl) T.d28.mg T.d28.fn.kp T.d28.b .nil pass0 (pa_cons (pv 3) (pa_cons (pv 4) (pa_cons (pv 5) (pa_cons (pv 6) (pa_cons (pv 7) pa_nil)))))))) (pss_one (ps_ret pe_bl)) pss_nil))))))))) (pss_one (ps_ret pe_bl)))), ?_⟩
    refine ⟨_, rfl, _, _, _, (x_script : Scr), _, rfl, w0, ⟨_, rfl, q1⟩, ?_⟩
    refine (post_bind hm).mono (fun y2 hm p2 us2 F2 H2 w2 s2 g2 => ?_) (fun _ z => z)
    replace q1 := s2.seq q1
    replace h1 := A2.mono s2 h1
    replace sF := sF.trans s2
    obtain ⟨F4, s4, w4, q4⟩ : ∃ F', Same F2 F' ∧ W F' _ (os) ∧ F' p2 = some (.lst us2) := w2.freezeE (pre := [])
    replace q1 := s4.seq q1
    replace h1 := A2.mono s4 h1
    replace g2 := A2.mono s4 g2
    replace sF := sF.trans s4
    obtain ⟨c6, hm⟩ := pb_rng hm
    refine ⟨_, rfl, _, _, _, rfl, .inl (SqL.of (w4.same _ _ q4)), g2.length, _, _, rfl, _, rfl, c6.2.2.1, c6.2.2.2, ?_⟩
    refine forX (tw_rng0 (j := (max2 (1 : Int) (y2.length : Int)))) hm (fun (g5 : Unit) σ H' => ∃ (F' : Hp) (o5_3 : Option V) (o5_4 : Option V) (o5_5 : Option V) (o5_6 : Option V) (o5_7 : Option V) (o5_2 : Option V), σ = [some (.ref a1), some (.ref p2), o5_2, o5_3, o5_4, o5_5, o5_6, o5_7, none] ∧ Same F4 F' ∧ W F' H' (os)) ⟨_, _, _, _, _, _, _, rfl, Same.refl _, w4⟩ (fun _ _ _ _ => trivial) ?_ ?_
    · -- a turn
      intro b5 g5 x5 σ5 H5 H5' N5 B5 P5 hI hy hN5 hB5 hZ5 hm
      obtain ⟨F5, o5_3, o5_4, o5_5, o5_6, o5_7, o5_2, rfl, s5, w5⟩ := hI
      replace h1 := A2.mono s5 h1
      replace q1 := s5.seq q1
      replace g2 := A2.mono s5 g2
      replace q4 := s5 _ _ q4
      replace sF := sF.trans s5
      obtain ⟨rfl, rfl⟩ := hy
      refine ⟨_, rfl, _, rfl, _, _, _, (y2 : (List Int)), _, rfl, w5, (rep_lst q4 g2), ?_⟩
      refine (post_bind hm).mono (fun y7 hm p7 us7 F7 H7 w7 s7 g7 => ?_) (fun _ z => z)
      replace h1 := A2.mono s7 h1
      replace q1 := s7.seq q1
      replace g2 := A2.mono s7 g2
      replace q4 := s7 _ _ q4
      replace sF := sF.trans s7
      have h9 : A2 (rep K F7) [(.int 24), (.int 40)] ([(24 : Int), (40 : Int)] : (List Int)) := .cons rep_i (.cons rep_i (.nil))
      refine ⟨_, rfl, (by show 2 ≤ sizeLine; decide), fun p10 n10 => ?_⟩
      have w10 : W F7 _ ((p10, .lst [(.int 24), (.int 40)]) :: (p7, .lst us7) :: os) := w7.new n10
      have w11 : W F7 _ ((p7, .lst us7) :: (p10, .lst [(.int 24), (.int 40)]) :: os) := w10.front (pre := [_])
      refine ⟨_, rfl, _, _, _, _, _, _, rfl, w11, g7, ?_⟩
      refine (post_bind hm).mono (fun y12 hm v12 vs12 F12 H12 w12 s12 r12 h12 => ?_) (fun _ z => z)
      replace h1 := A2.mono s12 h1
      replace q1 := s12.seq q1
      replace g2 := A2.mono s12 g2
      replace q4 := s12 _ _ q4
      replace h9 := A2.mono s12 h9
      replace sF := sF.trans s12
      obtain rfl : v12 = V.int y12.1 := r12
      obtain ⟨t13, e13, hm⟩ := pb_get hm
      obtain ⟨u13, f13, r13⟩ := A2.at h9 e13
      obtain rfl : u13 = V.int t13 := r13
      refine ⟨_, _, rfl, rfl, _, rfl, _, _, _, _, rfl, rfl, SqL.of (w12.get (pre := [_])), f13, _, _, _, _, _, _, rfl, w12, h12, ?_⟩
      refine (post_bind hm).mono (fun y14 hm v14 vs14 F14 H14 w14 s14 r14 h14 => ?_) (fun _ z => z)
      replace h1 := A2.mono s14 h1
      replace q1 := s14.seq q1
      replace g2 := A2.mono s14 g2
      replace q4 := s14 _ _ q4
      replace h9 := A2.mono s14 h9
      replace sF := sF.trans s14
      obtain ⟨a15, u15, z15, rfl, q15, r15a, r15b⟩ := r14
      obtain rfl : u15 = V.int y14.1.1 := r15a
      obtain ⟨a16, vs16, rfl, q16, h16⟩ := r15b
      have w17 : W F14 _ ((p7, .lst vs14) :: os) := w14.drop (pre := [_])
      refine ⟨_, rfl, _, rfl, _, _, _, _, rfl, rfl, SqT.of (w17.same _ _ q15), rfl, _, _, _, _, _, _, rfl, w17, h14, ?_⟩
      refine (post_bind hm).mono (fun y18 hm p18 us18 vs18 F18 H18 w18 s18 g18 h18 => ?_) (fun _ z => z)
      replace h1 := A2.mono s18 h1
      replace q1 := s18.seq q1
      replace g2 := A2.mono s18 g2
      replace q4 := s18 _ _ q4
      replace q15 := s18 _ _ q15
      replace h16 := A2.mono s18 h16
      replace q16 := s18 _ _ q16
      replace sF := sF.trans s18
      have h20 : A2 (rep K F18) (cutV us18 none (some (10 : Int))) (cutL y18.1 none (some (10 : Int))) := sl_cut g18 _ _
      refine ⟨_, rfl, _, _, rfl, SqL.of (w18.get (pre := [])), fun p21 n21 => ?_⟩
      have w21 : W F18 _ ((p21, .lst (cutV us18 none (some (10 : Int)))) :: (p18, .lst us18) :: (p7, .lst vs18) :: os) := w18.new n21
      obtain ⟨F22, s22, w22, q22⟩ : ∃ F', Same F18 F' ∧ W F' _ ((p18, .lst us18) :: (p7, .lst vs18) :: os) ∧ F' p21 = some (.lst (cutV us18 none (some (10 : Int)))) := w21.freezeE (pre := [])
      replace h1 := A2.mono s22 h1
      replace q1 := s22.seq q1
      replace g2 := A2.mono s22 g2
      replace q4 := s22 _ _ q4
      replace q15 := s22 _ _ q15
      replace h16 := A2.mono s22 h16
      replace q16 := s22 _ _ q16
      replace h18 := A2.mono s22 h18
      replace g18 := A2.mono s22 g18
      replace h20 := A2.mono s22 h20
      replace sF := sF.trans s22
      have w23 : W F22 _ ((p7, .lst vs18) :: os) := w22.drop (pre := [])
      refine ⟨_, rfl, _, rfl, _, _, _, _, rfl, rfl, SqT.of (w23.same _ _ q15), rfl, _, _, _, _, _, _, rfl, w23, h18, ?_⟩
      refine (post_bind hm).mono (fun y24 hm p24 us24 vs24 F24 H24 w24 s24 g24 h24 => ?_) (fun _ z => z)
      replace h1 := A2.mono s24 h1
      replace q1 := s24.seq q1
      replace g2 := A2.mono s24 g2
      replace q4 := s24 _ _ q4
      replace q15 := s24 _ _ q15
      replace h16 := A2.mono s24 h16
      replace q16 := s24 _ _ q16
      replace h20 := A2.mono s24 h20
      replace q22 := s24 _ _ q22
      replace sF := sF.trans s24
      obtain ⟨F26, s26, w26, q26⟩ : ∃ F', Same F24 F' ∧ W F' _ ((p7, .lst vs24) :: os) ∧ F' p24 = some (.lst us24) := w24.freezeE (pre := [])
      replace h1 := A2.mono s26 h1
      replace q1 := s26.seq q1
      replace g2 := A2.mono s26 g2
      replace q4 := s26 _ _ q4
      replace q15 := s26 _ _ q15
      replace h16 := A2.mono s26 h16
      replace q16 := s26 _ _ q16
      replace h20 := A2.mono s26 h20
      replace q22 := s26 _ _ q22
      replace h24 := A2.mono s26 h24
      replace g24 := A2.mono s26 g24
      replace sF := sF.trans s26
      refine ⟨_, rfl, ⟨_, SqL.of (w26.same _ _ q26)⟩, fun D27 nD27 => ?_⟩
      refine lcF (K := K) (tw_list (a := p24) g24) hm w26 nD27 (fun F' H' acc s w => SqL.of (w.same _ _ (s _ _ q26))) ?_ ?_
      · -- one turn
        intro b27 x27 F27 H27 H27' acc27 N27 M27 P27 s27 w27 y27 hN27 hM27 hm
        replace h1 := A2.mono s27 h1
        replace q1 := s27.seq q1
        replace g2 := A2.mono s27 g2
        replace q4 := s27 _ _ q4
        replace q15 := s27 _ _ q15
        replace h16 := A2.mono s27 h16
        replace q16 := s27 _ _ q16
        replace h20 := A2.mono s27 h20
        replace q22 := s27 _ _ q22
        replace h24 := A2.mono s27 h24
        replace g24 := A2.mono s27 g24
        replace q26 := s27 _ _ q26
        replace sF := sF.trans s27
        obtain ⟨rfl, r29⟩ := y27
        obtain rfl : x27 = V.int b27 := r29
        refine ⟨rfl, _, rfl, _, rfl, (b27 : Int), _, rep_i, (Rep.mono w27.same (rep_lst q22 h20)), _, rfl, ?_⟩
        refine post_ite hm (fun k30 hm => ?_) (fun k30 hm => ?_)
        · skip
          exact ⟨_, rfl, hN27 _ (post_ok hm) _ _ _ w27 (Same.refl _) rep_i⟩
        · skip
          exact hM27 (post_ok hm) _ _ w27 (Same.refl _)
      intro us27 F27 H27 ys27 s27 w27 gg27 hm
      replace h1 := A2.mono s27 h1
      replace q1 := s27.seq q1
      replace g2 := A2.mono s27 g2
      replace q4 := s27 _ _ q4
      replace q15 := s27 _ _ q15
      replace h16 := A2.mono s27 h16
      replace q16 := s27 _ _ q16
      replace h20 := A2.mono s27 h20
      replace q22 := s27 _ _ q22
      replace h24 := A2.mono s27 h24
      replace g24 := A2.mono s27 g24
      replace q26 := s27 _ _ q26
      replace sF := sF.trans s27
      obtain ⟨F32, s32, w32, q32⟩ : ∃ F', Same F27 F' ∧ W F' _ ((p7, .lst vs24) :: os) ∧ F' D27 = some (.lst us27) := w27.freezeE (pre := [])
      replace h1 := A2.mono s32 h1
      replace q1 := s32.seq q1
      replace g2 := A2.mono s32 g2
      replace q4 := s32 _ _ q4
      replace q15 := s32 _ _ q15
      replace h16 := A2.mono s32 h16
      replace q16 := s32 _ _ q16
      replace h20 := A2.mono s32 h20
      replace q22 := s32 _ _ q22
      replace h24 := A2.mono s32 h24
      replace g24 := A2.mono s32 g24
      replace q26 := s32 _ _ q26
      replace gg27 := A2.mono s32 gg27
      replace sF := sF.trans s32
      have h34 : A2 (rep K F32) [(.str "places"), (.str "ties"), (.str "all")] ([("places" : Str), ("ties" : Str), ("all" : Str)] : (List Str)) := .cons rep_s (.cons rep_s (.cons rep_s (.nil)))
      refine ⟨(by show 3 ≤ sizeLine; decide), fun p35 n35 => ?_⟩
      have w35 : W F32 _ ((p35, .lst [(.str "places"), (.str "ties"), (.str "all")]) :: (p7, .lst vs24) :: os) := w32.new n35
      obtain ⟨F36, s36, w36, q36⟩ : ∃ F', Same F32 F' ∧ W F' _ ((p7, .lst vs24) :: os) ∧ F' p35 = some (.lst [(.str "places"), (.str "ties"), (.str "all")]) := w35.freezeE (pre := [])
      replace h1 := A2.mono s36 h1
      replace q1 := s36.seq q1
      replace g2 := A2.mono s36 g2
      replace q4 := s36 _ _ q4
      replace q15 := s36 _ _ q15
      replace h16 := A2.mono s36 h16
      replace q16 := s36 _ _ q16
      replace h20 := A2.mono s36 h20
      replace q22 := s36 _ _ q22
      replace gg27 := A2.mono s36 gg27
      replace q32 := s36 _ _ q32
      replace h24 := A2.mono s36 h24
      replace h34 := A2.mono s36 h34
      replace sF := sF.trans s36
      refine ⟨_, rfl, ⟨_, SqL.of (w36.same _ _ q36)⟩, ?_⟩
      refine forX (tw_list (a := p35) h34) hm (fun (g33 : (List Int)) σ H' => ∃ (F' : Hp) (vs33_0 : List V) (o33_7 : Option V), σ = [some (.ref a1), some (.ref p2), some (.int b5), some (.ref p7), some (.ref a15), some (.ref p21), some (.ref D27), o33_7, none] ∧ Same F36 F' ∧ W F' H' ((p7, .lst vs33_0) :: os) ∧ A2 (rep K F') vs33_0 g33) ⟨_, _, _, rfl, Same.refl _, w36, h24⟩ (fun g σ H' hI => by obtain ⟨F', _, _, _, s, w, _⟩ := hI; exact SqL.of (w.same _ _ (s _ _ q36))) ?_ ?_
      · -- a turn
        intro b33 g33 x33 σ33 H33 H33' N33 B33 P33 hI hy hN33 hB33 hZ33 hm
        obtain ⟨F33, vs33_0, o33_7, rfl, s33, w33, h33_0⟩ := hI
        replace h1 := A2.mono s33 h1
        replace q1 := s33.seq q1
        replace g2 := A2.mono s33 g2
        replace q4 := s33 _ _ q4
        replace q15 := s33 _ _ q15
        replace h16 := A2.mono s33 h16
        replace q16 := s33 _ _ q16
        replace h20 := A2.mono s33 h20
        replace q22 := s33 _ _ q22
        replace gg27 := A2.mono s33 gg27
        replace q32 := s33 _ _ q32
        replace h34 := A2.mono s33 h34
        replace q36 := s33 _ _ q36
        replace sF := sF.trans s33
        obtain ⟨rfl, r37⟩ := hy
        obtain rfl : x33 = V.str b33 := r37
        refine ⟨_, rfl, _, rfl, _, rfl, _, rfl, _, rfl, _, _, _, _, _, _, (y14.1 : (Int × (Tup (Int × Int)))), _, ((cutL y18.1 none (some (10 : Int))) : (List Int)), _, (ys27 : (List Int)), _, rfl, w33, h33_0, (rep_pair q15 rep_i (rep_tup q16 h16)), (rep_lst q22 h20), (rep_lst q32 gg27), ?_⟩
        refine (post_bind hm).mono (fun y38 hm v38 vs38 F38 H38 w38 s38 r38 h38 => ?_) (fun _ z => z)
        replace h1 := A2.mono s38 h1
        replace q1 := s38.seq q1
        replace g2 := A2.mono s38 g2
        replace q4 := s38 _ _ q4
        replace q15 := s38 _ _ q15
        replace h16 := A2.mono s38 h16
        replace q16 := s38 _ _ q16
        replace h20 := A2.mono s38 h20
        replace q22 := s38 _ _ q22
        replace gg27 := A2.mono s38 gg27
        replace q32 := s38 _ _ q32
        replace sF := sF.trans s38
        obtain rfl : v38 = V.bl y38.1 := r38
        refine ⟨_, rfl, ?_⟩
        refine post_ite hm (fun k39 hm => ?_) (fun k39 hm => ?_)
        · skip
          have hm := hZ33 _ (post_ok hm)
          have hm := hZ5 _ (post_ok hm)
          have w40 : W F38 _ (os) := w38.drop (pre := [])
          exact (post_ok hm) _ _ _ w40 sF rep_b
        · skip
          exact hN33 _ (post_ok hm) _ _ ⟨_, _, _, rfl, (s33.trans s38), w38, h38⟩
      intro g33 σ33 H33 hI hm
      obtain ⟨F33, vs33_0, o33_7, rfl, s33, w33, h33_0⟩ := hI
      replace h1 := A2.mono s33 h1
      replace q1 := s33.seq q1
      replace g2 := A2.mono s33 g2
      replace q4 := s33 _ _ q4
      replace q15 := s33 _ _ q15
      replace h16 := A2.mono s33 h16
      replace q16 := s33 _ _ q16
      replace h20 := A2.mono s33 h20
      replace q22 := s33 _ _ q22
      replace gg27 := A2.mono s33 gg27
      replace q32 := s33 _ _ q32
      replace h34 := A2.mono s33 h34
      replace q36 := s33 _ _ q36
      replace sF := sF.trans s33
      have w41 : W F33 _ (os) := w33.drop (pre := [])
      exact hN5 _ (post_ok hm) _ _ ⟨_, _, _, _, _, _, _, rfl, (s5.trans (s7.trans (s12.trans (s14.trans (s18.trans (s22.trans (s24.trans (s26.trans (s27.trans (s32.trans (s36.trans s33))))))))))), w41⟩
    intro g5 σ5 H5 hI hm
    obtain ⟨F5, o5_3, o5_4, o5_5, o5_6, o5_7, o5_2, rfl, s5, w5⟩ := hI
    replace h1 := A2.mono s5 h1
    replace q1 := s5.seq q1
    replace g2 := A2.mono s5 g2
    replace q4 := s5 _ _ q4
    replace sF := sF.trans s5
    exact (post_ok hm) _ _ _ w5 sF rep_b
end
end G
/-! MA2: webs drawn from a pool -/
namespace G
open PySem L2 Z
structure TiesOk (b : Nat) (n : Int) (ts : List (Int × Int)) : Prop where
  rg : ∀ p ∈ ts, 0 ≤ p.1 ∧ p.1 < p.2 ∧ p.2 < n
  nd : ts.Nodup
  conn : Conn n ts
  len : ts.length ≤ b
theorem TiesOk.up {b c : Nat} {n : Int} {ts : List (Int × Int)} (h : TiesOk b n ts) (hl : b ≤ c) : TiesOk c n ts := ⟨h.rg, h.nd, h.conn, Nat.le_trans h.len hl⟩
structure WebOk (n : Int) (ts : List (Int × Int)) : Prop where
  n1 : 1 ≤ n
  n60 : n ≤ 60
  rg : ∀ p ∈ ts, 0 ≤ p.1 ∧ p.1 < p.2 ∧ p.2 < n
  nd : ts.Nodup
  conn : Conn n ts
  len : ts.length ≤ 700
  srt : sortP ts = ts
theorem WebOk.rg4 {n : Int} {ts : List (Int × Int)} (h : WebOk n ts) : ∀ q ∈ ts, 0 ≤ q.1 ∧ q.1 < n ∧ 0 ≤ q.2 ∧ q.2 < n := fun q hq => by
  have := h.rg q hq
  omega
def moved (o : List Int) (p : Int × Int) : Int × Int := (min2 (o.getD p.1.toNat 0) (o.getD p.2.toNat 0), max2 (o.getD p.1.toNat 0) (o.getD p.2.toNat 0))
theorem perm_get {o : List Int} {n : Int} (h : o.Perm (rng 0 n)) (n0 : 0 ≤ n) {k : Int} (k0 : 0 ≤ k) (k1 : k < n) : ∃ x, o[k.toNat]? = some x ∧ 0 ≤ x ∧ x < n := by
  have hl := h.length_eq
  rw [rng_length] at hl
  have hk : k.toNat < o.length := by omega
  refine ⟨o[k.toNat], List.getElem?_eq_getElem hk, ?_⟩
  exact rng_mem.mp (h.mem_iff.mp (List.getElem_mem hk))
theorem perm_getD {o : List Int} {n : Int} (h : o.Perm (rng 0 n)) (n0 : 0 ≤ n) {k : Int} (k0 : 0 ≤ k) (k1 : k < n) : 0 ≤ o.getD k.toNat 0 ∧ o.getD k.toNat 0 < n := by
  obtain ⟨x, e, x0, x1⟩ := perm_get h n0 k0 k1
  rw [List.getD_eq_getElem?_getD, e]
  exact ⟨x0, x1⟩
theorem perm_inj {o : List Int} {n : Int} (h : o.Perm (rng 0 n)) (n0 : 0 ≤ n) {j k : Int} (j0 : 0 ≤ j) (j1 : j < n) (k0 : 0 ≤ k) (k1 : k < n) (e : o.getD j.toNat 0 = o.getD k.toNat 0) : j = k := by
  have hl := h.length_eq
  rw [rng_length] at hl
  have hnd : o.Nodup := (h.nodup_iff).mpr (rng_nodup 0 n)
  have hj : j.toNat < o.length := by omega
  have hk : k.toNat < o.length := by omega
  rw [List.getD_eq_getElem?_getD, List.getD_eq_getElem?_getD, List.getElem?_eq_getElem hj, List.getElem?_eq_getElem hk] at e
  have e' : o[j.toNat] = o[k.toNat] := e
  have hpw := List.pairwise_iff_getElem.mp hnd
  rcases Nat.lt_trichotomy j.toNat k.toNat with q | q | q
  · exact absurd e' (hpw _ _ hj hk q)
  · omega
  · exact absurd e'.symm (hpw _ _ hk hj q)
theorem perm_surj {o : List Int} {n : Int} (h : o.Perm (rng 0 n)) (n0 : 0 ≤ n) {x : Int} (x0 : 0 ≤ x) (x1 : x < n) : ∃ k, 0 ≤ k ∧ k < n ∧ o.getD k.toNat 0 = x := by
  have hx : x ∈ o := h.mem_iff.mpr (rng_mem.mpr ⟨x0, x1⟩)
  obtain ⟨i, hi⟩ := List.mem_iff_getElem?.mp hx
  have hl := h.length_eq
  rw [rng_length] at hl
  have hil := (List.getElem?_eq_some_iff.mp hi).1
  refine ⟨i, by omega, by omega, ?_⟩
  rw [List.getD_eq_getElem?_getD, Int.toNat_natCast, hi]
  rfl
theorem mm_cases (a b : Int) : (min2 a b = a ∧ max2 a b = b ∧ a ≤ b) ∨ (min2 a b = b ∧ max2 a b = a ∧ b ≤ a) := by
  unfold min2 max2
  by_cases h : b < a
  · rw [if_pos h, if_neg (by omega)]
    exact .inr ⟨rfl, rfl, by omega⟩
  · rw [if_neg h]
    by_cases h2 : b > a
    · rw [if_pos h2]
      exact .inl ⟨rfl, rfl, by omega⟩
    · rw [if_neg h2]
      have : a = b := by omega
      subst this
      exact .inl ⟨rfl, rfl, by omega⟩
theorem moved_inj {o : List Int} {n : Int} (h : o.Perm (rng 0 n)) (n0 : 0 ≤ n) {p q : Int × Int} (hp : 0 ≤ p.1 ∧ p.1 < p.2 ∧ p.2 < n) (hq : 0 ≤ q.1 ∧ q.1 < q.2 ∧ q.2 < n) (e : moved o p = moved o q) : p = q := by
  unfold moved at e
  injection e with e1 e2
  have i1 := fun e => perm_inj h n0 (j := p.1) (k := q.1) hp.1 (by omega) hq.1 (by omega) e
  have i2 := fun e => perm_inj h n0 (j := p.2) (k := q.2) (by omega) hp.2.2 (by omega) hq.2.2 e
  have i3 := fun e => perm_inj h n0 (j := p.1) (k := q.2) hp.1 (by omega) (by omega) hq.2.2 e
  have i4 := fun e => perm_inj h n0 (j := p.2) (k := q.1) (by omega) hp.2.2 hq.1 (by omega) e
  rcases mm_cases (o.getD p.1.toNat 0) (o.getD p.2.toNat 0) with ⟨a1, a2, _⟩ | ⟨a1, a2, _⟩ <;> rcases mm_cases (o.getD q.1.toNat 0) (o.getD q.2.toNat 0) with ⟨b1, b2, _⟩ | ⟨b1, b2, _⟩ <;> rw [a1, b1] at e1 <;> rw [a2, b2] at e2
  · exact Prod.ext (i1 e1) (i2 e2)
  · have := i3 e1
    have := i4 e2
    omega
  · have := i4 e1
    have := i3 e2
    omega
  · exact Prod.ext (i1 e2) (i2 e1)
theorem moved_ok {o : List Int} {n : Int} {ts : List (Int × Int)} (ho : o.Perm (rng 0 n)) (n0 : 1 ≤ n) (n1 : n ≤ 60) (h : TiesOk 700 n ts) : WebOk n (sortP (ts.map (moved o))) := by
  have hperm := sortP_perm (ts.map (moved o))
  refine ⟨n0, n1, fun p hp => ?_, ?_, ?_, ?_, ?_⟩
  · obtain ⟨q, hq, rfl⟩ := List.mem_map.mp (hperm.mem_iff.mp hp)
    have hr := h.rg q hq
    have r1 := perm_getD ho (by omega) (k := q.1) hr.1 (by omega)
    have r2 := perm_getD ho (by omega) (k := q.2) (by omega) hr.2.2
    have ne : o.getD q.1.toNat 0 ≠ o.getD q.2.toNat 0 := fun e => by
      have := perm_inj ho (by omega) hr.1 (by omega) (by omega) hr.2.2 e
      omega
    unfold moved
    dsimp only
    rcases mm_cases (o.getD q.1.toNat 0) (o.getD q.2.toNat 0) with ⟨a1, a2, _⟩ | ⟨a1, a2, _⟩ <;> rw [a1, a2] <;> omega
  · refine hperm.nodup_iff.mpr ?_
    refine List.Pairwise.map (R := fun p q => p ≠ q ∧ p ∈ ts ∧ q ∈ ts) _ (fun p q hpq e => hpq.1 (moved_inj ho (by omega) (h.rg p hpq.2.1) (h.rg q hpq.2.2) e)) ?_
    exact h.nd.imp_of_mem fun hp hq hne => ⟨hne, hp, hq⟩
  · intro S h0 hc
    obtain ⟨r, r0, r1, er⟩ := perm_surj ho (by omega) (x := 0) (by omega) (by omega)
    have key := h.conn.any (S := fun k => S (o.getD k.toNat 0)) r0 r1 (by show S (o.getD r.toNat 0); rw [er]; exact h0) fun p hp => by
      have hm : moved o p ∈ sortP (ts.map (moved o)) := hperm.mem_iff.mpr (List.mem_map.mpr ⟨p, hp, rfl⟩)
      have := hc _ hm
      unfold moved at this
      dsimp only at this
      rcases mm_cases (o.getD p.1.toNat 0) (o.getD p.2.toNat 0) with ⟨a1, a2, _⟩ | ⟨a1, a2, _⟩
      · rw [a1, a2] at this
        exact this
      · rw [a1, a2] at this
        exact this.symm
    intro k k0 k1
    obtain ⟨j, j0, j1, ej⟩ := perm_surj ho (by omega) k0 k1
    rw [← ej]
    exact key j j0 j1
  · rw [hperm.length_eq, List.length_map]
    exact h.len
  · exact (sortP_eq (List.Perm.refl _) (sortP_sorted _)).symm
/-! ### the pool -/
def PoolOk (s : List Int) : Prop := ∃ a b : Int, s = [a, b] ∧ 0 ≤ a ∧ 0 ≤ b ∧ b < 2147483647
theorem take_ok {s : List Int} {m : Int} (h : PoolOk s) (h0 : 0 < m) (h1 : m < 1073741824) : Post (law_take s m) (fun r => 0 ≤ r.1 ∧ r.1 < m ∧ PoolOk r.2) noX := by
  obtain ⟨a, b, rfl, a0, b0, b1⟩ := h
  unfold law_take
  refine po_getE (x := a) rfl (po_if (fun c => ?_) fun c => ?_)
  · refine po_getE (x := a) rfl (po_mod h0 fun r0 r1 => po_getE (x := a) rfl (po_div h0 h1 (po_set (Int.le_refl _) (by show (0 : Int) < 2; decide) ?_)))
    exact ⟨r0, r1, a / m, b, rfl, Int.ediv_nonneg a0 (by omega), b0, b1⟩
  · have c0 : 0 ≤ (b * 48271 + 12820163) % 2147483647 := Int.emod_nonneg _ (by decide)
    have c1 : (b * 48271 + 12820163) % 2147483647 < 2147483647 := Int.emod_lt_of_pos _ (by decide)
    refine po_getE (x := b) rfl (po_set (by decide) (by show (1 : Int) < 2; decide) ?_)
    show Post (getI [a, (b * 48271 + 12820163) % 2147483647] 1 >>= _) _ _
    generalize (b * 48271 + 12820163) % 2147483647 = d at c0 c1
    refine po_getE (x := d) rfl (po_getE (x := d) rfl (po_mul (.inl ⟨by omega, by omega⟩) (po_mod h0 fun r0 r1 => ?_)))
    exact ⟨r0, r1, a, d, rfl, a0, c0, c1⟩
theorem pool_ok {cs : List Int} {k : Int} (k0 : 0 ≤ k) (k1 : k < 1000) (hl : cs.length < 1000) : Post (law_pool cs k) PoolOk noX := by
  unfold law_pool
  refine po_bind (Q := fun _ => True) (po_if (fun c => ?_) fun _ => trivial) fun g2 _ => ?_
  · have c' := of_decide_eq_true c
    exact po_mod c' fun r0 r1 => po_get r0 r1 fun t _ _ => po_div c' (by omega) trivial
  · refine po_bind (Q := fun g : Int => 0 ≤ g) (po_bind (Q := fun _ => True) (po_if (fun _ => trivial) fun _ => trivial) fun j _ => po_if (fun _ => ?_) fun _ => Int.le_refl _) fun g7 h7 => ?_
    · show 0 ≤ absI g2
      unfold absI
      split <;> omega
    · refine po_mul (.inr ⟨by omega, by omega⟩) ?_
      exact ⟨_, _, rfl, h7, Int.emod_nonneg _ (by decide), Int.lt_trans (Int.emod_lt_of_pos _ (by decide)) (by decide)⟩
theorem cells_ok {sc : Scr} {m : Nat} (h : sc.l.length ≤ 63) (m0 : 0 < m) (m1 : m < 60) : Post (law_cells sc m) (fun l => l.length ≤ m) noX := by
  unfold law_cells
  rw [cut_take, show (some (63 : Int)) = some ((63 : Nat) : Int) from rfl, cut_mid]
  refine po_bind (Q := fun l => l.length ≤ m) ?_ fun _ h => h
  refine Post.mono (po_fold (fun g => g.length = (sc.l.take m).length) rfl fun g x hg hx => ?_) (fun g hg => by rw [hg, List.length_take]; omega) fun _ z => z
  have hlen : (sc.l.take m).length = m := by
    obtain ⟨i, hi⟩ := List.mem_iff_getElem?.mp hx
    have := (List.getElem?_eq_some_iff.mp hi).1
    rw [enum_length, List.length_take, List.length_drop] at this
    rw [List.length_take]
    omega
  have hm : (0 : Int) < (m : Int) := by omega
  refine po_mod hm fun r0 r1 => po_get r0 (by omega) fun _ _ _ => po_mod hm fun s0 s1 => po_set s0 (by omega) ?_
  show (List.set _ _ _).length = _
  rw [List.length_set]
  exact hg
theorem some_ok {s menu : List Int} {m : Int} (h : PoolOk s) (m0 : 0 ≤ m) (m1 : m ≤ menu.length) (m2 : menu.length < 10000) : Post (law_some s menu m) (fun r => (∃ left, (r.1 ++ left).Perm menu) ∧ (r.1.length : Int) = m ∧ PoolOk r.2) noX := by
  unfold law_some
  have hl : (rng 0 m).length = m.toNat := by rw [rng_length]; omega
  refine po_rng (by decide) (by decide) (by omega) (by omega) ?_
  refine po_bind (po_mapStA (fun pre acc g => (acc ++ g.1).Perm menu ∧ pre.length = acc.length ∧ PoolOk g.2) (by omega) ⟨List.Perm.refl _, rfl, h⟩ ?_) ?_
  · rintro pre acc ⟨left, pot⟩ x post e ⟨h1, h2, h3⟩
    have h1' : (acc ++ left).Perm menu := h1
    have hlen := h1'.length_eq
    rw [List.length_append] at hlen
    have hxl : pre.length + (post.length + 1) = m.toNat := by
      have := congrArg List.length e
      rw [hl] at this
      simp at this
      omega
    have h2' : pre.length = acc.length := h2
    refine po_bind (take_ok h3 (by show (0 : Int) < left.length; omega) (by show (left.length : Int) < _; omega)) fun y ⟨y0, y1, hy⟩ => ?_
    have y1' : y.1 < (left.length : Int) := y1
    refine po_popB y0 y1' (by omega) fun z hz => ?_
    refine ⟨?_, by show (pre ++ [x]).length = (acc ++ [z]).length; rw [List.length_append, List.length_append, h2']; rfl, hy⟩
    show ((acc ++ [z]) ++ left.eraseIdx y.1.toNat).Perm _
    refine List.Perm.trans ?_ h1'
    rw [List.append_assoc]
    refine List.Perm.append_left _ ?_
    have hj := (List.getElem?_eq_some_iff.mp hz)
    obtain ⟨hj1, hj2⟩ := hj
    have : left.Perm (z :: left.eraseIdx y.1.toNat) := by
      have e1 : left = left.take y.1.toNat ++ z :: left.drop (y.1.toNat + 1) := by
        rw [← hj2, ← List.drop_eq_getElem_cons hj1, List.take_append_drop]
      have e2 : left.eraseIdx y.1.toNat = left.take y.1.toNat ++ left.drop (y.1.toNat + 1) := List.eraseIdx_eq_take_drop_succ _ _
      rw [e2]
      conv => lhs; rw [e1]
      exact List.perm_middle
    exact this.symm
  · rintro ⟨acc, left, pot⟩ ⟨h1, h2, h3⟩
    have h2' : (rng 0 m).length = acc.length := h2
    exact ⟨⟨left, h1⟩, by show (acc.length : Int) = m; omega, h3⟩
/-- places called by drawn numbers -/
theorem named_ok {s : List Int} {n : Int} {ts : List (Int × Int)} (h : PoolOk s) (n0 : 1 ≤ n) (n1 : n ≤ 60) (ht : TiesOk 700 n ts) : Post (law_named s n ts) (fun r => r.1.1 = n ∧ WebOk r.1.1 r.1.2.l ∧ PoolOk r.2) noX := by
  unfold law_named
  have hln : (rng 0 n).length = n.toNat := by rw [rng_length]; omega
  refine po_listRng (by decide) (by decide) (by omega) (by omega) (by omega) ?_
  refine po_bind (some_ok h (by omega) (by omega) (by omega)) fun y6 ⟨⟨left, hp⟩, hl, h6⟩ => ?_
  have ho : y6.1.Perm (rng 0 n) := by
    have := hp.length_eq
    rw [List.length_append, hln] at this
    have e : left = [] := List.eq_nil_of_length_eq_zero (by omega)
    rw [e, List.append_nil] at hp
    exact hp
  have hlt := ht.len
  refine po_mapGE (g := moved y6.1) (by omega) (fun x hx => ?_) ?_
  · have hr := ht.rg x hx
    obtain ⟨u, eu, _⟩ := perm_get ho (by omega) (k := x.1) hr.1 (by omega)
    obtain ⟨v, ev, _⟩ := perm_get ho (by omega) (k := x.2) (by omega) hr.2.2
    rw [getI_eq hr.1 eu, ok_bind, getI_eq (by omega) ev, ok_bind, ok_bind, ok_bind]
    unfold moved
    rw [List.getD_eq_getElem?_getD, List.getD_eq_getElem?_getD, eu, ev]
    rfl
  · exact ⟨rfl, moved_ok ho n0 n1 ht, h6⟩
/-! ### ties in a dict -/
/-- ties below k, each place from 1 on tied to a lesser one -/
structure DOk (k : Int) (g : List ((Int × Int) × Bool)) : Prop where
  rg : ∀ p ∈ mkeys g, 0 ≤ p.1 ∧ p.1 < p.2 ∧ p.2 < k
  nd : (mkeys g).Nodup
  dn : ∀ j, 1 ≤ j → j < k → ∃ i, 0 ≤ i ∧ i < j ∧ (i, j) ∈ mkeys g
theorem keys_put {g : List ((Int × Int) × Bool)} {p q : Int × Int} : q ∈ mkeys (mput g p true) ↔ q ∈ mkeys g ∨ q = p := by
  rw [mkeys_mput]
  split
  · rename_i h
    exact ⟨.inl, fun z => z.elim id fun e => e ▸ h⟩
  · rw [List.mem_append, List.mem_singleton]
theorem keys_put_nd {g : List ((Int × Int) × Bool)} {p : Int × Int} (h : (mkeys g).Nodup) : (mkeys (mput g p true)).Nodup := by
  rw [mkeys_mput]
  split
  · exact h
  · rename_i q
    rw [List.nodup_append]
    refine ⟨h, by simp, fun a ha b hb e => ?_⟩
    simp at hb
    subst hb
    exact q (e ▸ ha)
theorem keys_len {g : List ((Int × Int) × Bool)} : (mkeys g).length = g.length := by unfold mkeys; rw [List.length_map]
theorem put_len {g : List ((Int × Int) × Bool)} {p : Int × Int} : (mput g p true).length ≤ g.length + 1 := by
  rw [← keys_len, ← keys_len, mkeys_mput]
  split
  · omega
  · rw [List.length_append, List.length_singleton]
    exact Nat.le_refl _
/-- pairs of few places are few -/
theorem few_pairs {ps : List (Int × Int)} {n : Int} (hn : n ≤ 24) (hd : ps.Nodup) (hr : ∀ p ∈ ps, 0 ≤ p.1 ∧ p.1 < p.2 ∧ p.2 < n) : ps.length ≤ 576 := by
  have h1 : (ps.map fun p => p.1 * 24 + p.2).Nodup := by
    refine List.Pairwise.map (R := fun p q => p ≠ q ∧ p ∈ ps ∧ q ∈ ps) _ (fun p q hpq e => ?_) (hd.imp_of_mem fun hp hq hne => ⟨hne, hp, hq⟩)
    have a := hr p hpq.2.1
    have b := hr q hpq.2.2
    have e' : p.1 * 24 + p.2 = q.1 * 24 + q.2 := e
    exact hpq.1 (Prod.ext (by omega) (by omega))
  have h2 := nodup_le h1 (ys := rng 0 576) fun x hx => by
    obtain ⟨p, hp, rfl⟩ := List.mem_map.mp hx
    have a := hr p hp
    exact rng_mem.mpr ⟨by omega, by omega⟩
  rw [List.length_map, rng_length] at h2
  omega
theorem DOk.put {k : Int} {g : List ((Int × Int) × Bool)} {p : Int × Int} (h : DOk k g) (hp : 0 ≤ p.1 ∧ p.1 < p.2 ∧ p.2 < k) : DOk k (mput g p true) :=
  ⟨fun q hq => (keys_put.mp hq).elim (h.rg q) fun e => e ▸ hp, keys_put_nd h.nd, fun j j1 jk => by
    obtain ⟨i, i0, ij, hi⟩ := h.dn j j1 jk
    exact ⟨i, i0, ij, keys_put.mpr (.inl hi)⟩⟩
theorem DOk.ties {n : Int} {g : List ((Int × Int) × Bool)} (h : DOk n g) (hl : g.length ≤ 700) : TiesOk 700 n (mkeys g) :=
  ⟨h.rg, h.nd, conn_tree fun k k1 kn => by
    obtain ⟨i, i0, ik, hi⟩ := h.dn k k1 kn
    exact ⟨i, i0, ik, .inl hi⟩, by rw [keys_len]; exact hl⟩
/-- ties below k, and some of k -/
structure EOk (k : Int) (g : List ((Int × Int) × Bool)) : Prop where
  rg : ∀ p ∈ mkeys g, 0 ≤ p.1 ∧ p.1 < p.2 ∧ p.2 ≤ k
  nd : (mkeys g).Nodup
  dn : ∀ j, 1 ≤ j → j < k → ∃ i, 0 ≤ i ∧ i < j ∧ (i, j) ∈ mkeys g
theorem EOk.put {k i : Int} {g : List ((Int × Int) × Bool)} (h : EOk k g) (i0 : 0 ≤ i) (ik : i < k) : EOk k (mput g (i, k) true) :=
  ⟨fun q hq => (keys_put.mp hq).elim (h.rg q) fun e => by rw [e]; exact ⟨i0, ik, Int.le_refl _⟩, keys_put_nd h.nd, fun j j1 jk => by
    obtain ⟨x, x0, xj, hx⟩ := h.dn j j1 jk
    exact ⟨x, x0, xj, keys_put.mpr (.inl hx)⟩⟩
theorem DOk.e {k : Int} {g : List ((Int × Int) × Bool)} (h : DOk k g) : EOk k g := ⟨fun p hp => by have := h.rg p hp; omega, h.nd, h.dn⟩
theorem EOk.d {k : Int} {g : List ((Int × Int) × Bool)} (h : EOk k g) (hk : 1 ≤ k → ∃ i, 0 ≤ i ∧ i < k ∧ (i, k) ∈ mkeys g) : DOk (k + 1) g :=
  ⟨fun p hp => by have := h.rg p hp; omega, h.nd, fun j j1 jk => by
    by_cases e : j = k
    · rw [e] at j1 ⊢
      exact hk j1
    · exact h.dn j j1 (by omega)⟩
/-- a tree: a web of one tie less than places -/
structure TreeOk (n : Int) (ts : List (Int × Int)) : Prop where
  web : WebOk n ts
  len : (ts.length : Int) = n - 1
theorem sortP_len (ts : List (Int × Int)) : (sortP ts).length = ts.length := (sortP_perm ts).length_eq
theorem named_tree {s : List Int} {n : Int} {ts : List (Int × Int)} (h : PoolOk s) (n0 : 1 ≤ n) (n1 : n ≤ 60) (ht : TiesOk 700 n ts) (hlen : (ts.length : Int) = n - 1) : Post (law_named s n ts) (fun r => r.1.1 = n ∧ TreeOk r.1.1 r.1.2.l ∧ PoolOk r.2) noX := by
  unfold law_named
  have hln : (rng 0 n).length = n.toNat := by rw [rng_length]; omega
  refine po_listRng (by decide) (by decide) (by omega) (by omega) (by omega) ?_
  refine po_bind (some_ok h (by omega) (by omega) (by omega)) fun y6 ⟨⟨left, hp⟩, hl, h6⟩ => ?_
  have ho : y6.1.Perm (rng 0 n) := by
    have := hp.length_eq
    rw [List.length_append, hln] at this
    have e : left = [] := List.eq_nil_of_length_eq_zero (by omega)
    rw [e, List.append_nil] at hp
    exact hp
  have hlt := ht.len
  refine po_mapGE (g := moved y6.1) (by omega) (fun x hx => ?_) ?_
  · have hr := ht.rg x hx
    obtain ⟨u, eu, _⟩ := perm_get ho (by omega) (k := x.1) hr.1 (by omega)
    obtain ⟨v, ev, _⟩ := perm_get ho (by omega) (k := x.2) (by omega) hr.2.2
    rw [getI_eq hr.1 eu, ok_bind, getI_eq (by omega) ev, ok_bind, ok_bind, ok_bind]
    unfold moved
    rw [List.getD_eq_getElem?_getD, List.getD_eq_getElem?_getD, eu, ev]
    rfl
  · refine ⟨rfl, ⟨moved_ok ho n0 n1 ht, ?_⟩, h6⟩
    show ((sortP (ts.map (moved y6.1))).length : Int) = n - 1
    rw [sortP_len, List.length_map]
    exact hlen
theorem tree_ok {s : List Int} {m : Int} (h : PoolOk s) (m0 : 1 ≤ m) (m1 : m ≤ 60) : Post (law_tree s m) (fun r => TreeOk r.1.1 r.1.2.l ∧ r.1.1 ≤ m ∧ PoolOk r.2) noX := by
  unfold law_tree
  refine po_bind (take_ok h (by omega) (by omega)) fun y2 ⟨a0, a1, h2⟩ => ?_
  refine po_bind (take_ok h2 (by decide) (by decide)) fun y3 ⟨b0, b1, h3⟩ => ?_
  generalize hn : (1 : Int) + y2.1 = n
  refine po_rng (by decide) (by decide) (by omega) (by omega) ?_
  refine po_bind (po_foldP (fun pre (g : List (Int × Int) × List Int) => (∀ p ∈ g.1, 0 ≤ p.1 ∧ p.1 < p.2) ∧ g.1.map (·.2) = pre ∧ PoolOk g.2) ⟨fun _ h => (nomatch h), rfl, h3⟩ fun pre g k post e ⟨q1, q2, q3⟩ => ?_) fun g6 ⟨q1, q2, q3⟩ => ?_
  · obtain ⟨e1, k1, kn⟩ := rng_split e
    have hgl : g.1.length = pre.length := by rw [← q2, List.length_map]
    have hpl : pre.length < 100 := by
      have := congrArg List.length e
      rw [rng_length] at this
      simp at this
      omega
    refine po_bind (take_ok q3 (by omega) (by omega)) fun y9 ⟨c0, c1, h9⟩ => ?_
    refine po_bind (take_ok h9 (by decide) (by decide)) fun y10 ⟨d0, d1, h10⟩ => ?_
    have hmm : 0 < min2 k 3 ∧ min2 k 3 ≤ 3 ∧ min2 k 3 ≤ k := by
      rcases mm_cases k 3 with ⟨w1, _⟩ | ⟨w1, _⟩ <;> rw [w1] <;> omega
    refine po_bind (take_ok h10 hmm.1 (by omega)) fun y11 ⟨f0, f1, h11⟩ => ?_
    refine po_extend (by show 5 + 1 < 100000; omega) (po_get b0 (by show y3.1 < ((5 + 1 : Nat) : Int); omega) fun t20 ht _ => ?_)
    have ht' : 0 ≤ t20 ∧ t20 < k := by
      have hmx : 0 ≤ max2 0 (k - 1 - y10.1) ∧ max2 0 (k - 1 - y10.1) < k := by
        rcases mm_cases 0 (k - 1 - y10.1) with ⟨_, w2, _⟩ | ⟨_, w2, _⟩ <;> rw [w2] <;> omega
      have hdv : 0 ≤ (k - 1) / 2 ∧ (k - 1) / 2 < k := by omega
      have ht2 : t20 ∈ ([k - 1, 0, y9.1, max2 0 (k - 1 - y10.1), y11.1, (k - 1) / 2] : List Int) := ht
      simp only [List.mem_cons, List.not_mem_nil, or_false] at ht2
      omega
    refine po_app (by omega) ⟨fun p hp => ?_, ?_, h11⟩
    · rcases List.mem_append.mp hp with hp | hp
      · exact q1 p hp
      · rw [List.mem_singleton.mp hp]
        exact ht'
    · show (g.1 ++ [(t20, k)]).map (·.2) = pre ++ [k]
      rw [List.map_append, q2]
      rfl
  · have hlen : g6.1.length = (n - 1).toNat := by
      have := congrArg List.length q2
      rw [List.length_map, rng_length] at this
      exact this
    have hk : ∀ p ∈ g6.1, 1 ≤ p.2 ∧ p.2 < n := fun p hp => rng_mem.mp (q2 ▸ List.mem_map_of_mem (f := fun p : Int × Int => p.2) hp)
    have hT : TiesOk 700 n g6.1 := by
      refine ⟨fun p hp => ⟨(q1 p hp).1, (q1 p hp).2, (hk p hp).2⟩, ?_, conn_tree fun k k1 kn => ?_, by omega⟩
      · have : (g6.1.map (·.2)).Nodup := by rw [q2]; exact rng_nodup 1 n
        exact (List.pairwise_map.mp this).imp fun h e => h (by rw [e])
      · have : k ∈ g6.1.map (·.2) := by rw [q2]; exact rng_mem.mpr ⟨k1, kn⟩
        obtain ⟨p, hp, e⟩ := List.mem_map.mp this
        have := q1 p hp
        exact ⟨p.1, this.1, by rw [← e]; exact this.2, .inl (by rw [← e]; exact hp)⟩
    refine po_bind (named_tree q3 (by omega) (by omega) hT (by omega)) fun y28 ⟨e1, u1, u2⟩ => ?_
    exact ⟨u1, by show y28.1.1 ≤ m; omega, u2⟩
end G
/-! MB: neighbours and fars, as the program reckons them -/
namespace G
open PySem L2 Z
/-- the places tied to one, in the ties' order -/
def nbs (ts : List (Int × Int)) (i : Int) : List Int := ts.flatMap fun p => (if p.1 = i then [p.2] else []) ++ (if p.2 = i then [p.1] else [])
theorem nbs_snoc (ts : List (Int × Int)) (x : Int × Int) (i : Int) : nbs (ts ++ [x]) i = nbs ts i ++ ((if x.1 = i then [x.2] else []) ++ (if x.2 = i then [x.1] else [])) := by
  unfold nbs
  rw [List.flatMap_append]
  simp
theorem nbs_mem {ts : List (Int × Int)} {i j : Int} : j ∈ nbs ts i ↔ Adj ts i j := by
  unfold nbs Adj
  rw [List.mem_flatMap]
  constructor
  · rintro ⟨p, hp, h⟩
    rcases List.mem_append.mp h with h | h
    · split at h
      · rename_i e
        rw [List.mem_singleton] at h
        rw [← e, h]
        exact .inl hp
      · cases h
    · split at h
      · rename_i e
        rw [List.mem_singleton] at h
        rw [← e, h]
        exact .inr hp
      · cases h
  · rintro (h | h)
    · exact ⟨_, h, List.mem_append_left _ (by simp)⟩
    · exact ⟨_, h, List.mem_append_right _ (by simp)⟩
theorem nbs_len (ts : List (Int × Int)) (i : Int) : (nbs ts i).length ≤ 2 * ts.length := by
  induction ts with
  | nil => exact Nat.le_refl _
  | cons p ts ih =>
    have e : nbs (p :: ts) i = ((if p.1 = i then [p.2] else []) ++ (if p.2 = i then [p.1] else [])) ++ nbs ts i := rfl
    rw [e, List.length_append, List.length_append, List.length_cons]
    have h1 : (if p.1 = i then [p.2] else []).length ≤ 1 := by split <;> simp
    have h2 : (if p.2 = i then [p.1] else []).length ≤ 1 := by split <;> simp
    omega
theorem map_rng_get {α : Type} {n : Int} {F : Int → α} {j : Int} (h0 : 0 ≤ j) (h1 : j < n) : ((rng 0 n).map F)[j.toNat]? = some (F j) := by
  rw [List.getElem?_map, rng_atE (by omega)]
  show some (F (0 + (j.toNat : Int))) = _
  rw [show (0 : Int) + (j.toNat : Int) = j by omega]
theorem map_rng_set {α : Type} {n : Int} {F : Int → α} {j : Int} {y : α} (h0 : 0 ≤ j) : ((rng 0 n).map F).set j.toNat y = (rng 0 n).map fun i => if i = j then y else F i := by
  apply List.ext_getElem?
  intro k
  rw [List.getElem?_set, List.getElem?_map, List.getElem?_map, List.length_map]
  by_cases hk : k < (n - 0).toNat
  · rw [rng_atE hk]
    by_cases e : j.toNat = k
    · rw [if_pos e, if_pos (by rw [rng_length]; omega)]
      show some y = some (if (0 : Int) + (k : Int) = j then y else F (0 + k))
      rw [if_pos (by omega)]
    · rw [if_neg e]
      show some (F (0 + k)) = some (if (0 : Int) + (k : Int) = j then y else F (0 + k))
      rw [if_neg (by omega)]
  · rw [List.getElem?_eq_none (by rw [rng_length]; omega)]
    by_cases e : j.toNat = k
    · rw [if_pos e, if_neg (by rw [rng_length]; omega)]; rfl
    · rw [if_neg e]
      rfl
theorem map_rng_congr {α : Type} {n : Int} {F G : Int → α} (h : ∀ i, 0 ≤ i → i < n → F i = G i) : (rng 0 n).map F = (rng 0 n).map G := List.map_congr_left fun i hi => h i (rng_mem.mp hi).1 (rng_mem.mp hi).2
theorem range_get {N : Nat} {j : Int} (h0 : 0 ≤ j) (h1 : j < N) : getI (List.range N) j = R.ok j.toNat := by
  refine getI_eq h0 ?_
  rw [List.getElem?_range (by omega)]
def nears (n : Int) (ts : List (Int × Int)) : List (List Int) := (rng 0 n).map fun i => sortI (nbs ts i)
theorem near_lists_ok {n : Int} {ts : List (Int × Int)} (n0 : 0 ≤ n) (n1 : n < 1000) (hl : ts.length < 40000) (hr : ∀ p ∈ ts, 0 ≤ p.1 ∧ p.1 < n ∧ 0 ≤ p.2 ∧ p.2 < n) : near_lists (n, ⟨ts⟩) = R.ok (nears n ts) := by
  refine po_iff ?_
  unfold near_lists
  refine po_rng (by decide) (by decide) (by show -(2 ^ 62) ≤ n; omega) (by show n < 2 ^ 62; omega) ?_
  have hN : (rng 0 n).length = n.toNat := by rw [rng_length]; omega
  refine po_bind (po_mapStA (fun pre acc s => acc = List.range pre.length ∧ s = List.replicate pre.length []) (by show (rng 0 n).length < 100000; omega) ⟨rfl, rfl⟩ fun pre acc s x post e ⟨h1, h2⟩ => ?_) fun l5 ⟨a1, a2⟩ => ?_
  · refine po_newS ⟨?_, ?_⟩
    · show acc ++ [s.length] = _
      rw [h1, h2, List.length_replicate, List.length_append, List.length_singleton, List.range_succ]
    · show s ++ [[]] = _
      rw [h2, List.length_append, List.length_singleton, List.replicate_succ']
  · rw [hN] at a1 a2
    refine po_bind (po_foldP (fun pre g => g = (rng 0 n).map fun i => nbs pre i) ?_ fun pre g x post e hg => ?_) fun g11 hg => ?_
    · rw [a2]
      apply List.ext_getElem?
      intro k
      rw [List.getElem?_replicate, List.getElem?_map]
      by_cases hk : k < n.toNat
      · rw [if_pos hk, rng_atE (by omega)]; rfl
      · rw [if_neg hk, List.getElem?_eq_none (by rw [rng_length]; omega)]; rfl
    · obtain ⟨x1, x2, x3, x4⟩ := hr x (by rw [show ts = pre ++ x :: post from e]; simp)
      have hpl : pre.length < 40000 := by
        have : ts.length = pre.length + (post.length + 1) := by rw [show ts = pre ++ x :: post from e]; simp
        omega
      have hl1 := nbs_len pre x.1
      have hl2 := nbs_len pre x.2
      rw [a1]
      refine po_getE (range_get x1 (by omega)) (po_getS (by rw [hg]; exact map_rng_get x1 x2) (po_app (by omega) (po_setS ?_)))
      rw [hg, map_rng_set x1]
      refine po_getE (range_get x3 (by omega)) (po_getS (map_rng_get x3 x4) (po_app ?_ (po_setS ?_)))
      · split
        · rw [List.length_append, List.length_singleton]; omega
        · omega
      · rw [map_rng_set x3]
        show _ = _
        refine map_rng_congr fun i i0 i1 => ?_
        rw [nbs_snoc]
        by_cases e1 : x.1 = i
        · by_cases e2 : x.2 = i
          · subst e1
            rw [e2]
            simp
          · subst e1
            rw [if_neg (fun q => e2 q.symm), if_pos rfl, if_pos rfl, if_neg e2, List.append_nil]
        · by_cases e2 : x.2 = i
          · subst e2
            rw [if_pos rfl, if_neg (fun q => e1 q.symm), if_neg e1, if_pos rfl, List.nil_append]
          · rw [if_neg (fun q => e2 q.symm), if_neg (fun q => e1 q.symm), if_neg e1, if_neg e2, List.append_nil, List.append_nil]
    · have hg' : g11 = (rng 0 n).map fun i => nbs ts i := hg
      rw [a1]
      refine po_bind (Q := fun l => l = nears n ts) (po_eq (mapG_ok (g := fun b => sortI (nbs ts (b : Nat))) (by rw [List.length_range]; omega) fun b hb => ?_) ?_) fun l h => h
      · have hb' := List.mem_range.mp hb
        refine po_iff (po_getS (xs := nbs ts (b : Nat)) ?_ rfl)
        rw [hg']
        have := map_rng_get (n := n) (F := fun i => nbs ts i) (j := (b : Int)) (by omega) (by omega)
        rw [Int.toNat_natCast] at this
        exact this
      · unfold nears
        apply List.ext_getElem?
        intro k
        rw [List.getElem?_map, List.getElem?_map]
        by_cases hk : k < n.toNat
        · rw [rng_atE (by omega), List.getElem?_range hk]
          show some (sortI (nbs ts (k : Nat))) = some (sortI (nbs ts (0 + (k : Nat))))
          rw [Int.zero_add]
        · rw [List.getElem?_eq_none (by rw [List.length_range]; omega), List.getElem?_eq_none (by rw [rng_length]; omega)]; rfl
theorem sortI_mem {xs : List Int} {x : Int} : x ∈ sortI xs ↔ x ∈ xs := (sortI_perm xs).mem_iff
/-- so many empty lists -/
theorem empties_ok {N : Int} (h0 : 0 ≤ N) (h1 : N < 1000) : Post (mapStG (fun (g5 : (List (List Int))) (b5 : Int) => do
      let r9 ← newS g5 ([] : (List Int))
      R.ok (r9.1, r9.2)) ([] : List (List Int)) (rng 0 N)) (fun l => l.1 = List.range N.toNat ∧ l.2 = List.replicate N.toNat []) noX := by
  have hN : (rng 0 N).length = N.toNat := by rw [rng_length]; omega
  refine Post.mono (po_mapStA (fun pre acc s => acc = List.range pre.length ∧ s = List.replicate pre.length []) (by omega) ⟨rfl, rfl⟩ fun pre acc s x post e ⟨h1, h2⟩ => ?_) (fun l ⟨a1, a2⟩ => by rw [hN] at a1 a2; exact ⟨a1, a2⟩) fun _ z => z
  refine po_newS ⟨?_, ?_⟩
  · show acc ++ [s.length] = _
    rw [h1, h2, List.length_replicate, List.length_append, List.length_singleton, List.range_succ]
  · show s ++ [[]] = _
    rw [h2, List.length_append, List.length_singleton, List.replicate_succ']
/-- ties gathered at both ends -/
theorem gather_ok {n : Int} {ts : List (Int × Int)} (n0 : 0 ≤ n) (n1 : n < 1000) (hl : ts.length < 40000) (hr : ∀ p ∈ ts, 0 ≤ p.1 ∧ p.1 < n ∧ 0 ≤ p.2 ∧ p.2 < n) : Post (foldR (fun (g11 : (List (List Int))) (b11 : (Int × Int)) => do
      let t14 ← getI (List.range n.toNat) b11.1
      let x16 ← getS g11 t14
      let l17 ← app x16 b11.2
      let r17 ← setS g11 t14 l17
      let t18 ← getI (List.range n.toNat) b11.2
      let x20 ← getS r17 t18
      let l21 ← app x20 b11.1
      let r21 ← setS r17 t18 l21
      R.ok r21) (List.replicate n.toNat []) ts) (fun g => g = (rng 0 n).map fun i => nbs ts i) noX := by
  refine po_foldP (fun pre g => g = (rng 0 n).map fun i => nbs pre i) ?_ fun pre g x post e hg => ?_
  · apply List.ext_getElem?
    intro k
    rw [List.getElem?_replicate, List.getElem?_map]
    by_cases hk : k < n.toNat
    · rw [if_pos hk, rng_atE (by omega)]; rfl
    · rw [if_neg hk, List.getElem?_eq_none (by rw [rng_length]; omega)]; rfl
  · obtain ⟨x1, x2, x3, x4⟩ := hr x (by rw [show ts = pre ++ x :: post from e]; simp)
    have hpl : pre.length < 40000 := by
      have : ts.length = pre.length + (post.length + 1) := by rw [show ts = pre ++ x :: post from e]; simp
      omega
    have hl1 := nbs_len pre x.1
    have hl2 := nbs_len pre x.2
    refine po_getE (range_get x1 (by omega)) (po_getS (by rw [hg]; exact map_rng_get x1 x2) (po_app (by omega) (po_setS ?_)))
    rw [hg, map_rng_set x1]
    refine po_getE (range_get x3 (by omega)) (po_getS (map_rng_get x3 x4) (po_app ?_ (po_setS ?_)))
    · split
      · rw [List.length_append, List.length_singleton]; omega
      · omega
    · rw [map_rng_set x3]
      show _ = _
      refine map_rng_congr fun i i0 i1 => ?_
      rw [nbs_snoc]
      by_cases e1 : x.1 = i
      · by_cases e2 : x.2 = i
        · subst e1
          rw [e2]
          simp
        · subst e1
          rw [if_neg (fun q => e2 q.symm), if_pos rfl, if_pos rfl, if_neg e2, List.append_nil]
      · by_cases e2 : x.2 = i
        · subst e2
          rw [if_pos rfl, if_neg (fun q => e1 q.symm), if_neg e1, if_pos rfl, List.nil_append]
        · rw [if_neg (fun q => e2 q.symm), if_neg (fun q => e1 q.symm), if_neg e1, if_neg e2, List.append_nil, List.append_nil]
theorem deref_range {α : Type} {st : List (List α)} {k : Nat} (h : st.length = k) : deref st (List.range k) = R.ok st := by
  unfold deref
  have h1 : mapR (getS st) (List.range k) = R.ok ((List.range k).map fun i => st[i]?.getD []) := mapR_ok fun i hi => by
    have hi' := List.mem_range.mp hi
    unfold getS
    rw [List.getElem?_eq_getElem (by omega)]
    rfl
  rw [h1]
  congr 1
  apply List.ext_getElem?
  intro i
  rw [List.getElem?_map]
  by_cases hi : i < k
  · rw [List.getElem?_range hi, List.getElem?_eq_getElem (by omega)]
    show some (st[i]?.getD []) = _
    rw [List.getElem?_eq_getElem (by omega)]
    rfl
  · rw [List.getElem?_eq_none (by rw [List.length_range]; omega), List.getElem?_eq_none (by omega)]
    rfl
end G
/-! MC: drawn webs: neighbours, fars -/
namespace G
open PySem L2 Z
theorem web_near {n : Int} {ts : List (Int × Int)} (h : WebOk n ts) : near_lists (n, ⟨ts⟩) = R.ok (nears n ts) := near_lists_ok (by have := h.n1; omega) (by have := h.n60; omega) (by have := h.len; omega) h.rg4
theorem enum_mem {α : Type} {xs : List α} {b : Int × α} (h : b ∈ enum xs) : 0 ≤ b.1 ∧ b.1 < (xs.length : Int) ∧ xs[b.1.toNat]? = some b.2 := by
  unfold enum at h
  obtain ⟨i, hi⟩ := List.mem_iff_getElem?.mp h
  rw [List.getElem?_zip_eq_some] at hi
  obtain ⟨h1, h2⟩ := hi
  have hl := (List.getElem?_eq_some_iff.mp h2).1
  rw [rng_atE (by omega)] at h1
  have e : b.1 = (i : Int) := by
    injection h1 with h1
    omega
  rw [e]
  exact ⟨by omega, by omega, by rw [Int.toNat_natCast]; exact h2⟩
theorem web_dist {n : Int} {ts : List (Int × Int)} {p : Int} (h : WebOk n ts) (p0 : 0 ≤ p) (p1 : p < n) : IsDist n ts p (dst n ts p) := conn_ex h.rg4 h.conn p0 p1
theorem WebOk.adj {n : Int} {ts : List (Int × Int)} (h : WebOk n ts) {a b : Int} (q : Adj ts a b) : 0 ≤ a ∧ a < n ∧ 0 ≤ b ∧ b < n ∧ a ≠ b := by
  rcases q with q | q <;> have := h.rg _ q <;> dsimp only at this <;> omega
section
variable {n : Int} {ts : List (Int × Int)} (h : WebOk n ts)
include h
theorem dst_zero {p v : Int} (p0 : 0 ≤ p) (p1 : p < n) (v0 : 0 ≤ v) (v1 : v < n) : dst n ts p v = 0 ↔ v = p := by
  have d := web_dist h p0 p1
  constructor
  · intro e
    apply Classical.byContradiction
    intro hne
    obtain ⟨w, w0, w1, _, ew⟩ := d.desc v v0 v1 hne
    have := d.nn w w0 w1
    omega
  · rintro rfl
    exact d.zero
theorem dst_nn {p v : Int} (p0 : 0 ≤ p) (p1 : p < n) (v0 : 0 ≤ v) (v1 : v < n) : 0 ≤ dst n ts p v := (web_dist h p0 p1).nn v v0 v1
theorem dst_tri {a b x : Int} (q : Adj ts a b) (x0 : 0 ≤ x) (x1 : x < n) : dst n ts a x ≤ dst n ts b x + 1 := by
  obtain ⟨a0, a1, b0, b1, _⟩ := h.adj q
  have da := web_dist h a0 a1
  have db := web_dist h b0 b1
  have key : ∀ (m : Nat) (x : Int), (dst n ts b x).toNat ≤ m → 0 ≤ x → x < n → dst n ts a x ≤ dst n ts b x + 1 := by
    intro m
    induction m with
    | zero =>
      intro x hm x0 x1
      have hx := db.nn x x0 x1
      have e : x = b := (dst_zero h b0 b1 x0 x1).mp (by omega)
      subst e
      have := da.lip a x q
      rw [da.zero] at this
      rw [db.zero]
      exact this
    | succ m ih =>
      intro x hm x0 x1
      by_cases e : x = b
      · subst e
        have := da.lip a x q
        rw [da.zero] at this
        rw [db.zero]
        exact this
      · obtain ⟨y, y0, y1, hy, ey⟩ := db.desc x x0 x1 e
        have := db.nn y y0 y1
        have h1 := ih y (by omega) y0 y1
        have h2 := da.lip y x hy
        omega
  exact key _ x (Nat.le_refl _) x0 x1
theorem dst_le_symm {p v : Int} (p0 : 0 ≤ p) (p1 : p < n) (v0 : 0 ≤ v) (v1 : v < n) : dst n ts v p ≤ dst n ts p v := by
  have dp := web_dist h p0 p1
  have key : ∀ (m : Nat) (v : Int), (dst n ts p v).toNat ≤ m → 0 ≤ v → v < n → dst n ts v p ≤ dst n ts p v := by
    intro m
    induction m with
    | zero =>
      intro v hm v0 v1
      have hx := dp.nn v v0 v1
      have e : v = p := (dst_zero h p0 p1 v0 v1).mp (by omega)
      subst e
      exact Int.le_refl _
    | succ m ih =>
      intro v hm v0 v1
      by_cases e : v = p
      · subst e
        exact Int.le_refl _
      · obtain ⟨w, w0, w1, hw, ew⟩ := dp.desc v v0 v1 e
        have := dp.nn w w0 w1
        have h1 := ih w (by omega) w0 w1
        have h2 := dst_tri h hw.symm p0 p1
        omega
  exact key _ v (Nat.le_refl _) v0 v1
theorem dst_symm {p v : Int} (p0 : 0 ≤ p) (p1 : p < n) (v0 : 0 ≤ v) (v1 : v < n) : dst n ts v p = dst n ts p v := Int.le_antisymm (dst_le_symm h p0 p1 v0 v1) (dst_le_symm h v0 v1 p0 p1)
/-- neighbours are just one far -/
theorem dst_one {p v : Int} (p0 : 0 ≤ p) (p1 : p < n) (v0 : 0 ≤ v) (v1 : v < n) : dst n ts p v = 1 ↔ Adj ts p v := by
  have d := web_dist h p0 p1
  constructor
  · intro e
    obtain ⟨w, w0, w1, hw, ew⟩ := d.desc v v0 v1 (fun q => by
      have := (dst_zero h p0 p1 v0 v1).mpr q
      omega)
    have : w = p := (dst_zero h p0 p1 w0 w1).mp (by omega)
    rw [← this]
    exact hw
  · intro q
    have h1 := d.lip p v q
    rw [d.zero] at h1
    have h2 := d.nn v v0 v1
    have h3 : dst n ts p v ≠ 0 := fun e => (h.adj q).2.2.2.2 ((dst_zero h p0 p1 v0 v1).mp e).symm
    omega
end
theorem perm_nodup {xs ys : List Int} (h1 : xs.Nodup) (h2 : ys.Nodup) (h : ∀ x, x ∈ xs ↔ x ∈ ys) : xs.Perm ys := by
  rw [List.perm_iff_count]
  intro a
  rw [h1.count, h2.count]
  by_cases q : a ∈ xs
  · rw [if_pos q, if_pos ((h a).mp q)]
  · rw [if_neg q, if_neg (fun z => q ((h a).mpr z))]
theorem nbs_nodup {ts : List (Int × Int)} (hn : ts.Nodup) (hr : ∀ p ∈ ts, p.1 < p.2) (i : Int) : (nbs ts i).Nodup := by
  induction ts with
  | nil => exact List.nodup_nil
  | cons p ts ih =>
    have e : nbs (p :: ts) i = ((if p.1 = i then [p.2] else []) ++ (if p.2 = i then [p.1] else [])) ++ nbs ts i := rfl
    obtain ⟨hn1, hn2⟩ := List.nodup_cons.mp hn
    have ih' := ih hn2 fun q hq => hr q (List.mem_cons_of_mem _ hq)
    have hp := hr p List.mem_cons_self
    rw [e]
    by_cases h1 : p.1 = i
    · have h2 : p.2 ≠ i := by omega
      rw [if_pos h1, if_neg h2, List.append_nil]
      refine List.nodup_cons.mpr ⟨fun q => ?_, ih'⟩
      rcases nbs_mem.mp q with q | q
      · exact hn1 (by rw [← h1] at q; exact q)
      · have := hr _ (List.mem_cons_of_mem _ q)
        dsimp only at this
        omega
    · by_cases h2 : p.2 = i
      · rw [if_neg h1, if_pos h2, List.nil_append]
        refine List.nodup_cons.mpr ⟨fun q => ?_, ih'⟩
        rcases nbs_mem.mp q with q | q
        · have := hr _ (List.mem_cons_of_mem _ q)
          dsimp only at this
          omega
        · exact hn1 (by rw [← h2] at q; exact q)
      · rw [if_neg h1, if_neg h2, List.append_nil, List.nil_append]
        exact ih'
theorem rng_sorted (i j : Int) : (rng i j).Pairwise (· < ·) := by
  unfold rng
  refine List.Pairwise.map _ (fun a b h => ?_) List.pairwise_lt_range
  show i + (a : Int) < i + b
  omega
/-- the neighbours of a place, gathered otherwise -/
theorem sort_nbs {n : Int} {ts : List (Int × Int)} (h : WebOk n ts) (i : Int) (P : Int → Bool) (hP : ∀ v, 0 ≤ v → v < n → (P v = true ↔ Adj ts i v)) : sortI (nbs ts i) = (rng 0 n).filter P := by
  refine (sortI_eq ?_ ?_).symm
  · refine perm_nodup ((rng_nodup 0 n).filter _) (nbs_nodup h.nd (fun p hp => (h.rg p hp).2.1) i) fun x => ?_
    rw [List.mem_filter, nbs_mem, rng_mem]
    constructor
    · rintro ⟨⟨x0, x1⟩, hx⟩
      exact (hP x x0 x1).mp hx
    · intro hx
      have := h.adj hx
      exact ⟨⟨this.2.2.1, this.2.2.2.1⟩, (hP x this.2.2.1 this.2.2.2.1).mpr hx⟩
  · exact ((rng_sorted 0 n).sublist List.filter_sublist).imp fun h => Int.le_of_lt h
theorem nears_get {n p : Int} {ts : List (Int × Int)} (p0 : 0 ≤ p) (p1 : p < n) : getI (nears n ts) p = R.ok (sortI (nbs ts p)) := getI_eq p0 (map_rng_get p0 p1)
theorem nbs_len_n {n : Int} {ts : List (Int × Int)} (h : WebOk n ts) (i : Int) : (nbs ts i).length ≤ n.toNat := by
  have := nodup_le (nbs_nodup h.nd (fun p hp => (h.rg p hp).2.1) i) (ys := rng 0 n) fun x hx => by
    have := h.adj (nbs_mem.mp hx)
    exact rng_mem.mpr ⟨this.2.2.1, this.2.2.2.1⟩
  rw [rng_length] at this
  omega
theorem fil_ite {α : Type} (l : List α) (P : α → Bool) : l.filterMap (fun b => if P b = true then some b else none) = l.filter P := by
  induction l with
  | nil => rfl
  | cons a l ih =>
    rw [List.filterMap_cons, List.filter_cons]
    cases P a
    · exact ih
    · show a :: _ = a :: _
      rw [ih]
end G
/-! MT: trees: which places lie beyond a neighbour, and what looks tell two things apart -/
namespace G
open PySem L2 Z
theorem all_of_len {α : Type} [DecidableEq α] {xs ys : List α} (hx : xs.Nodup) (hs : ∀ x ∈ xs, x ∈ ys) (hl : ys.length ≤ xs.length) : ∀ y ∈ ys, y ∈ xs := fun y hy => by
  apply Classical.byContradiction
  intro hno
  have := nodup_le (xs := y :: xs) (ys := ys) (List.nodup_cons.mpr ⟨hno, hx⟩) fun z hz => by
    rcases List.mem_cons.mp hz with rfl | hz
    · exact hy
    · exact hs z hz
  rw [List.length_cons] at this
  omega
section
variable {n : Int} {ts : List (Int × Int)}
theorem dst_lip (h : WebOk n ts) {r a b : Int} (r0 : 0 ≤ r) (r1 : r < n) (q : Adj ts a b) : dst n ts r b ≤ dst n ts r a + 1 := (web_dist h r0 r1).lip a b q
theorem dst_self (h : WebOk n ts) {r : Int} (r0 : 0 ≤ r) (r1 : r < n) : dst n ts r r = 0 := (web_dist h r0 r1).zero
theorem dst_near (h : WebOk n ts) {r v : Int} (r0 : 0 ≤ r) (r1 : r < n) (v0 : 0 ≤ v) (v1 : v < n) (hv : v ≠ r) : ∃ w, 0 ≤ w ∧ w < n ∧ Adj ts w v ∧ dst n ts r w + 1 = dst n ts r v := (web_dist h r0 r1).desc v v0 v1 hv
theorem tri (h : WebOk n ts) {a b : Int} (a0 : 0 ≤ a) (a1 : a < n) (b0 : 0 ≤ b) (b1 : b < n) : ∀ (m : Nat) (c : Int), (dst n ts b c).toNat ≤ m → 0 ≤ c → c < n → dst n ts a c ≤ dst n ts a b + dst n ts b c := by
  intro m
  induction m with
  | zero =>
    intro c hm c0 c1
    have := dst_nn h b0 b1 c0 c1
    have e : c = b := (dst_zero h b0 b1 c0 c1).mp (by omega)
    subst e
    omega
  | succ m ih =>
    intro c hm c0 c1
    by_cases e : c = b
    · subst e
      have := dst_nn h b0 b1 c0 c1
      omega
    · obtain ⟨w, w0, w1, qa, ew⟩ := dst_near h b0 b1 c0 c1 e
      have := ih w (by omega) w0 w1
      have := dst_lip h a0 a1 qa
      omega
theorem dtri (h : WebOk n ts) {a b c : Int} (a0 : 0 ≤ a) (a1 : a < n) (b0 : 0 ≤ b) (b1 : b < n) (c0 : 0 ≤ c) (c1 : c < n) : dst n ts a c ≤ dst n ts a b + dst n ts b c := tri h a0 a1 b0 b1 _ c (Nat.le_refl _) c0 c1
theorem adj_one (h : WebOk n ts) {a b : Int} (q : Adj ts a b) : dst n ts a b = 1 := by
  obtain ⟨a0, a1, b0, b1, _⟩ := h.adj q
  exact (dst_one h a0 a1 b0 b1).mpr q
end
section
variable {n : Int} {ts : List (Int × Int)} (t : TreeOk n ts)
include t
/-- each tie of a tree leads from a place to the one ahead of it -/
theorem tree_par {r : Int} (r0 : 0 ≤ r) (r1 : r < n) : ∃ w : Int → Int, ∀ a b, Adj ts a b → (b ≠ r ∧ a = w b ∧ dst n ts r a + 1 = dst n ts r b) ∨ (a ≠ r ∧ b = w a ∧ dst n ts r b + 1 = dst n ts r a) := by
  have h := t.web
  have hw : ∀ v, ∃ w, 0 ≤ v → v < n → v ≠ r → Adj ts w v ∧ dst n ts r w + 1 = dst n ts r v := fun v => by
    by_cases c : 0 ≤ v ∧ v < n ∧ v ≠ r
    · obtain ⟨w, _, _, q, e⟩ := dst_near h r0 r1 c.1 c.2.1 c.2.2
      exact ⟨w, fun _ _ _ => ⟨q, e⟩⟩
    · exact ⟨0, fun c1 c2 c3 => absurd ⟨c1, c2, c3⟩ c⟩
  obtain ⟨w, hw⟩ := Classical.axiomOfChoice hw
  refine ⟨w, ?_⟩
  -- the tie ahead of each place
  let E : Int → Int × Int := fun v => if (w v, v) ∈ ts then (w v, v) else (v, w v)
  have hE : ∀ v, 0 ≤ v → v < n → v ≠ r → E v ∈ ts := fun v v0 v1 v2 => by
    show (if (w v, v) ∈ ts then (w v, v) else (v, w v)) ∈ ts
    by_cases c : (w v, v) ∈ ts
    · rw [if_pos c]; exact c
    · rw [if_neg c]
      exact (hw v v0 v1 v2).1.resolve_left c
  have hEc : ∀ v, E v = (w v, v) ∨ E v = (v, w v) := fun v => by
    show (if (w v, v) ∈ ts then (w v, v) else (v, w v)) = _ ∨ (if (w v, v) ∈ ts then (w v, v) else (v, w v)) = _
    by_cases c : (w v, v) ∈ ts
    · rw [if_pos c]; exact .inl rfl
    · rw [if_neg c]; exact .inr rfl
  have hV : ∀ v, v ∈ (rng 0 n).filter (fun v => !decide (v = r)) ↔ (0 ≤ v ∧ v < n) ∧ v ≠ r := fun v => by
    rw [List.mem_filter, rng_mem]
    simp
  have hinj : ∀ u v, (0 ≤ u ∧ u < n) ∧ u ≠ r → (0 ≤ v ∧ v < n) ∧ v ≠ r → E u = E v → u = v := fun u v hu hv e => by
    have e1 := (hw u hu.1.1 hu.1.2 hu.2).2
    have e2 := (hw v hv.1.1 hv.1.2 hv.2).2
    rcases hEc u with a | a <;> rcases hEc v with b | b <;> rw [a, b] at e <;> injection e with x y
    · rw [x, y] at e1
      omega
    · rw [y, x] at e1
      omega
  have hnd : (((rng 0 n).filter fun v => !decide (v = r)).map E).Nodup := by
    refine List.pairwise_map.mpr ?_
    have := (rng_nodup 0 n).filter fun v => !decide (v = r)
    refine List.Pairwise.imp_of_mem ?_ this
    intro u v hu hv hne e
    exact hne (hinj u v ((hV u).mp hu) ((hV v).mp hv) e)
  have hlen : ts.length ≤ (((rng 0 n).filter fun v => !decide (v = r)).map E).length := by
    rw [List.length_map]
    have h1 := nodup_le (xs := rng 0 n) (ys := r :: (rng 0 n).filter fun v => !decide (v = r)) (rng_nodup 0 n) fun v hv => by
      by_cases c : v = r
      · rw [c]; exact List.mem_cons_self
      · exact List.mem_cons_of_mem _ ((hV v).mpr ⟨rng_mem.mp hv, c⟩)
    rw [List.length_cons, rng_length] at h1
    have := t.len
    omega
  have hall := all_of_len hnd (fun p hp => by
    obtain ⟨v, hv, rfl⟩ := List.mem_map.mp hp
    have hv := (hV v).mp hv
    exact hE v hv.1.1 hv.1.2 hv.2) hlen
  have one : ∀ a b, (a, b) ∈ ts → (b ≠ r ∧ a = w b ∧ dst n ts r a + 1 = dst n ts r b) ∨ (a ≠ r ∧ b = w a ∧ dst n ts r b + 1 = dst n ts r a) := fun a b hab => by
    obtain ⟨v, hv, e⟩ := List.mem_map.mp (hall _ hab)
    have hv := (hV v).mp hv
    have e1 := (hw v hv.1.1 hv.1.2 hv.2).2
    rcases hEc v with c | c <;> rw [c] at e <;> injection e with x y
    · subst y
      subst x
      exact .inl ⟨hv.2, rfl, e1⟩
    · subst x
      subst y
      exact .inr ⟨hv.2, rfl, e1⟩
  intro a b q
  rcases q with q | q
  · exact one a b q
  · exact (one b a q).symm
theorem edge_one {r a b : Int} (r0 : 0 ≤ r) (r1 : r < n) (q : Adj ts a b) : dst n ts r a + 1 = dst n ts r b ∨ dst n ts r b + 1 = dst n ts r a := by
  obtain ⟨w, hw⟩ := tree_par t r0 r1
  exact (hw a b q).imp (fun z => z.2.2) fun z => z.2.2
theorem near_uniq {r a c b : Int} (r0 : 0 ≤ r) (r1 : r < n) (q : Adj ts a b) (q' : Adj ts c b) (e : dst n ts r a + 1 = dst n ts r b) (e' : dst n ts r c + 1 = dst n ts r b) : a = c := by
  obtain ⟨w, hw⟩ := tree_par t r0 r1
  rcases hw a b q with ⟨_, h1, _⟩ | ⟨_, _, h1⟩
  · rcases hw c b q' with ⟨_, h2, _⟩ | ⟨_, _, h2⟩
    · rw [h1, h2]
    · omega
  · omega
/-- no place beyond s leads back but by p -/
theorem side_up {p s y z : Int} (q : Adj ts p s) (y0 : 0 ≤ y) (y1 : y < n) (hy : dst n ts p y + 1 = dst n ts s y) (qz : Adj ts z y) (ez : dst n ts p z + 1 = dst n ts p y) : dst n ts p z + 1 = dst n ts s z := by
  have h := t.web
  obtain ⟨p0, p1, s0, s1, _⟩ := h.adj q
  obtain ⟨z0, z1, _⟩ := h.adj qz
  have e1 := edge_one t z0 z1 q
  rw [dst_symm h p0 p1 z0 z1, dst_symm h s0 s1 z0 z1] at e1
  rcases e1 with e1 | e1
  · exact e1
  · have := dst_lip h s0 s1 qz
    omega
/-- the way from a place beyond s to one that is not goes by p -/
theorem path_ok {p s l : Int} (q : Adj ts p s) (l0 : 0 ≤ l) (l1 : l < n) (hl : dst n ts l s + 1 = dst n ts l p) : ∀ (m : Nat) (y : Int), (dst n ts p y).toNat ≤ m → 0 ≤ y → y < n → dst n ts p y + 1 = dst n ts s y → dst n ts l y = dst n ts l p + dst n ts p y := by
  have h := t.web
  obtain ⟨p0, p1, s0, s1, _⟩ := h.adj q
  intro m
  induction m with
  | zero =>
    intro y hm y0 y1 hy
    have := dst_nn h p0 p1 y0 y1
    have e : y = p := (dst_zero h p0 p1 y0 y1).mp (by omega)
    subst e
    omega
  | succ m ih =>
    intro y hm y0 y1 hy
    have hn := dst_nn h p0 p1 y0 y1
    by_cases e : y = p
    · subst e
      have := dst_self h p0 p1
      omega
    · obtain ⟨z, z0, z1, qz, ez⟩ := dst_near h p0 p1 y0 y1 e
      have hzs := side_up t q y0 y1 hy qz ez
      have iz := ih z (by omega) z0 z1 hzs
      rcases edge_one t l0 l1 qz with c | c
      · omega
      · exfalso
        by_cases e2 : z = p
        · subst e2
          have := near_uniq t l0 l1 qz.symm q.symm c hl
          subst this
          have := dst_self h s0 s1
          omega
        · obtain ⟨z', z0', z1', qz', ez'⟩ := dst_near h p0 p1 z0 z1 e2
          have iz' := ih z' (by omega) z0' z1' (side_up t q z0 z1 hzs qz' ez')
          have := near_uniq t l0 l1 qz.symm qz' c (by omega)
          subst this
          omega
theorem path_eq {p s l y : Int} (q : Adj ts p s) (l0 : 0 ≤ l) (l1 : l < n) (hl : dst n ts l s + 1 = dst n ts l p) (y0 : 0 ≤ y) (y1 : y < n) (hy : dst n ts y p + 1 = dst n ts y s) : dst n ts l y = dst n ts l p + dst n ts p y := by
  have h := t.web
  obtain ⟨p0, p1, s0, s1, _⟩ := h.adj q
  refine path_ok t q l0 l1 hl _ y (Nat.le_refl _) y0 y1 ?_
  rw [dst_symm h p0 p1 y0 y1, dst_symm h s0 s1 y0 y1] at hy
  exact hy
/-- a place on the way -/
theorem mid_ex {x y : Int} (x0 : 0 ≤ x) (x1 : x < n) (y0 : 0 ≤ y) (y1 : y < n) : ∀ (k : Nat), (k : Int) ≤ dst n ts x y → ∃ m, 0 ≤ m ∧ m < n ∧ dst n ts x m = dst n ts x y - k ∧ dst n ts m y = k := by
  have h := t.web
  intro k
  induction k with
  | zero =>
    intro _
    exact ⟨y, y0, y1, by omega, dst_self h y0 y1⟩
  | succ k ih =>
    intro hk
    obtain ⟨m, m0, m1, e1, e2⟩ := ih (by omega)
    have hne : m ≠ x := fun e => by
      subst e
      have := dst_self h m0 m1
      omega
    obtain ⟨z, z0, z1, qz, ez⟩ := dst_near h x0 x1 m0 m1 hne
    have a1 := dst_tri h qz y0 y1
    have a2 := dtri h x0 x1 z0 z1 y0 y1
    exact ⟨z, z0, z1, by omega, by omega⟩
end
end G
namespace G
open PySem L2 Z
theorem place_ok {n p : Int} {t : Tup (Int × Int)} (p0 : 0 ≤ p) (p1 : p < n) : place_asked (n, t) p = R.ok () := by
  unfold place_asked
  dsimp only
  rw [decide_eq_true p0, decide_eq_true p1]
  rfl
theorem nbr_ok {n p : Int} {ts : List (Int × Int)} (h : WebOk n ts) (p0 : 0 ≤ p) (p1 : p < n) : neighbours_of (n, ⟨ts⟩) p = R.ok (sortI (nbs ts p)) := by
  unfold neighbours_of
  rw [place_ok p0 p1, ok_bind, web_near h, ok_bind, nears_get p0 p1]
  rfl
/-- how far a thing is -/
noncomputable def farT (n : Int) (ts : List (Int × Int)) (p : Int) : Thing → Int
  | .pl i => dst n ts p i
  | .ti a b => min2 (dst n ts p a) (dst n ts p b)
def ThOk (n : Int) (ts : List (Int × Int)) : Thing → Prop
  | .pl i => 0 ≤ i ∧ i < n
  | .ti a b => (a, b) ∈ ts
def allT (n : Int) (ts : List (Int × Int)) : List Thing := mkpl (rng 0 n) ++ mkti ts
def kindT (n : Int) (ts : List (Int × Int)) (k : Str) : List Thing := if decide (k = "places") = true then mkpl (rng 0 n) else if decide (k = "ties") = true then mkti ts else allT n ts
theorem pl_mem {n : Int} {t : Thing} : t ∈ mkpl (rng 0 n) ↔ ∃ i, t = .pl i ∧ 0 ≤ i ∧ i < n := by
  unfold mkpl
  rw [List.mem_map]
  constructor
  · rintro ⟨i, hi, rfl⟩
    exact ⟨i, rfl, rng_mem.mp hi⟩
  · rintro ⟨i, rfl, hi⟩
    exact ⟨i, rng_mem.mpr hi, rfl⟩
theorem ti_mem {ts : List (Int × Int)} {t : Thing} : t ∈ mkti ts ↔ ∃ a b, t = .ti a b ∧ (a, b) ∈ ts := by
  unfold mkti
  rw [List.mem_map]
  constructor
  · rintro ⟨p, hp, rfl⟩
    exact ⟨p.1, p.2, rfl, hp⟩
  · rintro ⟨a, b, rfl, h⟩
    exact ⟨(a, b), h, rfl⟩
theorem allT_mem {n : Int} {ts : List (Int × Int)} {t : Thing} : t ∈ allT n ts ↔ ThOk n ts t := by
  unfold allT
  rw [List.mem_append, pl_mem, ti_mem]
  cases t with
  | pl i =>
    constructor
    · rintro (⟨j, e, h⟩ | ⟨a, b, e, _⟩)
      · cases e; exact h
      · cases e
    · intro h
      exact .inl ⟨i, rfl, h⟩
  | ti a b =>
    constructor
    · rintro (⟨j, e, h⟩ | ⟨c, d, e, h⟩)
      · cases e
      · cases e; exact h
    · intro h
      exact .inr ⟨a, b, rfl, h⟩
theorem kindT_ok {n : Int} {ts : List (Int × Int)} {k : Str} {t : Thing} (h : t ∈ kindT n ts k) : ThOk n ts t := by
  unfold kindT at h
  split at h
  · exact allT_mem.mp (List.mem_append_left _ h)
  · split at h
    · exact allT_mem.mp (List.mem_append_right _ h)
    · exact allT_mem.mp h
theorem allT_len {n : Int} {ts : List (Int × Int)} (n0 : 0 ≤ n) : ((allT n ts).length : Int) = n + ts.length := by
  unfold allT mkpl mkti
  rw [List.length_append, List.length_map, List.length_map, rng_length]
  omega
/-- two lists, item by item -/
inductive PW2 {α β : Type} (r : α → β → Prop) : List α → List β → Prop
  | nil : PW2 r [] []
  | cons {a : α} {b : β} {as : List α} {bs : List β} : r a b → PW2 r as bs → PW2 r (a :: as) (b :: bs)
theorem PW2.length {α β : Type} {r : α → β → Prop} {as : List α} {bs : List β} (h : PW2 r as bs) : as.length = bs.length := by
  induction h with
  | nil => rfl
  | cons _ _ ih => rw [List.length_cons, List.length_cons, ih]
theorem kind_len {n : Int} {ts : List (Int × Int)} {k : Str} (h : WebOk n ts) : (kindT n ts k).length ≤ 800 := by
  have hn1 := h.n1
  have hn := h.n60
  have hl := h.len
  have : (kindT n ts k).length ≤ (allT n ts).length := by
    unfold kindT allT
    rw [List.length_append]
    split
    · omega
    · split
      · omega
      · rw [List.length_append]; omega
  have := allT_len (ts := ts) (show 0 ≤ n by omega)
  omega
/-- a rising list of places -/
structure LooksOk (n : Int) (ls : List Int) : Prop where
  rg : ∀ l ∈ ls, 0 ≤ l ∧ l < n
  up : ls.Pairwise (· < ·)
theorem LooksOk.len {n : Int} {ls : List Int} (h : LooksOk n ls) : ls.length ≤ n.toNat := by
  have := nodup_le (h.up.imp fun z => Int.ne_of_lt z) (ys := rng 0 n) fun v hv => rng_mem.mpr (h.rg v hv)
  rw [rng_length] at this
  omega
noncomputable def codeT (n : Int) (ts : List (Int × Int)) (ls : List Int) (t : Thing) : List Int := ls.map fun l => farT n ts l t
/-- at how many places two codes are unlike -/
def unl (a b : List Int) : Int := (((a.zip b).filter fun p => !decide (p.1 = p.2)).length : Int)
def lstep (o : Option Int) (u : Int) : Option Int := match o with
  | none => some u
  | some t => if u < t then some u else some t
def leastL (cs : List (List Int)) : Option Int := (enum cs).foldl (fun o p => (cs.take p.1.toNat).foldl (fun o b => lstep o (unl p.2 b)) o) none
theorem enum_map (cs : List (List Int)) : enum cs = (rng 0 cs.length).map fun k => (k, cs.getD k.toNat []) := by
  unfold enum
  refine List.ext_getElem? fun i => ?_
  rw [List.getElem?_map]
  by_cases hi : i < cs.length
  · have hz : i < ((rng 0 cs.length).zip cs).length := by rw [List.length_zip, rng_length]; omega
    rw [rng_atE (by omega), List.getElem?_eq_getElem hz, List.getElem_zip]
    have e : (rng 0 cs.length)[i]? = some (0 + (i : Int)) := rng_atE (by omega)
    obtain ⟨h1, h2⟩ := List.getElem?_eq_some_iff.mp e
    rw [h2]
    show some (_, cs[i]) = some (_, cs.getD ((0 : Int) + (i : Int)).toNat [])
    rw [show ((0 : Int) + (i : Int)).toNat = i by omega, List.getD_eq_getElem?_getD, List.getElem?_eq_getElem hi]
    rfl
  · rw [List.getElem?_eq_none (by rw [List.length_zip]; omega), List.getElem?_eq_none (by rw [rng_length]; omega)]
    rfl
theorem looks_ok42 {s : List Int} {m : Int} (h : PoolOk s) (m0 : 0 ≤ m) (m1 : m < 10000) : Post (law_looks s m) (fun r => LooksOk m r.1 ∧ PoolOk r.2) noX := by
  unfold law_looks
  refine po_bind (take_ok h (by decide) (by decide)) fun y ⟨a0, a1, hy⟩ => po_rng (by decide) (by decide) (by omega) (by omega) ?_
  refine po_bind (Q := fun r => r.1.Sublist (rng 0 m) ∧ PoolOk r.2) ?_ fun r ⟨h1, h2⟩ => ⟨⟨fun l hl => rng_mem.mp (h1.subset hl), (rng_sorted 0 m).sublist h1⟩, h2⟩
  unfold filStG
  rw [grd_t (decide_eq_true (by rw [rng_length]; omega)), ok_bind]
  generalize rng 0 m = l
  clear h
  have key : ∀ (l : List Int) (s : List Int), PoolOk s → Post (filSt (fun (g4 : (List Int)) (b4 : Int) => do
      let y7 ← law_take g4 (6 : Int)
      let t10 ← getI ([(0 : Int), (1 : Int), (2 : Int), (3 : Int), (5 : Int), (6 : Int)] : (List Int)) y.1
      if (decide (y7.1 < t10)) = true then do
        R.ok ((some b4), y7.2)
      else
        R.ok (none, y7.2)) s l) (fun r => r.1.Sublist l ∧ PoolOk r.2) noX := by
    intro l
    induction l with
    | nil => exact fun s hs => ⟨List.Sublist.refl _, hs⟩
    | cons b l ih =>
      intro s hs
      refine po_bind (Q := fun p => (p.1 = some b ∨ p.1 = none) ∧ PoolOk p.2) (po_bind (take_ok hs (by decide) (by decide)) fun z ⟨_, _, hz⟩ => po_get a0 a1 fun t _ _ => po_if (fun _ => ⟨.inl rfl, hz⟩) fun _ => ⟨.inr rfl, hz⟩) fun p ⟨h1, h2⟩ => po_bind (ih p.2 h2) fun q ⟨h3, h4⟩ => ?_
      rcases h1 with h1 | h1
      · rw [h1]
        exact ⟨h3.cons₂ b, h4⟩
      · rw [h1]
        exact ⟨h3.cons b, h4⟩
  exact key l y.2 hy
/-- the numbers of which leastL is the least -/
def pairsU (cs : List (List Int)) : List Int := (enum cs).flatMap fun p => (cs.take p.1.toNat).map fun b => unl p.2 b
theorem leastL_fold (cs : List (List Int)) : leastL cs = (pairsU cs).foldl lstep none := by
  unfold leastL pairsU
  generalize (none : Option Int) = o
  induction enum cs generalizing o with
  | nil => rfl
  | cons p ps ih =>
    rw [List.foldl_cons, List.flatMap_cons, List.foldl_append, List.foldl_map]
    exact ih _
theorem lstep_fold {us : List Int} {m : Int} : ∃ r, us.foldl lstep (some m) = some r ∧ r ≤ m ∧ (∀ u ∈ us, r ≤ u) ∧ (r = m ∨ r ∈ us) := by
  induction us generalizing m with
  | nil => exact ⟨m, rfl, Int.le_refl _, fun _ h => (nomatch h), .inl rfl⟩
  | cons u us ih =>
    rw [List.foldl_cons]
    have el : lstep (some m) u = if u < m then some u else some m := rfl
    rw [el]
    by_cases q : u < m
    · rw [if_pos q]
      obtain ⟨r, e, h1, h2, h3⟩ := ih (m := u)
      refine ⟨r, e, by omega, fun v hv => ?_, .inr (h3.elim (fun z => by rw [z]; exact List.mem_cons_self) fun z => List.mem_cons_of_mem _ z)⟩
      rcases List.mem_cons.mp hv with rfl | hv
      · exact h1
      · exact h2 v hv
    · rw [if_neg q]
      obtain ⟨r, e, h1, h2, h3⟩ := ih (m := m)
      refine ⟨r, e, h1, fun v hv => ?_, h3.imp id fun z => List.mem_cons_of_mem _ z⟩
      rcases List.mem_cons.mp hv with rfl | hv
      · omega
      · exact h2 v hv
theorem lfold_some {us : List Int} {r : Int} (h : us.foldl lstep none = some r) : (∀ u ∈ us, r ≤ u) ∧ r ∈ us := by
  cases us with
  | nil => cases h
  | cons u us =>
    obtain ⟨r', e, h1, h2, h3⟩ := lstep_fold (us := us) (m := u)
    have h' : us.foldl lstep (some u) = some r := h
    rw [e] at h'
    cases h'
    refine ⟨fun v hv => ?_, h3.elim (fun z => by rw [z]; exact List.mem_cons_self) fun z => List.mem_cons_of_mem _ z⟩
    rcases List.mem_cons.mp hv with rfl | hv
    · exact h1
    · exact h2 v hv
theorem lfold_none {us : List Int} (h : us.foldl lstep none = none) : us = [] := by
  cases us with
  | nil => rfl
  | cons u us =>
    obtain ⟨r', e, _⟩ := lstep_fold (us := us) (m := u)
    have h' : us.foldl lstep (some u) = none := h
    rw [e] at h'
    cases h'
theorem lfold_eq {us : List Int} {r : Int} (h1 : ∀ u ∈ us, r ≤ u) (h2 : r ∈ us) : us.foldl lstep none = some r := by
  cases e : us.foldl lstep none with
  | none => rw [lfold_none e] at h2; cases h2
  | some r' =>
    obtain ⟨a, b⟩ := lfold_some e
    have := a _ h2
    have := h1 _ b
    rw [show r' = r by omega]
theorem pairsU_mem {cs : List (List Int)} {u : Int} : u ∈ pairsU cs ↔ ∃ i j : Nat, ∃ a b, i < j ∧ cs[i]? = some a ∧ cs[j]? = some b ∧ u = unl b a := by
  unfold pairsU
  rw [List.mem_flatMap]
  constructor
  · rintro ⟨p, hp, hu⟩
    obtain ⟨p0, p1, ep⟩ := enum_mem hp
    obtain ⟨a, ha, rfl⟩ := List.mem_map.mp hu
    obtain ⟨i, hi, e⟩ := List.mem_take_iff_getElem.mp ha
    exact ⟨i, p.1.toNat, a, p.2, by omega, by rw [← e]; exact List.getElem?_eq_getElem _, ep, rfl⟩
  · rintro ⟨i, j, a, b, hij, ha, hb, rfl⟩
    obtain ⟨hj, ej⟩ := List.getElem?_eq_some_iff.mp hb
    obtain ⟨hi, ei⟩ := List.getElem?_eq_some_iff.mp ha
    refine ⟨((j : Int), b), ?_, List.mem_map.mpr ⟨a, ?_, rfl⟩⟩
    · rw [enum_map]
      refine List.mem_map.mpr ⟨(j : Int), rng_mem.mpr ⟨by omega, by omega⟩, ?_⟩
      rw [List.getD_eq_getElem?_getD, show ((j : Int)).toNat = j by omega, hb]
      rfl
    · rw [List.mem_take_iff_getElem]
      exact ⟨i, by show i < min ((j : Int)).toNat cs.length; omega, ei⟩
theorem unl_symm {a b : List Int} : unl a b = unl b a := by
  unfold unl
  congr 1
  induction a generalizing b with
  | nil => cases b <;> rfl
  | cons x a ih =>
    cases b with
    | nil => rfl
    | cons y b =>
      rw [List.zip_cons_cons, List.zip_cons_cons, List.filter_cons, List.filter_cons]
      by_cases q : x = y
      · rw [if_neg (by simp [q]), if_neg (by simp [q])]
        exact ih
      · rw [if_pos (by simp [q]), if_pos (by simp [Ne.symm q]), List.length_cons, List.length_cons, ih]
theorem least_le {α : Type} {xs : List α} {f : α → List Int} {r : Int} (h : leastL (xs.map f) = some r) {x y : α} (hx : x ∈ xs) (hy : y ∈ xs) (hne : x ≠ y) : r ≤ unl (f x) (f y) := by
  rw [leastL_fold] at h
  obtain ⟨i, hi, ei⟩ := List.mem_iff_getElem.mp hx
  obtain ⟨j, hj, ej⟩ := List.mem_iff_getElem.mp hy
  have e1 : (xs.map f)[i]? = some (f x) := by rw [List.getElem?_map, List.getElem?_eq_getElem hi, ei]; rfl
  have e2 : (xs.map f)[j]? = some (f y) := by rw [List.getElem?_map, List.getElem?_eq_getElem hj, ej]; rfl
  rcases Nat.lt_trichotomy i j with q | q | q
  · rw [unl_symm]
    exact (lfold_some h).1 _ (pairsU_mem.mpr ⟨i, j, _, _, q, e1, e2, rfl⟩)
  · subst q
    exact absurd (ei.symm.trans ej) hne
  · exact (lfold_some h).1 _ (pairsU_mem.mpr ⟨j, i, _, _, q, e2, e1, rfl⟩)
theorem least_at {α : Type} {xs : List α} {f : α → List Int} {r : Int} (h : leastL (xs.map f) = some r) : ∃ i j : Nat, ∃ x y, i < j ∧ xs[i]? = some x ∧ xs[j]? = some y ∧ unl (f y) (f x) = r := by
  rw [leastL_fold] at h
  obtain ⟨i, j, a, b, hij, ha, hb, e⟩ := pairsU_mem.mp (lfold_some h).2
  rw [List.getElem?_map, Option.map_eq_some_iff] at ha hb
  obtain ⟨x, hx, rfl⟩ := ha
  obtain ⟨y, hy, rfl⟩ := hb
  exact ⟨i, j, x, y, hij, hx, hy, e.symm⟩
theorem least_no {α : Type} {xs : List α} {f : α → List Int} (h : leastL (xs.map f) = none) : xs.length ≤ 1 := by
  rw [leastL_fold] at h
  apply Classical.byContradiction
  intro q
  have h0 : 0 < xs.length := by omega
  have h1 : 1 < xs.length := by omega
  have : unl (f xs[1]) (f xs[0]) ∈ pairsU (xs.map f) := pairsU_mem.mpr ⟨0, 1, f xs[0], f xs[1], by omega, by rw [List.getElem?_map, List.getElem?_eq_getElem h0]; rfl, by rw [List.getElem?_map, List.getElem?_eq_getElem h1]; rfl, rfl⟩
  rw [lfold_none h] at this
  cases this
/-! pieces of a tree -/
abbrev Sd (n : Int) (ts : List (Int × Int)) (p s v : Int) : Prop := dst n ts v s + 1 = dst n ts v p
noncomputable def pieceL (n : Int) (ts : List (Int × Int)) (p s : Int) : List Int := (rng 0 n).filter fun v => decide (Sd n ts p s v)
theorem pieceL_mem {n : Int} {ts : List (Int × Int)} {p s v : Int} : v ∈ pieceL n ts p s ↔ (0 ≤ v ∧ v < n) ∧ Sd n ts p s v := by
  unfold pieceL
  rw [List.mem_filter, rng_mem, decide_eq_true_iff]
theorem side_adj {n : Int} {ts : List (Int × Int)} (t : TreeOk n ts) {p s u w : Int} (q : Adj ts p s) (hu : Sd n ts p s u) (qa : Adj ts u w) (hw : w ≠ p) : Sd n ts p s w := by
  have h := t.web
  obtain ⟨p0, p1, s0, s1, _⟩ := h.adj q
  obtain ⟨u0, u1, w0, w1, _⟩ := h.adj qa
  rcases edge_one t w0 w1 q with c | c
  · exfalso
    have := path_eq t q u0 u1 hu w0 w1 c
    have e1 := adj_one h qa
    have e2 := dst_nn h u0 u1 s0 s1
    have e3 := dst_nn h p0 p1 w0 w1
    unfold Sd at hu
    exact hw ((dst_zero h p0 p1 w0 w1).mp (by omega))
  · exact c
theorem side_self {n : Int} {ts : List (Int × Int)} (h : WebOk n ts) {p s : Int} (q : Adj ts p s) : Sd n ts p s s := by
  obtain ⟨p0, p1, s0, s1, _⟩ := h.adj q
  unfold Sd
  rw [dst_self h s0 s1, adj_one h q.symm]
  rfl
theorem side_not {n : Int} {ts : List (Int × Int)} (h : WebOk n ts) {p s : Int} (q : Adj ts p s) : ¬ Sd n ts p s p := by
  obtain ⟨p0, p1, s0, s1, _⟩ := h.adj q
  unfold Sd
  rw [dst_self h p0 p1, adj_one h q]
  decide
/-- what holds of a neighbour and goes from place to place beyond it holds of all of them -/
theorem side_ind {n : Int} {ts : List (Int × Int)} (t : TreeOk n ts) {p s : Int} (q : Adj ts p s) (S : Int → Prop) (h0 : S s) (hs : ∀ z v, S z → Adj ts z v → z ≠ p → v ≠ p → S v) : ∀ (m : Nat) (v : Int), (dst n ts s v).toNat ≤ m → 0 ≤ v → v < n → Sd n ts p s v → S v := by
  have h := t.web
  obtain ⟨p0, p1, s0, s1, _⟩ := h.adj q
  intro m
  induction m with
  | zero =>
    intro v hm v0 v1 _
    have := dst_nn h s0 s1 v0 v1
    have e : v = s := (dst_zero h s0 s1 v0 v1).mp (by omega)
    rw [e]
    exact h0
  | succ m ih =>
    intro v hm v0 v1 hv
    by_cases e : v = s
    · rw [e]; exact h0
    · obtain ⟨z, z0, z1, qz, ez⟩ := dst_near h s0 s1 v0 v1 e
      have hvp : v ≠ p := fun e => by rw [e] at hv; exact side_not h q hv
      have hzp : z ≠ p := fun e => by
        subst e
        have e1 := adj_one h q.symm
        have e2 := adj_one h qz.symm
        have e3 := dst_symm h s0 s1 v0 v1
        unfold Sd at hv
        omega
      exact hs z v (ih z (by omega) z0 z1 (side_adj t q hv qz.symm hzp)) qz hzp hvp
theorem piece_ok {n p s : Int} {ts : List (Int × Int)} (t : TreeOk n ts) (q : Adj ts p s) : piece_from (nears n ts) p s = R.ok (pieceL n ts p s) := by
  have h := t.web
  have hn1 := h.n1
  have hn := h.n60
  obtain ⟨p0, p1, s0, s1, hps⟩ := h.adj q
  refine po_iff ?_
  unfold piece_from
  have hk0 : ∀ v, v ∈ mkeys (mmk ([(p, true), (s, true)] : List (Int × Bool))) ↔ v = p ∨ v ∈ [s] := fun v => by
    show v ∈ mkeys (mput (mput ([] : List (Int × Bool)) p true) s true) ↔ _
    rw [mkeys_mput, mkeys_mput]
    show v ∈ (if s ∈ [p] then [p] else [p] ++ [s]) ↔ _
    rw [if_neg fun z => hps (List.mem_singleton.mp z).symm]
    simp
  refine po_bind (Q := fun g : Int × List Int × List (Int × Bool) => g.2.1.Nodup ∧ (∀ v, v ∈ g.2.1 ↔ (0 ≤ v ∧ v < n) ∧ Sd n ts p s v)) (po_while (fun g => 0 ≤ g.1 ∧ g.1 ≤ (g.2.1.length : Int) ∧ g.2.1.Nodup ∧ s ∈ g.2.1 ∧ (∀ v ∈ g.2.1, (0 ≤ v ∧ v < n) ∧ Sd n ts p s v) ∧ (∀ v, v ∈ mkeys g.2.2 ↔ v = p ∨ v ∈ g.2.1) ∧ g.2.2.length ≤ g.2.1.length + 1 ∧ ∀ i u, i < g.1.toNat → g.2.1[i]? = some u → ∀ w, Adj ts u w → w ∈ mkeys g.2.2) (fun g => n.toNat + 1 - g.1.toNat) ?_ (n := fu 1000) ?_ ?_) fun g ⟨g1, g2⟩ => ?_
  · rintro ⟨a, line, fd⟩ ⟨a0, a1, nd, hs, hm, hk, hl, hd⟩
    have a0' : 0 ≤ a := a0
    have a1' : a ≤ (line.length : Int) := a1
    have nd' : line.Nodup := nd
    have hs' : s ∈ line := hs
    have hm' : ∀ v ∈ line, (0 ≤ v ∧ v < n) ∧ Sd n ts p s v := hm
    have hk' : ∀ v, v ∈ mkeys fd ↔ v = p ∨ v ∈ line := hk
    have hl' : fd.length ≤ line.length + 1 := hl
    have hd' : ∀ i u, i < a.toNat → line[i]? = some u → ∀ w, Adj ts u w → w ∈ mkeys fd := hd
    clear a0 a1 nd hs hm hk hl hd
    have few : ∀ l : List Int, l.Nodup → (∀ v ∈ l, (0 ≤ v ∧ v < n) ∧ Sd n ts p s v) → l.length ≤ n.toNat := fun l h1 h2 => by
      have := nodup_le h1 (ys := rng 0 n) fun v hv => rng_mem.mpr (h2 v hv).1
      rw [rng_length] at this
      omega
    refine ⟨fun ht => ?_, fun hf => ?_⟩
    · have ht : a < (line.length : Int) := of_decide_eq_true ht
      refine po_get a0' ht fun u hu e2 => ?_
      have hu' := hm' u hu
      have hup : u ≠ p := fun e => by rw [e] at hu'; exact side_not h q hu'.2
      refine po_getE (nears_get hu'.1.1 hu'.1.2) ?_
      refine po_bind (po_foldP (fun pre (g : List Int × List (Int × Bool)) => (∃ more, g.1 = line ++ more) ∧ g.1.Nodup ∧ (∀ v ∈ g.1, (0 ≤ v ∧ v < n) ∧ Sd n ts p s v) ∧ (∀ v, v ∈ mkeys g.2 ↔ v = p ∨ v ∈ g.1) ∧ g.2.length ≤ g.1.length + 1 ∧ ∀ w ∈ pre, w ∈ mkeys g.2) ⟨⟨[], by rw [List.append_nil]⟩, nd', hm', hk', hl', fun _ h => nomatch h⟩ ?_) ?_
      · rintro pre ⟨ln, fd2⟩ w post ew ⟨⟨more, em⟩, k1, k2, k3, k4, k5⟩
        have em' : ln = line ++ more := em
        have k1' : ln.Nodup := k1
        have k2' : ∀ v ∈ ln, (0 ≤ v ∧ v < n) ∧ Sd n ts p s v := k2
        have k3' : ∀ v, v ∈ mkeys fd2 ↔ v = p ∨ v ∈ ln := k3
        have k4' : fd2.length ≤ ln.length + 1 := k4
        have k5' : ∀ w ∈ pre, w ∈ mkeys fd2 := k5
        clear em k1 k2 k3 k4 k5
        have hln := few ln k1' k2'
        have hw : w ∈ sortI (nbs ts u) := by rw [show sortI (nbs ts u) = pre ++ w :: post from ew]; simp
        have hw := nbs_mem.mp (sortI_mem.mp hw)
        obtain ⟨_, _, w0, w1, _⟩ := h.adj hw
        refine po_if (fun c => ?_) fun c => ?_
        · have hno : w ∉ mkeys fd2 := fun z => by
            rw [mhas_keys.mpr z] at c
            exact absurd c (by decide)
          have hwp : w ≠ p := fun e => hno ((k3' w).mpr (.inl e))
          have hwl : w ∉ ln := fun z => hno ((k3' w).mpr (.inr z))
          have hmk : mkeys (mput fd2 w true) = mkeys fd2 ++ [w] := by rw [mkeys_mput, if_neg hno]
          refine po_mput (by show fd2.length < 100000; omega) (po_app (by show ln.length < 100000; omega) ⟨⟨more ++ [w], ?_⟩, ?_, fun v hv => ?_, fun v => ?_, ?_, fun v hv => ?_⟩)
          · show ln ++ [w] = _
            rw [em', List.append_assoc]
          · refine List.nodup_append.mpr ⟨k1', List.nodup_cons.mpr ⟨by simp, List.nodup_nil⟩, fun x hx y hy e => ?_⟩
            rw [List.mem_singleton] at hy
            rw [hy] at e
            exact hwl (e ▸ hx)
          · rcases List.mem_append.mp hv with hv | hv
            · exact k2' v hv
            · rw [List.mem_singleton.mp hv]
              exact ⟨⟨w0, w1⟩, side_adj t q hu'.2 hw hwp⟩
          · show v ∈ mkeys (mput fd2 w true) ↔ v = p ∨ v ∈ ln ++ [w]
            rw [hmk, List.mem_append, List.mem_append, k3' v, or_assoc]
          · show (mput fd2 w true).length ≤ (ln ++ [w]).length + 1
            have := congrArg List.length hmk
            rw [mkeys_length, List.length_append, mkeys_length] at this
            rw [this, List.length_append]
            simp only [List.length_singleton]
            omega
          · show v ∈ mkeys (mput fd2 w true)
            rw [hmk]
            rcases List.mem_append.mp hv with hv | hv
            · exact List.mem_append_left _ (k5' v hv)
            · rw [List.mem_singleton.mp hv]
              simp
        · have hyes : w ∈ mkeys fd2 := by
            refine mhas_keys.mp ?_
            cases e : mhas fd2 w with
            | true => rfl
            | false => exact absurd (by rw [e]; rfl) c
          refine ⟨⟨more, em'⟩, k1', k2', k3', k4', fun v hv => ?_⟩
          rcases List.mem_append.mp hv with hv | hv
          · exact k5' v hv
          · rw [List.mem_singleton.mp hv]
            exact hyes
      · rintro ⟨ln, fd2⟩ ⟨⟨more, em⟩, k1, k2, k3, k4, k5⟩
        have em' : ln = line ++ more := em
        have k5' : ∀ w ∈ sortI (nbs ts u), w ∈ mkeys fd2 := k5
        have k3' : ∀ v, v ∈ mkeys fd2 ↔ v = p ∨ v ∈ ln := k3
        have hln := few ln k1 k2
        have hll : ln.length = line.length + more.length := by rw [em', List.length_append]
        refine ⟨⟨by show 0 ≤ a + 1; omega, by show a + 1 ≤ (ln.length : Int); omega, k1, ?_, k2, k3, k4, fun i v hi hv w qw => ?_⟩, ?_⟩
        · show s ∈ ln
          rw [em']
          exact List.mem_append_left _ hs'
        · show w ∈ mkeys fd2
          have hi' : i < (a + 1).toNat := hi
          have hv' : ln[i]? = some v := hv
          rw [em', List.getElem?_append_left (by omega)] at hv'
          by_cases hia : i < a.toNat
          · have := (hk' w).mp (hd' i v hia hv' w qw)
            refine (k3' w).mpr (this.imp id fun z => ?_)
            rw [em']
            exact List.mem_append_left _ z
          · have : i = a.toNat := by omega
            subst this
            rw [e2] at hv'
            cases hv'
            exact k5' w (sortI_mem.mpr (nbs_mem.mpr qw))
        · show n.toNat + 1 - (a + 1).toNat < n.toNat + 1 - a.toNat
          have := few line nd' hm'
          omega
    · have hf : ¬ a < (line.length : Int) := of_decide_eq_false hf
      have ea : a.toNat = line.length := by omega
      refine ⟨nd', fun v => ⟨hm' v, fun ⟨hv, hsd⟩ => ?_⟩⟩
      refine side_ind t q (fun v => v ∈ line) hs' (fun z v hz qz hzp hvp => ?_) _ v (Nat.le_refl _) hv.1 hv.2 hsd
      obtain ⟨i, hi, e⟩ := List.mem_iff_getElem.mp hz
      have := hd' i z (by omega) (by rw [List.getElem?_eq_getElem hi, e]) v qz
      exact ((hk' v).mp this).resolve_left hvp
  · refine ⟨Int.le_refl _, by show (0 : Int) ≤ ((1 : Nat) : Int); decide, List.nodup_cons.mpr ⟨by simp, List.nodup_nil⟩, List.mem_singleton.mpr rfl, fun v hv => ?_, hk0, ?_, fun i u hi => absurd hi (Nat.not_lt_zero _)⟩
    · rw [List.mem_singleton.mp hv]
      exact ⟨⟨s0, s1⟩, side_self h q⟩
    · have e : mkeys (mmk ([(p, true), (s, true)] : List (Int × Bool))) = [p] ++ [s] := by
        show mkeys (mput (mput ([] : List (Int × Bool)) p true) s true) = _
        rw [mkeys_mput, mkeys_mput]
        show (if s ∈ [p] then [p] else [p] ++ [s]) = _
        rw [if_neg fun z => hps (List.mem_singleton.mp z).symm]
      have := congrArg List.length e
      rw [mkeys_length] at this
      show (mmk ([(p, true), (s, true)] : List (Int × Bool))).length ≤ _
      rw [this]
      exact Nat.le_refl 2
  · rw [fu_eq]
    show n.toNat + 1 - 0 < 1000
    omega
  · show sortI g.2.1 = pieceL n ts p s
    refine (sortI_eq (perm_nodup ((rng_nodup 0 n).filter _) g1 fun x => ?_) (((rng_sorted 0 n).sublist List.filter_sublist).imp fun h => Int.le_of_lt h)).symm
    rw [g2 x]
    exact pieceL_mem
theorem all_near_ok {n : Int} {ts : List (Int × Int)} (h : WebOk n ts) : all_near (n, ⟨ts⟩) = R.ok (nears n ts) := by
  have hn1 := h.n1
  have hn := h.n60
  refine po_iff ?_
  unfold all_near
  refine po_rng (by decide) (by decide) (by show -(2 ^ 62) ≤ n; omega) (by show n < 2 ^ 62; omega) ?_
  refine po_mapGE (g := fun p => sortI (nbs ts p)) (by show (rng 0 n).length < 100000; rw [rng_length]; omega) (fun p hp => by rw [nbr_ok h (rng_mem.mp hp).1 (rng_mem.mp hp).2]; rfl) rfl
/-! what looks tell two things of a tree apart -/
section
variable {n : Int} {ts : List (Int × Int)}
def isEnd (v : Int) : Thing → Prop
  | .pl i => i = v
  | .ti a b => a = v ∨ b = v
/-- v is the end of a thing that is the nearer one, from m -/
def NearEnd (n : Int) (ts : List (Int × Int)) (m v : Int) : Thing → Prop
  | .pl i => i = v
  | .ti a b => (a = v ∧ dst n ts m v + 1 = dst n ts m b) ∨ (b = v ∧ dst n ts m v + 1 = dst n ts m a)
theorem end_rg (h : WebOk n ts) {v : Int} {Y : Thing} (hY : ThOk n ts Y) (e : isEnd v Y) : 0 ≤ v ∧ v < n := by
  cases Y with
  | pl i =>
    have e' : i = v := e
    rw [← e']; exact hY
  | ti a b =>
    have hab : (a, b) ∈ ts := hY
    have := h.rg4 _ hab
    rcases (show a = v ∨ b = v from e) with e | e <;> rw [← e]
    · exact ⟨this.1, this.2.1⟩
    · exact this.2.2
theorem far_le {l v : Int} {Y : Thing} (e : isEnd v Y) : farT n ts l Y ≤ dst n ts l v := by
  cases Y with
  | pl i =>
    have e' : i = v := e
    rw [← e']; exact Int.le_refl _
  | ti a b =>
    show min2 (dst n ts l a) (dst n ts l b) ≤ _
    rcases (show a = v ∨ b = v from e) with e | e <;> rw [← e] <;> rcases mm_cases (dst n ts l a) (dst n ts l b) with ⟨w, _⟩ | ⟨w, _⟩ <;> rw [w] <;> omega
theorem near_end {m v : Int} {Y : Thing} (e : NearEnd n ts m v Y) : isEnd v Y := by
  cases Y with
  | pl i => exact e
  | ti a b => exact e.imp (fun z => z.1) fun z => z.1
end
section
variable {n : Int} {ts : List (Int × Int)} (t : TreeOk n ts)
include t
theorem far_out {m s v l : Int} {Y : Thing} (hY : ThOk n ts Y) (e : NearEnd n ts m v Y) (q : Adj ts m s) (hv : Sd n ts m s v) (l0 : 0 ≤ l) (l1 : l < n) (hl : dst n ts l m + 1 = dst n ts l s) : farT n ts l Y = dst n ts l m + dst n ts m v := by
  have h := t.web
  obtain ⟨m0, m1, s0, s1, _⟩ := h.adj q
  obtain ⟨v0, v1⟩ := end_rg h hY (near_end e)
  have p1 := path_eq t q v0 v1 hv l0 l1 hl
  rw [dst_symm h l0 l1 v0 v1, dst_symm h m0 m1 v0 v1, dst_symm h l0 l1 m0 m1] at p1
  have other : ∀ w, 0 ≤ w → w < n → Adj ts v w → dst n ts m v + 1 = dst n ts m w → dst n ts l w = dst n ts l m + dst n ts m v + 1 := fun w w0 w1 qw ew => by
    have hw : Sd n ts m s w := by
      rcases edge_one t w0 w1 q with c | c
      · exfalso
        have := path_eq t q v0 v1 hv w0 w1 c
        rw [adj_one h qw, dst_symm h m0 m1 v0 v1] at this
        unfold Sd at hv
        rw [dst_symm h m0 m1 v0 v1] at hv
        have := dst_nn h v0 v1 s0 s1
        omega
      · exact c
    have p2 := path_eq t q w0 w1 hw l0 l1 hl
    rw [dst_symm h l0 l1 w0 w1, dst_symm h m0 m1 w0 w1, dst_symm h l0 l1 m0 m1] at p2
    omega
  cases Y with
  | pl i =>
    have e' : i = v := e
    subst e'
    show dst n ts l i = _
    omega
  | ti a b =>
    have hab : (a, b) ∈ ts := hY
    have hr := h.rg4 _ hab
    show min2 (dst n ts l a) (dst n ts l b) = _
    rcases (show (a = v ∧ dst n ts m v + 1 = dst n ts m b) ∨ (b = v ∧ dst n ts m v + 1 = dst n ts m a) from e) with ⟨e1, e2⟩ | ⟨e1, e2⟩
    · subst e1
      have := other b hr.2.2.1 hr.2.2.2 (.inl hab) e2
      rcases mm_cases (dst n ts l a) (dst n ts l b) with ⟨w, _⟩ | ⟨w, _⟩ <;> rw [w] <;> omega
    · subst e1
      have := other a hr.1 hr.2.1 (.inr hab) e2
      rcases mm_cases (dst n ts l a) (dst n ts l b) with ⟨w, _⟩ | ⟨w, _⟩ <;> rw [w] <;> omega
theorem far_in {m s v l : Int} {Y : Thing} (hY : ThOk n ts Y) (e : isEnd v Y) (q : Adj ts m s) (hv : Sd n ts m s v) (l0 : 0 ≤ l) (l1 : l < n) (hl : Sd n ts m s l) : farT n ts l Y ≤ dst n ts l m + dst n ts m v - 2 := by
  have h := t.web
  obtain ⟨m0, m1, s0, s1, _⟩ := h.adj q
  obtain ⟨v0, v1⟩ := end_rg h hY e
  have e1 := far_le (n := n) (ts := ts) (l := l) e
  have e2 := dtri h l0 l1 s0 s1 v0 v1
  unfold Sd at hv hl
  rw [dst_symm h s0 s1 v0 v1, dst_symm h m0 m1 v0 v1] at hv
  omega
theorem near_of {u v m k : Int} {Y : Thing} (hY : ThOk n ts Y) (e : isEnd v Y) (u0 : 0 ≤ u) (u1 : u < n) (m0 : 0 ≤ m) (m1 : m < n) (hk : ∀ w, isEnd w Y → k ≤ dst n ts u w) (hm : dst n ts u m + dst n ts m v = k) : NearEnd n ts m v Y := by
  have h := t.web
  cases Y with
  | pl i => exact e
  | ti a b =>
    have hab : (a, b) ∈ ts := hY
    have hr := h.rg4 _ hab
    rcases (show a = v ∨ b = v from e) with e1 | e1
    · subst e1
      refine .inl ⟨rfl, ?_⟩
      rcases edge_one t m0 m1 (.inl hab : Adj ts a b) with c | c
      · exact c
      · exfalso
        have h1 := hk b (.inr rfl)
        have h2 := dtri h u0 u1 m0 m1 (c := b) hr.2.2.1 hr.2.2.2
        omega
    · subst e1
      refine .inr ⟨rfl, ?_⟩
      rcases edge_one t m0 m1 (.inr hab : Adj ts b a) with c | c
      · exact c
      · exfalso
        have h1 := hk a (.inl rfl)
        have h2 := dtri h u0 u1 m0 m1 (c := a) hr.1 hr.2.1
        omega
/-- a place has one neighbour alone towards another one -/
theorem side_one {m s s' l : Int} (l0 : 0 ≤ l) (l1 : l < n) (q : Adj ts m s) (q' : Adj ts m s') (h1 : Sd n ts m s l) (h2 : Sd n ts m s' l) : s = s' := near_uniq t l0 l1 q.symm q'.symm h1 h2
theorem not_side {m s l : Int} (l0 : 0 ≤ l) (l1 : l < n) (q : Adj ts m s) (h1 : ¬ Sd n ts m s l) : dst n ts l m + 1 = dst n ts l s := (edge_one t l0 l1 q).resolve_right h1
theorem parted {X Y : Thing} (hX : ThOk n ts X) (hY : ThOk n ts Y) (hne : X ≠ Y) :
    (∀ l, 0 ≤ l → l < n → farT n ts l X ≠ farT n ts l Y) ∨
    (∃ m s s', Adj ts m s ∧ Adj ts m s' ∧ s ≠ s' ∧ ∀ l, 0 ≤ l → l < n → Sd n ts m s l ∨ Sd n ts m s' l → farT n ts l X ≠ farT n ts l Y) ∨
    (∃ m s, Adj ts m s ∧ ((∃ i a b, X = .pl i ∧ Y = .ti a b) ∨ (∃ i a b, X = .ti a b ∧ Y = .pl i)) ∧ ∀ l, 0 ≤ l → l < n → Sd n ts m s l → farT n ts l X ≠ farT n ts l Y) := by
  have h := t.web
  -- the nearest ends
  have hex : ∀ Z : Thing, ∃ v, isEnd v Z := fun Z => by
    cases Z with
    | pl i => exact ⟨i, rfl⟩
    | ti a b => exact ⟨a, .inl rfl⟩
  obtain ⟨k, ⟨u, v, hu, hv, ek⟩, hmin⟩ := least (P := fun k : Nat => ∃ u v, isEnd u X ∧ isEnd v Y ∧ dst n ts u v = (k : Int)) (by
    obtain ⟨u, hu⟩ := hex X
    obtain ⟨v, hv⟩ := hex Y
    obtain ⟨u0, u1⟩ := end_rg h hX hu
    obtain ⟨v0, v1⟩ := end_rg h hY hv
    have := dst_nn h u0 u1 v0 v1
    exact ⟨(dst n ts u v).toNat, u, v, hu, hv, by omega⟩)
  obtain ⟨u0, u1⟩ := end_rg h hX hu
  obtain ⟨v0, v1⟩ := end_rg h hY hv
  have hmin' : ∀ u' v', isEnd u' X → isEnd v' Y → (k : Int) ≤ dst n ts u' v' := fun u' v' hu' hv' => by
    apply Classical.byContradiction
    intro hc
    obtain ⟨a0, a1⟩ := end_rg h hX hu'
    obtain ⟨b0, b1⟩ := end_rg h hY hv'
    have := dst_nn h a0 a1 b0 b1
    exact hmin (dst n ts u' v').toNat (by omega) ⟨u', v', hu', hv', by omega⟩
  have hminY : ∀ w, isEnd w Y → (k : Int) ≤ dst n ts u w := fun w hw => hmin' u w hu hw
  have hminX : ∀ w, isEnd w X → (k : Int) ≤ dst n ts v w := fun w hw => by
    obtain ⟨w0, w1⟩ := end_rg h hX hw
    rw [dst_symm h w0 w1 v0 v1]
    exact hmin' w v hw hv
  have ek' : dst n ts v u = (k : Int) := by rw [dst_symm h u0 u1 v0 v1]; exact ek
  obtain ⟨j, hj⟩ : ∃ j, k = 2 * j ∨ k = 2 * j + 1 := ⟨k / 2, by omega⟩
  rcases hj with hj | hj
  · by_cases j0 : j = 0
    · -- a common end
      have euv : v = u := (dst_zero h u0 u1 v0 v1).mp (by omega)
      subst euv
      cases X with
      | pl i =>
        have ei : i = v := hu
        subst ei
        cases Y with
        | pl i' =>
          have ei' : i' = i := hv
          subst ei'
          exact absurd rfl hne
        | ti a b =>
          have hab : (a, b) ∈ ts := hY
          have key : ∀ w, Adj ts i w → (∀ l, farT n ts l (.ti a b) = min2 (dst n ts l i) (dst n ts l w) ∨ farT n ts l (.ti a b) = min2 (dst n ts l w) (dst n ts l i)) → _ := fun w qw hf => (.inr (.inr ⟨i, w, qw, .inl ⟨i, a, b, rfl, rfl⟩, fun l l0 l1 hs => by
            unfold Sd at hs
            show dst n ts l i ≠ _
            rcases hf l with e | e <;> rw [e]
            · rcases mm_cases (dst n ts l i) (dst n ts l w) with ⟨z, _⟩ | ⟨z, _⟩ <;> rw [z] <;> omega
            · rcases mm_cases (dst n ts l w) (dst n ts l i) with ⟨z, _⟩ | ⟨z, _⟩ <;> rw [z] <;> omega⟩) : (∀ l, 0 ≤ l → l < n → farT n ts l (.pl i) ≠ farT n ts l (.ti a b)) ∨
    (∃ m s s', Adj ts m s ∧ Adj ts m s' ∧ s ≠ s' ∧ ∀ l, 0 ≤ l → l < n → Sd n ts m s l ∨ Sd n ts m s' l → farT n ts l (.pl i) ≠ farT n ts l (.ti a b)) ∨
    (∃ m s, Adj ts m s ∧ ((∃ i' a' b', Thing.pl i = .pl i' ∧ Thing.ti a b = .ti a' b') ∨ (∃ i' a' b', Thing.pl i = .ti a' b' ∧ Thing.ti a b = .pl i')) ∧ ∀ l, 0 ≤ l → l < n → Sd n ts m s l → farT n ts l (.pl i) ≠ farT n ts l (.ti a b)))
          rcases (show a = i ∨ b = i from hv) with e | e
          · subst e
            exact key b (.inl hab) fun l => .inl rfl
          · subst e
            exact key a (.inr hab) fun l => .inr rfl
      | ti a b =>
        have hab : (a, b) ∈ ts := hX
        cases Y with
        | pl i =>
          have ei : i = v := hv
          subst ei
          rcases (show a = i ∨ b = i from hu) with e | e
          · subst e
            refine .inr (.inr ⟨a, b, .inl hab, .inr ⟨a, a, b, rfl, rfl⟩, fun l l0 l1 hs => ?_⟩)
            unfold Sd at hs
            show min2 (dst n ts l a) (dst n ts l b) ≠ dst n ts l a
            rcases mm_cases (dst n ts l a) (dst n ts l b) with ⟨z, _⟩ | ⟨z, _⟩ <;> rw [z] <;> omega
          · subst e
            refine .inr (.inr ⟨b, a, .inr hab, .inr ⟨b, a, b, rfl, rfl⟩, fun l l0 l1 hs => ?_⟩)
            unfold Sd at hs
            show min2 (dst n ts l a) (dst n ts l b) ≠ dst n ts l b
            rcases mm_cases (dst n ts l a) (dst n ts l b) with ⟨z, _⟩ | ⟨z, _⟩ <;> rw [z] <;> omega
        | ti c d =>
          have hcd : (c, d) ∈ ts := hY
          have far2 : ∀ x y l, (x, y) ∈ ts → ∀ w, (x = v ∧ y = w) ∨ (y = v ∧ x = w) → Adj ts v w ∧ ((farT n ts l (.ti x y) = dst n ts l v ∨ farT n ts l (.ti x y) = dst n ts l w) ∧ farT n ts l (.ti x y) ≤ dst n ts l v ∧ farT n ts l (.ti x y) ≤ dst n ts l w) := fun x y l hxy w e => by
            show _ ∧ ((min2 (dst n ts l x) (dst n ts l y) = _ ∨ min2 (dst n ts l x) (dst n ts l y) = _) ∧ min2 (dst n ts l x) (dst n ts l y) ≤ _ ∧ min2 (dst n ts l x) (dst n ts l y) ≤ _)
            rcases e with ⟨e1, e2⟩ | ⟨e1, e2⟩
            · rw [← e1, ← e2]
              refine ⟨.inl hxy, ?_⟩
              rcases mm_cases (dst n ts l x) (dst n ts l y) with ⟨z, _⟩ | ⟨z, _⟩ <;> rw [z] <;> omega
            · rw [← e1, ← e2]
              refine ⟨.inr hxy, ?_⟩
              rcases mm_cases (dst n ts l x) (dst n ts l y) with ⟨z, _⟩ | ⟨z, _⟩ <;> rw [z] <;> omega
          obtain ⟨w, hw⟩ : ∃ w, (a = v ∧ b = w) ∨ (b = v ∧ a = w) := (show a = v ∨ b = v from hu).elim (fun z => ⟨b, .inl ⟨z, rfl⟩⟩) fun z => ⟨a, .inr ⟨z, rfl⟩⟩
          obtain ⟨w', hw'⟩ : ∃ w', (c = v ∧ d = w') ∨ (d = v ∧ c = w') := (show c = v ∨ d = v from hv).elim (fun z => ⟨d, .inl ⟨z, rfl⟩⟩) fun z => ⟨c, .inr ⟨z, rfl⟩⟩
          have q1 := (far2 a b v hab w hw).1
          have q2 := (far2 c d v hcd w' hw').1
          have r1 := h.rg _ hab
          have r2 := h.rg _ hcd
          have hww : w ≠ w' := fun e => by
            refine hne ?_
            have : a = c ∧ b = d := by
              dsimp only at r1 r2
              omega
            rw [this.1, this.2]
          refine .inr (.inl ⟨v, w, w', q1, q2, hww, fun l l0 l1 hs => ?_⟩)
          have f1 := (far2 a b l hab w hw).2
          have f2 := (far2 c d l hcd w' hw').2
          have g1 : Sd n ts v w l ∨ dst n ts l v + 1 = dst n ts l w := (edge_one t l0 l1 q1).symm
          have g2 : Sd n ts v w' l ∨ dst n ts l v + 1 = dst n ts l w' := (edge_one t l0 l1 q2).symm
          have g3 : ¬ (Sd n ts v w l ∧ Sd n ts v w' l) := fun z => hww (side_one t l0 l1 q1 q2 z.1 z.2)
          unfold Sd at g1 g2 g3 hs
          omega
    · -- a place in the middle
      obtain ⟨m, m0, m1, e1, e2⟩ := mid_ex t u0 u1 v0 v1 j (by omega)
      have hmu : m ≠ u := fun e => by
        subst e
        have := dst_self h m0 m1
        omega
      have hmv : m ≠ v := fun e => by
        subst e
        have := dst_self h m0 m1
        omega
      obtain ⟨s, s0, s1, qs, es⟩ := dst_near h u0 u1 m0 m1 hmu
      obtain ⟨s', s0', s1', qs', es'⟩ := dst_near h v0 v1 m0 m1 hmv
      have e2' : dst n ts v m = (j : Int) := by rw [dst_symm h m0 m1 v0 v1]; exact e2
      have e1' : dst n ts m u = (j : Int) := by rw [dst_symm h u0 u1 m0 m1]; omega
      have hss : s ≠ s' := fun e => by
        subst e
        have := dtri h u0 u1 s0 s1 v0 v1
        rw [dst_symm h v0 v1 s0 s1] at this
        omega
      have nY := near_of t (m := m) hY hv u0 u1 m0 m1 hminY (by omega)
      have nX := near_of t (m := m) hX hu v0 v1 m0 m1 hminX (by omega)
      have sv : Sd n ts m s' v := es'
      have su : Sd n ts m s u := es
      refine .inr (.inl ⟨m, s, s', qs.symm, qs'.symm, hss, fun l l0 l1 hs => ?_⟩)
      rcases hs with hs | hs
      · have hn : ¬ Sd n ts m s' l := fun z => hss (side_one t l0 l1 qs.symm qs'.symm hs z)
        have f1 := far_in t hX hu qs.symm su l0 l1 hs
        have f2 := far_out t hY nY qs'.symm sv l0 l1 (not_side t l0 l1 qs'.symm hn)
        omega
      · have hn : ¬ Sd n ts m s l := fun z => hss (side_one t l0 l1 qs.symm qs'.symm z hs)
        have f1 := far_in t hY hv qs'.symm sv l0 l1 hs
        have f2 := far_out t hX nX qs.symm su l0 l1 (not_side t l0 l1 qs.symm hn)
        omega
  · -- a tie in the middle
    obtain ⟨p, p0, p1, e1, e2⟩ := mid_ex t u0 u1 v0 v1 (j + 1) (by omega)
    have hpv : p ≠ v := fun e => by
      subst e
      have := dst_self h p0 p1
      omega
    obtain ⟨q, q0, q1, qq, eq⟩ := dst_near h v0 v1 p0 p1 hpv
    have e2' : dst n ts v p = (j : Int) + 1 := by rw [dst_symm h p0 p1 v0 v1]; omega
    have e1' : dst n ts u p = (j : Int) := by omega
    have t1 := dtri h u0 u1 q0 q1 v0 v1
    rw [dst_symm h v0 v1 q0 q1] at t1
    have t2 := dst_lip h u0 u1 qq.symm
    have euq : dst n ts u q = (j : Int) + 1 := by omega
    have evq : dst n ts v q = (j : Int) := by omega
    have nY := near_of t (m := p) hY hv u0 u1 p0 p1 hminY (by omega)
    have nX := near_of t (m := q) hX hu v0 v1 q0 q1 hminX (by rw [dst_symm h u0 u1 q0 q1]; omega)
    refine .inl fun l l0 l1 => ?_
    rcases edge_one t l0 l1 qq.symm with c | c
    · have f2 := far_out t hY nY qq.symm (show dst n ts v q + 1 = dst n ts v p by omega) l0 l1 c
      have f1 := far_le (n := n) (ts := ts) (l := l) hu
      have f3 := dtri h l0 l1 p0 p1 u0 u1
      rw [dst_symm h u0 u1 p0 p1] at f3
      omega
    · have f2 := far_out t hX nX qq (show dst n ts u p + 1 = dst n ts u q by omega) l0 l1 c
      have f1 := far_le (n := n) (ts := ts) (l := l) hv
      have f3 := dtri h l0 l1 q0 q1 v0 v1
      rw [dst_symm h v0 v1 q0 q1] at f3
      rw [dst_symm h u0 u1 q0 q1] at f2
      omega
end
/-! counting looks -/
theorem fil_mono {α : Type} {p r : α → Bool} : ∀ {xs : List α}, (∀ x ∈ xs, p x = true → r x = true) → (xs.filter p).length ≤ (xs.filter r).length
  | [], _ => Nat.le_refl _
  | x :: xs, h => by
    have ih := fil_mono fun y hy => h y (List.mem_cons_of_mem _ hy)
    rw [List.filter_cons, List.filter_cons]
    by_cases c : p x = true
    · rw [if_pos c, if_pos (h x List.mem_cons_self c), List.length_cons, List.length_cons]
      omega
    · rw [if_neg c]
      split
      · rw [List.length_cons]; omega
      · exact ih
theorem fil_or {α : Type} {p q : α → Bool} : ∀ {xs : List α}, (∀ x ∈ xs, ¬ (p x = true ∧ q x = true)) → (xs.filter fun x => p x || q x).length = (xs.filter p).length + (xs.filter q).length
  | [], _ => rfl
  | x :: xs, h => by
    have ih := fil_or fun y hy => h y (List.mem_cons_of_mem _ hy)
    have hx := h x List.mem_cons_self
    rw [List.filter_cons, List.filter_cons, List.filter_cons]
    cases ep : p x <;> cases eq : q x
    · exact ih
    · show _ + 1 = _ + (_ + 1)
      rw [ih]
      rfl
    · show _ + 1 = _ + 1 + (xs.filter q).length
      rw [ih]
      omega
    · exact absurd ⟨ep, eq⟩ hx
section
variable {n : Int} {ts : List (Int × Int)} {ls : List Int}
/-- how many looks lie beyond a neighbour -/
noncomputable def cnt (n : Int) (ts : List (Int × Int)) (ls : List Int) (m s : Int) : Int := ((ls.filter fun l => decide (Sd n ts m s l)).length : Int)
theorem cnt_nn {m s : Int} : 0 ≤ cnt n ts ls m s := by unfold cnt; omega
theorem unl_code {X Y : Thing} : unl (codeT n ts ls X) (codeT n ts ls Y) = ((ls.filter fun l => !decide (farT n ts l X = farT n ts l Y)).length : Int) := by
  unfold unl codeT
  rw [List.zip_map', List.filter_map, List.length_map]
  rfl
theorem unl_all {X Y : Thing} (hl : LooksOk n ls) (h : ∀ l, 0 ≤ l → l < n → farT n ts l X ≠ farT n ts l Y) : unl (codeT n ts ls X) (codeT n ts ls Y) = (ls.length : Int) := by
  rw [unl_code]
  congr 2
  refine List.filter_eq_self.mpr fun l hm => ?_
  rw [decide_eq_false (h l (hl.rg l hm).1 (hl.rg l hm).2)]
  rfl
theorem cnt_one_le {m s : Int} {X Y : Thing} (hl : LooksOk n ls) (h : ∀ l, 0 ≤ l → l < n → Sd n ts m s l → farT n ts l X ≠ farT n ts l Y) : cnt n ts ls m s ≤ unl (codeT n ts ls X) (codeT n ts ls Y) := by
  rw [unl_code]
  unfold cnt
  have := fil_mono (xs := ls) (p := fun l => decide (Sd n ts m s l)) (r := fun l => !decide (farT n ts l X = farT n ts l Y)) fun l hm hs => by
    rw [decide_eq_false (h l (hl.rg l hm).1 (hl.rg l hm).2 (of_decide_eq_true hs))]
    rfl
  omega
theorem cnt_one_eq {m s : Int} {X Y : Thing} (hl : LooksOk n ls) (h : ∀ l, 0 ≤ l → l < n → (Sd n ts m s l ↔ farT n ts l X ≠ farT n ts l Y)) : unl (codeT n ts ls X) (codeT n ts ls Y) = cnt n ts ls m s := by
  rw [unl_code]
  unfold cnt
  congr 2
  refine List.filter_congr fun l hm => ?_
  have := h l (hl.rg l hm).1 (hl.rg l hm).2
  by_cases c : farT n ts l X = farT n ts l Y
  · rw [decide_eq_true c, decide_eq_false fun z => this.mp z c]
    rfl
  · rw [decide_eq_false c, decide_eq_true (this.mpr c)]
    rfl
end
section
variable {n : Int} {ts : List (Int × Int)} {ls : List Int} (t : TreeOk n ts) (hl : LooksOk n ls)
include t hl
theorem cnt_sum {m s s' : Int} (q : Adj ts m s) (q' : Adj ts m s') (hne : s ≠ s') : cnt n ts ls m s + cnt n ts ls m s' = ((ls.filter fun l => decide (Sd n ts m s l) || decide (Sd n ts m s' l)).length : Int) := by
  unfold cnt
  rw [fil_or fun l hm z => hne (side_one t (hl.rg l hm).1 (hl.rg l hm).2 q q' (of_decide_eq_true z.1) (of_decide_eq_true z.2))]
  omega
theorem cnt_two_le {m s s' : Int} {X Y : Thing} (q : Adj ts m s) (q' : Adj ts m s') (hne : s ≠ s') (h : ∀ l, 0 ≤ l → l < n → Sd n ts m s l ∨ Sd n ts m s' l → farT n ts l X ≠ farT n ts l Y) : cnt n ts ls m s + cnt n ts ls m s' ≤ unl (codeT n ts ls X) (codeT n ts ls Y) := by
  rw [cnt_sum t hl q q' hne, unl_code]
  have := fil_mono (xs := ls) (p := fun l => decide (Sd n ts m s l) || decide (Sd n ts m s' l)) (r := fun l => !decide (farT n ts l X = farT n ts l Y)) fun l hm hs => by
    rw [Bool.or_eq_true, decide_eq_true_iff, decide_eq_true_iff] at hs
    rw [decide_eq_false (h l (hl.rg l hm).1 (hl.rg l hm).2 hs)]
    rfl
  omega
theorem cnt_two_eq {m s s' : Int} {X Y : Thing} (q : Adj ts m s) (q' : Adj ts m s') (hne : s ≠ s') (h : ∀ l, 0 ≤ l → l < n → (Sd n ts m s l ∨ Sd n ts m s' l ↔ farT n ts l X ≠ farT n ts l Y)) : unl (codeT n ts ls X) (codeT n ts ls Y) = cnt n ts ls m s + cnt n ts ls m s' := by
  rw [cnt_sum t hl q q' hne, unl_code]
  congr 2
  refine List.filter_congr fun l hm => ?_
  have := h l (hl.rg l hm).1 (hl.rg l hm).2
  by_cases c : farT n ts l X = farT n ts l Y
  · rw [decide_eq_true c, decide_eq_false fun z => this.mp (.inl z) c, decide_eq_false fun z => this.mp (.inr z) c]
    rfl
  · rw [decide_eq_false c]
    rcases this.mpr c with z | z
    · rw [decide_eq_true z]; rfl
    · rw [decide_eq_true z, Bool.or_true]; rfl
theorem cnt_sum_le {m s s' : Int} (q : Adj ts m s) (q' : Adj ts m s') (hne : s ≠ s') : cnt n ts ls m s + cnt n ts ls m s' ≤ (ls.length : Int) := by
  rw [cnt_sum t hl q q' hne]
  have := List.length_filter_le (fun l => decide (Sd n ts m s l) || decide (Sd n ts m s' l)) ls
  omega
omit t hl
/-- the tie of two neighbours -/
def tieT (m s : Int) : Thing := .ti (min2 m s) (max2 m s)
theorem tieT_ok (h : WebOk n ts) {m s : Int} (q : Adj ts m s) : ThOk n ts (tieT m s) := by
  show (min2 m s, max2 m s) ∈ ts
  rcases q with q | q
  · have := h.rg _ q
    rcases mm_cases m s with ⟨w1, w2, w3⟩ | ⟨w1, w2, w3⟩ <;> rw [w1, w2]
    · exact q
    · dsimp only at this; omega
  · have := h.rg _ q
    rcases mm_cases m s with ⟨w1, w2, w3⟩ | ⟨w1, w2, w3⟩ <;> rw [w1, w2]
    · dsimp only at this; omega
    · exact q
theorem tieT_far {m s l : Int} : farT n ts l (tieT m s) ≤ dst n ts l m ∧ farT n ts l (tieT m s) ≤ dst n ts l s ∧ (farT n ts l (tieT m s) = dst n ts l m ∨ farT n ts l (tieT m s) = dst n ts l s) := by
  show min2 (dst n ts l (min2 m s)) (dst n ts l (max2 m s)) ≤ _ ∧ min2 (dst n ts l (min2 m s)) (dst n ts l (max2 m s)) ≤ _ ∧ (min2 (dst n ts l (min2 m s)) (dst n ts l (max2 m s)) = _ ∨ min2 (dst n ts l (min2 m s)) (dst n ts l (max2 m s)) = _)
  rcases mm_cases m s with ⟨w1, w2, _⟩ | ⟨w1, w2, _⟩ <;> rw [w1, w2]
  · rcases mm_cases (dst n ts l m) (dst n ts l s) with ⟨w, _⟩ | ⟨w, _⟩ <;> rw [w] <;> omega
  · rcases mm_cases (dst n ts l s) (dst n ts l m) with ⟨w, _⟩ | ⟨w, _⟩ <;> rw [w] <;> omega
theorem tieT_inj {m s s' : Int} (h : tieT m s = tieT m s') (h1 : m ≠ s) (h2 : m ≠ s') : s = s' := by
  unfold tieT at h
  injection h with a b
  rcases mm_cases m s with ⟨w1, w2, _⟩ | ⟨w1, w2, _⟩ <;> rcases mm_cases m s' with ⟨w1', w2', _⟩ | ⟨w1', w2', _⟩ <;> rw [w1, w1'] at a <;> rw [w2, w2'] at b <;> omega
include t
theorem sides {m s l : Int} (l0 : 0 ≤ l) (l1 : l < n) (q : Adj ts m s) : (Sd n ts m s l ∧ dst n ts l s + 1 = dst n ts l m) ∨ (¬ Sd n ts m s l ∧ dst n ts l m + 1 = dst n ts l s) := by
  rcases edge_one t l0 l1 q with c | c
  · exact .inr ⟨fun z => by unfold Sd at z; omega, c⟩
  · exact .inl ⟨c, c⟩
theorem parts_places {m s s' l : Int} (l0 : 0 ≤ l) (l1 : l < n) (q : Adj ts m s) (q' : Adj ts m s') (hne : s ≠ s') : Sd n ts m s l ∨ Sd n ts m s' l ↔ farT n ts l (.pl s) ≠ farT n ts l (.pl s') := by
  show _ ↔ dst n ts l s ≠ dst n ts l s'
  have h1 := sides t l0 l1 q
  have h2 := sides t l0 l1 q'
  have h3 : ¬ (Sd n ts m s l ∧ Sd n ts m s' l) := fun z => hne (side_one t l0 l1 q q' z.1 z.2)
  rcases h1 with ⟨a, b⟩ | ⟨a, b⟩ <;> rcases h2 with ⟨c, d⟩ | ⟨c, d⟩
  · exact absurd ⟨a, c⟩ h3
  · exact ⟨fun _ => by omega, fun _ => .inl a⟩
  · exact ⟨fun _ => by omega, fun _ => .inr c⟩
  · exact ⟨fun z => absurd z (fun z => z.elim a c), fun z => by omega⟩
theorem parts_ties {m s s' l : Int} (l0 : 0 ≤ l) (l1 : l < n) (q : Adj ts m s) (q' : Adj ts m s') (hne : s ≠ s') : Sd n ts m s l ∨ Sd n ts m s' l ↔ farT n ts l (tieT m s) ≠ farT n ts l (tieT m s') := by
  have h1 := sides t l0 l1 q
  have h2 := sides t l0 l1 q'
  have h3 : ¬ (Sd n ts m s l ∧ Sd n ts m s' l) := fun z => hne (side_one t l0 l1 q q' z.1 z.2)
  have f1 := tieT_far (n := n) (ts := ts) (m := m) (s := s) (l := l)
  have f2 := tieT_far (n := n) (ts := ts) (m := m) (s := s') (l := l)
  rcases h1 with ⟨a, b⟩ | ⟨a, b⟩ <;> rcases h2 with ⟨c, d⟩ | ⟨c, d⟩
  · exact absurd ⟨a, c⟩ h3
  · exact ⟨fun _ => by omega, fun _ => .inl a⟩
  · exact ⟨fun _ => by omega, fun _ => .inr c⟩
  · exact ⟨fun z => absurd z (fun z => z.elim a c), fun z => by omega⟩
theorem parts_both {m s l : Int} (l0 : 0 ≤ l) (l1 : l < n) (q : Adj ts m s) : Sd n ts m s l ↔ farT n ts l (.pl m) ≠ farT n ts l (tieT m s) := by
  show _ ↔ dst n ts l m ≠ _
  have h1 := sides t l0 l1 q
  have f1 := tieT_far (n := n) (ts := ts) (m := m) (s := s) (l := l)
  rcases h1 with ⟨a, b⟩ | ⟨a, b⟩
  · exact ⟨fun _ => by omega, fun _ => a⟩
  · exact ⟨fun z => absurd z a, fun z => by omega⟩
omit t
theorem pairs_of {xs : List Thing} {f : Thing → List Int} {X Y : Thing} (hX : X ∈ xs) (hY : Y ∈ xs) (hne : X ≠ Y) : unl (f X) (f Y) ∈ pairsU (xs.map f) := by
  obtain ⟨i, hi, ei⟩ := List.mem_iff_getElem.mp hX
  obtain ⟨j, hj, ej⟩ := List.mem_iff_getElem.mp hY
  have e1 : (xs.map f)[i]? = some (f X) := by rw [List.getElem?_map, List.getElem?_eq_getElem hi, ei]; rfl
  have e2 : (xs.map f)[j]? = some (f Y) := by rw [List.getElem?_map, List.getElem?_eq_getElem hj, ej]; rfl
  rcases Nat.lt_trichotomy i j with q | q | q
  · rw [unl_symm]
    exact pairsU_mem.mpr ⟨i, j, _, _, q, e1, e2, rfl⟩
  · subst q
    exact absurd (ei.symm.trans ej) hne
  · exact pairsU_mem.mpr ⟨j, i, _, _, q, e2, e1, rfl⟩
theorem least_is {xs : List Thing} {f : Thing → List Int} {r : Int} (hn : xs.Nodup) (h1 : ∀ X ∈ xs, ∀ Y ∈ xs, X ≠ Y → r ≤ unl (f X) (f Y)) (h2 : ∃ X ∈ xs, ∃ Y ∈ xs, X ≠ Y ∧ unl (f X) (f Y) = r) : leastL (xs.map f) = some r := by
  rw [leastL_fold]
  obtain ⟨X, hX, Y, hY, hne, e⟩ := h2
  refine lfold_eq (fun u hu => ?_) (e ▸ pairs_of hX hY hne)
  obtain ⟨i, j, a, b, hij, ha, hb, rfl⟩ := pairsU_mem.mp hu
  rw [List.getElem?_map, Option.map_eq_some_iff] at ha hb
  obtain ⟨x, hx, rfl⟩ := ha
  obtain ⟨y, hy, rfl⟩ := hb
  refine h1 y (List.mem_of_getElem? hy) x (List.mem_of_getElem? hx) fun e => ?_
  obtain ⟨i1, e1⟩ := List.getElem?_eq_some_iff.mp hx
  obtain ⟨i2, e2⟩ := List.getElem?_eq_some_iff.mp hy
  have := (List.getElem_inj hn).mp (e2.trans (e.trans e1.symm))
  omega
theorem least_none {xs : List Thing} {f : Thing → List Int} (h : xs.length ≤ 1) : leastL (xs.map f) = none := by
  rw [leastL_fold]
  have : pairsU (xs.map f) = [] := List.eq_nil_iff_forall_not_mem.mpr fun u hu => by
    obtain ⟨i, j, a, b, hij, ha, hb, _⟩ := pairsU_mem.mp hu
    have h1 := (List.getElem?_eq_some_iff.mp hb).1
    rw [List.length_map] at h1
    omega
  rw [this]
  rfl
include t hl
theorem two_kind {xs : List Thing} {r : Int} (hn : xs.Nodup) (hok : ∀ X ∈ xs, ThOk n ts X) (h3 : ∀ X ∈ xs, ∀ Y ∈ xs, ¬ ((∃ i a b, X = .pl i ∧ Y = .ti a b) ∨ (∃ i a b, X = .ti a b ∧ Y = .pl i)))
    (hat : ∀ m s s', Adj ts m s → Adj ts m s' → s ≠ s' → ∃ X ∈ xs, ∃ Y ∈ xs, X ≠ Y ∧ unl (codeT n ts ls X) (codeT n ts ls Y) = cnt n ts ls m s + cnt n ts ls m s')
    (h1 : ∀ m s s', Adj ts m s → Adj ts m s' → s ≠ s' → r ≤ cnt n ts ls m s + cnt n ts ls m s') (h2 : ∃ m s s', Adj ts m s ∧ Adj ts m s' ∧ s ≠ s' ∧ r = cnt n ts ls m s + cnt n ts ls m s') : leastL (xs.map (codeT n ts ls)) = some r := by
  obtain ⟨m0, s0, s0', q0, q0', hne0, er⟩ := h2
  refine least_is hn (fun X hX Y hY hne => ?_) ?_
  · rcases parted t (hok X hX) (hok Y hY) hne with c | ⟨m, s, s', q, q', hss, c⟩ | ⟨m, s, q, c, _⟩
    · rw [unl_all hl c, er]
      exact cnt_sum_le t hl q0 q0' hne0
    · exact Int.le_trans (h1 m s s' q q' hss) (cnt_two_le t hl q q' hss c)
    · exact absurd c (h3 X hX Y hY)
  · rw [er]
    exact hat m0 s0 s0' q0 q0' hne0
theorem all_kind {xs : List Thing} {r : Int} (hn : xs.Nodup) (hok : ∀ X, X ∈ xs ↔ ThOk n ts X) (h1 : ∀ m s, Adj ts m s → r ≤ cnt n ts ls m s) (h2 : ∃ m s, Adj ts m s ∧ r = cnt n ts ls m s) : leastL (xs.map (codeT n ts ls)) = some r := by
  obtain ⟨m0, s0, q0, er⟩ := h2
  refine least_is hn (fun X hX Y hY hne => ?_) ?_
  · rcases parted t ((hok X).mp hX) ((hok Y).mp hY) hne with c | ⟨m, s, s', q, q', hss, c⟩ | ⟨m, s, q, _, c⟩
    · rw [unl_all hl c, er]
      unfold cnt
      have := List.length_filter_le (fun l => decide (Sd n ts m0 s0 l)) ls
      omega
    · have e1 := h1 m s q
      have e2 := cnt_nn (n := n) (ts := ts) (ls := ls) (m := m) (s := s')
      have e3 := cnt_two_le t hl q q' hss c
      omega
    · exact Int.le_trans (h1 m s q) (cnt_one_le hl c)
  · obtain ⟨a0, a1, _⟩ := t.web.adj q0
    refine ⟨.pl m0, (hok _).mpr ⟨a0, a1⟩, tieT m0 s0, (hok _).mpr (tieT_ok t.web q0), (fun e => by unfold tieT at e; cases e), ?_⟩
    rw [er]
    exact cnt_one_eq hl fun l l0 l1 => parts_both t l0 l1 q0
omit hl
/-- three places: one of them, or another one, has two neighbours -/
theorem fork_ex (n3 : 3 ≤ n) : ∃ m s s', Adj ts m s ∧ Adj ts m s' ∧ s ≠ s' := by
  have h := t.web
  have far : ∀ x y, 0 ≤ x → x < n → 0 ≤ y → y < n → 2 ≤ dst n ts x y → ∃ m s s', Adj ts m s ∧ Adj ts m s' ∧ s ≠ s' := fun x y x0 x1 y0 y1 hd => by
    have hyx : y ≠ x := fun e => by
      subst e
      have := dst_self h y0 y1
      omega
    obtain ⟨z, z0, z1, qz, ez⟩ := dst_near h x0 x1 y0 y1 hyx
    have hzx : z ≠ x := fun e => by
      subst e
      have := dst_self h z0 z1
      omega
    obtain ⟨w, w0, w1, qw, ew⟩ := dst_near h x0 x1 z0 z1 hzx
    exact ⟨z, y, w, qz, qw.symm, fun e => by subst e; omega⟩
  by_cases c1 : 2 ≤ dst n ts 0 1
  · exact far 0 1 (by omega) (by omega) (by omega) (by omega) c1
  by_cases c2 : 2 ≤ dst n ts 0 2
  · exact far 0 2 (by omega) (by omega) (by omega) (by omega) c2
  have adj : ∀ y, 0 < y → y < n → ¬ 2 ≤ dst n ts 0 y → Adj ts 0 y := fun y y0 y1 hc => by
    have e1 := dst_nn h (p := 0) (v := y) (by omega) (by omega) (by omega) y1
    have e2 : dst n ts 0 y ≠ 0 := fun z => by
      have := (dst_zero h (p := 0) (v := y) (by omega) (by omega) (by omega) y1).mp z
      omega
    exact (dst_one h (by omega) (by omega) (by omega) y1).mp (by omega)
  exact ⟨0, 1, 2, adj 1 (by omega) (by omega) c1, adj 2 (by omega) (by omega) c2, by decide⟩
theorem nb_ex (n2 : 2 ≤ n) {m : Int} (m0 : 0 ≤ m) (m1 : m < n) : ∃ s, Adj ts m s := by
  have h := t.web
  obtain ⟨v, v0, v1, hv⟩ : ∃ v, 0 ≤ v ∧ v < n ∧ m ≠ v := by
    by_cases c : m = 0
    · exact ⟨1, by omega, by omega, by omega⟩
    · exact ⟨0, by omega, by omega, c⟩
  obtain ⟨w, _, _, q, _⟩ := dst_near h v0 v1 m0 m1 hv
  exact ⟨w, q.symm⟩
end
theorem kind_pl {n : Int} {ts : List (Int × Int)} : kindT n ts "places" = mkpl (rng 0 n) := rfl
theorem kind_ti {n : Int} {ts : List (Int × Int)} : kindT n ts "ties" = mkti ts := rfl
theorem kind_all {n : Int} {ts : List (Int × Int)} : kindT n ts "all" = allT n ts := rfl
theorem kindT_nodup {n : Int} {ts : List (Int × Int)} (h : WebOk n ts) (k : Str) : (kindT n ts k).Nodup := by
  have h1 : (mkpl (rng 0 n)).Nodup := List.Pairwise.map _ (fun a b h e => h (by cases e; rfl)) (rng_nodup 0 n)
  have h2 : (mkti ts).Nodup := List.Pairwise.map _ (fun a b h e => h (by obtain ⟨a1, a2⟩ := a; obtain ⟨b1, b2⟩ := b; cases e; rfl)) h.nd
  unfold kindT
  split
  · exact h1
  · split
    · exact h2
    · refine List.nodup_append.mpr ⟨h1, h2, fun a ha b hb e => ?_⟩
      obtain ⟨i, ei, _⟩ := pl_mem.mp ha
      obtain ⟨c, d, ed, _⟩ := ti_mem.mp hb
      rw [ei, ed] at e
      cases e
theorem places_least {n : Int} {ts : List (Int × Int)} {ls : List Int} {r : Int} (t : TreeOk n ts) (hl : LooksOk n ls) (h1 : ∀ m s s', Adj ts m s → Adj ts m s' → s ≠ s' → r ≤ cnt n ts ls m s + cnt n ts ls m s') (h2 : ∃ m s s', Adj ts m s ∧ Adj ts m s' ∧ s ≠ s' ∧ r = cnt n ts ls m s + cnt n ts ls m s') : leastL ((kindT n ts "places").map (codeT n ts ls)) = some r := by
  refine two_kind t hl (kindT_nodup t.web _) (fun X hX => kindT_ok hX) (fun X hX Y hY => ?_) (fun m s s' q q' hne => ?_) h1 h2
  · rw [kind_pl] at hX hY
    obtain ⟨i, rfl, _⟩ := pl_mem.mp hX
    obtain ⟨j, rfl, _⟩ := pl_mem.mp hY
    rintro (⟨_, _, _, _, e⟩ | ⟨_, _, _, e, _⟩) <;> cases e
  · obtain ⟨_, _, a0, a1, _⟩ := t.web.adj q
    obtain ⟨_, _, b0, b1, _⟩ := t.web.adj q'
    rw [kind_pl]
    exact ⟨.pl s, pl_mem.mpr ⟨s, rfl, a0, a1⟩, .pl s', pl_mem.mpr ⟨s', rfl, b0, b1⟩, fun e => by cases e; exact hne rfl, cnt_two_eq t hl q q' hne fun l l0 l1 => parts_places t l0 l1 q q' hne⟩
theorem ties_least {n : Int} {ts : List (Int × Int)} {ls : List Int} {r : Int} (t : TreeOk n ts) (hl : LooksOk n ls) (h1 : ∀ m s s', Adj ts m s → Adj ts m s' → s ≠ s' → r ≤ cnt n ts ls m s + cnt n ts ls m s') (h2 : ∃ m s s', Adj ts m s ∧ Adj ts m s' ∧ s ≠ s' ∧ r = cnt n ts ls m s + cnt n ts ls m s') : leastL ((kindT n ts "ties").map (codeT n ts ls)) = some r := by
  refine two_kind t hl (kindT_nodup t.web _) (fun X hX => kindT_ok hX) (fun X hX Y hY => ?_) (fun m s s' q q' hne => ?_) h1 h2
  · rw [kind_ti] at hX hY
    obtain ⟨a, b, rfl, _⟩ := ti_mem.mp hX
    obtain ⟨c, d, rfl, _⟩ := ti_mem.mp hY
    rintro (⟨_, _, _, e, _⟩ | ⟨_, _, _, _, e⟩) <;> cases e
  · have n1 := (t.web.adj q).2.2.2.2
    have n2 := (t.web.adj q').2.2.2.2
    rw [kind_ti]
    exact ⟨tieT m s, ti_mem.mpr ⟨_, _, rfl, tieT_ok t.web q⟩, tieT m s', ti_mem.mpr ⟨_, _, rfl, tieT_ok t.web q'⟩, fun e => hne (tieT_inj e n1 n2), cnt_two_eq t hl q q' hne fun l l0 l1 => parts_ties t l0 l1 q q' hne⟩
theorem all_least {n : Int} {ts : List (Int × Int)} {ls : List Int} {r : Int} (t : TreeOk n ts) (hl : LooksOk n ls) (h1 : ∀ m s, Adj ts m s → r ≤ cnt n ts ls m s) (h2 : ∃ m s, Adj ts m s ∧ r = cnt n ts ls m s) : leastL ((kindT n ts "all").map (codeT n ts ls)) = some r := by
  refine all_kind t hl (kindT_nodup t.web _) (fun X => ?_) h1 h2
  rw [kind_all]
  exact allT_mem
/-! what the program tells of trees -/
theorem asked_ok {n : Int} {ts : List (Int × Int)} (h : (ts.length : Int) = n - 1) : tree_asked (n, ⟨ts⟩) = R.ok () := by
  show (if (!decide ((ts.length : Int) = n - 1)) = true then (R.bad : R Unit) else R.ok ()) = _
  rw [decide_eq_true h]
  rfl
theorem po_ssL {δ : Type} {xs : List Int} {f : List Int → R δ} {S : δ → Prop} {X : Exn → Prop} (hl : xs.length < 64) (hk : Post (f (ssI xs)) S X) : Post (ssR xs >>= f) S X := by
  have h2 : (nub xs).length < 64 := Nat.lt_of_le_of_lt (nodup_le (nub_nodup xs) fun x hx => nub_mem.mp hx) hl
  unfold ssR
  rw [decide_eq_true (show xs.length < 4000 by omega), decide_eq_true h2]
  exact hk
theorem rising_asked_ok {n : Int} {t : Tup (Int × Int)} {ls : List Int} (h : LooksOk n ls) (hl : ls.length < 64) : rising_asked (n, t) ls = R.ok () := by
  refine po_iff ?_
  unfold rising_asked
  have e : ls = ssI ls := ssI_uniq h.up fun k => by rw [decide_eq_true_iff]
  refine po_bind (Q := fun j => j = false) (po_ssL hl (po_if (fun c => ?_) fun _ => ?_)) fun j hj => ?_
  · rw [decide_eq_true e] at c
    exact absurd c (by decide)
  · refine po_mapGE (g := fun _ => true) (by omega) (fun l hm => ?_) ?_
    · rw [decide_eq_true (h.rg l hm).1, decide_eq_true (show l < (n, t).1 from (h.rg l hm).2)]
      rfl
    · have : ((ls.map fun _ => true).all id) = true := by
        rw [List.all_eq_true]
        intro x hx
        obtain ⟨_, _, rfl⟩ := List.mem_map.mp hx
        rfl
      show (!(ls.map fun _ => true).all id) = false
      rw [this]
      rfl
  · subst hj
    exact rfl
theorem nb_adj {n p : Int} {ts : List (Int × Int)} {s : Int} : s ∈ sortI (nbs ts p) ↔ Adj ts p s := by
  rw [sortI_mem, nbs_mem]
theorem nb_nodup {n p : Int} {ts : List (Int × Int)} (h : WebOk n ts) : (sortI (nbs ts p)).Nodup := (sortI_perm _).nodup_iff.mpr (nbs_nodup h.nd (fun q hq => (h.rg q hq).2.1) p)
theorem nb_len {n p : Int} {ts : List (Int × Int)} (h : WebOk n ts) : (sortI (nbs ts p)).length ≤ 60 := by
  have := nbs_len_n h p
  have hn := h.n60
  rw [(sortI_perm _).length_eq]
  omega
theorem pieces_by_ok {n p : Int} {ts : List (Int × Int)} (t : TreeOk n ts) (p0 : 0 ≤ p) (p1 : p < n) : pieces_by (nears n ts) p = R.ok ((sortI (nbs ts p)).map (pieceL n ts p)) := by
  have hl := nb_len (p := p) t.web
  unfold pieces_by
  rw [nears_get p0 p1, ok_bind, mapG_ok (g := pieceL n ts p) (by omega) fun s hs => by rw [piece_ok t ((nb_adj (n := n)).mp hs)]; rfl]
  rfl
theorem looks_in_ok {n p : Int} {ts : List (Int × Int)} {ls : List Int} (t : TreeOk n ts) (hl : LooksOk n ls) (p0 : 0 ≤ p) (p1 : p < n) : looks_in (nears n ts) p ls = R.ok ((sortI (nbs ts p)).map (cnt n ts ls p)) := by
  have hll := hl.len
  have hn := t.web.n60
  have hnl := nb_len (p := p) t.web
  refine po_iff ?_
  unfold looks_in
  rw [pieces_by_ok t p0 p1, ok_bind]
  have key : ∀ s, (do
      let l9 ← filG (fun (b9 : Int) => do
          if (inB b9 (pieceL n ts p s)) = true then do
            R.ok (some b9)
          else
            R.ok none) ls
      R.ok (l9.length : Int)) = R.ok (cnt n ts ls p s) := fun s => by
    refine po_iff (po_filGE (g := fun l => if decide (Sd n ts p s l) = true then some l else none) (by omega) (fun l hm => ?_) ?_)
    · have hb : inB l (pieceL n ts p s) = decide (Sd n ts p s l) := by
        by_cases c : Sd n ts p s l
        · rw [decide_eq_true c]
          exact inB_t.mpr (pieceL_mem.mpr ⟨hl.rg l hm, c⟩)
        · rw [decide_eq_false c]
          cases e : inB l (pieceL n ts p s) with
          | false => rfl
          | true => exact absurd (pieceL_mem.mp (inB_t.mp e)).2 c
      rw [hb]
      by_cases c : decide (Sd n ts p s l) = true
      · rw [if_pos c, if_pos c]
      · rw [if_neg c, if_neg c]
    · rw [fil_ite]
      rfl
  have e2 : ∀ S : List Int, S.length < 1000 → mapG (fun (b5 : (List Int)) => do
      let l9 ← filG (fun (b9 : Int) => do
          if (inB b9 b5) = true then do
            R.ok (some b9)
          else
            R.ok none) ls
      R.ok (l9.length : Int)) (S.map (pieceL n ts p)) = R.ok (S.map (cnt n ts ls p)) := fun S hS => by
    unfold mapG
    rw [grd_t (decide_eq_true (by rw [List.length_map]; omega)), ok_bind]
    clear hS
    induction S with
    | nil => rfl
    | cons s S ih =>
      rw [List.map_cons, List.map_cons]
      unfold mapR
      rw [key s, ok_bind, ih]
      rfl
  rw [e2 _ (by omega), ok_bind]
  exact rfl
theorem sorted_map (S : List Int) (f : Int → Int) : ∃ S' : List Int, S'.Perm S ∧ sortI (S.map f) = S'.map f := by
  refine ⟨S.mergeSort fun a b => decide (f a ≤ f b), List.mergeSort_perm _ _, ?_⟩
  refine (sortI_eq ((List.mergeSort_perm _ _).map f) (List.pairwise_map.mpr ?_)).symm
  have := List.pairwise_mergeSort (le := fun a b => decide (f a ≤ f b)) (fun a b c h1 h2 => by
    rw [decide_eq_true_iff] at h1 h2 ⊢
    omega) (fun a b => by
    rw [Bool.or_eq_true, decide_eq_true_iff, decide_eq_true_iff]
    omega) S
  exact this.imp fun h => of_decide_eq_true h
theorem one_least {S : List Int} (f : Int → Int) (h : S ≠ []) : ∃ s, s ∈ S ∧ getI (sortI (S.map f)) 0 = R.ok (f s) ∧ ∀ x ∈ S, f s ≤ f x := by
  obtain ⟨S', hp, e⟩ := sorted_map S f
  have hs := sortI_sorted (S.map f)
  rw [e] at hs ⊢
  cases S' with
  | nil => exact absurd (List.perm_nil.mp hp.symm) h
  | cons s S' =>
    refine ⟨s, hp.mem_iff.mp List.mem_cons_self, getI_eq (by decide) rfl, fun x hx => ?_⟩
    rcases List.mem_cons.mp (hp.mem_iff.mpr hx) with rfl | hx
    · exact Int.le_refl _
    · rw [List.map_cons] at hs
      exact (List.pairwise_cons.mp hs).1 _ (List.mem_map_of_mem hx)
theorem two_least {S : List Int} (f : Int → Int) (hn : S.Nodup) (h : 1 < S.length) : ∃ s s', s ∈ S ∧ s' ∈ S ∧ s ≠ s' ∧ getI (sortI (S.map f)) 0 = R.ok (f s) ∧ getI (sortI (S.map f)) 1 = R.ok (f s') ∧ ∀ x ∈ S, ∀ y ∈ S, x ≠ y → f s + f s' ≤ f x + f y := by
  obtain ⟨S', hp, e⟩ := sorted_map S f
  have hs := sortI_sorted (S.map f)
  rw [e] at hs ⊢
  have hl := hp.length_eq
  have hn' : S'.Nodup := hp.nodup_iff.mpr hn
  match S', hp, hs, hl, hn' with
  | [], _, _, hl, _ => rw [List.length_nil] at hl; omega
  | [_], _, _, hl, _ => rw [List.length_singleton] at hl; omega
  | s :: s' :: S', hp, hs, _, hn' =>
    rw [List.map_cons, List.map_cons] at hs
    have h1 := List.pairwise_cons.mp hs
    have h2 := List.pairwise_cons.mp h1.2
    have a1 : f s ≤ f s' := h1.1 _ List.mem_cons_self
    have low : ∀ x, x ∈ s' :: S' → f s' ≤ f x := fun x hx => by
      rcases List.mem_cons.mp hx with rfl | hx
      · exact Int.le_refl _
      · exact h2.1 _ (List.mem_map_of_mem hx)
    refine ⟨s, s', hp.mem_iff.mp List.mem_cons_self, hp.mem_iff.mp (List.mem_cons_of_mem _ List.mem_cons_self), fun e => by
      subst e
      exact (List.nodup_cons.mp hn').1 List.mem_cons_self, getI_eq (by decide) rfl, getI_eq (by decide) rfl, fun x hx y hy hne => ?_⟩
    rcases List.mem_cons.mp (hp.mem_iff.mpr hx) with rfl | hx'
    · rcases List.mem_cons.mp (hp.mem_iff.mpr hy) with rfl | hy'
      · exact absurd rfl hne
      · have := low y hy'; omega
    · rcases List.mem_cons.mp (hp.mem_iff.mpr hy) with rfl | hy'
      · have := low x hx'; omega
      · have := low x hx'
        have := low y hy'
        omega
theorem sort_len (xs : List Int) : (sortI xs).length = xs.length := (sortI_perm xs).length_eq
theorem min_is {xs : List Int} (h : xs ≠ []) : ∃ r, minL xs = R.ok r ∧ r ∈ xs ∧ ∀ x ∈ xs, r ≤ x := by
  cases e : xs.min? with
  | none => exact absurd (List.min?_eq_none_iff.mp e) h
  | some r =>
    have := List.min?_eq_some_iff.mp e
    refine ⟨r, ?_, this.1, this.2⟩
    unfold minL
    rw [e]
    rfl
/-- of a web of one place, and of the tie of two -/
theorem kind_few {n : Int} {ts : List (Int × Int)} {k : Str} (t : TreeOk n ts) (h : n = 1 ∨ n = 2 ∧ k = "ties") : (kindT n ts k).length ≤ 1 := by
  have hl := t.len
  have hn1 := t.web.n1
  have h1 : (mkpl (rng 0 n)).length = n.toNat := by unfold mkpl; rw [List.length_map, rng_length]; omega
  have h2 : (mkti ts).length = ts.length := by unfold mkti; rw [List.length_map]
  rcases h with h | ⟨h, rfl⟩
  · unfold kindT
    split
    · omega
    · split
      · omega
      · unfold allT
        rw [List.length_append]
        omega
  · rw [kind_ti]
    omega
theorem strength_tree {n : Int} {ts : List (Int × Int)} {ls : List Int} {k : Str} (t : TreeOk n ts) (hl : LooksOk n ls) (hk : k = "places" ∨ k = "ties" ∨ k = "all") : tree_strength (n, ⟨ts⟩) ls k = R.ok (leastL ((kindT n ts k).map (codeT n ts ls))) := by
  have h := t.web
  have hn1 := h.n1
  have hn := h.n60
  have hll := hl.len
  refine po_iff ?_
  unfold tree_strength
  rw [asked_ok t.len, ok_bind, rising_asked_ok hl (by omega), ok_bind]
  refine po_if (fun c => ?_) fun c => po_if (fun c2 => ?_) fun c2 => ?_
  · rw [Bool.or_eq_true, Bool.and_eq_true, decide_eq_true_iff, decide_eq_true_iff, decide_eq_true_iff] at c
    show none = _
    rw [least_none (kind_few t c)]
  · rw [Bool.and_eq_true, decide_eq_true_iff, decide_eq_true_iff] at c2
    obtain ⟨c2, rfl⟩ := c2
    have c2' : n = 2 := c2
    subst c2'
    show some (ls.length : Int) = _
    have hall : ∀ X ∈ kindT 2 ts "places", ∀ Y ∈ kindT 2 ts "places", X ≠ Y → unl (codeT 2 ts ls X) (codeT 2 ts ls Y) = (ls.length : Int) := fun X hX Y hY hne => by
      rcases parted t (kindT_ok hX) (kindT_ok hY) hne with c | ⟨m, s, s', q, q', hss, _⟩ | ⟨m, s, q, c, _⟩
      · exact unl_all hl c
      · have a := h.adj q
        have b := h.adj q'
        omega
      · rw [kind_pl] at hX hY
        obtain ⟨i, rfl, _⟩ := pl_mem.mp hX
        obtain ⟨j, rfl, _⟩ := pl_mem.mp hY
        rcases c with ⟨_, _, _, _, e⟩ | ⟨_, _, _, e, _⟩ <;> cases e
    refine (least_is (kindT_nodup h _) (fun X hX Y hY hne => Int.le_of_eq (hall X hX Y hY hne).symm) ?_).symm
    have m0 : Thing.pl 0 ∈ kindT 2 ts "places" := by rw [kind_pl]; exact pl_mem.mpr ⟨0, rfl, by decide, by decide⟩
    have m1 : Thing.pl 1 ∈ kindT 2 ts "places" := by rw [kind_pl]; exact pl_mem.mpr ⟨1, rfl, by decide, by decide⟩
    exact ⟨_, m0, _, m1, (fun e => by cases e), hall _ m0 _ m1 fun e => by cases e⟩
  · have n2 : 2 ≤ n := by
      apply Classical.byContradiction
      intro z
      refine c ?_
      rw [Bool.or_eq_true, decide_eq_true_iff]
      exact .inl (show n = 1 by omega)
    rw [all_near_ok h, ok_bind]
    refine po_rng (by decide) (by decide) (by show -(2 ^ 62) ≤ n; omega) (by show n < 2 ^ 62; omega) ?_
    by_cases ka : k = "all"
    · subst ka
      refine po_bind (po_foldP (fun pre (g : List Int) => g.length = pre.length ∧ (∀ r ∈ g, ∃ m s, Adj ts m s ∧ r = cnt n ts ls m s) ∧ ∀ m ∈ pre, ∀ s, Adj ts m s → ∃ r ∈ g, r ≤ cnt n ts ls m s) ⟨rfl, fun _ h => (nomatch h), fun _ h => (nomatch h)⟩ fun pre g m post e ⟨g1, g2, g3⟩ => ?_) fun g ⟨g1, g2, g3⟩ => ?_
      · obtain ⟨_, m0, m1⟩ := rng_split e
        have hpl : pre.length < 100 := by
          have := congrArg List.length e
          rw [rng_length] at this
          simp at this
          omega
        rw [looks_in_ok t hl m0 m1, ok_bind, decide_eq_true rfl]
        obtain ⟨s0, q0⟩ := nb_ex t n2 m0 m1
        obtain ⟨s, hs, es, hmin⟩ := one_least (S := sortI (nbs ts m)) (cnt n ts ls m) (List.ne_nil_of_mem ((nb_adj (n := n)).mpr q0))
        refine po_if (fun _ => po_getE es (po_app (by omega) ⟨?_, fun r hr => ?_, fun m' hm' s' q' => ?_⟩)) fun z => absurd rfl z
        · rw [List.length_append, List.length_append, g1]; rfl
        · rcases List.mem_append.mp hr with hr | hr
          · exact g2 r hr
          · exact ⟨m, s, (nb_adj (n := n)).mp hs, List.mem_singleton.mp hr⟩
        · rcases List.mem_append.mp hm' with hm' | hm'
          · obtain ⟨r, hr, e⟩ := g3 m' hm' s' q'
            exact ⟨r, List.mem_append_left _ hr, e⟩
          · rw [List.mem_singleton.mp hm'] at q' ⊢
            exact ⟨_, List.mem_append_right _ (List.mem_singleton.mpr rfl), hmin s' ((nb_adj (n := n)).mpr q')⟩
      · have hne : g ≠ [] := fun z => by
          rw [z, rng_length] at g1
          simp at g1
          omega
        obtain ⟨r, er, hr, hlow⟩ := min_is hne
        rw [er, ok_bind]
        show some r = _
        refine (all_least t hl (fun m s q => ?_) (g2 r hr)).symm
        obtain ⟨m0, m1, _⟩ := h.adj q
        obtain ⟨x, hx, ex⟩ := g3 m (rng_mem.mpr ⟨m0, m1⟩) s q
        exact Int.le_trans (hlow x hx) ex
    · have hkk : k = "places" ∨ k = "ties" := hk.elim .inl fun z => z.elim .inr fun w => absurd w ka
      have n3 : 3 ≤ n := by
        apply Classical.byContradiction
        intro z
        have : n = 2 := by omega
        rcases hkk with rfl | rfl
        · exact c2 (by rw [Bool.and_eq_true, decide_eq_true_iff, decide_eq_true_iff]; exact ⟨this, rfl⟩)
        · exact c (by rw [Bool.or_eq_true, Bool.and_eq_true, decide_eq_true_iff, decide_eq_true_iff, decide_eq_true_iff]; exact .inr ⟨this, rfl⟩)
      refine po_bind (po_foldP (fun pre (g : List Int) => g.length ≤ pre.length ∧ (∀ r ∈ g, ∃ m s s', Adj ts m s ∧ Adj ts m s' ∧ s ≠ s' ∧ r = cnt n ts ls m s + cnt n ts ls m s') ∧ ∀ m ∈ pre, ∀ s s', Adj ts m s → Adj ts m s' → s ≠ s' → ∃ r ∈ g, r ≤ cnt n ts ls m s + cnt n ts ls m s') ⟨Nat.le_refl _, fun _ h => (nomatch h), fun _ h => (nomatch h)⟩ fun pre g m post e ⟨g1, g2, g3⟩ => ?_) fun g ⟨g1, g2, g3⟩ => ?_
      · obtain ⟨_, m0, m1⟩ := rng_split e
        have hpl : pre.length < 100 := by
          have := congrArg List.length e
          rw [rng_length] at this
          simp at this
          omega
        rw [looks_in_ok t hl m0 m1, ok_bind, decide_eq_false ka]
        refine po_if (fun z => absurd z (by decide)) fun _ => ?_
        rw [sort_len, List.length_map]
        refine po_if (fun c3 => ?_) fun c3 => ?_
        · have c3' : 1 < (sortI (nbs ts m)).length := by
            have := of_decide_eq_true c3
            omega
          obtain ⟨s, s', hs, hs', hne, e0, e1, hmin⟩ := two_least (cnt n ts ls m) (nb_nodup (n := n) h) c3'
          refine po_getE e0 (po_getE e1 (po_app (by omega) ⟨?_, fun r hr => ?_, fun m' hm' x y qx qy hxy => ?_⟩))
          · rw [List.length_append, List.length_append]
            show _ + 1 ≤ _ + 1
            omega
          · rcases List.mem_append.mp hr with hr | hr
            · exact g2 r hr
            · exact ⟨m, s, s', (nb_adj (n := n)).mp hs, (nb_adj (n := n)).mp hs', hne, List.mem_singleton.mp hr⟩
          · rcases List.mem_append.mp hm' with hm' | hm'
            · obtain ⟨r, hr, e⟩ := g3 m' hm' x y qx qy hxy
              exact ⟨r, List.mem_append_left _ hr, e⟩
            · rw [List.mem_singleton.mp hm'] at qx qy ⊢
              exact ⟨_, List.mem_append_right _ (List.mem_singleton.mpr rfl), hmin x ((nb_adj (n := n)).mpr qx) y ((nb_adj (n := n)).mpr qy) hxy⟩
        · refine ⟨by rw [List.length_append]; omega, g2, fun m' hm' x y qx qy hxy => ?_⟩
          rcases List.mem_append.mp hm' with hm' | hm'
          · exact g3 m' hm' x y qx qy hxy
          · exfalso
            rw [List.mem_singleton.mp hm'] at qx qy
            have c3' : ¬ 1 < (sortI (nbs ts m)).length := fun z => c3 (decide_eq_true (by omega))
            have := nodup_le (xs := [x, y]) (ys := sortI (nbs ts m)) (by simp [hxy]) fun z hz => by
              rcases List.mem_cons.mp hz with rfl | hz
              · exact (nb_adj (n := n)).mpr qx
              · rw [List.mem_singleton.mp hz]
                exact (nb_adj (n := n)).mpr qy
            exact c3' this
      · obtain ⟨m, s, s', q, q', hne⟩ := fork_ex t n3
        have a := h.adj q
        obtain ⟨x, hx, _⟩ := g3 m (rng_mem.mpr ⟨a.1, a.2.1⟩) s s' q q' hne
        obtain ⟨r, er, hr, hlow⟩ := min_is (List.ne_nil_of_mem hx)
        rw [er, ok_bind]
        show some r = _
        have h1 : ∀ m s s', Adj ts m s → Adj ts m s' → s ≠ s' → r ≤ cnt n ts ls m s + cnt n ts ls m s' := fun m s s' q q' hne => by
          obtain ⟨m0, m1, _⟩ := h.adj q
          obtain ⟨x, hx, ex⟩ := g3 m (rng_mem.mpr ⟨m0, m1⟩) s s' q q' hne
          exact Int.le_trans (hlow x hx) ex
        rcases hkk with rfl | rfl
        · exact (places_least t hl h1 (g2 r hr)).symm
        · exact (ties_least t hl h1 (g2 r hr)).symm
theorem unl_zero {n : Int} {ts : List (Int × Int)} {ls : List Int} {X Y : Thing} : unl (codeT n ts ls X) (codeT n ts ls Y) = 0 ↔ codeT n ts ls X = codeT n ts ls Y := by
  rw [unl_code]
  constructor
  · intro h
    have e : ls.filter (fun l => !decide (farT n ts l X = farT n ts l Y)) = [] := List.eq_nil_of_length_eq_zero (by omega)
    unfold codeT
    refine List.map_congr_left fun l hm => ?_
    apply Classical.byContradiction
    intro hne
    have : l ∈ ls.filter (fun l => !decide (farT n ts l X = farT n ts l Y)) := List.mem_filter.mpr ⟨hm, by rw [decide_eq_false hne]; rfl⟩
    rw [e] at this
    cases this
  · intro h
    have hf : ∀ l ∈ ls, farT n ts l X = farT n ts l Y := List.map_inj_left.mp h
    have : ls.filter (fun l => !decide (farT n ts l X = farT n ts l Y)) = [] := List.filter_eq_nil_iff.mpr fun l hm => by
      rw [decide_eq_true (hf l hm)]
      decide
    rw [this]
    rfl
theorem few_no {α : Type} {xs : List α} {x y : α} (hx : x ∈ xs) (hy : y ∈ xs) (h : xs.length ≤ 1) : x = y := by
  match xs, hx, hy, h with
  | [a], hx, hy, _ => rw [List.mem_singleton.mp hx, List.mem_singleton.mp hy]
/-! a look less -/
theorem fil_less {p : Int → Bool} {l : Int} : ∀ {xs : List Int}, xs.Nodup → l ∈ xs → ((xs.filter fun x => !decide (x = l)).filter p).length + (if p l = true then 1 else 0) = (xs.filter p).length
  | [], _, h => nomatch h
  | x :: xs, hn, hm => by
    have hn' := List.nodup_cons.mp hn
    by_cases e : x = l
    · subst e
      have e1 : ((x :: xs).filter fun y => !decide (y = x)) = xs := by
        rw [List.filter_cons, decide_eq_true rfl, if_neg (by decide)]
        exact List.filter_eq_self.mpr fun y hy => by
          have hne : y ≠ x := fun z => hn'.1 (by rw [← z]; exact hy)
          rw [decide_eq_false hne]
          rfl
      rw [e1, List.filter_cons]
      split
      · rw [List.length_cons]
      · omega
    · have hm' := (List.mem_cons.mp hm).resolve_left (Ne.symm e)
      have ih := fil_less (p := p) hn'.2 hm'
      have e1 : ((x :: xs).filter fun y => !decide (y = l)) = x :: xs.filter fun y => !decide (y = l) := by
        rw [List.filter_cons, decide_eq_false e]
        rfl
      rw [e1, List.filter_cons, List.filter_cons]
      by_cases c : p x = true
      · rw [if_pos c, if_pos c, List.length_cons, List.length_cons]
        omega
      · rw [if_neg c, if_neg c]
        exact ih
section
variable {n : Int} {ts : List (Int × Int)} {ls : List Int} {k : Str}
theorem unl_less {X Y : Thing} {l : Int} (hl : LooksOk n ls) (hm : l ∈ ls) : unl (codeT n ts (ls.filter fun x => !decide (x = l)) X) (codeT n ts (ls.filter fun x => !decide (x = l)) Y) + (if (!decide (farT n ts l X = farT n ts l Y)) = true then 1 else 0) = unl (codeT n ts ls X) (codeT n ts ls Y) := by
  rw [unl_code, unl_code]
  have := fil_less (p := fun l => !decide (farT n ts l X = farT n ts l Y)) (hl.up.imp fun z => Int.ne_of_lt z) hm
  split at this
  · rename_i c
    rw [if_pos c]
    omega
  · rename_i c
    rw [if_neg c]
    omega
theorem least_some {xs : List Thing} {f g : Thing → List Int} {r : Int} (h : leastL (xs.map f) = some r) : ∃ s, leastL (xs.map g) = some s := by
  cases e : leastL (xs.map g) with
  | some s => exact ⟨s, rfl⟩
  | none =>
    exfalso
    have h1 := least_no e
    obtain ⟨i, j, x, y, hij, ex, ey, _⟩ := least_at h
    have := (List.getElem?_eq_some_iff.mp ey).1
    omega
theorem least_pair {xs : List Thing} {f : Thing → List Int} {r : Int} (hn : xs.Nodup) (h : leastL (xs.map f) = some r) : ∃ X ∈ xs, ∃ Y ∈ xs, X ≠ Y ∧ unl (f X) (f Y) = r := by
  obtain ⟨i, j, x, y, hij, ex, ey, eu⟩ := least_at h
  refine ⟨y, List.mem_of_getElem? ey, x, List.mem_of_getElem? ex, fun z => ?_, eu⟩
  obtain ⟨i1, e1⟩ := List.getElem?_eq_some_iff.mp ex
  obtain ⟨i2, e2⟩ := List.getElem?_eq_some_iff.mp ey
  have := (List.getElem_inj hn).mp (e2.trans (z.trans e1.symm))
  omega
theorem least_mono {xs : List Thing} {f g : Thing → List Int} {a b d : Int} (hn : xs.Nodup) (h1 : leastL (xs.map f) = some a) (h2 : leastL (xs.map g) = some b) (h : ∀ X Y, unl (f X) (f Y) + d ≤ unl (g X) (g Y)) : a + d ≤ b := by
  obtain ⟨X, hX, Y, hY, hne, e⟩ := least_pair hn h2
  have := least_le h1 hX hY hne
  have := h X Y
  omega
theorem least_nn {xs : List Thing} {f : Thing → List Int} {r : Int} (h : leastL (xs.map f) = some r) : 0 ≤ r := by
  obtain ⟨i, j, x, y, _, _, _, e⟩ := least_at h
  have : 0 ≤ unl (f y) (f x) := by unfold unl; omega
  omega
theorem looks_less {l : Int} (hl : LooksOk n ls) : LooksOk n (ls.filter fun x => !decide (x = l)) := ⟨fun x hx => hl.rg x (List.mem_filter.mp hx).1, hl.up.sublist List.filter_sublist⟩
/-- the strength without a look -/
noncomputable def lessS (n : Int) (ts : List (Int × Int)) (ls : List Int) (k : Str) (l : Int) : Option Int := leastL ((kindT n ts k).map (codeT n ts (ls.filter fun x => !decide (x = l))))
theorem less_one {r : Int} (h : WebOk n ts) (hl : LooksOk n ls) (hr : leastL ((kindT n ts k).map (codeT n ts ls)) = some r) : (∀ l ∈ ls, ∃ s, lessS n ts ls k l = some s ∧ r - 1 ≤ s ∧ s ≤ r ∧ 0 ≤ s) ∧ (0 < r → ∃ l ∈ ls, lessS n ts ls k l = some (r - 1)) := by
  have hn := kindT_nodup h k
  have key : ∀ l ∈ ls, ∃ s, lessS n ts ls k l = some s ∧ r - 1 ≤ s ∧ s ≤ r ∧ 0 ≤ s := fun l hm => by
    obtain ⟨s, es⟩ := least_some (g := codeT n ts (ls.filter fun x => !decide (x = l))) hr
    refine ⟨s, es, ?_, ?_, least_nn es⟩
    · have := least_mono (d := -1) hn hr es fun X Y => by
        have := unl_less (ts := ts) (X := X) (Y := Y) hl hm
        split at this <;> omega
      omega
    · have := least_mono (d := 0) hn es hr fun X Y => by
        have := unl_less (ts := ts) (X := X) (Y := Y) hl hm
        split at this <;> omega
      omega
  refine ⟨key, fun hpos => ?_⟩
  obtain ⟨X, hX, Y, hY, hne, e⟩ := least_pair hn hr
  have hex : ∃ l ∈ ls, farT n ts l X ≠ farT n ts l Y := by
    apply Classical.byContradiction
    intro hno
    have : unl (codeT n ts ls X) (codeT n ts ls Y) = 0 := unl_zero.mpr (List.map_congr_left fun l hm => by
      apply Classical.byContradiction
      intro z
      exact hno ⟨l, hm, z⟩)
    omega
  obtain ⟨l, hm, hd⟩ := hex
  obtain ⟨s, es, s1, s2, s3⟩ := key l hm
  refine ⟨l, hm, ?_⟩
  have e1 := unl_less (ts := ts) (X := X) (Y := Y) hl hm
  rw [decide_eq_false hd, if_pos (show (!false) = true from rfl)] at e1
  have e2 := least_le es hX hY hne
  rw [es, show s = r - 1 by omega]
end
theorem most_ge {n : Int} {ts : List (Int × Int)} {ls : List Int} {k : Str} {r : Int} (h : WebOk n ts) (hl : LooksOk n ls) (hr : leastL ((kindT n ts k).map (codeT n ts ls)) = some r) : ∃ s, leastL ((kindT n ts k).map (codeT n ts (rng 0 n))) = some s ∧ r ≤ s := by
  obtain ⟨s, es⟩ := least_some (g := codeT n ts (rng 0 n)) hr
  refine ⟨s, es, ?_⟩
  have := least_mono (d := 0) (kindT_nodup h k) hr es fun X Y => by
    rw [unl_code, unl_code]
    have := nodup_le (xs := ls.filter fun l => !decide (farT n ts l X = farT n ts l Y)) (ys := (rng 0 n).filter fun l => !decide (farT n ts l X = farT n ts l Y)) ((hl.up.imp fun z => Int.ne_of_lt z).filter _) fun x hx => by
      obtain ⟨h1, h2⟩ := List.mem_filter.mp hx
      exact List.mem_filter.mpr ⟨rng_mem.mpr (hl.rg x h1), h2⟩
    omega
  omega
theorem allS_mapS {α : Type} {xs : List α} {f : α → Option Int} {g : α → Int} (h : ∀ x ∈ xs, f x = some (g x)) : allS (xs.map f) = R.ok (xs.map g) := allS_iff.mpr (by
  rw [List.map_map]
  exact List.map_congr_left h)
theorem looks_rng {n : Int} : LooksOk n (rng 0 n) := ⟨fun _ h => rng_mem.mp h, rng_sorted 0 n⟩
/-! the same web, its places called otherwise -/
section
variable {n : Int} {ts : List (Int × Int)} {o : List Int}
def nmO (o : List Int) (k : Int) : Int := o.getD k.toNat 0
def mvT (o : List Int) : Thing → Thing
  | .pl i => .pl (nmO o i)
  | .ti a b => .ti (moved o (a, b)).1 (moved o (a, b)).2
theorem moved_two (a b : Int) : moved o (a, b) = (nmO o a, nmO o b) ∨ moved o (a, b) = (nmO o b, nmO o a) := by
  unfold moved nmO
  rcases mm_cases (o.getD a.toNat 0) (o.getD b.toNat 0) with ⟨w1, w2, _⟩ | ⟨w1, w2, _⟩
  · exact .inl (by dsimp only; rw [w1, w2])
  · exact .inr (by dsimp only; rw [w1, w2])
variable (ho : o.Perm (rng 0 n)) (h : WebOk n ts)
include ho h
theorem moved_web : WebOk n (sortP (ts.map (moved o))) := moved_ok ho h.n1 h.n60 ⟨h.rg, h.nd, h.conn, h.len⟩
theorem nm_rg {a : Int} (a0 : 0 ≤ a) (a1 : a < n) : 0 ≤ nmO o a ∧ nmO o a < n := perm_getD ho (by omega) a0 a1
theorem nm_inj {a b : Int} (a0 : 0 ≤ a) (a1 : a < n) (b0 : 0 ≤ b) (b1 : b < n) (e : nmO o a = nmO o b) : a = b := perm_inj ho (by omega) a0 a1 b0 b1 e
theorem adj_moved {a b : Int} (a0 : 0 ≤ a) (a1 : a < n) (b0 : 0 ≤ b) (b1 : b < n) : Adj (sortP (ts.map (moved o))) (nmO o a) (nmO o b) ↔ Adj ts a b := by
  have hp := sortP_perm (ts.map (moved o))
  have back : ∀ x y, 0 ≤ x → x < n → 0 ≤ y → y < n → (nmO o x, nmO o y) ∈ sortP (ts.map (moved o)) → Adj ts x y := fun x y x0 x1 y0 y1 hm => by
    obtain ⟨q, hq, e⟩ := List.mem_map.mp (hp.mem_iff.mp hm)
    have hr := h.rg4 q hq
    obtain ⟨c, d⟩ := q
    rcases moved_two (o := o) c d with w | w <;> rw [w] at e <;> injection e with e1 e2
    · have i1 := nm_inj ho h hr.1 hr.2.1 x0 x1 e1
      have i2 := nm_inj ho h hr.2.2.1 hr.2.2.2 y0 y1 e2
      dsimp only at i1 i2
      subst i1
      subst i2
      exact .inl hq
    · have i1 := nm_inj ho h hr.2.2.1 hr.2.2.2 x0 x1 e1
      have i2 := nm_inj ho h hr.1 hr.2.1 y0 y1 e2
      dsimp only at i1 i2
      subst i1
      subst i2
      exact .inr hq
  have fwd : ∀ x y, (x, y) ∈ ts → Adj (sortP (ts.map (moved o))) (nmO o x) (nmO o y) := fun x y hm => by
    have : moved o (x, y) ∈ sortP (ts.map (moved o)) := hp.mem_iff.mpr (List.mem_map_of_mem hm)
    rcases moved_two (o := o) x y with w | w <;> rw [w] at this
    · exact .inl this
    · exact .inr this
  constructor
  · intro q
    rcases q with q | q
    · exact back a b a0 a1 b0 b1 q
    · exact (back b a b0 b1 a0 a1 q).symm
  · intro q
    rcases q with q | q
    · exact fwd a b q
    · exact (fwd b a q).symm
theorem dst_moved {p v : Int} (p0 : 0 ≤ p) (p1 : p < n) (v0 : 0 ≤ v) (v1 : v < n) : dst n (sortP (ts.map (moved o))) (nmO o p) (nmO o v) = dst n ts p v := by
  have h' := moved_web ho h
  have hI : ∀ x, ∃ y, 0 ≤ x → x < n → 0 ≤ y ∧ y < n ∧ nmO o y = x := fun x => by
    by_cases c : 0 ≤ x ∧ x < n
    · obtain ⟨y, y0, y1, e⟩ := perm_surj ho (by omega) c.1 c.2
      exact ⟨y, fun _ _ => ⟨y0, y1, e⟩⟩
    · exact ⟨0, fun a b => absurd ⟨a, b⟩ c⟩
  obtain ⟨I, hI⟩ := Classical.axiomOfChoice hI
  have hIO : ∀ x, 0 ≤ x → x < n → I (nmO o x) = x := fun x x0 x1 => by
    have hr := nm_rg ho h x0 x1
    obtain ⟨y0, y1, e⟩ := hI _ hr.1 hr.2
    exact nm_inj ho h y0 y1 x0 x1 e
  have hr := nm_rg ho h p0 p1
  have hrv := nm_rg ho h v0 v1
  have d := web_dist h p0 p1
  have key : IsDist n (sortP (ts.map (moved o))) (nmO o p) (fun w => dst n ts p (I w)) := by
    refine ⟨?_, fun w w0 w1 => ?_, fun a b q => ?_, fun w w0 w1 hne => ?_⟩
    · show dst n ts p (I (nmO o p)) = 0
      rw [hIO p p0 p1]
      exact d.zero
    · obtain ⟨y0, y1, _⟩ := hI w w0 w1
      exact d.nn _ y0 y1
    · obtain ⟨a0, a1, b0, b1, _⟩ := h'.adj q
      obtain ⟨x0, x1, ex⟩ := hI a a0 a1
      obtain ⟨y0, y1, ey⟩ := hI b b0 b1
      rw [← ex, ← ey] at q
      exact d.lip _ _ ((adj_moved ho h x0 x1 y0 y1).mp q)
    · obtain ⟨y0, y1, ey⟩ := hI w w0 w1
      have hyp : I w ≠ p := fun e => hne (by rw [← ey, e])
      obtain ⟨z, z0, z1, qz, ez⟩ := d.desc (I w) y0 y1 hyp
      have hz := nm_rg ho h z0 z1
      refine ⟨nmO o z, hz.1, hz.2, ?_, ?_⟩
      · have := (adj_moved ho h z0 z1 y0 y1).mpr qz
        rwa [ey] at this
      · show dst n ts p (I (nmO o z)) + 1 = _
        rw [hIO z z0 z1]
        exact ez
  rw [← dst_eq key _ hrv.1 hrv.2]
  show dst n ts p (I (nmO o v)) = _
  rw [hIO v v0 v1]
theorem mv_ok {X : Thing} (hX : ThOk n ts X) : ThOk n (sortP (ts.map (moved o))) (mvT o X) := by
  cases X with
  | pl i => exact nm_rg ho h hX.1 hX.2
  | ti a b =>
    show ((moved o (a, b)).1, (moved o (a, b)).2) ∈ _
    exact (sortP_perm _).mem_iff.mpr (List.mem_map_of_mem (f := moved o) (show (a, b) ∈ ts from hX))
theorem far_moved {X : Thing} {l : Int} (hX : ThOk n ts X) (l0 : 0 ≤ l) (l1 : l < n) : farT n (sortP (ts.map (moved o))) (nmO o l) (mvT o X) = farT n ts l X := by
  cases X with
  | pl i => exact dst_moved ho h l0 l1 hX.1 hX.2
  | ti a b =>
    have hab : (a, b) ∈ ts := hX
    have hr := h.rg4 _ hab
    have ea := dst_moved ho h l0 l1 (v := a) hr.1 hr.2.1
    have eb := dst_moved ho h l0 l1 (v := b) hr.2.2.1 hr.2.2.2
    show min2 (dst n _ (nmO o l) (moved o (a, b)).1) (dst n _ (nmO o l) (moved o (a, b)).2) = min2 (dst n ts l a) (dst n ts l b)
    rcases moved_two (o := o) a b with w | w <;> rw [w] <;> dsimp only <;> rw [ea, eb]
    rcases mm_cases (dst n ts l a) (dst n ts l b) with ⟨w1, _, c1⟩ | ⟨w1, _, c1⟩ <;> rcases mm_cases (dst n ts l b) (dst n ts l a) with ⟨w2, _, c2⟩ | ⟨w2, _, c2⟩ <;> rw [w1, w2] <;> omega
theorem mv_inj {X Y : Thing} (hX : ThOk n ts X) (hY : ThOk n ts Y) (e : mvT o X = mvT o Y) : X = Y := by
  cases X with
  | pl i =>
    cases Y with
    | pl j =>
      have e' : nmO o i = nmO o j := by injection e
      rw [nm_inj ho h hX.1 hX.2 hY.1 hY.2 e']
    | ti c d => cases e
  | ti a b =>
    cases Y with
    | pl j => cases e
    | ti c d =>
      have e' : moved o (a, b) = moved o (c, d) := by
        injection e with e1 e2
        exact Prod.ext e1 e2
      have := moved_inj ho (by have := h.n1; omega) (h.rg _ (show (a, b) ∈ ts from hX)) (h.rg _ (show (c, d) ∈ ts from hY)) e'
      injection this with e1 e2
      rw [e1, e2]
theorem kind_moved {k : Str} {X' : Thing} : X' ∈ kindT n (sortP (ts.map (moved o))) k ↔ ∃ X ∈ kindT n ts k, X' = mvT o X := by
  have pl : X' ∈ mkpl (rng 0 n) ↔ ∃ X ∈ mkpl (rng 0 n), X' = mvT o X := by
    rw [pl_mem]
    constructor
    · rintro ⟨i, rfl, i0, i1⟩
      obtain ⟨j, j0, j1, e⟩ := perm_surj ho (by omega) i0 i1
      exact ⟨.pl j, pl_mem.mpr ⟨j, rfl, j0, j1⟩, by rw [← e]; rfl⟩
    · rintro ⟨X, hX, rfl⟩
      obtain ⟨j, rfl, j0, j1⟩ := pl_mem.mp hX
      exact ⟨_, rfl, nm_rg ho h j0 j1⟩
  have ti : X' ∈ mkti (sortP (ts.map (moved o))) ↔ ∃ X ∈ mkti ts, X' = mvT o X := by
    rw [ti_mem]
    constructor
    · rintro ⟨a, b, rfl, hab⟩
      obtain ⟨q, hq, e⟩ := List.mem_map.mp ((sortP_perm _).mem_iff.mp hab)
      refine ⟨.ti q.1 q.2, ti_mem.mpr ⟨_, _, rfl, hq⟩, ?_⟩
      show _ = Thing.ti (moved o (q.1, q.2)).1 (moved o (q.1, q.2)).2
      rw [show (q.1, q.2) = q from rfl, e]
    · rintro ⟨X, hX, rfl⟩
      obtain ⟨a, b, rfl, hab⟩ := ti_mem.mp hX
      exact ⟨_, _, rfl, (sortP_perm _).mem_iff.mpr (List.mem_map_of_mem (f := moved o) hab)⟩
  unfold kindT
  split
  · exact pl
  · split
    · exact ti
    · unfold allT
      rw [List.mem_append, pl, ti]
      constructor
      · rintro (⟨X, hX, e⟩ | ⟨X, hX, e⟩)
        · exact ⟨X, List.mem_append_left _ hX, e⟩
        · exact ⟨X, List.mem_append_right _ hX, e⟩
      · rintro ⟨X, hX, e⟩
        rcases List.mem_append.mp hX with hX | hX
        · exact .inl ⟨X, hX, e⟩
        · exact .inr ⟨X, hX, e⟩
theorem unl_moved {ls : List Int} {X Y : Thing} (hl : LooksOk n ls) (hX : ThOk n ts X) (hY : ThOk n ts Y) : unl (codeT n (sortP (ts.map (moved o))) (sortI (ls.map (nmO o))) (mvT o X)) (codeT n (sortP (ts.map (moved o))) (sortI (ls.map (nmO o))) (mvT o Y)) = unl (codeT n ts ls X) (codeT n ts ls Y) := by
  rw [unl_code, unl_code]
  congr 1
  have e1 := ((sortI_perm (ls.map (nmO o))).filter fun l => !decide (farT n (sortP (ts.map (moved o))) l (mvT o X) = farT n (sortP (ts.map (moved o))) l (mvT o Y))).length_eq
  rw [e1, List.filter_map, List.length_map]
  congr 1
  refine List.filter_congr fun l hm => ?_
  have hr := hl.rg l hm
  show (!decide (farT n (sortP (ts.map (moved o))) (nmO o l) (mvT o X) = farT n (sortP (ts.map (moved o))) (nmO o l) (mvT o Y))) = _
  rw [far_moved ho h hX hr.1 hr.2, far_moved ho h hY hr.1 hr.2]
theorem looks_moved {ls : List Int} (hl : LooksOk n ls) : LooksOk n (sortI (ls.map (nmO o))) := by
  refine ⟨fun x hx => ?_, ?_⟩
  · obtain ⟨l, hm, rfl⟩ := List.mem_map.mp ((sortI_perm _).mem_iff.mp hx)
    exact nm_rg ho h (hl.rg l hm).1 (hl.rg l hm).2
  · have hd : (ls.map (nmO o)).Nodup := by
      refine List.pairwise_map.mpr (hl.up.imp_of_mem fun {a b} ha hb hab e => ?_)
      have := nm_inj ho h (hl.rg a ha).1 (hl.rg a ha).2 (hl.rg b hb).1 (hl.rg b hb).2 e
      omega
    have hd' : (sortI (ls.map (nmO o))).Nodup := (sortI_perm _).nodup_iff.mpr hd
    refine List.Pairwise.imp (R := fun a b => a ≤ b ∧ a ≠ b) (fun {a b} h => by omega) ?_
    exact (sortI_sorted _).and hd'
theorem least_moved {ls : List Int} {k : Str} {r : Int} (hl : LooksOk n ls) (hr : leastL ((kindT n ts k).map (codeT n ts ls)) = some r) : leastL ((kindT n (sortP (ts.map (moved o))) k).map (codeT n (sortP (ts.map (moved o))) (sortI (ls.map (nmO o))))) = some r := by
  refine least_is (kindT_nodup (moved_web ho h) k) (fun X' hX' Y' hY' hne => ?_) ?_
  · obtain ⟨X, hX, rfl⟩ := (kind_moved ho h).mp hX'
    obtain ⟨Y, hY, rfl⟩ := (kind_moved ho h).mp hY'
    rw [unl_moved ho h hl (kindT_ok hX) (kindT_ok hY)]
    exact least_le hr hX hY fun e => hne (by rw [e])
  · obtain ⟨X, hX, Y, hY, hne, e⟩ := least_pair (kindT_nodup h k) hr
    exact ⟨mvT o X, (kind_moved ho h).mpr ⟨X, hX, rfl⟩, mvT o Y, (kind_moved ho h).mpr ⟨Y, hY, rfl⟩, fun z => hne (mv_inj ho h (kindT_ok hX) (kindT_ok hY) z), by rw [unl_moved ho h hl (kindT_ok hX) (kindT_ok hY)]; exact e⟩
end
theorem max_is {xs : List Int} (h : xs ≠ []) : ∃ r, maxL xs = R.ok r ∧ r ∈ xs ∧ ∀ x ∈ xs, x ≤ r := by
  cases e : xs.max? with
  | none => exact absurd (List.max?_eq_none_iff.mp e) h
  | some r =>
    have := List.max?_eq_some_iff.mp e
    refine ⟨r, ?_, this.1, this.2⟩
    unfold maxL
    rw [e]
    rfl
theorem law_less_ok {n : Int} {ts : List (Int × Int)} {ls : List Int} {k : Str} {r : Int} (t : TreeOk n ts) (hl : LooksOk n ls) (hk : k = "places" ∨ k = "ties" ∨ k = "all") (hr : leastL ((kindT n ts k).map (codeT n ts ls)) = some r) : law_less (n, ⟨ts⟩) ls k = R.ok true := by
  have h := t.web
  have hn := h.n60
  have hll := hl.len
  obtain ⟨l1, l2⟩ := less_one h hl hr
  have hr0 := least_nn hr
  refine po_iff ?_
  unfold law_less
  rw [strength_tree t hl hk, ok_bind, hr]
  refine po_mapGE (g := lessS n ts ls k) (by omega) (fun l hm => ?_) ?_
  · refine po_iff (po_filGE (g := fun x => if (!decide (x = l)) = true then some x else none) (by omega) (fun x _ => by
      by_cases c : (!decide (x = l)) = true
      · rw [if_pos c, if_pos c]
      · rw [if_neg c, if_neg c]) ?_)
    rw [fil_ite, strength_tree t (looks_less hl) hk, ok_bind]
    exact rfl
  · have hS : ∀ l ∈ ls, lessS n ts ls k l = some ((lessS n ts ls k l).getD 0) := fun l hm => by
      obtain ⟨s, es, _⟩ := l1 l hm
      rw [es]
      rfl
    have hbd : ∀ l ∈ ls, r - 1 ≤ (lessS n ts ls k l).getD 0 ∧ (lessS n ts ls k l).getD 0 ≤ r := fun l hm => by
      obtain ⟨s, es, s1, s2, _⟩ := l1 l hm
      rw [es]
      exact ⟨s1, s2⟩
    refine po_if (fun c => ?_) fun c => ?_
    · have c' : r = 0 := Option.some.inj (of_decide_eq_true c)
      refine po_mapGE (g := fun _ => true) (by rw [List.length_map]; omega) (fun o ho => ?_) ?_
      · obtain ⟨l, hm, rfl⟩ := List.mem_map.mp ho
        obtain ⟨s, es, s1, s2, s3⟩ := l1 l hm
        rw [es, show s = 0 by omega]
        rfl
      · show ((ls.map (lessS n ts ls k)).map fun _ => true).all id = true
        rw [List.all_eq_true]
        intro x hx
        obtain ⟨_, _, rfl⟩ := List.mem_map.mp hx
        rfl
    · have c' : 0 < r := by
        have : r ≠ 0 := fun z => c (decide_eq_true (by rw [z]))
        omega
      obtain ⟨l, hm, el⟩ := l2 c'
      obtain ⟨m, em, hmm, hlow⟩ := min_is (xs := ls.map fun l => (lessS n ts ls k l).getD 0) (List.ne_nil_of_mem (List.mem_map_of_mem hm))
      obtain ⟨M, eM, hMM, hhigh⟩ := max_is (xs := ls.map fun l => (lessS n ts ls k l).getD 0) (List.ne_nil_of_mem (List.mem_map_of_mem hm))
      refine po_bind (Q := fun j => j = true) ?_ fun j hj => hj
      rw [allS_mapS hS, ok_bind, em, ok_bind]
      have a1 := hlow _ (List.mem_map_of_mem (f := fun l => (lessS n ts ls k l).getD 0) hm)
      rw [el] at a1
      have a1' : m ≤ r - 1 := a1
      obtain ⟨l', hm', e'⟩ := List.mem_map.mp hmm
      have a2 := (hbd l' hm').1
      refine po_ofO rfl (po_if (fun _ => ?_) fun z => absurd (decide_eq_true (show m = r - 1 by omega)) z)
      rw [ok_bind, eM, ok_bind]
      obtain ⟨l3, hm3, e3⟩ := List.mem_map.mp hMM
      have a3 := (hbd l3 hm3).2
      show decide (M ≤ r) = true
      exact decide_eq_true (by omega)
theorem called_ok {s : List Int} {n : Int} {ts : List (Int × Int)} {ls : List Int} (h : WebOk n ts) (hl : LooksOk n ls) (hs : PoolOk s) : Post (law_called s (n, ⟨ts⟩) ls) (fun r => (∃ o : List Int, o.Perm (rng 0 n) ∧ r.1 = ((n, ⟨sortP (ts.map (moved o))⟩), sortI (ls.map (nmO o)))) ∧ PoolOk r.2) noX := by
  have hn1 := h.n1
  have hn := h.n60
  have hll := hl.len
  have hlen := h.len
  have hrl : (rng 0 n).length = n.toNat := by rw [rng_length]; omega
  unfold law_called
  refine po_listRng (by decide) (by decide) (by show -(2 ^ 62) ≤ n; omega) (by show n < 2 ^ 62; omega) (by show (n - 0).toNat ≤ 100000; omega) ?_
  refine po_bind (some_ok hs (by show 0 ≤ n; omega) (by show n ≤ ((rng 0 n).length : Int); omega) (by show (rng 0 n).length < 10000; omega)) fun y9 ⟨⟨left, hp⟩, hl9, h9⟩ => ?_
  have ho : y9.1.Perm (rng 0 n) := by
    have := hp.length_eq
    have hp' : (y9.1 ++ left).Perm (rng 0 n) := hp
    rw [List.length_append] at this
    have this' : y9.1.length + left.length = (rng 0 n).length := this
    have hl9' : (y9.1.length : Int) = n := hl9
    have e : left = [] := List.eq_nil_of_length_eq_zero (by omega)
    rw [e, List.append_nil] at hp'
    exact hp'
  refine po_mapGE (g := moved y9.1) (by show ts.length < 100000; omega) (fun x hx => ?_) ?_
  · have hr := h.rg x hx
    obtain ⟨u, eu, _⟩ := perm_get ho (by omega) (k := x.1) hr.1 (by omega)
    obtain ⟨v, ev, _⟩ := perm_get ho (by omega) (k := x.2) (by omega) hr.2.2
    rw [getI_eq hr.1 eu, ok_bind, getI_eq (by omega) ev, ok_bind, ok_bind, ok_bind]
    unfold moved
    rw [List.getD_eq_getElem?_getD, List.getD_eq_getElem?_getD, eu, ev]
    rfl
  · refine po_mapGE (g := nmO y9.1) (by omega) (fun x hx => ?_) ?_
    · have hr := hl.rg x hx
      obtain ⟨u, eu, _⟩ := perm_get ho (by omega) (k := x) hr.1 hr.2
      rw [getI_eq hr.1 eu]
      unfold nmO
      rw [List.getD_eq_getElem?_getD, eu]
      rfl
    · exact ⟨⟨y9.1, ho, rfl⟩, h9⟩
theorem both_looks {n : Int} {ls os : List Int} (h1 : LooksOk n ls) (h2 : LooksOk n os) (hd : ∀ x ∈ os, x ∉ ls) : LooksOk n (sortI (ls ++ os)) := by
  refine ⟨fun x hx => ?_, ?_⟩
  · rcases List.mem_append.mp ((sortI_perm _).mem_iff.mp hx) with hx | hx
    · exact h1.rg x hx
    · exact h2.rg x hx
  · have hn : (ls ++ os).Nodup := List.nodup_append.mpr ⟨h1.up.imp fun z => Int.ne_of_lt z, h2.up.imp fun z => Int.ne_of_lt z, fun a ha b hb e => hd b hb (e ▸ ha)⟩
    have hd' : (sortI (ls ++ os)).Nodup := (sortI_perm _).nodup_iff.mpr hn
    refine List.Pairwise.imp (R := fun a b => a ≤ b ∧ a ≠ b) (fun {a b} h => by omega) ?_
    exact (sortI_sorted _).and hd'
theorem unl_both {n : Int} {ts : List (Int × Int)} {ls os : List Int} {X Y : Thing} : unl (codeT n ts (sortI (ls ++ os)) X) (codeT n ts (sortI (ls ++ os)) Y) = unl (codeT n ts ls X) (codeT n ts ls Y) + unl (codeT n ts os X) (codeT n ts os Y) := by
  rw [unl_code, unl_code, unl_code]
  have := ((sortI_perm (ls ++ os)).filter fun l => !decide (farT n ts l X = farT n ts l Y)).length_eq
  rw [this, List.filter_append, List.length_append]
  omega
theorem right_ok {s : List Int} {n : Int} {ts : List (Int × Int)} {ls os : List Int} {k : Str} (t : TreeOk n ts) (hl : LooksOk n ls) (h2 : LooksOk n os) (hd : ∀ x ∈ os, x ∉ ls) (hk : k = "places" ∨ k = "ties" ∨ k = "all") (hs : PoolOk s) : Post (law_right s (n, ⟨ts⟩) ls os k) (fun r => r.1 = true ∧ PoolOk r.2) noX := by
  have h := t.web
  have hn1 := h.n1
  have hn := h.n60
  have hll := hl.len
  have hll2 := h2.len
  unfold law_right
  rw [strength_tree t hl hk, ok_bind]
  cases hr : leastL ((kindT n ts k).map (codeT n ts ls)) with
  | none =>
    refine po_if (fun _ => ?_) fun c => absurd rfl c
    rw [strength_tree t h2 hk, ok_bind, least_none (least_no hr)]
    exact ⟨rfl, hs⟩
  | some r =>
    refine po_if (fun c => absurd c (by show ¬ (false = true); decide)) fun _ => ?_
    rw [law_less_ok t hl hk hr, ok_bind]
    refine po_if (fun c => absurd c (by decide)) fun _ => po_extend (by omega) ?_
    have hb := both_looks hl h2 hd
    rw [strength_tree t hb hk, ok_bind]
    obtain ⟨q, eq⟩ := least_some (g := codeT n ts os) hr
    obtain ⟨b, eb⟩ := least_some (g := codeT n ts (sortI (ls ++ os))) hr
    have hsum : r + q ≤ b := by
      obtain ⟨X, hX, Y, hY, hne, e⟩ := least_pair (kindT_nodup h k) eb
      have a1 := least_le hr hX hY hne
      have a2 := least_le eq hX hY hne
      rw [unl_both] at e
      omega
    obtain ⟨m, em, hm⟩ := most_ge h hb eb
    rw [eb]
    refine po_bind (Q := fun j => j = false) (po_ofO rfl ?_) fun j hj => ?_
    · rw [strength_tree t h2 hk, ok_bind, eq]
      refine po_ofO rfl (po_ofO rfl (po_if (fun c => absurd (of_decide_eq_true c) (by omega)) fun _ => ?_))
      refine po_listRng (by decide) (by decide) (by show -(2 ^ 62) ≤ n; omega) (by show n < 2 ^ 62; omega) (by show (n - 0).toNat ≤ 100000; omega) ?_
      show Post (tree_strength (n, ⟨ts⟩) (rng 0 n) k >>= _) _ _
      rw [strength_tree t looks_rng hk, ok_bind, em]
      refine po_ofO rfl ?_
      show decide (m < b) = false
      exact decide_eq_false (by omega)
    · subst hj
      refine po_if (fun c => absurd c (by decide)) fun _ => po_bind (called_ok h hl hs) fun y46 ⟨⟨o, ho, e46⟩, p46⟩ => ?_
      have t' : TreeOk n (sortP (ts.map (moved o))) := ⟨moved_web ho h, by rw [sortP_len, List.length_map]; exact t.len⟩
      rw [e46]
      show Post (tree_strength (n, ⟨sortP (ts.map (moved o))⟩) (sortI (ls.map (nmO o))) k >>= _) _ _
      rw [strength_tree t' (looks_moved ho h hl) hk, ok_bind, least_moved ho h hl hr, decide_eq_true rfl]
      exact ⟨rfl, p46⟩
theorem pick2 {c : Bool} {a b : Int} : ∃ t, getI ([a, b] : List Int) (b2i c) = R.ok t ∧ (t = a ∨ t = b) := by
  cases c with
  | true => exact ⟨b, rfl, .inr rfl⟩
  | false => exact ⟨a, rfl, .inl rfl⟩
theorem law_true (ns : List Int) (h : ns.length ≤ 63) : law ⟨ns⟩ = R.ok true := by
  refine po_iff ?_
  unfold law
  refine po_bind (cells_ok (m := 3) h (by decide) (by decide)) fun y2 hy2 => ?_
  have hm : 0 ≤ max2 1 (y2.length : Int) ∧ max2 1 (y2.length : Int) ≤ 3 := by
    rcases mm_cases 1 (y2.length : Int) with ⟨_, w, _⟩ | ⟨_, w, _⟩ <;> rw [w] <;> omega
  refine po_rng (by decide) (by decide) (by omega) (by omega) ?_
  refine po_bind (po_foldX (fun _ => True) trivial fun s x _ hx => ?_) fun r ⟨s, e, _⟩ => ?_
  · obtain ⟨k0, k1⟩ := rng_mem.mp hx
    refine po_bind (pool_ok k0 (by omega) (by omega)) fun y7 h7 => ?_
    refine po_bind (take_ok h7 (by decide) (by decide)) fun y12 ⟨_, _, h12⟩ => ?_
    obtain ⟨t13, e13, c13⟩ := pick2 (c := decide (y12.1 = 0)) (a := 24) (b := 40)
    refine po_getE e13 ?_
    refine po_bind (tree_ok h12 (by omega) (by omega)) fun y14 ⟨ht, _, p14⟩ => ?_
    obtain ⟨⟨n, ⟨ts⟩⟩, q14⟩ := y14
    have ht' : TreeOk n ts := ht
    have p14' : PoolOk q14 := p14
    clear ht p14
    have hw := ht'.web
    have hn1 := hw.n1
    have hn := hw.n60
    refine po_bind (looks_ok42 (m := n) p14' (by omega) (by omega)) fun y18 ⟨h18, p18⟩ => ?_
    refine po_bind (looks_ok42 (m := n) p18 (by omega) (by omega)) fun y24 ⟨h24, p24⟩ => ?_
    have hl24 := h24.len
    have ec : cutL y18.1 none (some (10 : Int)) = y18.1.take 10 := cut_take _ 10
    rw [ec]
    have hlo : LooksOk n (y18.1.take 10) := ⟨fun l hm => h18.rg l (List.mem_of_mem_take hm), h18.up.sublist (List.take_sublist _ _)⟩
    refine po_filGE (g := fun b => if (!inB b (y18.1.take 10)) = true then some b else none) (by omega) (fun b _ => by
      by_cases c : (!inB b (y18.1.take 10)) = true
      · rw [if_pos c, if_pos c]
      · rw [if_neg c, if_neg c]) ?_
    rw [fil_ite]
    have hos : LooksOk n (y24.1.filter fun b => !inB b (y18.1.take 10)) := ⟨fun l hm => h24.rg l (List.mem_filter.mp hm).1, h24.up.sublist List.filter_sublist⟩
    have hdj : ∀ x ∈ y24.1.filter (fun b => !inB b (y18.1.take 10)), x ∉ y18.1.take 10 := fun x hx hin => by
      have := (List.mem_filter.mp hx).2
      rw [inB_t.mpr hin] at this
      exact absurd this (by decide)
    refine po_bind (po_foldX (fun s => PoolOk s) p24 fun s kd hs hk => ?_) fun r ⟨s, e, hs⟩ => ?_
    · have hk' : kd = "places" ∨ kd = "ties" ∨ kd = "all" := by simpa using hk
      refine po_bind (right_ok ht' hlo hos hdj hk' hs) fun y38 ⟨e38, p38⟩ => ?_
      rw [e38]
      exact ⟨_, rfl, p38⟩
    · rw [e]
      exact ⟨_, rfl, trivial⟩
  · rw [e]
    rfl
end G
namespace G
open PySem L2 Z
open Rep (rep)
theorem dn_mk {K : Fg} {h : Heap} {mg : Str → Option Value} (X : K.In h) (G : h.Ns mainGlobals mg) {x y : Str} {st : Stmt} {ps : List Str} {f : Addr} {od an : Option Addr} {sl : Array (Option Value)} {oc kV dc pm cd ct : Value}
    (a : PySem.W.nsIn K mainGlobals x = some (some (.ref f))) (l : K.lookup f = some ⟨oc, od, .func (PySem.W.fnOf y y (defArgs st) (defBody st) (defScope st) .none kV dc pm an cd ct), sl⟩) (c : PySem.W.codeIn K cd y = true) (k : PySem.W.keepIn K (.ref f) = true)
    (b : ∀ (kV doc pm : Value) (an : Option Addr) (cdv ct : Value) (us : List Value), us.length = ps.length → bindArgs (PySem.W.fnOf y y (defArgs st) (defBody st) (defScope st) .none kV doc pm an cdv ct) ⟨us, []⟩ = pure (ps.zip us)) :
    Dn K mg x y st ps f (PySem.W.fnOf y y (defArgs st) (defBody st) (defScope st) .none kV dc pm an cd ct) := ⟨fun_mk l c k, PySem.W.mg_of X G a, (fun_mk l c k).binds b⟩
theorem all_mk {l : PySem.W.OpenLaw} {w : World} {K : PySem.W.Frag} {h : Heap} {mg : Str → Option Value} {fa : Addr} (X : K.In h) (G : h.Ns mainGlobals mg) (hfa : mg "law" = some (.ref fa))
    {f6 : Addr} {od6 an6 : Option Addr} {sl6 : Array (Option Value)} {oc6 kV6 dc6 pm6 cd6 ct6 : Value}
    {f7 : Addr} {od7 an7 : Option Addr} {sl7 : Array (Option Value)} {oc7 kV7 dc7 pm7 cd7 ct7 : Value}
    {f8 : Addr} {od8 an8 : Option Addr} {sl8 : Array (Option Value)} {oc8 kV8 dc8 pm8 cd8 ct8 : Value}
    {f10 : Addr} {od10 an10 : Option Addr} {sl10 : Array (Option Value)} {oc10 kV10 dc10 pm10 cd10 ct10 : Value}
    {f11 : Addr} {od11 an11 : Option Addr} {sl11 : Array (Option Value)} {oc11 kV11 dc11 pm11 cd11 ct11 : Value}
    {f12 : Addr} {od12 an12 : Option Addr} {sl12 : Array (Option Value)} {oc12 kV12 dc12 pm12 cd12 ct12 : Value}
    {f13 : Addr} {od13 an13 : Option Addr} {sl13 : Array (Option Value)} {oc13 kV13 dc13 pm13 cd13 ct13 : Value}
    {f14 : Addr} {od14 an14 : Option Addr} {sl14 : Array (Option Value)} {oc14 kV14 dc14 pm14 cd14 ct14 : Value}
    {f15 : Addr} {od15 an15 : Option Addr} {sl15 : Array (Option Value)} {oc15 kV15 dc15 pm15 cd15 ct15 : Value}
    {f16 : Addr} {od16 an16 : Option Addr} {sl16 : Array (Option Value)} {oc16 kV16 dc16 pm16 cd16 ct16 : Value}
    {f17 : Addr} {od17 an17 : Option Addr} {sl17 : Array (Option Value)} {oc17 kV17 dc17 pm17 cd17 ct17 : Value}
    {f19 : Addr} {od19 an19 : Option Addr} {sl19 : Array (Option Value)} {oc19 kV19 dc19 pm19 cd19 ct19 : Value}
    {f20 : Addr} {od20 an20 : Option Addr} {sl20 : Array (Option Value)} {oc20 kV20 dc20 pm20 cd20 ct20 : Value}
    {f21 : Addr} {od21 an21 : Option Addr} {sl21 : Array (Option Value)} {oc21 kV21 dc21 pm21 cd21 ct21 : Value}
    {f22 : Addr} {od22 an22 : Option Addr} {sl22 : Array (Option Value)} {oc22 kV22 dc22 pm22 cd22 ct22 : Value}
    {f23 : Addr} {od23 an23 : Option Addr} {sl23 : Array (Option Value)} {oc23 kV23 dc23 pm23 cd23 ct23 : Value}
    {f24 : Addr} {od24 an24 : Option Addr} {sl24 : Array (Option Value)} {oc24 kV24 dc24 pm24 cd24 ct24 : Value}
    {f25 : Addr} {od25 an25 : Option Addr} {sl25 : Array (Option Value)} {oc25 kV25 dc25 pm25 cd25 ct25 : Value}
    {f26 : Addr} {od26 an26 : Option Addr} {sl26 : Array (Option Value)} {oc26 kV26 dc26 pm26 cd26 ct26 : Value}
    {f27 : Addr} {od27 an27 : Option Addr} {sl27 : Array (Option Value)} {oc27 kV27 dc27 pm27 cd27 ct27 : Value}
    {f28 : Addr} {od28 an28 : Option Addr} {sl28 : Array (Option Value)} {oc28 kV28 dc28 pm28 cd28 ct28 : Value}
    {f29 : Addr} {od29 an29 : Option Addr} {sl29 : Array (Option Value)} {oc29 kV29 dc29 pm29 cd29 ct29 : Value}
    (a6 : PySem.W.nsIn K mainGlobals "near_lists" = some (some (.ref f6))) (l6 : K.lookup f6 = some ⟨oc6, od6, .func (PySem.W.fnOf "near_lists" "near_lists" (defArgs s_near_lists) (defBody s_near_lists) (defScope s_near_lists) .none kV6 dc6 pm6 an6 cd6 ct6), sl6⟩) (c6 : PySem.W.codeIn K cd6 "near_lists" = true) (k6 : PySem.W.keepIn K (.ref f6) = true)
    (a7 : PySem.W.nsIn K mainGlobals "place_asked" = some (some (.ref f7))) (l7 : K.lookup f7 = some ⟨oc7, od7, .func (PySem.W.fnOf "place_asked" "place_asked" (defArgs s_place_asked) (defBody s_place_asked) (defScope s_place_asked) .none kV7 dc7 pm7 an7 cd7 ct7), sl7⟩) (c7 : PySem.W.codeIn K cd7 "place_asked" = true) (k7 : PySem.W.keepIn K (.ref f7) = true)
    (a8 : PySem.W.nsIn K mainGlobals "neighbours_of" = some (some (.ref f8))) (l8 : K.lookup f8 = some ⟨oc8, od8, .func (PySem.W.fnOf "neighbours_of" "neighbours_of" (defArgs s_neighbours_of) (defBody s_neighbours_of) (defScope s_neighbours_of) .none kV8 dc8 pm8 an8 cd8 ct8), sl8⟩) (c8 : PySem.W.codeIn K cd8 "neighbours_of" = true) (k8 : PySem.W.keepIn K (.ref f8) = true)
    (a10 : PySem.W.nsIn K mainGlobals "is_tree" = some (some (.ref f10))) (l10 : K.lookup f10 = some ⟨oc10, od10, .func (PySem.W.fnOf "is_tree" "is_tree" (defArgs s_is_tree) (defBody s_is_tree) (defScope s_is_tree) .none kV10 dc10 pm10 an10 cd10 ct10), sl10⟩) (c10 : PySem.W.codeIn K cd10 "is_tree" = true) (k10 : PySem.W.keepIn K (.ref f10) = true)
    (a11 : PySem.W.nsIn K mainGlobals "tree_asked" = some (some (.ref f11))) (l11 : K.lookup f11 = some ⟨oc11, od11, .func (PySem.W.fnOf "tree_asked" "tree_asked" (defArgs s_tree_asked) (defBody s_tree_asked) (defScope s_tree_asked) .none kV11 dc11 pm11 an11 cd11 ct11), sl11⟩) (c11 : PySem.W.codeIn K cd11 "tree_asked" = true) (k11 : PySem.W.keepIn K (.ref f11) = true)
    (a12 : PySem.W.nsIn K mainGlobals "rising_asked" = some (some (.ref f12))) (l12 : K.lookup f12 = some ⟨oc12, od12, .func (PySem.W.fnOf "rising_asked" "rising_asked" (defArgs s_rising_asked) (defBody s_rising_asked) (defScope s_rising_asked) .none kV12 dc12 pm12 an12 cd12 ct12), sl12⟩) (c12 : PySem.W.codeIn K cd12 "rising_asked" = true) (k12 : PySem.W.keepIn K (.ref f12) = true)
    (a13 : PySem.W.nsIn K mainGlobals "all_near" = some (some (.ref f13))) (l13 : K.lookup f13 = some ⟨oc13, od13, .func (PySem.W.fnOf "all_near" "all_near" (defArgs s_all_near) (defBody s_all_near) (defScope s_all_near) .none kV13 dc13 pm13 an13 cd13 ct13), sl13⟩) (c13 : PySem.W.codeIn K cd13 "all_near" = true) (k13 : PySem.W.keepIn K (.ref f13) = true)
    (a14 : PySem.W.nsIn K mainGlobals "piece_from" = some (some (.ref f14))) (l14 : K.lookup f14 = some ⟨oc14, od14, .func (PySem.W.fnOf "piece_from" "piece_from" (defArgs s_piece_from) (defBody s_piece_from) (defScope s_piece_from) .none kV14 dc14 pm14 an14 cd14 ct14), sl14⟩) (c14 : PySem.W.codeIn K cd14 "piece_from" = true) (k14 : PySem.W.keepIn K (.ref f14) = true)
    (a15 : PySem.W.nsIn K mainGlobals "pieces_by" = some (some (.ref f15))) (l15 : K.lookup f15 = some ⟨oc15, od15, .func (PySem.W.fnOf "pieces_by" "pieces_by" (defArgs s_pieces_by) (defBody s_pieces_by) (defScope s_pieces_by) .none kV15 dc15 pm15 an15 cd15 ct15), sl15⟩) (c15 : PySem.W.codeIn K cd15 "pieces_by" = true) (k15 : PySem.W.keepIn K (.ref f15) = true)
    (a16 : PySem.W.nsIn K mainGlobals "looks_in" = some (some (.ref f16))) (l16 : K.lookup f16 = some ⟨oc16, od16, .func (PySem.W.fnOf "looks_in" "looks_in" (defArgs s_looks_in) (defBody s_looks_in) (defScope s_looks_in) .none kV16 dc16 pm16 an16 cd16 ct16), sl16⟩) (c16 : PySem.W.codeIn K cd16 "looks_in" = true) (k16 : PySem.W.keepIn K (.ref f16) = true)
    (a17 : PySem.W.nsIn K mainGlobals "tree_strength" = some (some (.ref f17))) (l17 : K.lookup f17 = some ⟨oc17, od17, .func (PySem.W.fnOf "tree_strength" "tree_strength" (defArgs s_tree_strength) (defBody s_tree_strength) (defScope s_tree_strength) .none kV17 dc17 pm17 an17 cd17 ct17), sl17⟩) (c17 : PySem.W.codeIn K cd17 "tree_strength" = true) (k17 : PySem.W.keepIn K (.ref f17) = true)
    (a19 : PySem.W.nsIn K mainGlobals "_law_cells" = some (some (.ref f19))) (l19 : K.lookup f19 = some ⟨oc19, od19, .func (PySem.W.fnOf "_law_cells" "_law_cells" (defArgs s_law_cells) (defBody s_law_cells) (defScope s_law_cells) .none kV19 dc19 pm19 an19 cd19 ct19), sl19⟩) (c19 : PySem.W.codeIn K cd19 "_law_cells" = true) (k19 : PySem.W.keepIn K (.ref f19) = true)
    (a20 : PySem.W.nsIn K mainGlobals "_law_pool" = some (some (.ref f20))) (l20 : K.lookup f20 = some ⟨oc20, od20, .func (PySem.W.fnOf "_law_pool" "_law_pool" (defArgs s_law_pool) (defBody s_law_pool) (defScope s_law_pool) .none kV20 dc20 pm20 an20 cd20 ct20), sl20⟩) (c20 : PySem.W.codeIn K cd20 "_law_pool" = true) (k20 : PySem.W.keepIn K (.ref f20) = true)
    (a21 : PySem.W.nsIn K mainGlobals "_law_take" = some (some (.ref f21))) (l21 : K.lookup f21 = some ⟨oc21, od21, .func (PySem.W.fnOf "_law_take" "_law_take" (defArgs s_law_take) (defBody s_law_take) (defScope s_law_take) .none kV21 dc21 pm21 an21 cd21 ct21), sl21⟩) (c21 : PySem.W.codeIn K cd21 "_law_take" = true) (k21 : PySem.W.keepIn K (.ref f21) = true)
    (a22 : PySem.W.nsIn K mainGlobals "_law_some" = some (some (.ref f22))) (l22 : K.lookup f22 = some ⟨oc22, od22, .func (PySem.W.fnOf "_law_some" "_law_some" (defArgs s_law_some) (defBody s_law_some) (defScope s_law_some) .none kV22 dc22 pm22 an22 cd22 ct22), sl22⟩) (c22 : PySem.W.codeIn K cd22 "_law_some" = true) (k22 : PySem.W.keepIn K (.ref f22) = true)
    (a23 : PySem.W.nsIn K mainGlobals "_law_named" = some (some (.ref f23))) (l23 : K.lookup f23 = some ⟨oc23, od23, .func (PySem.W.fnOf "_law_named" "_law_named" (defArgs s_law_named) (defBody s_law_named) (defScope s_law_named) .none kV23 dc23 pm23 an23 cd23 ct23), sl23⟩) (c23 : PySem.W.codeIn K cd23 "_law_named" = true) (k23 : PySem.W.keepIn K (.ref f23) = true)
    (a24 : PySem.W.nsIn K mainGlobals "_law_tree" = some (some (.ref f24))) (l24 : K.lookup f24 = some ⟨oc24, od24, .func (PySem.W.fnOf "_law_tree" "_law_tree" (defArgs s_law_tree) (defBody s_law_tree) (defScope s_law_tree) .none kV24 dc24 pm24 an24 cd24 ct24), sl24⟩) (c24 : PySem.W.codeIn K cd24 "_law_tree" = true) (k24 : PySem.W.keepIn K (.ref f24) = true)
    (a25 : PySem.W.nsIn K mainGlobals "_law_looks" = some (some (.ref f25))) (l25 : K.lookup f25 = some ⟨oc25, od25, .func (PySem.W.fnOf "_law_looks" "_law_looks" (defArgs s_law_looks) (defBody s_law_looks) (defScope s_law_looks) .none kV25 dc25 pm25 an25 cd25 ct25), sl25⟩) (c25 : PySem.W.codeIn K cd25 "_law_looks" = true) (k25 : PySem.W.keepIn K (.ref f25) = true)
    (a26 : PySem.W.nsIn K mainGlobals "_law_less" = some (some (.ref f26))) (l26 : K.lookup f26 = some ⟨oc26, od26, .func (PySem.W.fnOf "_law_less" "_law_less" (defArgs s_law_less) (defBody s_law_less) (defScope s_law_less) .none kV26 dc26 pm26 an26 cd26 ct26), sl26⟩) (c26 : PySem.W.codeIn K cd26 "_law_less" = true) (k26 : PySem.W.keepIn K (.ref f26) = true)
    (a27 : PySem.W.nsIn K mainGlobals "_law_called" = some (some (.ref f27))) (l27 : K.lookup f27 = some ⟨oc27, od27, .func (PySem.W.fnOf "_law_called" "_law_called" (defArgs s_law_called) (defBody s_law_called) (defScope s_law_called) .none kV27 dc27 pm27 an27 cd27 ct27), sl27⟩) (c27 : PySem.W.codeIn K cd27 "_law_called" = true) (k27 : PySem.W.keepIn K (.ref f27) = true)
    (a28 : PySem.W.nsIn K mainGlobals "_law_right" = some (some (.ref f28))) (l28 : K.lookup f28 = some ⟨oc28, od28, .func (PySem.W.fnOf "_law_right" "_law_right" (defArgs s_law_right) (defBody s_law_right) (defScope s_law_right) .none kV28 dc28 pm28 an28 cd28 ct28), sl28⟩) (c28 : PySem.W.codeIn K cd28 "_law_right" = true) (k28 : PySem.W.keepIn K (.ref f28) = true)
    (a29 : PySem.W.nsIn K mainGlobals "law" = some (some (.ref f29))) (l29 : K.lookup f29 = some ⟨oc29, od29, .func (PySem.W.fnOf "law" "law" (defArgs s_law) (defBody s_law) (defScope s_law) .none kV29 dc29 pm29 an29 cd29 ct29), sl29⟩) (c29 : PySem.W.codeIn K cd29 "law" = true) (k29 : PySem.W.keepIn K (.ref f29) = true)
    (z_abs : PySem.W.nsIn K mainGlobals "abs" = some none)
    (z_all : PySem.W.nsIn K mainGlobals "all" = some none)
    (z_enumerate : PySem.W.nsIn K mainGlobals "enumerate" = some none)
    (z_int : PySem.W.nsIn K mainGlobals "int" = some none)
    (z_len : PySem.W.nsIn K mainGlobals "len" = some none)
    (z_list : PySem.W.nsIn K mainGlobals "list" = some none)
    (z_max : PySem.W.nsIn K mainGlobals "max" = some none)
    (z_min : PySem.W.nsIn K mainGlobals "min" = some none)
    (z_range : PySem.W.nsIn K mainGlobals "range" = some none)
    (z_set : PySem.W.nsIn K mainGlobals "set" = some none)
    (z_sorted : PySem.W.nsIn K mainGlobals "sorted" = some none)
    (z_tuple : PySem.W.nsIn K mainGlobals "tuple" = some none) :
    ∃ fd : FuncData, (∀ (s : Shared) (v : Value), BindsTo s fd ⟨[v], []⟩ [("script", v)]) ∧ ∀ base : Heap, K.In base → base.Ns mainGlobals mg → FnOk l.prog w K mg base CX0 7 fa fd ["script"] (sp_law K) := by
  have e := hfa.symm.trans (PySem.W.mg_of X G a29)
  cases e
  let A : Nat → Addr := fun i => match i with | 6 => f6 | 7 => f7 | 8 => f8 | 10 => f10 | 11 => f11 | 12 => f12 | 13 => f13 | 14 => f14 | 15 => f15 | 16 => f16 | 17 => f17 | 19 => f19 | 20 => f20 | 21 => f21 | 22 => f22 | 23 => f23 | 24 => f24 | 25 => f25 | 26 => f26 | 27 => f27 | 28 => f28 | 29 => fa | _ => fa
  let FD : Nat → FuncData := fun i => match i with | 6 => (PySem.W.fnOf "near_lists" "near_lists" (defArgs s_near_lists) (defBody s_near_lists) (defScope s_near_lists) .none kV6 dc6 pm6 an6 cd6 ct6) | 7 => (PySem.W.fnOf "place_asked" "place_asked" (defArgs s_place_asked) (defBody s_place_asked) (defScope s_place_asked) .none kV7 dc7 pm7 an7 cd7 ct7) | 8 => (PySem.W.fnOf "neighbours_of" "neighbours_of" (defArgs s_neighbours_of) (defBody s_neighbours_of) (defScope s_neighbours_of) .none kV8 dc8 pm8 an8 cd8 ct8) | 10 => (PySem.W.fnOf "is_tree" "is_tree" (defArgs s_is_tree) (defBody s_is_tree) (defScope s_is_tree) .none kV10 dc10 pm10 an10 cd10 ct10) | 11 => (PySem.W.fnOf "tree_asked" "tree_asked" (defArgs s_tree_asked) (defBody s_tree_asked) (defScope s_tree_asked) .none kV11 dc11 pm11 an11 cd11 ct11) | 12 => (PySem.W.fnOf "rising_asked" "rising_asked" (defArgs s_rising_asked) (defBody s_rising_asked) (defScope s_rising_asked) .none kV12 dc12 pm12 an12 cd12 ct12) | 13 => (PySem.W.fnOf "all_near" "all_near" (defArgs s_all_near) (defBody s_all_near) (defScope s_all_near) .none kV13 dc13 pm13 an13 cd13 ct13) | 14 => (PySem.W.fnOf "piece_from" "piece_from" (defArgs s_piece_from) (defBody s_piece_from) (defScope s_piece_from) .none kV14 dc14 pm14 an14 cd14 ct14) | 15 => (PySem.W.fnOf "pieces_by" "pieces_by" (defArgs s_pieces_by) (defBody s_pieces_by) (defScope s_pieces_by) .none kV15 dc15 pm15 an15 cd15 ct15) | 16 => (PySem.W.fnOf "looks_in" "looks_in" (defArgs s_looks_in) (defBody s_looks_in) (defScope s_looks_in) .none kV16 dc16 pm16 an16 cd16 ct16) | 17 => (PySem.W.fnOf "tree_strength" "tree_strength" (defArgs s_tree_strength) (defBody s_tree_strength) (defScope s_tree_strength) .none kV17 dc17 pm17 an17 cd17 ct17) | 19 => (PySem.W.fnOf "_law_cells" "_law_cells" (defArgs s_law_cells) (defBody s_law_cells) (defScope s_law_cells) .none kV19 dc19 pm19 an19 cd19 ct19) | 20 => (PySem.W.fnOf "_law_pool" "_law_pool" (defArgs s_law_pool) (defBody s_law_pool) (defScope s_law_pool) .none kV20 dc20 pm20 an20 cd20 ct20) | 21 => (PySem.W.fnOf "_law_take" "_law_take" (defArgs s_law_take) (defBody s_law_take) (defScope s_law_take) .none kV21 dc21 pm21 an21 cd21 ct21) | 22 => (PySem.W.fnOf "_law_some" "_law_some" (defArgs s_law_some) (defBody s_law_some) (defScope s_law_some) .none kV22 dc22 pm22 an22 cd22 ct22) | 23 => (PySem.W.fnOf "_law_named" "_law_named" (defArgs s_law_named) (defBody s_law_named) (defScope s_law_named) .none kV23 dc23 pm23 an23 cd23 ct23) | 24 => (PySem.W.fnOf "_law_tree" "_law_tree" (defArgs s_law_tree) (defBody s_law_tree) (defScope s_law_tree) .none kV24 dc24 pm24 an24 cd24 ct24) | 25 => (PySem.W.fnOf "_law_looks" "_law_looks" (defArgs s_law_looks) (defBody s_law_looks) (defScope s_law_looks) .none kV25 dc25 pm25 an25 cd25 ct25) | 26 => (PySem.W.fnOf "_law_less" "_law_less" (defArgs s_law_less) (defBody s_law_less) (defScope s_law_less) .none kV26 dc26 pm26 an26 cd26 ct26) | 27 => (PySem.W.fnOf "_law_called" "_law_called" (defArgs s_law_called) (defBody s_law_called) (defScope s_law_called) .none kV27 dc27 pm27 an27 cd27 ct27) | 28 => (PySem.W.fnOf "_law_right" "_law_right" (defArgs s_law_right) (defBody s_law_right) (defScope s_law_right) .none kV28 dc28 pm28 an28 cd28 ct28) | 29 => (PySem.W.fnOf "law" "law" (defArgs s_law) (defBody s_law) (defScope s_law) .none kV29 dc29 pm29 an29 cd29 ct29) | _ => (PySem.W.fnOf "law" "law" (defArgs s_law) (defBody s_law) (defScope s_law) .none kV29 dc29 pm29 an29 cd29 ct29)
  have T : Tx K mg A FD := {
    d6 := dn_mk (st := s_near_lists) (ps := ["web"]) X G a6 l6 c6 k6 fun _ _ _ _ _ _ us hl => match us, hl with | [_], _ => rfl
    d7 := dn_mk (st := s_place_asked) (ps := ["web", "place"]) X G a7 l7 c7 k7 fun _ _ _ _ _ _ us hl => match us, hl with | [_, _], _ => rfl
    d8 := dn_mk (st := s_neighbours_of) (ps := ["web", "place"]) X G a8 l8 c8 k8 fun _ _ _ _ _ _ us hl => match us, hl with | [_, _], _ => rfl
    d10 := dn_mk (st := s_is_tree) (ps := ["web"]) X G a10 l10 c10 k10 fun _ _ _ _ _ _ us hl => match us, hl with | [_], _ => rfl
    d11 := dn_mk (st := s_tree_asked) (ps := ["web"]) X G a11 l11 c11 k11 fun _ _ _ _ _ _ us hl => match us, hl with | [_], _ => rfl
    d12 := dn_mk (st := s_rising_asked) (ps := ["web", "looks"]) X G a12 l12 c12 k12 fun _ _ _ _ _ _ us hl => match us, hl with | [_, _], _ => rfl
    d13 := dn_mk (st := s_all_near) (ps := ["web"]) X G a13 l13 c13 k13 fun _ _ _ _ _ _ us hl => match us, hl with | [_], _ => rfl
    d14 := dn_mk (st := s_piece_from) (ps := ["near", "place", "start"]) X G a14 l14 c14 k14 fun _ _ _ _ _ _ us hl => match us, hl with | [_, _, _], _ => rfl
    d15 := dn_mk (st := s_pieces_by) (ps := ["near", "place"]) X G a15 l15 c15 k15 fun _ _ _ _ _ _ us hl => match us, hl with | [_, _], _ => rfl
    d16 := dn_mk (st := s_looks_in) (ps := ["near", "place", "looks"]) X G a16 l16 c16 k16 fun _ _ _ _ _ _ us hl => match us, hl with | [_, _, _], _ => rfl
    d17 := dn_mk (st := s_tree_strength) (ps := ["web", "looks", "kind"]) X G a17 l17 c17 k17 fun _ _ _ _ _ _ us hl => match us, hl with | [_, _, _], _ => rfl
    d19 := dn_mk (st := s_law_cells) (ps := ["script", "many"]) X G a19 l19 c19 k19 fun _ _ _ _ _ _ us hl => match us, hl with | [_, _], _ => rfl
    d20 := dn_mk (st := s_law_pool) (ps := ["cells", "k"]) X G a20 l20 c20 k20 fun _ _ _ _ _ _ us hl => match us, hl with | [_, _], _ => rfl
    d21 := dn_mk (st := s_law_take) (ps := ["pool", "many"]) X G a21 l21 c21 k21 fun _ _ _ _ _ _ us hl => match us, hl with | [_, _], _ => rfl
    d22 := dn_mk (st := s_law_some) (ps := ["pool", "menu", "many"]) X G a22 l22 c22 k22 fun _ _ _ _ _ _ us hl => match us, hl with | [_, _, _], _ => rfl
    d23 := dn_mk (st := s_law_named) (ps := ["pool", "many", "ties"]) X G a23 l23 c23 k23 fun _ _ _ _ _ _ us hl => match us, hl with | [_, _, _], _ => rfl
    d24 := dn_mk (st := s_law_tree) (ps := ["pool", "most"]) X G a24 l24 c24 k24 fun _ _ _ _ _ _ us hl => match us, hl with | [_, _], _ => rfl
    d25 := dn_mk (st := s_law_looks) (ps := ["pool", "many"]) X G a25 l25 c25 k25 fun _ _ _ _ _ _ us hl => match us, hl with | [_, _], _ => rfl
    d26 := dn_mk (st := s_law_less) (ps := ["web", "looks", "kind"]) X G a26 l26 c26 k26 fun _ _ _ _ _ _ us hl => match us, hl with | [_, _, _], _ => rfl
    d27 := dn_mk (st := s_law_called) (ps := ["pool", "web", "looks"]) X G a27 l27 c27 k27 fun _ _ _ _ _ _ us hl => match us, hl with | [_, _, _], _ => rfl
    d28 := dn_mk (st := s_law_right) (ps := ["pool", "web", "looks", "others", "kind"]) X G a28 l28 c28 k28 fun _ _ _ _ _ _ us hl => match us, hl with | [_, _, _, _, _], _ => rfl
    d29 := dn_mk (st := s_law) (ps := ["script"]) X G a29 l29 c29 k29 fun _ _ _ _ _ _ us hl => match us, hl with | [_], _ => rfl
    n_abs := PySem.W.mg_none_of X G z_abs
    n_all := PySem.W.mg_none_of X G z_all
    n_enumerate := PySem.W.mg_none_of X G z_enumerate
    n_int := PySem.W.mg_none_of X G z_int
    n_len := PySem.W.mg_none_of X G z_len
    n_list := PySem.W.mg_none_of X G z_list
    n_max := PySem.W.mg_none_of X G z_max
    n_min := PySem.W.mg_none_of X G z_min
    n_range := PySem.W.mg_none_of X G z_range
    n_set := PySem.W.mg_none_of X G z_set
    n_sorted := PySem.W.mg_none_of X G z_sorted
    n_tuple := PySem.W.mg_none_of X G z_tuple }
  exact ⟨(PySem.W.fnOf "law" "law" (defArgs s_law) (defBody s_law) (defScope s_law) .none kV29 dc29 pm29 an29 cd29 ct29), fun s v => .of_eq rfl, fun base _ _ => ok_law (A := A) (FD := FD) T⟩
theorem walk {l : PySem.W.OpenLaw} {q : Program} {loose : List Str} {XP : (Str → Option Value) → Heap → Prop} {YP : World → Heap → Prop} {d : DefRec} {K : Params → PySem.W.Frag} (hn : l.most = some 63) (hdf : d.params.defaults = [])
    (hY : ∀ (w : World) (h : Heap), YP w h → (K w.params).In h)
    (F : ∀ (w : World) (mg : Str → Option Value) (fa : Addr) (h : Heap), (K w.params).In h → h.Ns mainGlobals mg → mg d.name = some (.ref fa) →
      ∃ fd : FuncData, (∀ (s : Shared) (u : Value), BindsTo s fd ⟨[u], []⟩ [("script", u)]) ∧ ∀ base : Heap, (K w.params).In base → base.Ns mainGlobals mg → FnOk l.prog w (K w.params) mg base CX0 7 fa fd ["script"] (sp_law (K w.params))) :
    PySem.W.WalkO q loose XP YP l.row.toRowW d [] (fun f vs => PySem.call f vs) :=
  L2.walk_of (n := 63) (k := 7) (x := "script") (CX := fun _ => CX0) (sp := fun w => sp_law (K w.params)) hn (by decide) hdf ⟨rfl, by decide, by decide⟩ hY F
    (fun _ H a ns hl _ hS => ⟨H, [], .ref a, ⟨ns⟩, rfl, ⟨Same.refl _, (fun _ z => nomatch z), List.Pairwise.nil, (fun _ z => nomatch z)⟩, ⟨a, rfl, hS⟩, by rw [law_true ns hl]; exact fun v F2 H2 w s r => r⟩) fun _ _ _ _ _ z => z
end G
open PySem PySem.W PyProof.Rows
set_option maxRecDepth 100000 in
set_option maxHeartbeats 0 in
theorem PySem.Challenge.cw_farhail_k23_whole_a_look_less_or_more_holds : PySem.Challenge.rw_farhail_k23_whole_a_look_less_or_more.Holds := by
  w_on; o_law; k_head; (case hw => w_witness2)
  k_fill
  refine G.walk (l := PySem.Challenge.rw_farhail_k23_whole_a_look_less_or_more) rfl rfl (fun w h Y => PySem.W.kIn_of Y) ?F
  case F =>
    intro w mg fa h KX Gn hmg
    refine' G.all_mk KX Gn hmg ?a6 ?l6 ?c6 ?k6 ?a7 ?l7 ?c7 ?k7 ?a8 ?l8 ?c8 ?k8 ?a10 ?l10 ?c10 ?k10 ?a11 ?l11 ?c11 ?k11 ?a12 ?l12 ?c12 ?k12 ?a13 ?l13 ?c13 ?k13 ?a14 ?l14 ?c14 ?k14 ?a15 ?l15 ?c15 ?k15 ?a16 ?l16 ?c16 ?k16 ?a17 ?l17 ?c17 ?k17 ?a19 ?l19 ?c19 ?k19 ?a20 ?l20 ?c20 ?k20 ?a21 ?l21 ?c21 ?k21 ?a22 ?l22 ?c22 ?k22 ?a23 ?l23 ?c23 ?k23 ?a24 ?l24 ?c24 ?k24 ?a25 ?l25 ?c25 ?k25 ?a26 ?l26 ?c26 ?k26 ?a27 ?l27 ?c27 ?k27 ?a28 ?l28 ?c28 ?k28 ?a29 ?l29 ?c29 ?k29 ?z_abs ?z_all ?z_enumerate ?z_int ?z_len ?z_list ?z_max ?z_min ?z_range ?z_set ?z_sorted ?z_tuple
    (case a6 => k_is); (case l6 => k_is); (case c6 => k_is); (case k6 => k_is)
    (case a7 => k_is); (case l7 => k_is); (case c7 => k_is); (case k7 => k_is)
    (case a8 => k_is); (case l8 => k_is); (case c8 => k_is); (case k8 => k_is)
    (case a10 => k_is); (case l10 => k_is); (case c10 => k_is); (case k10 => k_is)
    (case a11 => k_is); (case l11 => k_is); (case c11 => k_is); (case k11 => k_is)
    (case a12 => k_is); (case l12 => k_is); (case c12 => k_is); (case k12 => k_is)
    (case a13 => k_is); (case l13 => k_is); (case c13 => k_is); (case k13 => k_is)
    (case a14 => k_is); (case l14 => k_is); (case c14 => k_is); (case k14 => k_is)
    (case a15 => k_is); (case l15 => k_is); (case c15 => k_is); (case k15 => k_is)
    (case a16 => k_is); (case l16 => k_is); (case c16 => k_is); (case k16 => k_is)
    (case a17 => k_is); (case l17 => k_is); (case c17 => k_is); (case k17 => k_is)
    (case a19 => k_is); (case l19 => k_is); (case c19 => k_is); (case k19 => k_is)
    (case a20 => k_is); (case l20 => k_is); (case c20 => k_is); (case k20 => k_is)
    (case a21 => k_is); (case l21 => k_is); (case c21 => k_is); (case k21 => k_is)
    (case a22 => k_is); (case l22 => k_is); (case c22 => k_is); (case k22 => k_is)
    (case a23 => k_is); (case l23 => k_is); (case c23 => k_is); (case k23 => k_is)
    (case a24 => k_is); (case l24 => k_is); (case c24 => k_is); (case k24 => k_is)
    (case a25 => k_is); (case l25 => k_is); (case c25 => k_is); (case k25 => k_is)
    (case a26 => k_is); (case l26 => k_is); (case c26 => k_is); (case k26 => k_is)
    (case a27 => k_is); (case l27 => k_is); (case c27 => k_is); (case k27 => k_is)
    (case a28 => k_is); (case l28 => k_is); (case c28 => k_is); (case k28 => k_is)
    (case a29 => k_is); (case l29 => k_is); (case c29 => k_is); (case k29 => k_is)
    (case z_abs => k_is)
    (case z_all => k_is)
    (case z_enumerate => k_is)
    (case z_int => k_is)
    (case z_len => k_is)
    (case z_list => k_is)
    (case z_max => k_is)
    (case z_min => k_is)
    (case z_range => k_is)
    (case z_set => k_is)
    (case z_sorted => k_is)
    (case z_tuple => k_is)
#print axioms PySem.Challenge.cw_farhail_k23_whole_a_look_less_or_more_holds
