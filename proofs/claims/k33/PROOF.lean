import PyProof.Rows.All
import Wide.All
import OpenK.AllK
import Wide.FinOn
import HandS.ForMost
import HandS.Wide
import HandS.Walk
import HandS.Deep
import HandS.SortInts
import HandS.Flow
import HandS.IsInst
import PyProof.P3In
import HandS.TupSets
import HandS.Dict
import HandS.Conv
import HandS.SortRule
import KE.KIsAll
import HandS.Base
import HandS.Call
import HandS.Exc
import HandS.ExcOwn
import HandS.ExcIs
import HandS.ExcValue
import HandS.TryOnly
import HandS.WordsExc
import HandS.TupAny
import HandS.DictTup
import KE.KDictWalk
import HandS.SetFor
import HandS.Iter
import KE.IntBitsLaws
import PyProof.AutoSeq1
import HandS.NoneIn
import HandS.List
import HandS.Star
import HandS.Sort
import HandS.SortOrd
import HandS.Strs
import HandS.More
import HandS.Style
import PySem.Challenge.RW_farhail_k33_things_by_their_codes
set_option Elab.async false
set_option linter.all false
set_option maxRecDepth 100000
set_option maxHeartbeats 4000000
/-! Z0: results with refusals, data as it stands in a heap, the heap in a frozen part and cells of one's own -/
namespace Z
open PySem L2

abbrev Fg := PySem.W.Frag

/-! ### results -/
structure Exn where
  cls : Str
  arg : Int
  deriving DecidableEq

inductive R (α : Type) where
  | ok (a : α)
  | exc (e : Exn)
  | bad

def R.bind {α β : Type} (m : R α) (f : α → R β) : R β :=
  match m with
  | .ok a => f a
  | .exc e => .exc e
  | .bad => .bad
instance : Monad R where
  pure := R.ok
  bind := R.bind
section
variable {α β γ : Type}
theorem ok_bind (a : α) (f : α → R β) : (R.ok a >>= f) = f a := rfl
theorem pure_bind' (a : α) (f : α → R β) : ((pure a : R α) >>= f) = f a := rfl
theorem exc_bind (e : Exn) (f : α → R β) : ((R.exc e : R α) >>= f) = R.exc e := rfl
theorem bad_bind (f : α → R β) : ((R.bad : R α) >>= f) = R.bad := rfl
theorem pure_ok (a : α) : (pure a : R α) = R.ok a := rfl
theorem bind_bind (m : R α) (f : α → R β) (g : β → R γ) : ((m >>= f) >>= g) = (m >>= fun a => f a >>= g) := by
  cases m <;> rfl
theorem bind_ok_iff {m : R α} {f : α → R β} {b : β} : (m >>= f) = R.ok b ↔ ∃ a, m = R.ok a ∧ f a = R.ok b := by
  cases m with
  | ok a => exact ⟨fun h => ⟨a, rfl, h⟩, fun ⟨_, h1, h2⟩ => by cases h1; exact h2⟩
  | exc e => exact ⟨fun h => (nomatch (show R.exc e = R.ok b from h)), fun ⟨_, h1, _⟩ => nomatch h1⟩
  | bad => exact ⟨fun h => (nomatch (show R.bad = R.ok b from h)), fun ⟨_, h1, _⟩ => nomatch h1⟩
def grd (b : Bool) : R Unit := if b = true then .ok () else .bad
theorem grd_t {b : Bool} (h : b = true) : grd b = R.ok () := by rw [h]; rfl
def ofO (o : Option α) : R α :=
  match o with
  | some a => .ok a
  | none => .bad
theorem ofO_some (a : α) : ofO (some a) = R.ok a := rfl
/-- the item at an index of any sign -/
def getI (xs : List α) (i : Int) : R α := ofO (atI xs i)
/-- the list with another item at an index -/
def setI (xs : List α) (i : Int) (x : α) : R (List α) :=
  match ixN xs.length i with
  | some j => .ok (xs.set j x)
  | none => .bad
/-- a list of at most a thousand items grows by one -/
def app (xs : List α) (x : α) : R (List α) := if xs.length < 100000 then .ok (xs ++ [x]) else .bad
def extend (xs ys : List α) : R (List α) := if xs.length + ys.length < 100000 then .ok (xs ++ ys) else .bad
@[irreducible] def mulI (i j : Int) : R Int := if (-(2 ^ 64) < i ∧ i < 2 ^ 64) ∨ (-(2 ^ 64) < j ∧ j < 2 ^ 64) then .ok (i * j) else .bad
@[irreducible] def modI (i j : Int) : R Int := if 0 < j then .ok (i % j) else .bad
@[irreducible] def divI (i j : Int) : R Int := if 0 < j ∧ j.natAbs.log2 < 9000 then .ok (i / j) else .bad
@[irreducible] def powI (i j : Int) : R Int := if 0 ≤ j ∧ j ≤ 1000000 ∧ i.natAbs < 2 ^ 64 then .ok (i ^ j.toNat) else .bad
/-- the ints from i on below j -/
def rng (i j : Int) : List Int := (List.range (j - i).toNat).map fun (k : Nat) => i + (k : Int)
@[irreducible] def rngI (i j : Int) : R (List Int) := if -(2 ^ 62) ≤ i ∧ i < 2 ^ 62 ∧ -(2 ^ 62) ≤ j ∧ j < 2 ^ 62 then .ok (rng i j) else .bad
/-- items for items -/
def mapR (f : α → R β) : List α → R (List β)
  | [] => .ok []
  | x :: xs => do
    let y ← f x
    let ys ← mapR f xs
    pure (y :: ys)
/-- a fold whose turn may leave -/
def foldR (f : β → α → R β) : β → List α → R β
  | s, [] => .ok s
  | s, x :: xs => f s x >>= fun s' => foldR f s' xs
/-- a fold whose turn may end the whole with a value (inl), or the loop alone (inr inl) -/
def foldX {ρ : Type} (f : β → α → R (Sum ρ (Bool × β))) : β → List α → R (Sum ρ β)
  | s, [] => .ok (.inr s)
  | s, x :: xs => f s x >>= fun r =>
    match r with
    | .inl z => .ok (.inl z)
    | .inr (true, s') => foldX f s' xs
    | .inr (false, s') => .ok (.inr s')
/-- what holds of a result -/
def Post (m : R α) (P : α → Prop) (E : Exn → Prop) : Prop :=
  match m with
  | .ok a => P a
  | .exc e => E e
  | .bad => False
variable {P P' : α → Prop} {Q : β → Prop} {E E' : Exn → Prop}
theorem Post.mono {m : R α} (h : Post m P E) (hP : ∀ a, P a → P' a) (hE : ∀ e, E e → E' e) : Post m P' E' := by
  cases m with
  | ok a => exact hP a h
  | exc e => exact hE e h
  | bad => exact h
theorem post_bind {m : R α} {f : α → R β} (h : Post (m >>= f) Q E) : Post m (fun a => Post (f a) Q E) E := by
  cases m <;> exact h
theorem post_ok {a : α} (h : Post (R.ok a) P E) : P a := h
theorem pb_ok {a : α} {f : α → R β} (h : Post (R.ok a >>= f) Q E) : Post (f a) Q E := h
theorem pb_pure {a : α} {f : α → R β} (h : Post ((pure a : R α) >>= f) Q E) : Post (f a) Q E := h
theorem pb_assoc {m : R α} {f : α → R β} {g : β → R γ} {Q : γ → Prop} (h : Post ((m >>= f) >>= g) Q E) : Post (m >>= fun a => f a >>= g) Q E := by
  rw [bind_bind] at h
  exact h
theorem pb_grd {b : Bool} {f : Unit → R β} (h : Post (grd b >>= f) Q E) : b = true ∧ Post (f ()) Q E := by
  cases b with
  | true => exact ⟨rfl, h⟩
  | false => exact (show False from h).elim
theorem pb_ofO {o : Option α} {f : α → R β} (h : Post (ofO o >>= f) Q E) : ∃ a, o = some a ∧ Post (f a) Q E := by
  cases o with
  | some a => exact ⟨a, rfl, h⟩
  | none => exact (show False from h).elim
theorem pb_get {xs : List α} {i : Int} {f : α → R β} (h : Post (getI xs i >>= f) Q E) : ∃ a, atI xs i = some a ∧ Post (f a) Q E := pb_ofO h
theorem pb_set {xs : List α} {i : Int} {x : α} {f : List α → R β} (h : Post (setI xs i x >>= f) Q E) : ∃ j, ixN xs.length i = some j ∧ Post (f (xs.set j x)) Q E := by
  unfold setI at h
  cases e : ixN xs.length i with
  | some j => rw [e] at h; exact ⟨j, rfl, h⟩
  | none => rw [e] at h; exact (show False from h).elim
theorem pb_if {c : Prop} [Decidable c] {a : α} {f : α → R β} (h : Post ((if c then R.ok a else R.bad) >>= f) Q E) : c ∧ Post (f a) Q E := by
  by_cases hc : c
  · rw [if_pos hc] at h
    exact ⟨hc, h⟩
  · rw [if_neg hc] at h
    exact (show False from h).elim
theorem line5 : 100000 ≤ sizeLine := by decide
theorem pb_app {xs : List α} {x : α} {f : List α → R β} (h : Post (app xs x >>= f) Q E) : xs.length < sizeLine ∧ Post (f (xs ++ [x])) Q E :=
  let ⟨a, b⟩ := pb_if h
  ⟨Nat.lt_of_lt_of_le a line5, b⟩
theorem pb_extend {xs ys : List α} {f : List α → R β} (h : Post (extend xs ys >>= f) Q E) : xs.length + ys.length ≤ sizeLine ∧ Post (f (xs ++ ys)) Q E :=
  let ⟨a, b⟩ := pb_if h
  ⟨Nat.le_of_lt (Nat.lt_of_lt_of_le a line5), b⟩
theorem pb_mul {i j : Int} {f : Int → R β} (h : Post (mulI i j >>= f) Q E) : CMul i j ∧ Post (f (i * j)) Q E := by
  unfold mulI at h
  exact let ⟨a, b⟩ := pb_if (c := (-(2 ^ 64) < i ∧ i < 2 ^ 64) ∨ (-(2 ^ 64) < j ∧ j < 2 ^ 64)) h
  ⟨a, b⟩
theorem pb_mod {i j : Int} {f : Int → R β} (h : Post (modI i j >>= f) Q E) : 0 < j ∧ Post (f (i % j)) Q E := by
  unfold modI at h
  exact pb_if h
theorem pb_div {i j : Int} {f : Int → R β} (h : Post (divI i j >>= f) Q E) : CDivW i j ∧ Post (f (i / j)) Q E := by
  unfold divI at h
  exact let ⟨a, b⟩ := pb_if (c := 0 < j ∧ j.natAbs.log2 < 9000) h
  ⟨a, b⟩
theorem pb_pow {i j : Int} {f : Int → R β} (h : Post (powI i j >>= f) Q E) : CPow i j ∧ Post (f (i ^ j.toNat)) Q E := by
  unfold powI at h
  exact let ⟨a, b⟩ := pb_if (c := 0 ≤ j ∧ j ≤ 1000000 ∧ i.natAbs < 2 ^ 64) h
  ⟨a, b⟩
theorem pb_rng {i j : Int} {f : List Int → R β} (h : Post (rngI i j >>= f) Q E) : (-(2 ^ 62) ≤ i ∧ i < 2 ^ 62 ∧ -(2 ^ 62) ≤ j ∧ j < 2 ^ 62) ∧ Post (f (rng i j)) Q E := by
  unfold rngI at h
  exact pb_if h
theorem post_ite {c : Bool} {m n : R α} {A B : Prop} (h : Post (if c = true then m else n) P E) (ht : c = true → Post m P E → A) (hf : c = false → Post n P E → B) : if c = true then A else B := by
  cases c with
  | true => exact ht rfl h
  | false => exact hf rfl h
theorem post_ite2 {c : Bool} {m n : R α} {A : Prop} (h : Post (if c = true then m else n) P E) (ht : c = true → Post m P E → A) (hf : c = false → Post n P E → A) : A := by
  cases c with
  | true => exact ht rfl h
  | false => exact hf rfl h
theorem pb_ite {c : Bool} {m n : R α} {f : α → R β} (h : Post ((if c = true then m else n) >>= f) Q E) : Post (if c = true then m >>= f else n >>= f) Q E := by
  cases c <;> exact h
theorem pb_foldR {f : γ → α → R γ} {s : γ} {x : α} {xs : List α} {g : γ → R β} (h : Post (foldR f s (x :: xs) >>= g) Q E) : Post (f s x >>= fun s' => foldR f s' xs >>= g) Q E := by
  have h' : Post ((f s x >>= fun s' => foldR f s' xs) >>= g) Q E := h
  rw [bind_bind] at h'
  exact h'
end

/-! ### lists of values and what they stand for -/
inductive A2 {α : Type} (r : V → α → Prop) : List V → List α → Prop
  | nil : A2 r [] []
  | cons {v : V} {x : α} {vs : List V} {xs : List α} : r v x → A2 r vs xs → A2 r (v :: vs) (x :: xs)
section
variable {α : Type} {r r' : V → α → Prop} {vs us : List V} {xs ys : List α} {v : V} {x : α}
theorem A2.length : ∀ {vs : List V} {xs : List α}, A2 r vs xs → vs.length = xs.length
  | _, _, .nil => rfl
  | _, _, .cons _ t => by rw [List.length_cons, List.length_cons, A2.length t]
theorem A2.imp (f : ∀ v x, r v x → r' v x) : ∀ {vs : List V} {xs : List α}, A2 r vs xs → A2 r' vs xs
  | _, _, .nil => .nil
  | _, _, .cons h t => .cons (f _ _ h) (A2.imp f t)
theorem A2.append : ∀ {vs us : List V} {xs ys : List α}, A2 r vs xs → A2 r us ys → A2 r (vs ++ us) (xs ++ ys)
  | _, _, _, _, .nil, h => h
  | _, _, _, _, .cons a t, h => .cons a (A2.append t h)
theorem A2.snoc (h : A2 r vs xs) (a : r v x) : A2 r (vs ++ [v]) (xs ++ [x]) := h.append (.cons a .nil)
theorem A2.get : ∀ {vs : List V} {xs : List α} {i : Nat} {x : α}, A2 r vs xs → xs[i]? = some x → ∃ v, vs[i]? = some v ∧ r v x
  | _, _, _, _, .nil, e => by simp at e
  | _, _, 0, _, .cons a _, e => by simp at e; subst e; exact ⟨_, rfl, a⟩
  | _, _, i + 1, x, .cons _ t, e => by
    obtain ⟨v, h1, h2⟩ := A2.get (i := i) (x := x) t (by simpa using e)
    exact ⟨v, by simpa using h1, h2⟩
theorem A2.getV : ∀ {vs : List V} {xs : List α} {i : Nat} {v : V}, A2 r vs xs → vs[i]? = some v → ∃ x, xs[i]? = some x ∧ r v x
  | _, _, _, _, .nil, e => by simp at e
  | _, _, 0, _, .cons a _, e => by simp at e; subst e; exact ⟨_, rfl, a⟩
  | _, _, i + 1, x, .cons _ t, e => by
    obtain ⟨v, h1, h2⟩ := A2.getV (i := i) (v := x) t (by simpa using e)
    exact ⟨v, by simpa using h1, h2⟩
theorem A2.at {i : Int} (h : A2 r vs xs) (e : atI xs i = some x) : ∃ v, atI vs i = some v ∧ r v x := by
  unfold atI at e ⊢
  rw [h.length]
  cases q : ixN xs.length i with
  | none => rw [q] at e; cases e
  | some j =>
    rw [q] at e
    exact h.get e
theorem A2.set (a : r v x) : ∀ {vs : List V} {xs : List α} (i : Nat), A2 r vs xs → A2 r (vs.set i v) (xs.set i x)
  | _, _, _, .nil => .nil
  | _, _, 0, .cons _ t => .cons a t
  | _, _, i + 1, .cons q t => .cons q (A2.set a i t)
theorem A2.take : ∀ {vs : List V} {xs : List α} (n : Nat), A2 r vs xs → A2 r (vs.take n) (xs.take n)
  | _, _, 0, _ => .nil
  | _, _, _ + 1, .nil => .nil
  | _, _, n + 1, .cons a t => .cons a (A2.take n t)
theorem A2.drop : ∀ {vs : List V} {xs : List α} (n : Nat), A2 r vs xs → A2 r (vs.drop n) (xs.drop n)
  | _, _, 0, h => h
  | _, _, _ + 1, .nil => .nil
  | _, _, n + 1, .cons _ t => A2.drop n t
theorem A2.reverse : ∀ {vs : List V} {xs : List α}, A2 r vs xs → A2 r vs.reverse xs.reverse
  | _, _, .nil => .nil
  | _, _, .cons a t => by
    rw [List.reverse_cons, List.reverse_cons]
    exact (A2.reverse t).snoc a
theorem A2.eraseIdx : ∀ {vs : List V} {xs : List α} (i : Nat), A2 r vs xs → A2 r (vs.eraseIdx i) (xs.eraseIdx i)
  | _, _, _, .nil => .nil
  | _, _, 0, .cons _ t => t
  | _, _, i + 1, .cons a t => .cons a (A2.eraseIdx i t)
theorem A2.dropLast : ∀ {vs : List V} {xs : List α}, A2 r vs xs → A2 r vs.dropLast xs.dropLast
  | _, _, .nil => .nil
  | _, _, .cons _ .nil => .nil
  | _, _, .cons a (.cons b t) => .cons a (A2.dropLast (.cons b t))
theorem A2.repl {n : Nat} (a : r v x) : A2 r (List.replicate n v) (List.replicate n x) := by
  induction n with
  | zero => exact .nil
  | succ n ih => exact .cons a ih
end

/-! ### data in a heap -/
theorem Same.seqT {K : Fg} {H H' : Hp} {a : Addr} {xs : List V} (e : Same H H') (h : SqT K H a xs) : SqT K H' a xs := by
  rcases h with (h | ⟨o, h⟩) | h
  · exact .inl (.inl (e _ _ h))
  · exact .inl (.inr ⟨o, e _ _ h⟩)
  · exact .inr h
class Rep (α : Type) where
  rep : Fg → Hp → V → α → Prop
  mono : ∀ {K : Fg} {H H' : Hp} {v : V} {x : α}, Same H H' → rep K H v x → rep K H' v x
open Rep (rep)
section
variable {α β : Type} [Rep α] [Rep β] {K : Fg} {H H' : Hp} {v : V}
theorem A2.mono {vs : List V} {xs : List α} (s : Same H H') (h : A2 (rep K H) vs xs) : A2 (rep K H') vs xs := h.imp fun _ _ => Rep.mono s
instance : Rep Int := ⟨fun _ _ v x => v = .int x, fun _ h => h⟩
instance : Rep Bool := ⟨fun _ _ v x => v = .bl x, fun _ h => h⟩
instance : Rep Unit := ⟨fun _ _ v _ => v = .non, fun _ h => h⟩
instance : Rep Str := ⟨fun _ _ v x => v = .str x, fun _ h => h⟩
instance repOpt : Rep (Option α) := ⟨fun K H v x => match x with
  | none => v = .non
  | some y => rep K H v y, fun {_ _ _ _ x} s h => by
    cases x with
    | none => exact h
    | some y => exact Rep.mono (α := α) s h⟩
instance repPair : Rep (α × β) := ⟨fun K H v x => ∃ a u w, v = .ref a ∧ H a = some (.tup [u, w]) ∧ rep K H u x.1 ∧ rep K H w x.2,
  fun s ⟨a, u, w, e, q, h1, h2⟩ => ⟨a, u, w, e, s _ _ q, Rep.mono s h1, Rep.mono s h2⟩⟩
instance repList : Rep (List α) := ⟨fun K H v xs => ∃ a vs, v = .ref a ∧ H a = some (.lst vs) ∧ A2 (rep K H) vs xs,
  fun s ⟨a, vs, e, q, h⟩ => ⟨a, vs, e, s _ _ q, h.mono s⟩⟩
/-- the script -/
structure Scr where
  l : List Int
  deriving DecidableEq
instance repScr : Rep Scr := ⟨fun K H v xs => ∃ a, v = .ref a ∧ SqL K H a (xs.l.map V.int), fun s ⟨a, e, q⟩ => ⟨a, e, s.seq q⟩⟩
/-- a tuple of any number of like things -/
structure Tup (α : Type) where
  l : List α
  deriving DecidableEq
instance repTup : Rep (Tup α) := ⟨fun K H v xs => ∃ a vs, v = .ref a ∧ H a = some (.tup vs) ∧ A2 (rep K H) vs xs.l,
  fun s ⟨a, vs, e, q, h⟩ => ⟨a, vs, e, s _ _ q, h.mono s⟩⟩
/-- a place, or a pair -/
inductive Thing where
  | pl (i : Int)
  | ti (a b : Int)
  deriving DecidableEq
instance repThing : Rep Thing := ⟨fun K H v x => match x with
  | .pl i => v = .int i
  | .ti a b => rep K H v (a, b), fun {_ _ _ _ x} s h => by
    cases x with
    | pl i => exact h
    | ti a b => exact Rep.mono (α := Int × Int) s h⟩
theorem A2.ints {vs : List V} {xs : List Int} (h : A2 (rep K H) vs xs) : vs = xs.map V.int := by
  induction h with
  | nil => rfl
  | cons a _ ih =>
    have a' : _ = V.int _ := a
    rw [a', ih]
    rfl
theorem A2.of_ints {xs : List Int} : A2 (rep K H) (xs.map V.int) xs := by
  induction xs with
  | nil => exact .nil
  | cons x xs ih => exact .cons rfl ih
theorem A2.bools {vs : List V} {xs : List Bool} (h : A2 (rep K H) vs xs) : vs = xs.map V.bl := by
  induction h with
  | nil => rfl
  | cons a _ ih =>
    have a' : _ = V.bl _ := a
    rw [a', ih]
    rfl
end

/-! ### the heap: F, frozen, is read alone; the cells os are one's own, not in F -/
structure W (F H : Hp) (os : List (Addr × HO)) : Prop where
  same : Same F H
  own : ∀ p ∈ os, H p.1 = some p.2 ∧ F p.1 = none
  nd : os.Pairwise fun p q => p.1 ≠ q.1
  nt : ∀ p ∈ os, ∀ vs, p.2 ≠ .tup vs
theorem same_new {H : Hp} {p : Addr} {o : HO} (h : H p = none) : Same H (upd H p o) := fun a u e => by
  rw [upd_ne (ne_of_none e h)]
  exact e
section
variable {F H : Hp} {os pre post : List (Addr × HO)} {a p : Addr} {o o' : HO}
theorem W.free (w : W F H os) (n : H p = none) : F p = none := w.same.free n
theorem W.get (w : W F H (pre ++ (a, o) :: post)) : H a = some o := (w.own (a, o) (List.mem_append_right _ List.mem_cons_self)).1
theorem W.no (w : W F H (pre ++ (a, o) :: post)) : F a = none := (w.own (a, o) (List.mem_append_right _ List.mem_cons_self)).2
theorem W.ne (w : W F H os) (n : H p = none) : ∀ q ∈ os, q.1 ≠ p := fun q hq e => by
  have h := (w.own q hq).1
  rw [e, n] at h
  cases h
/-- a new thing, never to be written -/
theorem W.frz (w : W F H os) (n : H p = none) : W (upd F p o) (upd H p o) os where
  same := fun b u e => by
    by_cases hb : b = p
    · subst hb
      rw [upd_same] at e ⊢
      exact e
    · rw [upd_ne hb] at e ⊢
      exact w.same b u e
  own := fun q hq => by
    have hne := w.ne n q hq
    rw [upd_ne hne, upd_ne hne]
    exact w.own q hq
  nd := w.nd
  nt := w.nt
theorem W.frzS (w : W F H os) (n : H p = none) : Same F (upd F p o) := same_new (w.free n)
/-- a new cell of one's own -/
theorem W.new (w : W F H os) (n : H p = none) (ho : ∀ vs, o ≠ .tup vs := by exact fun _ h => nomatch h) : W F (upd H p o) ((p, o) :: os) where
  same := w.same.trans (same_new n)
  own := fun q hq => by
    rcases List.mem_cons.mp hq with rfl | hq
    · exact ⟨upd_same, w.free n⟩
    · rw [upd_ne (w.ne n q hq)]
      exact w.own q hq
  nd := List.pairwise_cons.mpr ⟨fun q hq => fun e => w.ne n q hq e.symm, w.nd⟩
  nt := fun q hq => by
    rcases List.mem_cons.mp hq with rfl | hq
    · exact ho
    · exact w.nt q hq
/-- a cell of one's own is written -/
theorem W.set (w : W F H (pre ++ (a, o) :: post)) (ho : ∀ vs, o' ≠ .tup vs := by exact fun _ h => nomatch h) : W F (upd H a o') (pre ++ (a, o') :: post) where
  same := fun b u e => by
    have hn := w.no
    rw [upd_ne (ne_of_none e hn)]
    exact w.same b u e
  own := fun q hq => by
    have nd := w.nd
    rw [List.pairwise_append] at nd
    obtain ⟨_, n2, n3⟩ := nd
    rw [List.pairwise_cons] at n2
    rcases List.mem_append.mp hq with hq | hq
    · have hne : q.1 ≠ a := n3 q hq (a, o) List.mem_cons_self
      rw [upd_ne hne]
      exact w.own q (List.mem_append_left _ hq)
    · rcases List.mem_cons.mp hq with rfl | hq
      · exact ⟨upd_same, w.no⟩
      · have hne : q.1 ≠ a := fun e => n2.1 q hq e.symm
        rw [upd_ne hne]
        exact w.own q (List.mem_append_right _ (List.mem_cons_of_mem _ hq))
  nd := by
    have nd := w.nd
    rw [List.pairwise_append] at nd ⊢
    obtain ⟨n1, n2, n3⟩ := nd
    rw [List.pairwise_cons] at n2 ⊢
    refine ⟨n1, ⟨n2.1, n2.2⟩, fun x hx y hy => ?_⟩
    rcases List.mem_cons.mp hy with rfl | hy
    · exact n3 x hx (a, o) List.mem_cons_self
    · exact n3 x hx y (List.mem_cons_of_mem _ hy)
  nt := fun q hq => by
    rcases List.mem_append.mp hq with hq | hq
    · exact w.nt q (List.mem_append_left _ hq)
    · rcases List.mem_cons.mp hq with rfl | hq
      · exact ho
      · exact w.nt q (List.mem_append_right _ (List.mem_cons_of_mem _ hq))
/-- a cell is forgotten -/
theorem W.drop (w : W F H (pre ++ (a, o) :: post)) : W F H (pre ++ post) where
  same := w.same
  own := fun q hq => w.own q (by
    rcases List.mem_append.mp hq with h | h
    · exact List.mem_append_left _ h
    · exact List.mem_append_right _ (List.mem_cons_of_mem _ h))
  nd := by
    have nd := w.nd
    rw [List.pairwise_append] at nd ⊢
    obtain ⟨n1, n2, n3⟩ := nd
    rw [List.pairwise_cons] at n2
    exact ⟨n1, n2.2, fun x hx y hy => n3 x hx y (List.mem_cons_of_mem _ hy)⟩
  nt := fun q hq => w.nt q (by
    rcases List.mem_append.mp hq with h | h
    · exact List.mem_append_left _ h
    · exact List.mem_append_right _ (List.mem_cons_of_mem _ h))
/-- a cell of one's own is never written again -/
theorem W.freeze (w : W F H (pre ++ (a, o) :: post)) : W (upd F a o) H (pre ++ post) where
  same := fun b u e => by
    by_cases hb : b = a
    · subst hb
      rw [upd_same] at e
      rw [← e]
      exact w.get
    · rw [upd_ne hb] at e
      exact w.same b u e
  own := fun q hq => by
    have nd := w.nd
    rw [List.pairwise_append] at nd
    obtain ⟨n1, n2, n3⟩ := nd
    rw [List.pairwise_cons] at n2
    have hne : q.1 ≠ a := by
      rcases List.mem_append.mp hq with h | h
      · exact n3 q h (a, o) List.mem_cons_self
      · exact fun e => n2.1 q h e.symm
    have h := w.drop.own q hq
    rw [upd_ne hne]
    exact h
  nd := w.drop.nd
  nt := w.drop.nt
theorem W.freezeS (w : W F H (pre ++ (a, o) :: post)) : Same F (upd F a o) := same_new w.no
/-- a cell is told first -/
theorem W.front (w : W F H (pre ++ (a, o) :: post)) : W F H ((a, o) :: (pre ++ post)) where
  same := w.same
  own := fun x hx => w.own x (by
    rcases List.mem_cons.mp hx with rfl | h
    · exact List.mem_append_right _ List.mem_cons_self
    · rcases List.mem_append.mp h with h | h
      · exact List.mem_append_left _ h
      · exact List.mem_append_right _ (List.mem_cons_of_mem _ h))
  nd := by
    have nd := w.nd
    have nd' := w.drop.nd
    rw [List.pairwise_append] at nd
    obtain ⟨n1, n2, n3⟩ := nd
    rw [List.pairwise_cons] at n2
    refine List.pairwise_cons.mpr ⟨fun x hx => ?_, nd'⟩
    rcases List.mem_append.mp hx with h | h
    · exact fun e => n3 x h (a, o) List.mem_cons_self e.symm
    · exact n2.1 x h
  nt := fun x hx => w.nt x (by
    rcases List.mem_cons.mp hx with rfl | h
    · exact List.mem_append_right _ List.mem_cons_self
    · rcases List.mem_append.mp h with h | h
      · exact List.mem_append_left _ h
      · exact List.mem_append_right _ (List.mem_cons_of_mem _ h))
end

/-! ### what a call hands back -/
section
variable {α β : Type} [Rep α] [Rep β]
/-- a value of the frozen part -/
def Ret (K : Fg) (F : Hp) (os : List (Addr × HO)) (Q : VK) (y : α) : Prop := ∀ v F' H', W F' H' os → Same F F' → rep K F' v y → Q v H'
/-- a new list, the caller's own -/
def RetL (K : Fg) (F : Hp) (os : List (Addr × HO)) (Q : VK) (ys : List α) : Prop := ∀ p vs F' H', W F' H' ((p, .lst vs) :: os) → Same F F' → A2 (rep K F') vs ys → Q (.ref p) H'
/-- a value, and what the list at a holds now -/
def RetM (K : Fg) (F : Hp) (a : Addr) (os : List (Addr × HO)) (Q : VK) (y : α × List β) : Prop :=
  ∀ v vs F' H', W F' H' ((a, .lst vs) :: os) → Same F F' → rep K F' v y.1 → A2 (rep K F') vs y.2 → Q v H'
/-- a new list, the caller's own, and what the list at a holds now -/
def RetLM (K : Fg) (F : Hp) (a : Addr) (os : List (Addr × HO)) (Q : VK) (y : List α × List β) : Prop :=
  ∀ p us vs F' H', W F' H' ((p, .lst us) :: (a, .lst vs) :: os) → Same F F' → A2 (rep K F') us y.1 → A2 (rep K F') vs y.2 → Q (.ref p) H'
def noX : Exn → Prop := fun _ => False
end
end Z
/-! Z1: loops, comprehensions and joins against their mirrors; calls by typed data -/
namespace Z
open PySem L2
open Rep (rep)

/-! ### ways that join -/
section
variable {γ δ : Type} {m : R γ} {k : γ → R δ} {P : δ → Prop} {X : Exn → Prop}
theorem joinS {t u : TS} {D : Ends} {σ : St} {H : Hp} (hm : Post (m >>= k) P X) (J : γ → St → Hp → Prop)
    (h : ∀ (N : St → Hp → Prop) (P' : γ → Prop), (∀ g, P' g → ∀ σ' H', J g σ' H' → N σ' H') → Post m P' X → t { D with nx := N } σ H)
    (h2 : ∀ g σ' H', J g σ' H' → Post (k g) P X → u D σ' H') : tSeq t u D σ H :=
  h _ _ (fun g p σ' H' j => h2 g σ' H' j p) (post_bind hm)
theorem joinT {t : TT} {σ : St} {H : Hp} {Q : Bool → Hp → Prop} (hm : Post (m >>= k) P X) (J : γ → Bool → Hp → Prop)
    (h : ∀ (Q' : Bool → Hp → Prop) (P' : γ → Prop), (∀ g, P' g → ∀ c H', J g c H' → Q' c H') → Post m P' X → t σ H Q')
    (h2 : ∀ g c H', J g c H' → Post (k g) P X → Q c H') : t σ H Q :=
  h _ _ (fun g p c H' j => h2 g c H' j p) (post_bind hm)
theorem joinE {t : TE} {σ : St} {H : Hp} {Q : VK} (hm : Post (m >>= k) P X) (J : γ → V → Hp → Prop)
    (h : ∀ (Q' : VK) (P' : γ → Prop), (∀ g, P' g → ∀ c H', J g c H' → Q' c H') → Post m P' X → t σ H Q')
    (h2 : ∀ g c H', J g c H' → Post (k g) P X → Q c H') : t σ H Q :=
  h _ _ (fun g p c H' j => h2 g c H' j p) (post_bind hm)
/-- a test of a value that is told -/
theorem cutT {t : TT} {σ : St} {H : Hp} {Q : Bool → Hp → Prop} (J : Bool → Hp → Prop) (h : ∀ Q' : Bool → Hp → Prop, (∀ c H', J c H' → Q' c H') → t σ H Q') (h2 : ∀ c H', J c H' → Q c H') : t σ H Q := h _ h2
theorem cutE {t : TE} {σ : St} {H : Hp} {Q : VK} (J : V → Hp → Prop) (h : ∀ Q' : VK, (∀ c H', J c H' → Q' c H') → t σ H Q') (h2 : ∀ c H', J c H' → Q c H') : t σ H Q := h _ h2
theorem ifB {c : Bool} {A B : Prop} (h1 : c = true → A) (h2 : c = false → B) : if c = true then A else B := by
  cases c with
  | true => exact h1 rfl
  | false => exact h2 rfl
end

/-! ### what is walked, typed -/
structure TW (J : It) {β : Type} (items : List β) (G : Hp → Prop) (Y : β → Hp → V → Hp → Prop) : Prop where
  walk : Walk J items.length G (fun i H x H' => ∃ b, items[i]? = some b ∧ Y b H x H')
section
variable {K : Fg} {F : Hp} {a : Addr} {α β : Type} [Rep α] [Rep β] {vs us : List V} {xs : List α} {ys : List β}
theorem tw_list (h : A2 (rep K F) vs xs) : TW (Itl K a) xs (fun H => SqL K H a vs) (fun b H x H' => H' = H ∧ rep K F x b) := ⟨by
  rw [← h.length]
  exact walk_list.mono (fun _ g => g) fun i H x H' _ _ y => by
    obtain ⟨y1, y2⟩ := y
    obtain ⟨b, h1, h2⟩ := h.getV y2
    exact ⟨b, h1, y1, h2⟩⟩
theorem tw_tup (h : A2 (rep K F) vs xs) : TW (Itt K a) xs (fun H => SqT K H a vs) (fun b H x H' => H' = H ∧ rep K F x b) := ⟨by
  rw [← h.length]
  exact walk_tup.mono (fun _ g => g) fun i H x H' _ _ y => by
    obtain ⟨y1, y2⟩ := y
    obtain ⟨b, h1, h2⟩ := h.getV y2
    exact ⟨b, h1, y1, h2⟩⟩
theorem rng_length (i j : Int) : (rng i j).length = (j - i).toNat := by
  unfold rng
  rw [List.length_map, List.length_range]
theorem rng_get {i j : Int} {n : Nat} (h : n < (j - i).toNat) : (rng i j)[n]? = some (i + (n : Int)) := by
  unfold rng
  rw [List.getElem?_map, List.getElem?_range h]
  rfl
theorem tw_rng {i j : Int} : TW (Itr i (j - i).toNat) (rng i j) (fun _ => True) (fun b H x H' => H' = H ∧ x = .int b) := ⟨by
  rw [rng_length]
  exact walk_range.mono (fun _ g => g) fun n H x H' hn _ y => ⟨_, rng_get hn, y.1, y.2⟩⟩
theorem tw_rng0 {j : Int} : TW (Itr 0 j.toNat) (rng 0 j) (fun _ => True) (fun b H x H' => H' = H ∧ x = .int b) := by
  have h := tw_rng (i := 0) (j := j)
  rw [Int.sub_zero] at h
  exact h
/-- pairs of a place and the item there -/
def enum (xs : List α) : List (Int × α) := (rng 0 xs.length).zip xs
theorem enum_length (xs : List α) : (enum xs).length = xs.length := by
  unfold enum
  rw [List.length_zip, rng_length]
  omega
theorem enum_get {xs : List α} {i : Nat} {x : α} (h : xs[i]? = some x) : (enum xs)[i]? = some ((i : Int), x) := by
  have hl := (List.getElem?_eq_some_iff.mp h).1
  unfold enum
  rw [List.getElem?_zip_eq_some]
  refine ⟨?_, h⟩
  rw [rng_get (by omega)]
  simp
theorem tw_enum (h : A2 (rep K F) vs xs) : TW (Ite K a) (enum xs) (fun H => SqL K H a vs) (fun b H v H' => ∃ T x, v = .ref T ∧ H T = none ∧ H' = upd H T (.tup [.int b.1, x]) ∧ rep K F x b.2) := ⟨by
  rw [enum_length, ← h.length]
  exact walk_enum.mono (fun _ g => g) fun i H x H' _ _ y => by
    obtain ⟨T, u, w, e1, e2, e3, e4, e5⟩ := y
    obtain ⟨b, h1, h2⟩ := h.getV e5
    cases e4
    exact ⟨((i : Int), b), enum_get h1, T, w, e1, e2, e3, h2⟩⟩
theorem tw_zip {b : Addr} (h : A2 (rep K F) vs xs) (h' : A2 (rep K F) us ys) : TW (Itz K a b) (xs.zip ys) (fun H => SqL K H a vs ∧ SqL K H b us) (fun p H v H' => ∃ T x y, v = .ref T ∧ H T = none ∧ H' = upd H T (.tup [x, y]) ∧ rep K F x p.1 ∧ rep K F y p.2) := ⟨by
  rw [List.length_zip, ← h.length, ← h'.length]
  exact (walk_zip rfl).mono (fun _ g => g) fun i H x H' _ _ y => by
    obtain ⟨T, u, w, e1, e2, e3, e4, e5⟩ := y
    obtain ⟨c, h1, h2⟩ := h.getV e4
    obtain ⟨d, h3, h4⟩ := h'.getV e5
    refine ⟨(c, d), ?_, T, u, w, e1, e2, e3, h2, h4⟩
    rw [List.getElem?_zip_eq_some]
    exact ⟨h1, h3⟩⟩
end

/-! ### for -/
section
variable {J : It} {β γ δ ρ : Type} {items : List β} {G : Hp → Prop} {Y : β → Hp → V → Hp → Prop} {g : TG} {tb : TS} {D : Ends} {σ : St} {H : Hp} {P : δ → Prop} {X : Exn → Prop}
theorem drop_cons {l : List β} {i : Nat} {b : β} (h : l[i]? = some b) : l.drop i = b :: l.drop (i + 1) := by
  obtain ⟨hl, e⟩ := List.getElem?_eq_some_iff.mp h
  rw [List.drop_eq_getElem_cons hl, e]
theorem forS (tw : TW J items G Y) {body : γ → β → R γ} {s0 : γ} {k : γ → R δ} (hm : Post (foldR body s0 items >>= k) P X) (I : γ → St → Hp → Prop) (h0 : I s0 σ H) (hG : ∀ c σ H, I c σ H → G H)
    (hs : ∀ (b : β) (c : γ) (x : V) (σ : St) (H H' : Hp) (N : St → Hp → Prop) (P' : γ → Prop), I c σ H → Y b H x H' → (∀ c', P' c' → ∀ σ' H', I c' σ' H' → N σ' H') → Post (body c b) P' X → g x σ H' fun σ2 H2 => tb { D with nx := N, ct := N, bk := D.nx } σ2 H2)
    (hd : ∀ c σ H, I c σ H → Post (k c) P X → D.nx σ H) :
    ∃ W : Nat → Nat → St → Hp → Prop, (∃ m, W 0 m σ H) ∧ ∀ i m σ H, W i m σ H →
      (J.stop i H ∧ D.nx σ H) ∨ (J.go i H ∧ ∃ N : St → Hp → Prop, (∀ σ' H', N σ' H' → ∃ m', m' < m ∧ W (i + 1) m' σ' H') ∧ ∀ x H', J.yld i H x H' → g x σ H' fun σ2 H2 => tb { D with nx := N, ct := N, bk := D.nx } σ2 H2) := by
  refine for_it tw.walk (fun i σ H => ∃ c, I c σ H ∧ Post (foldR body c (items.drop i) >>= k) P X) ⟨s0, h0, hm⟩ (fun i σ H _ ⟨c, h, _⟩ => hG c σ H h) ?_ ?_
  · rintro i x σ H H' hi ⟨c, h, hm⟩ ⟨b, hb, y⟩
    rw [drop_cons hb] at hm
    exact hs b c x σ H H' _ _ h y (fun c' p' σ' H' h' => ⟨c', h', p'⟩) (post_bind (pb_foldR hm))
  · rintro σ H ⟨c, h, hm⟩
    rw [List.drop_length] at hm
    exact hd c σ H h hm
/-- a for that may end the whole, or itself -/
theorem forX (tw : TW J items G Y) {body : γ → β → R (Sum ρ (Bool × γ))} {s0 : γ} {k : Sum ρ γ → R δ} (hm : Post (foldX body s0 items >>= k) P X) (I : γ → St → Hp → Prop) (h0 : I s0 σ H) (hG : ∀ c σ H, I c σ H → G H)
    (hs : ∀ (b : β) (c : γ) (x : V) (σ : St) (H H' : Hp) (N B : St → Hp → Prop) (P' : Sum ρ (Bool × γ) → Prop), I c σ H → Y b H x H' → (∀ c', P' (.inr (true, c')) → ∀ σ' H', I c' σ' H' → N σ' H') → (∀ c', P' (.inr (false, c')) → ∀ σ' H', I c' σ' H' → B σ' H') →
      (∀ z, P' (.inl z) → Post (k (.inl z)) P X) → Post (body c b) P' X → g x σ H' fun σ2 H2 => tb { D with nx := N, ct := N, bk := B } σ2 H2)
    (hd : ∀ c σ H, I c σ H → Post (k (.inr c)) P X → D.nx σ H) :
    ∃ W : Nat → Nat → St → Hp → Prop, (∃ m, W 0 m σ H) ∧ ∀ i m σ H, W i m σ H →
      (J.stop i H ∧ D.nx σ H) ∨ (J.go i H ∧ ∃ N : St → Hp → Prop, (∀ σ' H', N σ' H' → ∃ m', m' < m ∧ W (i + 1) m' σ' H') ∧ ∀ x H', J.yld i H x H' → g x σ H' fun σ2 H2 => tb { D with nx := N, ct := N, bk := D.nx } σ2 H2) := by
  refine for_it tw.walk (fun i σ H => ∃ c, I c σ H ∧ Post (foldX body c (items.drop i) >>= k) P X) ⟨s0, h0, hm⟩ (fun i σ H _ ⟨c, h, _⟩ => hG c σ H h) ?_ ?_
  · rintro i x σ H H' hi ⟨c, h, hm⟩ ⟨b, hb, y⟩
    rw [drop_cons hb] at hm
    have hm' : Post ((body c b >>= fun r => match r with
      | .inl z => (R.ok (.inl z) : R (Sum ρ γ))
      | .inr (true, s') => foldX body s' (items.drop (i + 1))
      | .inr (false, s') => R.ok (.inr s')) >>= k) P X := hm
    rw [bind_bind] at hm'
    exact hs b c x σ H H' _ _ _ h y (fun c' p' σ' H' h' => ⟨c', h', p'⟩) (fun c' p' σ' H' h' => hd c' σ' H' h' p') (fun z p' => p') (post_bind hm')
  · rintro σ H ⟨c, h, hm⟩
    rw [List.drop_length] at hm
    exact hd c σ H h hm
end
/-! ### comprehensions -/
/-- items for items, of a list that is not too long -/
def mapG {α β : Type} (f : α → R β) (xs : List α) : R (List β) := grd (decide (xs.length < 100000)) >>= fun _ => mapR f xs
/-- items for some items -/
def filR {α β : Type} (f : α → R (Option β)) : List α → R (List β)
  | [] => .ok []
  | x :: xs => f x >>= fun o => filR f xs >>= fun ys => match o with
    | some y => .ok (y :: ys)
    | none => .ok ys
def filG {α β : Type} (f : α → R (Option β)) (xs : List α) : R (List β) := grd (decide (xs.length < 100000)) >>= fun _ => filR f xs
/-- items for items, by a state that turns -/
def mapSt {α β γ : Type} (f : γ → α → R (β × γ)) : γ → List α → R (List β × γ)
  | s, [] => .ok ([], s)
  | s, x :: xs => f s x >>= fun p => mapSt f p.2 xs >>= fun q => .ok (p.1 :: q.1, q.2)
def mapStG {α β γ : Type} (f : γ → α → R (β × γ)) (s : γ) (xs : List α) : R (List β × γ) := grd (decide (xs.length < 100000)) >>= fun _ => mapSt f s xs
/-- items for some items, by a state that turns -/
def filSt {α β γ : Type} (f : γ → α → R (Option β × γ)) : γ → List α → R (List β × γ)
  | s, [] => .ok ([], s)
  | s, x :: xs => f s x >>= fun p => filSt f p.2 xs >>= fun q => match p.1 with
    | some y => .ok (y :: q.1, q.2)
    | none => .ok q
def filStG {α β γ : Type} (f : γ → α → R (Option β × γ)) (s : γ) (xs : List α) : R (List β × γ) := grd (decide (xs.length < 100000)) >>= fun _ => filSt f s xs
section
variable {J : It} {β γ δ ε : Type} {items : List β} {G : Hp → Prop} {Y : β → Hp → V → Hp → Prop} {g : TG} {tt : TT} {te : TE} {P : ε → Prop} {X : Exn → Prop} {K : Fg} {vs : List Nat} {σ : St} {F H1 : Hp} {os : List (Addr × HO)} {D : Addr} {Qd : Hp → Prop}
/-- what is asked of a comprehension's list D behind its walk J: by the readings' own words -/
abbrev LcAsk (J : It) (g : TG) (tt : TT) (te : TE) (vs : List Nat) (σ : St) (H1 : Hp) (D : Addr) (Qd : Hp → Prop) : Prop :=
  ∃ W : Nat → Nat → Hp → Prop, (∃ m, W 0 m (upd H1 D (.lst []))) ∧ ∀ i m H, W i m H →
      (J.stop i H ∧ Qd H) ∨ (J.go i H ∧ ∃ Nx : Hp → Prop, (∀ H', Nx H' → ∃ m', m' < m ∧ W (i + 1) m' H') ∧ ∀ x H', J.yld i H x H' → g x (wipe σ vs) H' fun σ2 H2 => wipe σ2 vs = wipe σ vs ∧ tt σ2 H2 fun b H3 =>
        if b = true then te σ2 H3 fun y H4 => ∃ acc, H4 D = some (.lst acc) ∧ acc.length < sizeLine ∧ Nx (upd H4 D (.lst (acc ++ [y]))) else Nx H3)
/-- the state and the items told of a comprehension: os by the state -/
theorem lcFil [Rep δ] (tw : TW J items G Y) {f : γ → β → R (Option δ × γ)} {s0 : γ} {k : List δ × γ → R ε} (hm : Post (filStG f s0 items >>= k) P X) (O : γ → Hp → List (Addr × HO) → Prop) (w : W F H1 os) (o0 : O s0 F os) (nD : H1 D = none)
    (hG : ∀ c F' H' os' acc, Same F F' → W F' H' ((D, .lst acc) :: os') → O c F' os' → G H')
    (hs : ∀ (b : β) (c : γ) (x : V) (F' H' H'' : Hp) (os' : List (Addr × HO)) (acc : List V) (N : V → Hp → Prop) (N0 : Hp → Prop) (P' : Option δ × γ → Prop), Same F F' → W F' H' ((D, .lst acc) :: os') → O c F' os' → Y b H' x H'' →
      (∀ d c', P' (some d, c') → ∀ y F'' H'' os'', W F'' H'' ((D, .lst acc) :: os'') → Same F' F'' → O c' F'' os'' → rep K F'' y d → N y H'') →
      (∀ c', P' (none, c') → ∀ F'' H'' os'', W F'' H'' ((D, .lst acc) :: os'') → Same F' F'' → O c' F'' os'' → N0 H'') → Post (f c b) P' X →
      g x (wipe σ vs) H'' fun σ2 H2 => wipe σ2 vs = wipe σ vs ∧ tt σ2 H2 fun b H3 => if b = true then te σ2 H3 N else N0 H3)
    (hd : ∀ c us F' H' os' ys, Same F F' → W F' H' ((D, .lst us) :: os') → O c F' os' → A2 (rep K F') us ys → Post (k (ys, c)) P X → Qd H') : LcAsk J g tt te vs σ H1 D Qd := by
  obtain ⟨hlen, hm⟩ := pb_grd (pb_assoc hm)
  have hlen : items.length < sizeLine := Nat.lt_of_lt_of_le (of_decide_eq_true hlen) line5
  refine lc_it tw.walk (fun i H => ∃ c F' os' us ys, i ≤ items.length ∧ Same F F' ∧ W F' H ((D, .lst us) :: os') ∧ O c F' os' ∧ A2 (rep K F') us ys ∧ ys.length ≤ i ∧ Post (filSt f c (items.drop i) >>= fun q => k (ys ++ q.1, q.2)) P X) ?_ ?_ ?_ ?_
  · exact ⟨s0, F, os, [], [], Nat.zero_le _, Same.refl _, w.new nD, o0, .nil, Nat.le_refl _, hm⟩
  · rintro i H _ ⟨c, F', os', us, ys, _, s, w', o, _⟩
    exact hG c F' H os' us s w' o
  · rintro i x H H' hi ⟨c, F', os', us, ys, _, s, w', o, h, hl, hm⟩ ⟨b, hb, y⟩
    rw [drop_cons hb] at hm
    have hm' : Post ((f c b >>= fun p => filSt f p.2 (items.drop (i + 1)) >>= fun q => match p.1 with
      | some y => (R.ok (y :: q.1, q.2) : R (List δ × γ))
      | none => R.ok q) >>= fun q => k (ys ++ q.1, q.2)) P X := hm
    rw [bind_bind] at hm'
    have hm2 := post_bind hm'
    have hul : us.length = ys.length := h.length
    refine hs b c x F' H H' os' us (fun y H4 => ∃ acc, H4 D = some (.lst acc) ∧ acc.length < sizeLine ∧ _) _ _ s w' o y ?_ ?_ hm2
    · intro d c' p2 y F'' H'' os'' w2 s2 o2 r2
      refine ⟨us, w2.get (pre := []), by omega, c', F'', os'', us ++ [y], ys ++ [d], hi, s.trans s2, w2.set (pre := []), o2, (h.mono s2).snoc r2, by rw [List.length_append, List.length_singleton]; omega, ?_⟩
      have p3 : Post ((filSt f c' (items.drop (i + 1)) >>= fun q => (R.ok (d :: q.1, q.2) : R (List δ × γ))) >>= fun q => k (ys ++ q.1, q.2)) P X := p2
      rw [bind_bind] at p3
      have e : (fun q : List δ × γ => (R.ok (d :: q.1, q.2) : R (List δ × γ)) >>= fun q => k (ys ++ q.1, q.2)) = fun q => k (ys ++ [d] ++ q.1, q.2) := by
        funext q
        show k (ys ++ (d :: q.1), q.2) = k (ys ++ [d] ++ q.1, q.2)
        rw [List.append_assoc]
        rfl
      rw [e] at p3
      exact p3
    · intro c' p2 F'' H'' os'' w2 s2 o2
      refine ⟨c', F'', os'', us, ys, hi, s.trans s2, w2, o2, h.mono s2, by omega, ?_⟩
      have p3 : Post ((filSt f c' (items.drop (i + 1)) >>= fun q => (R.ok q : R (List δ × γ))) >>= fun q => k (ys ++ q.1, q.2)) P X := p2
      rw [bind_bind] at p3
      exact p3
  · rintro H ⟨c, F', os', us, ys, _, s, w', o, h, _, hm⟩
    rw [List.drop_length] at hm
    have hm' : Post (k (ys ++ [], c)) P X := hm
    rw [List.append_nil] at hm'
    exact hd c us F' H os' ys s w' o h hm'
/-- without a test -/
theorem lcMap [Rep δ] (tw : TW J items G Y) {f : γ → β → R (δ × γ)} {s0 : γ} {k : List δ × γ → R ε} (hm : Post (mapStG f s0 items >>= k) P X) (O : γ → Hp → List (Addr × HO) → Prop) (w : W F H1 os) (o0 : O s0 F os) (nD : H1 D = none)
    (hG : ∀ c F' H' os' acc, Same F F' → W F' H' ((D, .lst acc) :: os') → O c F' os' → G H')
    (hs : ∀ (b : β) (c : γ) (x : V) (F' H' H'' : Hp) (os' : List (Addr × HO)) (acc : List V) (N : V → Hp → Prop) (P' : δ × γ → Prop), Same F F' → W F' H' ((D, .lst acc) :: os') → O c F' os' → Y b H' x H'' →
      (∀ d c', P' (d, c') → ∀ y F'' H'' os'', W F'' H'' ((D, .lst acc) :: os'') → Same F' F'' → O c' F'' os'' → rep K F'' y d → N y H'') → Post (f c b) P' X →
      g x (wipe σ vs) H'' fun σ2 H2 => wipe σ2 vs = wipe σ vs ∧ te σ2 H2 N)
    (hd : ∀ c us F' H' os' ys, Same F F' → W F' H' ((D, .lst us) :: os') → O c F' os' → A2 (rep K F') us ys → Post (k (ys, c)) P X → Qd H') : LcAsk J g tYes te vs σ H1 D Qd := by
  have e : ∀ (s : γ) (l : List β), filSt (fun c b => f c b >>= fun p => R.ok (some p.1, p.2)) s l = mapSt f s l := by
    intro s l
    induction l generalizing s with
    | nil => rfl
    | cons b l ih =>
      show ((f s b >>= fun p => R.ok (some p.1, p.2)) >>= fun p => filSt (fun c b => f c b >>= fun p => R.ok (some p.1, p.2)) p.2 l >>= fun q => match p.1 with
        | some y => (R.ok (y :: q.1, q.2) : R (List δ × γ))
        | none => R.ok q) = (f s b >>= fun p => mapSt f p.2 l >>= fun q => .ok (p.1 :: q.1, q.2))
      rw [bind_bind]
      refine congrArg (f s b >>= ·) ?_
      funext p
      show (filSt (fun c b => f c b >>= fun p => R.ok (some p.1, p.2)) p.2 l >>= fun q => (R.ok (p.1 :: q.1, q.2) : R (List δ × γ))) = _
      rw [ih]
  have hm' : Post (filStG (fun c b => f c b >>= fun p => R.ok (some p.1, p.2)) s0 items >>= k) P X := by
    unfold filStG
    simp only [e]
    exact hm
  refine lcFil tw hm' O w o0 nD hG (fun b c x F' H' H'' os' acc N N0 P' s w' o y hN hN0 hp => ?_) hd
  exact hs b c x F' H' H'' os' acc N _ s w' o y (fun d c' p2 y F'' H'' os'' w2 s2 o2 r2 => hN d c' p2 y F'' H'' os'' w2 s2 o2 r2) (post_bind hp)
/-- without a state -/
theorem lcM [Rep δ] (tw : TW J items G Y) {f : β → R δ} {k : List δ → R ε} (hm : Post (mapG f items >>= k) P X) (w : W F H1 os) (nD : H1 D = none)
    (hG : ∀ F' H' acc, Same F F' → W F' H' ((D, .lst acc) :: os) → G H')
    (hs : ∀ (b : β) (x : V) (F' H' H'' : Hp) (acc : List V) (N : V → Hp → Prop) (P' : δ → Prop), Same F F' → W F' H' ((D, .lst acc) :: os) → Y b H' x H'' →
      (∀ d, P' d → ∀ y F'' H'', W F'' H'' ((D, .lst acc) :: os) → Same F' F'' → rep K F'' y d → N y H'') → Post (f b) P' X →
      g x (wipe σ vs) H'' fun σ2 H2 => wipe σ2 vs = wipe σ vs ∧ te σ2 H2 N)
    (hd : ∀ us F' H' ys, Same F F' → W F' H' ((D, .lst us) :: os) → A2 (rep K F') us ys → Post (k ys) P X → Qd H') : LcAsk J g tYes te vs σ H1 D Qd := by
  have e : ∀ (l : List β), (mapSt (fun (_ : Unit) b => f b >>= fun d => R.ok (d, ())) () l >>= fun q => R.ok q.1) = mapR f l := by
    intro l
    induction l with
    | nil => rfl
    | cons b l ih =>
      show (((f b >>= fun d => R.ok (d, ())) >>= fun p => mapSt (fun (_ : Unit) b => f b >>= fun d => R.ok (d, ())) p.2 l >>= fun q => (R.ok (p.1 :: q.1, q.2) : R (List δ × Unit))) >>= fun q => R.ok q.1) = (f b >>= fun y => mapR f l >>= fun ys => R.ok (y :: ys))
      rw [bind_bind, bind_bind]
      refine congrArg (f b >>= ·) ?_
      funext d
      show ((mapSt (fun (_ : Unit) b => f b >>= fun d => R.ok (d, ())) () l >>= fun q => (R.ok (d :: q.1, q.2) : R (List δ × Unit))) >>= fun q => R.ok q.1) = _
      rw [bind_bind, ← ih, bind_bind]
      rfl
  have hm' : Post (mapStG (fun (_ : Unit) b => f b >>= fun d => R.ok (d, ())) () items >>= fun q => k q.1) P X := by
    have e2 : (mapStG (fun (_ : Unit) b => f b >>= fun d => R.ok (d, ())) () items >>= fun q => R.ok q.1) = mapG f items := by
      unfold mapStG mapG
      rw [bind_bind]
      simp only [e]
    have h2 : Post ((mapStG (fun (_ : Unit) b => f b >>= fun d => R.ok (d, ())) () items >>= fun q => R.ok q.1) >>= k) P X := by
      rw [e2]
      exact hm
    rw [bind_bind] at h2
    exact h2
  refine lcMap tw hm' (fun _ _ os' => os = os') w rfl nD (fun c F' H' os' acc s w' o => by subst o; exact hG F' H' acc s w') (fun b c x F' H' H'' os' acc N P' s w' o y hN hp => ?_) (fun c us F' H' os' ys s w' o h hm => by subst o; exact hd us F' H' ys s w' h hm)
  subst o
  exact hs b x F' H' H'' acc N _ s w' y (fun d p2 y F'' H'' w2 s2 r2 => hN d () p2 y F'' H'' _ w2 s2 rfl r2) (post_bind hp)
/-- .. with a test -/
theorem lcF [Rep δ] (tw : TW J items G Y) {f : β → R (Option δ)} {k : List δ → R ε} (hm : Post (filG f items >>= k) P X) (w : W F H1 os) (nD : H1 D = none)
    (hG : ∀ F' H' acc, Same F F' → W F' H' ((D, .lst acc) :: os) → G H')
    (hs : ∀ (b : β) (x : V) (F' H' H'' : Hp) (acc : List V) (N : V → Hp → Prop) (N0 : Hp → Prop) (P' : Option δ → Prop), Same F F' → W F' H' ((D, .lst acc) :: os) → Y b H' x H'' →
      (∀ d, P' (some d) → ∀ y F'' H'', W F'' H'' ((D, .lst acc) :: os) → Same F' F'' → rep K F'' y d → N y H'') →
      (P' none → ∀ F'' H'', W F'' H'' ((D, .lst acc) :: os) → Same F' F'' → N0 H'') → Post (f b) P' X →
      g x (wipe σ vs) H'' fun σ2 H2 => wipe σ2 vs = wipe σ vs ∧ tt σ2 H2 fun b H3 => if b = true then te σ2 H3 N else N0 H3)
    (hd : ∀ us F' H' ys, Same F F' → W F' H' ((D, .lst us) :: os) → A2 (rep K F') us ys → Post (k ys) P X → Qd H') : LcAsk J g tt te vs σ H1 D Qd := by
  have e : ∀ (l : List β), (filSt (fun (_ : Unit) b => f b >>= fun d => R.ok (d, ())) () l >>= fun q => R.ok q.1) = filR f l := by
    intro l
    induction l with
    | nil => rfl
    | cons b l ih =>
      show (((f b >>= fun d => R.ok (d, ())) >>= fun p => filSt (fun (_ : Unit) b => f b >>= fun d => R.ok (d, ())) p.2 l >>= fun q => match p.1 with
        | some y => (R.ok (y :: q.1, q.2) : R (List δ × Unit))
        | none => R.ok q) >>= fun q => R.ok q.1) = (f b >>= fun o => filR f l >>= fun ys => match o with
        | some y => .ok (y :: ys)
        | none => .ok ys)
      rw [bind_bind, bind_bind]
      refine congrArg (f b >>= ·) ?_
      funext d
      show ((filSt (fun (_ : Unit) b => f b >>= fun d => R.ok (d, ())) () l >>= fun q => match d with
        | some y => (R.ok (y :: q.1, q.2) : R (List δ × Unit))
        | none => R.ok q) >>= fun q => R.ok q.1) = _
      rw [bind_bind, ← ih, bind_bind]
      cases d <;> rfl
  have hm' : Post (filStG (fun (_ : Unit) b => f b >>= fun d => R.ok (d, ())) () items >>= fun q => k q.1) P X := by
    have e2 : (filStG (fun (_ : Unit) b => f b >>= fun d => R.ok (d, ())) () items >>= fun q => R.ok q.1) = filG f items := by
      unfold filStG filG
      rw [bind_bind]
      simp only [e]
    have h2 : Post ((filStG (fun (_ : Unit) b => f b >>= fun d => R.ok (d, ())) () items >>= fun q => R.ok q.1) >>= k) P X := by
      rw [e2]
      exact hm
    rw [bind_bind] at h2
    exact h2
  refine lcFil tw hm' (fun _ _ os' => os = os') w rfl nD (fun c F' H' os' acc s w' o => by subst o; exact hG F' H' acc s w') (fun b c x F' H' H'' os' acc N N0 P' s w' o y hN hN0 hp => ?_) (fun c us F' H' os' ys s w' o h hm => by subst o; exact hd us F' H' ys s w' h hm)
  subst o
  exact hs b x F' H' H'' acc N N0 _ s w' y (fun d p2 y F'' H'' w2 s2 r2 => hN d () p2 y F'' H'' _ w2 s2 rfl r2) (fun p2 F'' H'' w2 s2 => hN0 () p2 F'' H'' _ w2 s2 rfl) (post_bind hp)
end
end Z
namespace Z
open PySem L2
open Rep (rep)
/-! ### short words for a walk -/
section
variable {F F1 F2 H H1 : Hp} {os os' pre post : List (Addr × HO)} {a p : Addr} {o o' : HO} {K : Fg}
theorem W.frzE (w : W F H os) (n : H p = none) : ∃ F', Same F F' ∧ W F' (upd H p o) os ∧ F' p = some o := ⟨_, w.frzS n, w.frz n, upd_same⟩
theorem W.freezeE (w : W F H (pre ++ (a, o) :: post)) : ∃ F', Same F F' ∧ W F' H (pre ++ post) ∧ F' a = some o := ⟨_, w.freezeS, w.freeze, upd_same⟩
/-- a cell that was lent to a call as frozen comes back -/
theorem W.unfreeze (w : W F1 H os) (s : Same F F1) (n : F a = none) (k : F1 a = some o) (ho : ∀ vs, o ≠ .tup vs := by exact fun _ h => nomatch h) : ∃ F', Same F F' ∧ W F' H ((a, o) :: os) := by
  refine ⟨fun b => if b = a then none else F1 b, fun b u e => ?_, fun b u e => ?_, fun q hq => ?_, ?_, fun q hq => ?_⟩
  · have hb : b ≠ a := ne_of_none e n
    show (if b = a then none else F1 b) = some u
    rw [if_neg hb]
    exact s b u e
  · by_cases hb : b = a
    · have e' : (if b = a then none else F1 b) = some u := e
      rw [if_pos hb] at e'
      cases e'
    · have e' : (if b = a then none else F1 b) = some u := e
      rw [if_neg hb] at e'
      exact w.same b u e'
  · rcases List.mem_cons.mp hq with rfl | hq
    · exact ⟨w.same _ _ k, if_pos rfl⟩
    · have h := w.own q hq
      have hb : q.1 ≠ a := fun e => by
        rw [e, k] at h
        cases h.2
      exact ⟨h.1, by show (if q.1 = a then none else F1 q.1) = none; rw [if_neg hb]; exact h.2⟩
  · refine List.pairwise_cons.mpr ⟨fun q hq e => ?_, w.nd⟩
    have h := (w.own q hq).2
    have e' : a = q.1 := e
    rw [← e', k] at h
    cases h
  · rcases List.mem_cons.mp hq with rfl | hq
    · exact ho
    · exact w.nt q hq
theorem rep_own {α : Type} [Rep α] {vs : List V} {xs : List α} (w : W F H (pre ++ (a, .lst vs) :: post)) (h : A2 (rep K F) vs xs) : rep K H (.ref a) xs := ⟨a, vs, rfl, w.get, h.mono w.same⟩
theorem rep_lst {α : Type} [Rep α] {vs : List V} {xs : List α} (q : F a = some (.lst vs)) (h : A2 (rep K F) vs xs) : rep K F (.ref a) xs := ⟨a, vs, rfl, q, h⟩
theorem rep_tup {α : Type} [Rep α] {vs : List V} {xs : List α} (q : F a = some (.tup vs)) (h : A2 (rep K F) vs xs) : rep K F (.ref a) (Tup.mk xs) := ⟨a, vs, rfl, q, h⟩
theorem rep_pair {α β : Type} [Rep α] [Rep β] {u v : V} {x : α} {y : β} (q : F a = some (.tup [u, v])) (h1 : rep K F u x) (h2 : rep K F v y) : rep K F (.ref a) (x, y) := ⟨a, u, v, rfl, q, h1, h2⟩
theorem ints_q {vs : List V} {xs : List Int} (q : SqL K H a vs) (h : A2 (rep K F) vs xs) : SqL K H a (xs.map V.int) := h.ints ▸ q
theorem Room.units65 {k : Nat} {A : Around} (r : Room k A) : A.units + 65 < cLine := by
  have := r.un
  omega
theorem sl_cut {α : Type} {r : V → α → Prop} {vs : List V} {xs : List α} (h : A2 r vs xs) (lo hi : Option Int) : A2 r (cutV vs lo hi) (((xs.drop (HT.sIx xs.length 0 lo)).take (HT.sIx xs.length xs.length hi - HT.sIx xs.length 0 lo))) := by
  unfold cutV
  rw [h.length]
  exact (h.drop _).take _
/-- xs[lo:hi] -/
def cutL {α : Type} (xs : List α) (lo hi : Option Int) : List α := (xs.drop (HT.sIx xs.length 0 lo)).take (HT.sIx xs.length xs.length hi - HT.sIx xs.length 0 lo)
end
end Z
namespace Z
open PySem L2
open Rep (rep)
/-- a while by its fuel -/
def whileR {γ : Type} (c : γ → R Bool) (b : γ → R γ) : Nat → γ → R γ
  | 0, _ => .bad
  | n + 1, s => c s >>= fun t => if t = true then b s >>= fun s' => whileR c b n s' else .ok s
section
variable {γ δ : Type} {P : δ → Prop} {X : Exn → Prop} {tc : TT} {tb : TS} {D : Ends} {σ : St} {H : Hp}
theorem whileS {c : γ → R Bool} {b : γ → R γ} {n : Nat} {s0 : γ} {k : γ → R δ} (hm : Post (whileR c b n s0 >>= k) P X) (I : γ → St → Hp → Prop) (h0 : I s0 σ H)
    (hc : ∀ (g : γ) (σ : St) (H : Hp) (Q' : Bool → Hp → Prop) (P' : Bool → Prop), I g σ H → (∀ t, P' t → ∀ H', I g σ H' → Q' t H') → Post (c g) P' X → tc σ H Q')
    (hs : ∀ (g : γ) (σ : St) (H : Hp) (N : St → Hp → Prop) (P' : γ → Prop), I g σ H → (∀ g', P' g' → ∀ σ' H', I g' σ' H' → N σ' H') → Post (b g) P' X → tb { D with nx := N, ct := N, bk := D.nx } σ H)
    (hd : ∀ g σ H, I g σ H → Post (k g) P X → D.nx σ H) : tWhile tc tb D σ H := by
  refine ⟨fun m σ H => ∃ g, I g σ H ∧ Post (whileR c b m g >>= k) P X, ⟨n, s0, h0, hm⟩, ?_⟩
  rintro m σ H ⟨g, h, hm⟩
  cases m with
  | zero => exact (show False from hm).elim
  | succ m =>
    have hm' : Post ((c g >>= fun t => if t = true then b g >>= fun s' => whileR c b m s' else .ok g) >>= k) P X := hm
    rw [bind_bind] at hm'
    refine hc g σ H _ _ h (fun t p H' h' => ?_) (post_bind hm')
    cases t with
    | false => exact iteF (hd g σ H' h' p)
    | true =>
      refine iteT ?_
      have p' : Post ((b g >>= fun s' => whileR c b m s') >>= k) P X := p
      rw [bind_bind] at p'
      exact ⟨fun σ' H' => ∃ g', I g' σ' H' ∧ Post (whileR c b m g' >>= k) P X, fun σ' H' ⟨g', h1, h2⟩ => ⟨m, Nat.lt_succ_self m, g', h1, h2⟩, hs g σ H' _ _ h' (fun g' p2 σ' H' h2 => ⟨g', h2, p2⟩) (post_bind p')⟩
end
section
variable {α β : Type} {Q : β → Prop} {E : Exn → Prop}
theorem pn_set {xs : List α} {i : Int} {x : α} {f : List α → R β} (h : Post (setI xs i x >>= f) Q E) : ∃ j ys, ixN xs.length i = some j ∧ ys = xs.set j x ∧ Post (f ys) Q E :=
  let ⟨j, a, b⟩ := pb_set h
  ⟨j, _, a, rfl, b⟩
theorem pn_app {xs : List α} {x : α} {f : List α → R β} (h : Post (app xs x >>= f) Q E) : ∃ ys, xs.length < sizeLine ∧ ys = xs ++ [x] ∧ Post (f ys) Q E :=
  let ⟨a, b⟩ := pb_app h
  ⟨_, a, rfl, b⟩
theorem pn_extend {xs ys : List α} {f : List α → R β} (h : Post (extend xs ys >>= f) Q E) : ∃ zs, xs.length + ys.length ≤ sizeLine ∧ zs = xs ++ ys ∧ Post (f zs) Q E :=
  let ⟨a, b⟩ := pb_extend h
  ⟨_, a, rfl, b⟩
theorem A2.lt {r : V → α → Prop} {vs : List V} {xs : List α} {n : Nat} (h : A2 r vs xs) (z : xs.length < n) : vs.length < n := by rw [h.length]; exact z
theorem A2.ix {r : V → α → Prop} {vs : List V} {xs : List α} {i : Int} {j : Nat} (h : A2 r vs xs) (z : ixN xs.length i = some j) : ixN vs.length i = some j := by rw [h.length]; exact z
theorem A2.le2 {γ : Type} {r : V → α → Prop} {r' : V → γ → Prop} {vs us : List V} {xs : List α} {ys : List γ} {n : Nat} (h : A2 r vs xs) (h' : A2 r' us ys) (z : xs.length + ys.length ≤ n) : vs.length + us.length ≤ n := by rw [h.length, h'.length]; exact z
/-- the last item, and the rest -/
def popI (xs : List α) : R (α × List α) := match xs.getLast? with
  | some x => .ok (x, xs.dropLast)
  | none => .bad
def popAt (xs : List α) (i : Int) : R (α × List α) := match ixN xs.length i with
  | some j => match xs[j]? with
    | some x => .ok (x, xs.eraseIdx j)
    | none => .bad
  | none => .bad
theorem pn_popAt {xs : List α} {i : Int} {f : α × List α → R β} (h : Post (popAt xs i >>= f) Q E) : ∃ j x ys, ixN xs.length i = some j ∧ xs[j]? = some x ∧ ys = xs.eraseIdx j ∧ Post (f (x, ys)) Q E := by
  unfold popAt at h
  cases e : ixN xs.length i with
  | none => rw [e] at h; exact (show False from h).elim
  | some j =>
    rw [e] at h
    cases e2 : xs[j]? with
    | none =>
      have h' : Post ((match xs[j]? with
        | some x => (R.ok (x, xs.eraseIdx j) : R (α × List α))
        | none => .bad) >>= f) Q E := h
      rw [e2] at h'
      exact (show False from h').elim
    | some x =>
      have h' : Post ((match xs[j]? with
        | some x => (R.ok (x, xs.eraseIdx j) : R (α × List α))
        | none => .bad) >>= f) Q E := h
      rw [e2] at h'
      exact ⟨j, x, _, rfl, e2, rfl, h'⟩
end
section
variable {K : Fg} {F : Hp}
theorem rep_i {i : Int} : rep K F (.int i) i := rfl
theorem rep_b {i : Bool} : rep K F (.bl i) i := rfl
theorem rep_s {i : Str} : rep K F (.str i) i := rfl
theorem rep_n : rep K F .non () := rfl
end
end Z
namespace Z
open PySem L2
section
variable {X : Cx} {D : Ends} {σ : L2.St} {H : Hp}
def tC1 (v : V) : TE := fun _ H Q => True ∧ Q v H
theorem pe_int1 {i j pos} : PE X (.Constant (.int i) j pos) (tC1 (.int i)) := ⟨fun pins s σ H Q I h => pe_int.run pins s σ H Q I h.2⟩
theorem pe_bl1 {i j pos} : PE X (.Constant (.bool i) j pos) (tC1 (.bl i)) := ⟨fun pins s σ H Q I h => pe_bl.run pins s σ H Q I h.2⟩
theorem pe_str1 {i j pos} : PE X (.Constant (.str i) j pos) (tC1 (.str i)) := ⟨fun pins s σ H Q I h => pe_str.run pins s σ H Q I h.2⟩
theorem pe_non1 {j pos} : PE X (.Constant .none j pos) (tC1 .non) := ⟨fun pins s σ H Q I h => pe_non.run pins s σ H Q I h.2⟩
theorem stepN {i : Nat} {v : V} {Q : L2.St → Hp → Prop} (h : Q (σ.set i (some v)) H) : gName i v σ H Q := h
theorem stepX (h : D.nx σ H) : tNext D σ H := h
theorem stepSeq {t u : TS} (h : t { D with nx := u D } σ H) : tSeq t u D σ H := h
theorem stepIf {c : TT} {a b : TS} (h : c σ H fun t H1 => if t = true then a D σ H1 else b D σ H1) : tIfS c a b D σ H := h
theorem stepRet {te : TE} (h : te σ H D.rt) : tRet te D σ H := h
theorem stepAsg {te : TE} {g : TG} (h : te σ H fun x H1 => g x σ H1 D.nx) : tAsg te g D σ H := h
theorem stepDrop {te : TE} (h : te σ H fun _ H1 => D.nx σ H1) : tDrop te D σ H := h
end
end Z
namespace Z
open PySem L2
open Rep (rep)
section
variable {α : Type} [Rep α] {K : Fg} {F : Hp} {v : V} {x : α}
theorem rep_none : rep K F .non (none : Option α) := rfl
theorem rep_some (h : rep K F v x) : rep K F v (some x) := h
theorem rep_pl {i : Int} : rep K F (.int i) (Thing.pl i) := rfl
theorem rep_ti {a b : Int} (h : rep K F v (a, b)) : rep K F v (Thing.ti a b) := h
end
end Z
/-! Z2: rules by typed data -/
namespace Z
open PySem L2 PySem.Spec PyProof.Rows
open Rep (rep)

/-! ### data that is compared -/
class Dat (α : Type) extends Rep α where
  toD : α → PyData
  dmax : Nat
  dp : ∀ {K : Fg} {H : Hp} {v : V} {x : α}, rep K H v x → Dp K H v (toD x)
  lay : ∀ x : α, (toD x).canLay0 = true
  dep : ∀ x : α, (toD x).depth ≤ dmax
  eqv : ∀ x y : α, PyData.eqv (toD x) (toD y) = true ↔ x = y
section
variable {α β : Type} {K : Fg} {H : Hp}
instance : Dat Int where
  toD := .int
  dmax := 0
  dp := fun h => by
    have h' : _ = V.int _ := h
    subst h'
    exact .int _
  lay := fun x => by simp only [PyData.canLay0]
  dep := fun x => by simp only [PyData.depth, Nat.le_refl]
  eqv := fun x y => by simp [PyData.eqv]
instance : Dat Bool where
  toD := .bool
  dmax := 0
  dp := fun h => by
    have h' : _ = V.bl _ := h
    subst h'
    exact .bl _
  lay := fun x => by simp only [PyData.canLay0]
  dep := fun x => by simp only [PyData.depth, Nat.le_refl]
  eqv := fun x y => by simp [PyData.eqv]
instance datOptInt : Dat (Option Int) where
  toD := fun x => match x with
    | none => .none
    | some i => .int i
  dmax := 0
  dp := fun {K H v x} h => by
    cases x with
    | none =>
      have h' : v = V.non := h
      subst h'
      exact .non
    | some i =>
      have h' : v = V.int i := h
      subst h'
      exact .int _
  lay := fun x => by cases x <;> simp only [PyData.canLay0]
  dep := fun x => by cases x <;> simp only [PyData.depth, Nat.le_refl]
  eqv := fun x y => by cases x <;> cases y <;> simp [PyData.eqv]
instance datPair [Dat α] [Dat β] : Dat (α × β) where
  toD := fun x => .tuple [Dat.toD x.1, Dat.toD x.2]
  dmax := max (Dat.dmax α) (Dat.dmax β) + 1
  dp := fun {K H v x} h => by
    obtain ⟨a, u, w, rfl, q, h1, h2⟩ := h
    exact .tup (SqT.of q) (.cons (Dat.dp h1) (.cons (Dat.dp h2) .nil))
  lay := fun x => by simp only [PyData.canLay0, PyData.canLayAll0, Dat.lay, Bool.and_true]
  dep := fun x => by
    have h1 := Dat.dep x.1
    have h2 := Dat.dep x.2
    simp only [PyData.depth, PyData.depthAll]
    omega
  eqv := fun x y => by
    obtain ⟨x1, x2⟩ := x
    obtain ⟨y1, y2⟩ := y
    simp only [PyData.eqv, PyData.eqvAll, Bool.and_true, Bool.and_eq_true, Dat.eqv, Prod.mk.injEq]
theorem dp_all [Dat α] : ∀ {vs : List V} {xs : List α}, A2 (rep K H) vs xs → DpAll K H vs (xs.map Dat.toD)
  | _, _, .nil => .nil
  | _, _, .cons h t => .cons (Dat.dp h) (dp_all t)
theorem lay_all [Dat α] : ∀ xs : List α, PyData.canLayAll0 (xs.map Dat.toD) = true
  | [] => by simp only [List.map_nil, PyData.canLayAll0]
  | x :: xs => by simp only [List.map_cons, PyData.canLayAll0, Dat.lay, lay_all xs, Bool.and_true]
theorem dep_all [Dat α] : ∀ xs : List α, PyData.depthAll (xs.map Dat.toD) ≤ Dat.dmax α
  | [] => by simp only [List.map_nil, PyData.depthAll, Nat.zero_le]
  | x :: xs => by
    have h1 := dep_all xs
    have h2 := Dat.dep x
    simp only [List.map_cons, PyData.depthAll]
    omega
theorem eqv_all [Dat α] : ∀ xs ys : List α, PyData.eqvAll (xs.map Dat.toD) (ys.map Dat.toD) = true ↔ xs = ys
  | [], [] => by simp [PyData.eqvAll]
  | x :: xs, [] => by simp [PyData.eqvAll]
  | [], y :: ys => by simp [PyData.eqvAll]
  | x :: xs, y :: ys => by simp only [List.map_cons, PyData.eqvAll, Bool.and_eq_true, Dat.eqv, eqv_all xs ys, List.cons.injEq]
instance datList [Dat α] : Dat (List α) where
  toD := fun xs => .list (xs.map Dat.toD)
  dmax := Dat.dmax α + 1
  dp := fun {K H v x} h => by
    obtain ⟨a, vs, rfl, q, h⟩ := h
    exact .lst (SqL.of q) (dp_all h)
  lay := fun x => by
    simp only [PyData.canLay0]
    exact lay_all x
  dep := fun x => by
    have h := dep_all x
    simp only [PyData.depth]
    omega
  eqv := fun x y => by
    simp only [PyData.eqv]
    exact eqv_all x y
instance datTup [Dat α] : Dat (Tup α) where
  toD := fun xs => .tuple (xs.l.map Dat.toD)
  dmax := Dat.dmax α + 1
  dp := fun {K H v x} h => by
    obtain ⟨a, vs, rfl, q, h⟩ := h
    exact .tup (SqT.of q) (dp_all h)
  lay := fun x => by
    simp only [PyData.canLay0]
    exact lay_all x.l
  dep := fun x => by
    have h := dep_all x.l
    simp only [PyData.depth]
    omega
  eqv := fun x y => by
    obtain ⟨x⟩ := x
    obtain ⟨y⟩ := y
    simp only [PyData.eqv, Tup.mk.injEq]
    exact eqv_all x y
instance datThing : Dat Thing where
  toD := fun x => match x with
    | .pl i => .int i
    | .ti a b => .tuple [.int a, .int b]
  dmax := 1
  dp := fun {K H v x} h => by
    cases x with
    | pl i =>
      have h' : v = V.int i := h
      subst h'
      exact .int _
    | ti a b =>
      obtain ⟨p, u, w, rfl, q, h1, h2⟩ := (show rep K H v (a, b) from h)
      have h1' : u = V.int a := h1
      have h2' : w = V.int b := h2
      subst h1' h2'
      exact .tup (SqT.of q) (.cons (.int _) (.cons (.int _) .nil))
  lay := fun x => by cases x <;> simp [PyData.canLay0, PyData.canLayAll0]
  dep := fun x => by cases x <;> simp [PyData.depth, PyData.depthAll]
  eqv := fun x y => by cases x <;> cases y <;> simp [PyData.eqv, PyData.eqvAll]
instance datScr : Dat Scr where
  toD := fun xs => .list (xs.l.map PyData.int)
  dmax := 1
  dp := fun {K H v x} h => by
    obtain ⟨a, rfl, q⟩ := h
    have e : ∀ l : List Int, DpAll K H (l.map V.int) (l.map PyData.int) := fun l => by
      induction l with
      | nil => exact .nil
      | cons x l ih => exact .cons (.int _) ih
    exact .lst q (e x.l)
  lay := fun x => by
    simp only [PyData.canLay0]
    exact lay_all (α := Int) x.l
  dep := fun x => by
    have h := dep_all (α := Int) x.l
    have h' : PyData.depthAll (x.l.map PyData.int) ≤ 0 := h
    simp only [PyData.depth]
    omega
  eqv := fun x y => by
    obtain ⟨x⟩ := x
    obtain ⟨y⟩ := y
    simp only [PyData.eqv, Scr.mk.injEq]
    exact eqv_all (α := Int) x y
theorem shapedD [Dat α] (hd : Dat.dmax α ≤ 60) (x : α) : SeqAt.shaped (Dat.toD x) = true := by
  have h := Dat.dep x
  show ((Dat.toD x).canLay0 && decide ((Dat.toD x).depth ≤ 64)) = true
  rw [Bool.and_eq_true]
  exact ⟨Dat.lay x, decide_eq_true (by omega)⟩
theorem eqvD [Dat α] [DecidableEq α] (x y : α) : PyData.eqv (Dat.toD x) (Dat.toD y) = decide (x = y) := by
  by_cases h : x = y
  · rw [decide_eq_true h]
    exact (Dat.eqv x y).mpr h
  · rw [decide_eq_false h]
    exact Bool.eq_false_iff.mpr fun e => h ((Dat.eqv x y).mp e)
theorem anyD [Dat α] [DecidableEq α] (x : α) : ∀ ys : List α, ((ys.map Dat.toD).any fun z => PyData.eqv z (Dat.toD x)) = decide (x ∈ ys)
  | [] => by simp
  | y :: ys => by
    rw [List.map_cons, List.any_cons, anyD x ys, eqvD]
    by_cases h : y = x
    · subst h; simp
    · have h' : ¬ x = y := fun e => h e.symm
      simp [h, h']
end

section
variable {X : Cx} {α β : Type} {K : Fg}
/-- ==, != of data -/
theorem op_eqDt (hK : X.K = K) (α : Type) [Dat α] [DecidableEq α] (hd : Dat.dmax α ≤ 60) (hu : X.A.units + 64 < cLine) : OpR X (compareOp .Eq) (fun x y H Q => ∃ a b : α, rep K H x a ∧ rep K H y b ∧ Q (.bl (decide (a = b))) H) := by
  subst hK
  intro pins s σ H x y v u Q I rx ry ⟨a, b, h1, h2, q⟩
  exact op_eqD hu pins s σ H x y v u Q I rx ry ⟨Dat.toD a, Dat.toD b, Dat.dp h1, Dat.dp h2, shapedD hd a, shapedD hd b, by rw [eqvD]; exact q⟩
theorem op_neDt (hK : X.K = K) (α : Type) [Dat α] [DecidableEq α] (hd : Dat.dmax α ≤ 60) (hu : X.A.units + 64 < cLine) : OpR X (compareOp .NotEq) (fun x y H Q => ∃ a b : α, rep K H x a ∧ rep K H y b ∧ Q (.bl (!decide (a = b))) H) := by
  subst hK
  intro pins s σ H x y v u Q I rx ry ⟨a, b, h1, h2, q⟩
  exact op_neD hu pins s σ H x y v u Q I rx ry ⟨Dat.toD a, Dat.toD b, Dat.dp h1, Dat.dp h2, shapedD hd a, shapedD hd b, by rw [eqvD]; exact q⟩
/-- in, not in a list, a tuple of data -/
theorem op_inL (hK : X.K = K) (α : Type) [Dat α] [DecidableEq α] (hd : Dat.dmax α ≤ 50) (hu : X.A.units + 65 < cLine) : OpR X (compareOp .In) (fun x y H Q => ∃ (a : α) (b : List α), rep K H x a ∧ rep K H y b ∧ Q (.bl (decide (a ∈ b))) H) := by
  subst hK
  intro pins s σ H x y v u Q I rx ry ⟨a, b, h1, h2, q⟩
  exact op_inD hu pins s σ H x y v u Q I rx ry ⟨Dat.toD a, b.map Dat.toD, Dat.dp h1, Dat.dp h2, shapedD (by omega) a, shapedD (α := List α) (by show Dat.dmax α + 1 ≤ 60; omega) b, by rw [anyD]; exact q⟩
theorem op_notInL (hK : X.K = K) (α : Type) [Dat α] [DecidableEq α] (hd : Dat.dmax α ≤ 50) (hu : X.A.units + 65 < cLine) : OpR X (compareOp .NotIn) (fun x y H Q => ∃ (a : α) (b : List α), rep K H x a ∧ rep K H y b ∧ Q (.bl (!decide (a ∈ b))) H) := by
  subst hK
  intro pins s σ H x y v u Q I rx ry ⟨a, b, h1, h2, q⟩
  exact op_notInD hu pins s σ H x y v u Q I rx ry ⟨Dat.toD a, b.map Dat.toD, Dat.dp h1, Dat.dp h2, shapedD (by omega) a, shapedD (α := List α) (by show Dat.dmax α + 1 ≤ 60; omega) b, by rw [anyD]; exact q⟩
theorem op_inT (hK : X.K = K) (α : Type) [Dat α] [DecidableEq α] (hd : Dat.dmax α ≤ 50) (hu : X.A.units + 65 < cLine) : OpR X (compareOp .In) (fun x y H Q => ∃ (a : α) (b : Tup α), rep K H x a ∧ rep K H y b ∧ Q (.bl (decide (a ∈ b.l))) H) := by
  subst hK
  intro pins s σ H x y v u Q I rx ry ⟨a, b, h1, h2, q⟩
  have sd := shapedD (by omega : Dat.dmax α ≤ 60) a
  have se : SeqAt.shaped (.tuple (b.l.map Dat.toD)) = true := shapedD (α := Tup α) (by show Dat.dmax α + 1 ≤ 60; omega) b
  obtain ⟨as, r1⟩ := Dp.reads I (Dat.toD a) x v (Dat.dp h1) rx
  obtain ⟨bs, r2⟩ := Dp.reads I (.tuple (b.l.map Dat.toD)) y u (Dat.dp h2) ry
  refine SeqAt.in_tuple_reads r2 r1 (SeqAt.canLay_of_shaped se) (SeqAt.canLay_of_shaped sd) (room_in_shaped sd hu) ?_
  rw [anyD]
  exact ⟨.bl _, H, I, rfl, q⟩
theorem op_notInT (hK : X.K = K) (α : Type) [Dat α] [DecidableEq α] (hd : Dat.dmax α ≤ 50) (hu : X.A.units + 65 < cLine) : OpR X (compareOp .NotIn) (fun x y H Q => ∃ (a : α) (b : Tup α), rep K H x a ∧ rep K H y b ∧ Q (.bl (!decide (a ∈ b.l))) H) := by
  subst hK
  intro pins s σ H x y v u Q I rx ry ⟨a, b, h1, h2, q⟩
  have sd := shapedD (by omega : Dat.dmax α ≤ 60) a
  have se : SeqAt.shaped (.tuple (b.l.map Dat.toD)) = true := shapedD (α := Tup α) (by show Dat.dmax α + 1 ≤ 60; omega) b
  obtain ⟨as, r1⟩ := Dp.reads I (Dat.toD a) x v (Dat.dp h1) rx
  obtain ⟨bs, r2⟩ := Dp.reads I (.tuple (b.l.map Dat.toD)) y u (Dat.dp h2) ry
  refine SeqAt.notIn_tuple_reads r2 r1 (SeqAt.canLay_of_shaped se) (SeqAt.canLay_of_shaped sd) (room_in_shaped sd hu) ?_
  rw [anyD]
  exact ⟨.bl _, H, I, rfl, q⟩
/-- == of texts -/
theorem decS (x y : Str) : decide (V.str x = V.str y) = decide (x = y) := by
  by_cases h : x = y
  · subst h; simp
  · rw [decide_eq_false h, decide_eq_false (fun e => h (V.str.inj e))]
theorem op_eqS : OpR X (compareOp .Eq) (fun x y H Q => ∃ a b : Str, x = .str a ∧ y = .str b ∧ Q (.bl (decide (a = b))) H) := by
  intro pins s σ H x y v u Q I rx ry ⟨a, b, h1, h2, q⟩
  subst h1 h2
  exact op_eq pins s σ H _ _ v u Q I rx ry ⟨rfl, by rw [decS]; exact q⟩
theorem op_neS : OpR X (compareOp .NotEq) (fun x y H Q => ∃ a b : Str, x = .str a ∧ y = .str b ∧ Q (.bl (!decide (a = b))) H) := by
  intro pins s σ H x y v u Q I rx ry ⟨a, b, h1, h2, q⟩
  subst h1 h2
  exact op_ne pins s σ H _ _ v u Q I rx ry ⟨rfl, by rw [decS]; exact q⟩
/-- == of truths -/
theorem decB (x y : Bool) : decide (V.bl x = V.bl y) = decide (x = y) := by
  cases x <;> cases y <;> rfl
theorem op_eqB : OpR X (compareOp .Eq) (fun x y H Q => ∃ a b : Bool, x = .bl a ∧ y = .bl b ∧ Q (.bl (decide (a = b))) H) := by
  intro pins s σ H x y v u Q I rx ry ⟨a, b, h1, h2, q⟩
  subst h1 h2
  exact op_eq pins s σ H _ _ v u Q I rx ry ⟨rfl, by rw [decB]; exact q⟩
theorem op_neB : OpR X (compareOp .NotEq) (fun x y H Q => ∃ a b : Bool, x = .bl a ∧ y = .bl b ∧ Q (.bl (!decide (a = b))) H) := by
  intro pins s σ H x y v u Q I rx ry ⟨a, b, h1, h2, q⟩
  subst h1 h2
  exact op_ne pins s σ H _ _ v u Q I rx ry ⟨rfl, by rw [decB]; exact q⟩

/-! ### built-ins -/
theorem call_lenN (hK : X.K = K) : CallR X (.builtin "len") (fun xs H Q => ∃ (p : Addr) (ys : List V) (n : Nat), xs = [.ref p] ∧ (SqL K H p ys ∨ SqT K H p ys) ∧ ys.length = n ∧ Q (.int (n : Int)) H) := by
  subst hK
  intro pins s σ H xs us Q I r ⟨p, ys, n, e, h, hn, q⟩
  subst hn
  exact call_len_seq pins s σ H xs us Q I r ⟨p, ys, e, h, q⟩
def absI (i : Int) : Int := if i < 0 then -i else i
def max2 (i j : Int) : Int := if j > i then j else i
def min2 (i j : Int) : Int := if j < i then j else i
/-- the greatest, the least of a list -/
def maxL (xs : List Int) : R Int := ofO xs.max?
def minL (xs : List Int) : R Int := ofO xs.min?
theorem pb_max {δ : Type} {xs : List Int} {f : Int → R δ} {P : δ → Prop} {E : Exn → Prop} (h : Post (maxL xs >>= f) P E) : ∃ m, xs.max? = some m ∧ Post (f m) P E := pb_ofO h
theorem pb_min {δ : Type} {xs : List Int} {f : Int → R δ} {P : δ → Prop} {E : Exn → Prop} (h : Post (minL xs >>= f) P E) : ∃ m, xs.min? = some m ∧ Post (f m) P E := pb_ofO h
theorem cr_maxI (hK : X.K = K) (hc : X.calm = true) : CallR X (.builtin "max") (fun vs H Q => ∃ (a : Addr) (ns : List Int) (m : Int), vs = [V.ref a] ∧ SqL K H a (ns.map V.int) ∧ ns.max? = some m ∧ Q (.int m) H) := by
  subst hK
  intro pins s σ H xs us Q I r ⟨a, ns, m, e, h, hm, q⟩
  obtain ⟨h1, h2⟩ := List.max?_eq_some_iff.mp hm
  refine cr_max hc pins s σ H xs us Q I r ⟨a, ns, e, h, ?_, fun k h3 h4 => ?_⟩
  · exact List.length_pos_of_mem h1
  · have e1 : k = m := Int.le_antisymm (h2 k h3) (h4 m h1)
    subst e1
    exact q
theorem cr_minI (hK : X.K = K) (hc : X.calm = true) : CallR X (.builtin "min") (fun vs H Q => ∃ (a : Addr) (ns : List Int) (m : Int), vs = [V.ref a] ∧ SqL K H a (ns.map V.int) ∧ ns.min? = some m ∧ Q (.int m) H) := by
  subst hK
  intro pins s σ H xs us Q I r ⟨a, ns, m, e, h, hm, q⟩
  obtain ⟨h1, h2⟩ := List.min?_eq_some_iff.mp hm
  refine cr_min hc pins s σ H xs us Q I r ⟨a, ns, e, h, ?_, fun k h3 h4 => ?_⟩
  · exact List.length_pos_of_mem h1
  · have e1 : k = m := Int.le_antisymm (h4 m h1) (h2 k h3)
    subst e1
    exact q
/-- the ints in order -/
def sortI (xs : List Int) : List Int := xs.mergeSort fun a b => decide (a ≤ b)
theorem sortI_perm (xs : List Int) : (sortI xs).Perm xs := List.mergeSort_perm xs _
theorem sortI_sorted (xs : List Int) : (sortI xs).Pairwise (· ≤ ·) := by
  have h := List.pairwise_mergeSort (le := fun a b : Int => decide (a ≤ b)) (fun a b c h1 h2 => by simp only [decide_eq_true_eq] at *; omega) (fun a b => by simp only [Bool.or_eq_true, decide_eq_true_eq]; omega) xs
  exact h.imp fun h => by simpa using h
theorem sort_uniq {xs ys : List Int} (h : xs.Perm ys) (hx : xs.Pairwise (· ≤ ·)) (hy : ys.Pairwise (· ≤ ·)) : xs = ys := by
  induction xs generalizing ys with
  | nil => exact (List.nil_perm.mp h).symm
  | cons x xs ih =>
    cases ys with
    | nil => exact absurd h.symm (by simp)
    | cons y ys =>
      rw [List.pairwise_cons] at hx hy
      have e : x = y := by
        have h1 : x ∈ y :: ys := h.mem_iff.mp List.mem_cons_self
        have h2 : y ∈ x :: xs := h.mem_iff.mpr List.mem_cons_self
        rcases List.mem_cons.mp h1 with h1 | h1
        · exact h1
        · rcases List.mem_cons.mp h2 with h2 | h2
          · exact h2.symm
          · have := hx.1 y h2
            have := hy.1 x h1
            omega
      subst e
      rw [ih (List.perm_cons x |>.mp h) hx.2 hy.2]
theorem sortI_eq {xs ys : List Int} (h : ys.Perm xs) (hy : ys.Pairwise (· ≤ ·)) : ys = sortI xs := sort_uniq (h.trans (sortI_perm xs).symm) hy (sortI_sorted xs)
theorem cr_sortI (hK : X.K = K) : CallR X (.builtin "sorted") (fun vs H Q => ∃ (a : Addr) (ns : List Int), vs = [V.ref a] ∧ SqL K H a (ns.map V.int) ∧ ∀ p, H p = none → Q (.ref p) (upd H p (.lst ((sortI ns).map V.int)))) := by
  subst hK
  intro pins s σ H xs us Q I r ⟨a, ns, e, h, q⟩
  refine cr_sortedI pins s σ H xs us Q I r ⟨a, ns, e, h, fun ns' p h1 h2 hp => ?_⟩
  rw [sortI_eq h1 h2]
  exact q p hp
theorem ix_listK (hK : X.K = K) : IxR X (rIxL K) := hK ▸ ix_list
theorem ix_tupK (hK : X.K = K) : IxR X (rIxT K) := hK ▸ ix_tup
theorem sl_listK (hK : X.K = K) : SlR X (rSlL K) := hK ▸ sl_list
theorem cr_sumK (hK : X.K = K) (hc : X.calm = true) : CallR X (.builtin "sum") (rSum K) := hK ▸ cr_sum hc
theorem call_list_ofK (hK : X.K = K) : CallR X (.type "list") (fun xs H Q => ∃ p ys, xs = [.ref p] ∧ (SqL K H p ys ∨ SqT K H p ys) ∧ ∀ l, H l = none → Q (.ref l) (upd H l (.lst ys))) := hK ▸ call_list_of
theorem call_tuple_ofK (hK : X.K = K) : CallR X (.type "tuple") (fun xs H Q => ∃ p ys, xs = [.ref p] ∧ ((SqL K H p ys ∧ ∀ l, H l = none → Q (.ref l) (upd H l (.tup ys))) ∨ (SqT K H p ys ∧ Q (.ref p) H))) := hK ▸ call_tuple_of
theorem pi_listK {tg l : Expr} {tl : TE} (hK : X.K = K) (hl : PE X l tl) : PI X tg l (iList K tl) := hK ▸ pi_list hl
theorem pi_tupK {tg l : Expr} {tl : TE} (hK : X.K = K) (hl : PE X l tl) : PI X tg l (iTup K tl) := hK ▸ pi_tup hl
theorem pi_k {tg l : Expr} {wi : Fg → TI} (hK : X.K = K) (h : PI X tg l (wi X.K)) : PI X tg l (wi K) := hK ▸ h
theorem pe_k {e : Expr} {t : Fg → TE} (hK : X.K = K) (h : PE X e (t X.K)) : PE X e (t K) := hK ▸ h
theorem pg_k {tg : Expr} {t : Fg → TG} (hK : X.K = K) (h : PG X tg (t X.K)) : PG X tg (t K) := hK ▸ h
end
end Z
/-! Z3: sets of tuples by their number, isinstance -/
namespace Z
open PySem L2 PySem.Spec PyProof.Rows
open Rep (rep)
/-- each once -/
def nub {α : Type} [DecidableEq α] : List α → List α
  | [] => []
  | x :: xs => if x ∈ xs then nub xs else x :: nub xs
section
variable {α : Type} [DecidableEq α]
theorem nub_mem {y : α} : ∀ {xs : List α}, y ∈ nub xs ↔ y ∈ xs
  | [] => Iff.rfl
  | x :: xs => by
    unfold nub
    by_cases h : x ∈ xs
    · rw [if_pos h, nub_mem]
      exact ⟨List.mem_cons_of_mem _, fun q => (List.mem_cons.mp q).elim (fun e => e ▸ h) id⟩
    · rw [if_neg h, List.mem_cons, List.mem_cons, nub_mem]
theorem nub_nodup : ∀ (xs : List α), (nub xs).Nodup
  | [] => List.nodup_nil
  | x :: xs => by
    unfold nub
    by_cases h : x ∈ xs
    · rw [if_pos h]
      exact nub_nodup xs
    · rw [if_neg h]
      exact List.nodup_cons.mpr ⟨fun q => h (nub_mem.mp q), nub_nodup xs⟩
theorem nub_le : ∀ (xs : List α), (nub xs).length ≤ xs.length
  | [] => Nat.le_refl _
  | x :: xs => by
    unfold nub
    have := nub_le xs
    by_cases h : x ∈ xs
    · rw [if_pos h, List.length_cons]
      omega
    · rw [if_neg h, List.length_cons, List.length_cons]
      omega
theorem nub_len : ∀ {xs : List α}, (nub xs).length = xs.length ↔ xs.Nodup
  | [] => by simp [nub]
  | x :: xs => by
    unfold nub
    by_cases h : x ∈ xs
    · rw [if_pos h, List.length_cons]
      have := nub_le xs
      constructor
      · intro e
        omega
      · intro e
        exact absurd h (List.nodup_cons.mp e).1
    · rw [if_neg h, List.length_cons, List.length_cons, List.nodup_cons]
      constructor
      · intro e
        exact ⟨h, nub_len.mp (by omega)⟩
      · intro e
        rw [nub_len.mpr e.2]
theorem nodup_le : ∀ {xs ys : List α}, xs.Nodup → (∀ y ∈ xs, y ∈ ys) → xs.length ≤ ys.length
  | [], _, _, _ => Nat.zero_le _
  | x :: xs, ys, h, hs => by
    obtain ⟨h1, h2⟩ := List.nodup_cons.mp h
    have hx : x ∈ ys := hs x List.mem_cons_self
    have := nodup_le (xs := xs) (ys := ys.erase x) h2 fun y hy => (List.mem_erase_of_ne (show y ≠ x from fun e => by subst e; exact h1 hy)).mpr (hs y (List.mem_cons_of_mem _ hy))
    rw [List.length_erase_of_mem hx] at this
    have := List.length_pos_of_mem hx
    rw [List.length_cons]
    omega
theorem nodup_len {xs ys : List α} (h1 : xs.Nodup) (h2 : ys.Nodup) (h : ∀ y, y ∈ xs ↔ y ∈ ys) : xs.length = ys.length := by
  refine Nat.le_antisymm ?_ ?_
  · exact nodup_le h1 fun y hy => (h y).mp hy
  · exact nodup_le h2 fun y hy => (h y).mpr hy
end
section
variable {X : Cx} {K : Fg} {P : Program} {w : World} {F H : Hp}
/-- tuples of ints by their places -/
theorem tups_ks : ∀ {vs : List V} {xs : List (Tup Int)}, A2 (rep K H) vs xs → ∃ ks : List (Addr × List Int), vs = ks.map (fun p => V.ref p.1) ∧ ks.map (·.2) = xs.map (·.l) ∧ ∀ p ∈ ks, H p.1 = some (.tup (p.2.map V.int))
  | _, _, .nil => ⟨[], rfl, rfl, fun _ h => nomatch h⟩
  | _, _, .cons (x := x) h t => by
    obtain ⟨ks, h1, h2, h3⟩ := tups_ks t
    obtain ⟨a, us, rfl, q, hu⟩ := h
    refine ⟨(a, x.l) :: ks, by rw [h1]; rfl, by rw [List.map_cons, List.map_cons, h2], fun p hp => ?_⟩
    rcases List.mem_cons.mp hp with rfl | hp
    · rw [← hu.ints]
      exact q
    · exact h3 p hp
theorem setT0_len {pins : List (Addr × Obj)} {σ : L2.St} {s : Shared} {a : Addr} {L : List (Addr × List Int)} {Q : VK} (I : Inv X pins σ H s) (R : SetT0 X.prog X.w s.heap a L) (q : (L.map (·.2)).Nodup → Q (.int (L.length : Nat)) H) :
    wpAny (model X.prog X.w) X.A (call (.builtin "len") [.ref a]) (EP X pins σ Q) X.xe s := by
  obtain ⟨es, ep, t, ⟨o, ho, hex, hd⟩, hr, ht, hn, _, _, _, hf⟩ := R.ex
  have hsz : es.size = L.length := by
    have h := congrArg List.length hr
    unfold rowsOf at h
    rw [Array.length_toList, List.length_map] at h
    exact h
  have hps : t.place.size = L.length := by
    have := ht.sz
    rw [List.length_map] at this
    exact this
  have hroom := R.ex
  obtain ⟨_, _, t', ⟨o', ho', _, hd'⟩, _, _, _, _, _, hm, _⟩ := hroom
  rw [ho] at ho'
  cases ho'
  rw [hd] at hd'
  cases hd'
  have hfit : t.fits es.size = true := by
    unfold SetTable.fits SetTable.fill
    rw [ht.dm, hps, hsz]
    simp
    omega
  exact call_len_set ho hex hd hfit (by rw [hsz]; omega) ⟨.int (L.length : Nat), H, I.tok _, ⟨_, by rw [hsz]⟩, q hn⟩
/-- set(xs) of tuples, then len of it -/
theorem cr_setT (hK : X.K = K) (hP : X.prog = P) (hw : X.w = w) (hc : X.calm = true) (hu : X.A.units + 64 < cLine) : CallR X (.type "set") (fun xs H Q => ∃ (ys : List (Tup Int)) (v : V), xs = [v] ∧ rep K H v ys ∧ ys.length < 64 ∧
    ∀ a L, H a = none → ((L.map (·.2)).Nodup → L.length = (nub ys).length) → Q (.ref a) (upd H a (SetTO P w a L))) := by
  subst hK hP hw
  intro pins s σ H xs us Q I r ⟨ys, v, e, hr, hl, q⟩
  obtain ⟨a, vs, rfl, hq, h⟩ := hr
  obtain ⟨ks, h1, h2, h3⟩ := tups_ks h
  subst h1
  have hks : ks.length = ys.length := by
    have := congrArg List.length h2
    simpa using this
  refine cr_setOfT hc hu pins s σ H xs us Q I r ⟨a, ks, e, SqL.of hq, fun p hp => SqT.of (h3 p hp), by omega, fun b L hb hsub hall => q b L hb fun hn => ?_⟩
  have key : (L.map (·.2)).length = ((nub ys).map (·.l)).length := by
    refine nodup_len hn ?_ fun y => ?_
    · have inj : ∀ x y : Tup Int, x.l = y.l → x = y := fun x y e => by cases x; cases y; simp at e; rw [e]
      refine List.Pairwise.map (R := (· ≠ ·)) _ (fun x y hxy e => hxy (inj x y e)) (nub_nodup ys)
    · constructor
      · intro hy
        obtain ⟨p, hp, rfl⟩ := List.mem_map.mp hy
        have h4 : p.2 ∈ ks.map (·.2) := List.mem_map.mpr ⟨p, hsub p hp, rfl⟩
        rw [h2] at h4
        obtain ⟨z, hz, e⟩ := List.mem_map.mp h4
        exact List.mem_map.mpr ⟨z, nub_mem.mpr hz, e⟩
      · intro hy
        obtain ⟨z, hz, rfl⟩ := List.mem_map.mp hy
        have h4 : z.l ∈ ks.map (·.2) := by
          rw [h2]
          exact List.mem_map.mpr ⟨z, nub_mem.mp hz, rfl⟩
        obtain ⟨p, hp, e⟩ := List.mem_map.mp h4
        rw [← e]
        exact hall p hp
  rw [List.length_map, List.length_map] at key
  exact key
theorem call_lenT (hP : X.prog = P) (hw : X.w = w) : CallR X (.builtin "len") (fun xs H Q => ∃ (a : Addr) (L : List (Addr × List Int)) (n : Nat), xs = [.ref a] ∧ H a = some (SetTO P w a L) ∧ ((L.map (·.2)).Nodup → L.length = n) ∧ Q (.int (n : Nat)) H) := by
  subst hP hw
  intro pins s σ H xs us Q I r ⟨a, L, n, e, ha, hn, q⟩
  subst e
  rw [Vals.ref1 r]
  have R : SetT0 X.prog X.w s.heap a L := (show ObjOk X.prog X.w H s.heap a (SetTO X.prog X.w a L) from I.hok a _ ha).1
  exact setT0_len I R fun nd => by rw [hn nd]; exact q
/-- isinstance of a plain value and a built-in class -/
theorem call_isB (hK : X.K = K) : CallR X (.builtin "isinstance") (fun xs H Q => ∃ (x : V) (a b : String) (r : Bool), xs = [x, .ty b] ∧ TyOf K H x (.type a) ∧ kitB a b = some r ∧ Q (.bl r) H) := by
  subst hK
  intro pins s σ H xs us Q I r ⟨x, a, b, c, e, h1, h2, q⟩
  exact call_isi pins s σ H xs us Q I r ⟨x, .ty b, .type a, .type b, c, e, .ty b, .base h1, kit_ty h2, q⟩
end
end Z
namespace Z
open PySem L2 PySem.Spec PyProof.Rows
open Rep (rep)
section
variable {α : Type}
/-- the first place of an item -/
def fidx [DecidableEq α] (y : α) : List α → Option Nat
  | [] => none
  | x :: xs => if x = y then some 0 else (fidx y xs).map (· + 1)
def idxR [DecidableEq α] (xs : List α) (y : α) : R Int := ofO ((fidx y xs).map fun j => ((j : Nat) : Int))
theorem fidx_spec [DecidableEq α] {y : α} : ∀ {xs : List α} {j : Nat}, fidx y xs = some j → xs[j]? = some y ∧ ∀ m z, m < j → xs[m]? = some z → z ≠ y
  | [], j, h => nomatch h
  | x :: xs, j, h => by
    unfold fidx at h
    by_cases e : x = y
    · rw [if_pos e] at h
      cases h
      subst e
      exact ⟨rfl, fun m z hm => absurd hm (Nat.not_lt_zero _)⟩
    · rw [if_neg e] at h
      cases q : fidx y xs with
      | none => rw [q] at h; cases h
      | some k =>
        rw [q] at h
        cases h
        obtain ⟨h1, h2⟩ := fidx_spec q
        refine ⟨by simpa using h1, fun m z hm hz => ?_⟩
        cases m with
        | zero =>
          simp at hz
          subst hz
          exact e
        | succ m => exact h2 m z (Nat.lt_of_succ_lt_succ hm) (by simpa using hz)
variable {δ : Type} {P : δ → Prop} {E : Exn → Prop}
theorem pb_idx [DecidableEq α] {xs : List α} {y : α} {f : Int → R δ} (h : Post (idxR xs y >>= f) P E) : ∃ j : Nat, fidx y xs = some j ∧ Post (f (j : Int)) P E := by
  unfold idxR at h
  cases q : fidx y xs with
  | none => rw [q] at h; exact (show False from h).elim
  | some j => rw [q] at h; exact ⟨j, rfl, h⟩
end
section
variable {X : Cx} {K : Fg} {F H : Hp}
theorem A2.strs {vs : List V} {xs : List Str} (h : A2 (rep K H) vs xs) : vs = xs.map V.str := by
  induction h with
  | nil => rfl
  | cons a _ ih =>
    have a' : _ = V.str _ := a
    rw [a', ih]
    rfl
theorem bools_q {a : Addr} {vs : List V} {xs : List Bool} (q : SqL K H a vs) (h : A2 (rep K F) vs xs) : SqL K H a (xs.map V.bl) := h.bools ▸ q
theorem strs_q {a : Addr} {vs : List V} {xs : List Str} (q : SqL K H a vs) (h : A2 (rep K F) vs xs) : SqL K H a (xs.map V.str) := h.strs ▸ q
theorem mt_indexS (hK : X.K = K) : MtR X "list.index" (fun x xs H Q => ∃ (a : Addr) (ys : List Str) (y : Str) (j : Nat), x = V.ref a ∧ xs = [.str y] ∧ SqL K H a (ys.map V.str) ∧ fidx y ys = some j ∧ Q (.int (j : Int)) H) := by
  subst hK
  intro pins s σ H x xs v us Q I rx rxs ⟨a, ys, y, j, e1, e2, hs, hj, q⟩
  obtain ⟨h1, h2⟩ := fidx_spec hj
  refine mt_index pins s σ H x xs v us Q I rx rxs ⟨a, _, .str y, j, .str y, e1, e2, hs, rfl, ?_, ?_, ?_, fun m z hm hz => ?_, q⟩
  · rw [List.all_eq_true]
    intro z hz
    obtain ⟨t, _, rfl⟩ := List.mem_map.mp hz
    rfl
  · rw [List.getElem?_map, h1]
    rfl
  · show (y == y) = true
    simp
  · rw [List.getElem?_map] at hz
    cases e : ys[m]? with
    | none => rw [e] at hz; cases hz
    | some t =>
      rw [e] at hz
      cases hz
      have := h2 m t hm e
      show (t == y) = false
      simpa using this
theorem mt_indexI (hK : X.K = K) : MtR X "list.index" (fun x xs H Q => ∃ (a : Addr) (ys : List Int) (y : Int) (j : Nat), x = V.ref a ∧ xs = [.int y] ∧ SqL K H a (ys.map V.int) ∧ fidx y ys = some j ∧ Q (.int (j : Int)) H) := by
  subst hK
  intro pins s σ H x xs v us Q I rx rxs ⟨a, ys, y, j, e1, e2, hs, hj, q⟩
  obtain ⟨h1, h2⟩ := fidx_spec hj
  refine mt_index pins s σ H x xs v us Q I rx rxs ⟨a, _, .int y, j, .int y, e1, e2, hs, rfl, ?_, ?_, ?_, fun m z hm hz => ?_, q⟩
  · rw [List.all_eq_true]
    intro z hz
    obtain ⟨t, _, rfl⟩ := List.mem_map.mp hz
    rfl
  · rw [List.getElem?_map, h1]
    rfl
  · show (y == y) = true
    simp
  · rw [List.getElem?_map] at hz
    cases e : ys[m]? with
    | none => rw [e] at hz; cases hz
    | some t =>
      rw [e] at hz
      cases hz
      have := h2 m t hm e
      show (t == y) = false
      simpa using this
theorem cr_allK (hK : X.K = K) (hc : X.calm = true) : CallR X (.builtin "all") (rAll K) := hK ▸ cr_all hc
theorem cr_anyK (hK : X.K = K) (hc : X.calm = true) : CallR X (.builtin "any") (rAny K) := hK ▸ cr_any hc
end
end Z
namespace HT
open PySem PySem.Spec PyProof.Rows
section
variable {prog : Program} {w : World} {A : Around} {E : Value → Shared → Prop} {s : Shared}
/-- t[::-1] of a tuple of two -/
theorem zrev_two {t sl : Addr} {x y vs : Value} {Q : Value → Shared → Prop} (ht : IsTup s.heap t #[x, y]) (hs : s.heap.IsSliceOf sl .none .none vs) (pl : IsPart .none none) (ps : IsPart vs (some (-1)))
    (h : Q (.ref s.heap.objs.size) { s with heap := s.heap.push { cls := .type "tuple", data := .seq #[y, x] } }) : wpAny (model prog w) A (getItem (.ref t) (.ref sl)) Q E s := by
  have htake : sizeOk (.seq #[y, x]) := by
    show 2 ≤ sizeLine
    decide
  obtain ⟨os, hos, hcs, hds⟩ := id hs
  have hTs : s.TypeIs (.ref sl) "slice" := ⟨os, hos, hcs⟩
  unfold getItem
  try with_reducible refine wpAny_holding ?_
  first | refine wpAny_bind (wpAny_pure ?_) | skip
  refine wpAny_bind (wpAny_sequenceKey ht.typeIs (by decide) ?_)
  refine wpAny_bind (wpAny_callSpecial?_slot (name := Str.ofString "__getitem__") ht.typeIs PyProof.Rows.slot_tuple_getitem
    (wpAny_call_entry PyProof.Rows.slot_tuple_getitem ht.typeIs entry_tuple_getitem ?_ (args_tuple_getitem _ _)))
  show wpAny _ _ (Builtin.Tuple.tupleItemsOf (.ref t) >>= _) _ _ s
  refine wpAny_bind (tupleItemsOf_ ht ?_)
  refine wpAny_bind (wpAny_typeOf hTs ?_)
  rw [if_pos (by decide)]
  have key : ∀ {A' : Around} {E' : Value → Shared → Prop} {R : Int × Int × Nat → Shared → Prop}, R ((1 : Int), -1, 2) s → wpAny (model prog w) A' (Builtin.Slice.sliceApplied (.ref sl) (pure (2 : Int))) R E' s := by
    intro A' E' R hR
    unfold Builtin.Slice.sliceApplied Builtin.Slice.sliceFields
    refine wpAny_bind (wpAny_bind (wpAny_field hos hds (x := .none) rfl (wpAny_bind (wpAny_field hos hds (x := .none) rfl (wpAny_bind (wpAny_field hos hds (x := vs) rfl (wpAny_pure ?_)))))))
    refine wpAny_bind (slicePart_ ps ?_)
    show wpAny _ _ (if ((-1 : Int) == 0) = true then _ else _) _ _ s
    rw [if_neg (by decide)]
    refine wpAny_bind (slicePart_ pl (wpAny_bind (slicePart_ pl (wpAny_bind (wpAny_pure ?_)))))
    show wpAny _ _ (match Builtin.Slice.sliceAdjust none none (-1) (2 : Int) with | (lo, hi) => pure (lo, (-1 : Int), Builtin.Slice.slicePlaces lo hi (-1))) _ _ s
    exact wpAny_pure hR
  refine wpAny_bind (key ?_)
  show wpAny _ _ (if ((1 : Int) == 0 && (-1 : Int) == 1 && (2 : Nat) == 2) = true then _ else _) _ _ s
  rw [if_neg (by decide)]
  first
    | exact wpAny_bind (m := Builtin.Tuple.tupleExact _) (wpAny_newObj_type (wpAny_pure ⟨_, rfl, wpAny_pure h⟩) htake)
    | exact wpAny_bind (m := Builtin.Tuple.tupleExact _) (wpAny_newObj_type (wpAny_bind (wpAny_pure (wpAny_pure ⟨_, rfl, wpAny_pure h⟩))) htake)
    | exact wpAny_bind (wpAny_bind (m := Builtin.Tuple.tupleExact _) (wpAny_newObj_type (wpAny_pure (wpAny_pure ⟨_, rfl, wpAny_pure h⟩)) htake))
    | exact wpAny_bind (wpAny_bind (m := Builtin.Tuple.tupleExact _) (wpAny_newObj_type (wpAny_pure ⟨_, rfl, wpAny_pure h⟩) htake))
end
end HT
namespace Z
open PySem L2 PySem.Spec PyProof.Rows
open Rep (rep)
section
variable {X : Cx} {K : Fg} {F H : Hp}
def tRev2 (te : TE) : TE := fun σ H Q => te σ H fun x H1 => ∃ a u w, x = .ref a ∧ H1 a = some (.tup [u, w]) ∧ ∀ p, H1 p = none → Q (.ref p) (upd H1 p (.tup [w, u]))
theorem pe_rev2 {e : Expr} {te : TE} {k : Nat} {p1 p2 p3 pos : Pos} (he : PE X e te) : PE X (.Subscript e (.Slice none none (some (.UnaryOp .USub (.Constant (.int 1) k p1) p2)) p3) pos) (tRev2 te) := by
  refine ⟨fun pins s σ H Q I h => ?_⟩
  refine Subscript_ (thn (he.run pins s σ H _ I h) fun v s1 ⟨x, H1, I1, r1, q1⟩ => ?_)
  obtain ⟨a, c, d, ex, hx, q⟩ := q1
  subst ex
  cases r1
  have hst : PO X (some (.UnaryOp .USub (.Constant (.int 1) k p1) p2)) (tPart (tUn (rU fun i => .int (-i)) (tC (.int 1)))) := po_some (pe_un un_neg pe_int)
  refine wpAny_Slice (thn (po_none.run pins s1 σ H1 (fun o H2 => o = none ∧ H2 = H1) I1 ⟨rfl, rfl⟩) fun vl s2 ⟨l, H2, I2, pl, el, e2⟩ => ?_)
  subst el e2
  refine thn (po_none.run pins s2 σ H2 (fun o H3 => o = none ∧ H3 = H2) I2 ⟨rfl, rfl⟩) fun vu s3 ⟨u, H3, I3, pu, eu, e3⟩ => ?_
  subst eu e3
  refine thn (hst.run pins s3 σ H3 (fun o H4 => o = some (-1) ∧ H4 = H3) I3 ⟨1, rfl, -1, rfl, rfl, rfl⟩) fun vs s4 ⟨o, H4, I4, ps, eo, e4⟩ => ?_
  subst eo e4
  have I5 : Inv X pins σ H4 { s4 with heap := s4.heap.push { cls := .type "slice", data := .fields #[vl, vu, vs] } } := I4.kept (t' := s4.toks) fun b ob q => Heap.get?_push_of_some _ q
  obtain ⟨its, r, ht, hz⟩ := I5.tuple (SqT.of hx)
  cases r with
  | cons r1 r' =>
    rename_i uu us
    cases r' with
    | cons r2 r'' =>
      rename_i ww ws
      cases r''
      cases pl
      cases pu
      show wpAny (model X.prog X.w) X.A (subscriptTail e (.Slice none none (some (.UnaryOp .USub (.Constant (.int 1) k p1) p2)) p3) (.ref a) (.ref s4.heap.objs.size)) (EP X pins σ Q) X.xe { s4 with heap := s4.heap.push { cls := .type "slice", data := .fields #[.none, .none, vs] } }
      refine tail_any (ops := [.ref a, .ref s4.heap.objs.size]) ht.typeIs (PyProof.Rows.slot_tuple_getitem.lookup) ?_ (by with_unfolding_all rfl)
      refine HT.zrev_two ht (Heap.IsSliceOf.new _ .none .none vs) .none ps ?_
      exact ⟨.ref _, _, I5.laid (t' := s4.toks) (o := .tup [d, c]) (fun b ob q => Heap.get?_push_of_some _ q) (Nat.le_refl _) ⟨by show 2 ≤ sizeLine; decide, [ww, uu], .cons r2 (.cons r1 .nil), IsTup.new _ _⟩, rfl, q _ (I5.hok.fresh (Nat.le_refl _))⟩
/-- two things turned about -/
def rev2 {α : Type} (xs : List α) : R (List α) := match xs with
  | [x, y] => .ok [y, x]
  | _ => .bad
theorem pb_rev2 {α δ : Type} {xs : List α} {f : List α → R δ} {P : δ → Prop} {E : Exn → Prop} (h : Post (rev2 xs >>= f) P E) : ∃ x y, xs = [x, y] ∧ Post (f [y, x]) P E := by
  cases xs with
  | nil => exact (show False from h).elim
  | cons x xs =>
    cases xs with
    | nil => exact (show False from h).elim
    | cons y xs =>
      cases xs with
      | nil => exact ⟨x, y, rfl, h⟩
      | cons z xs => exact (show False from h).elim
theorem A2.two {α : Type} {r : V → α → Prop} {vs : List V} {x y : α} (h : A2 r vs [x, y]) : ∃ u w, vs = [u, w] ∧ r u x ∧ r w y := by
  cases h with
  | cons a t =>
    cases t with
    | cons b t =>
      cases t
      exact ⟨_, _, rfl, a, b⟩
/-- xs * k -/
def repL {α : Type} (xs : List α) (k : Int) : List α := (List.replicate k.toNat xs).flatten
@[irreducible] def repR {α : Type} (xs : List α) (k : Int) : R (List α) := if -(2 ^ 62) ≤ k ∧ k < 2 ^ 62 ∧ xs.length * k.toNat < 100000 then .ok (repL xs k) else .bad
theorem pb_rep {α δ : Type} {xs : List α} {k : Int} {f : List α → R δ} {P : δ → Prop} {E : Exn → Prop} (h : Post (repR xs k >>= f) P E) : ∃ ys, (-(2 ^ 63) ≤ k ∧ k < 2 ^ 63 ∧ xs.length * k.toNat ≤ sizeLine) ∧ ys = repL xs k ∧ Post (f ys) P E := by
  unfold repR at h
  obtain ⟨⟨a, b, c⟩, d⟩ := pb_if h
  exact ⟨_, ⟨by omega, by omega, Nat.le_of_lt (Nat.lt_of_lt_of_le c line5)⟩, rfl, d⟩
theorem A2.flat {α : Type} {r : V → α → Prop} {vs : List V} {xs : List α} (h : A2 r vs xs) (n : Nat) : A2 r (List.replicate n vs).flatten (List.replicate n xs).flatten := by
  induction n with
  | zero => exact .nil
  | succ n ih =>
    rw [List.replicate_succ, List.replicate_succ, List.flatten_cons, List.flatten_cons]
    exact h.append ih
/-! ### None -/
class NonN (α : Type) extends Rep α where
  no : ∀ {K : Fg} {H : Hp} {v : V} {x : α}, rep K H v x → v ≠ .non
instance : NonN Int := ⟨fun h e => by have h' : _ = V.int _ := h; rw [h'] at e; cases e⟩
instance : NonN Bool := ⟨fun h e => by have h' : _ = V.bl _ := h; rw [h'] at e; cases e⟩
instance {α β : Type} [Rep α] [Rep β] : NonN (α × β) := ⟨fun {K H v x} h q => by
  obtain ⟨a, u, w, e, _⟩ := h
  rw [e] at q
  cases q⟩
instance {α : Type} [Rep α] : NonN (List α) := ⟨fun {K H v x} h q => by
  obtain ⟨a, u, e, _⟩ := h
  rw [e] at q
  cases q⟩
instance {α : Type} [Rep α] : NonN (Tup α) := ⟨fun {K H v x} h q => by
  obtain ⟨a, u, e, _⟩ := h
  rw [e] at q
  cases q⟩
theorem isN_eq {α : Type} [NonN α] {v : V} {o : Option α} (h : rep K F v o) : decide (v = .non) = o.isNone := by
  cases o with
  | none =>
    have h' : v = V.non := h
    rw [h']
    rfl
  | some x => exact decide_eq_false (NonN.no (α := α) h)
theorem op_isN2 : OpR X (compareOp .Is) (fun x y H Q => y = V.non ∧ ∃ b, decide (x = .non) = b ∧ Q (.bl b) H) := by
  intro pins s σ H x y v u Q I rx ry ⟨e, b, hb, q⟩
  exact op_isN pins s σ H x y v u Q I rx ry ⟨e, by rw [hb]; exact q⟩
theorem op_notN2 : OpR X (compareOp .IsNot) (fun x y H Q => y = V.non ∧ ∃ b, decide (x = .non) = b ∧ Q (.bl (!b)) H) := by
  intro pins s σ H x y v u Q I rx ry ⟨e, b, hb, q⟩
  exact op_notN pins s σ H x y v u Q I rx ry ⟨e, by rw [hb]; exact q⟩
instance datOptBool : Dat (Option Bool) where
  toD := fun x => match x with
    | none => .none
    | some i => .bool i
  dmax := 0
  dp := fun {K H v x} h => by
    cases x with
    | none =>
      have h' : v = V.non := h
      subst h'
      exact .non
    | some i =>
      have h' : v = V.bl i := h
      subst h'
      exact .bl _
  lay := fun x => by cases x <;> simp only [PyData.canLay0]
  dep := fun x => by cases x <;> simp only [PyData.depth, Nat.le_refl]
  eqv := fun x y => by cases x <;> cases y <;> simp [PyData.eqv]
end
end Z
/-! Z4: statements never reached, tuples into the frozen part, pairs sorted, dicts of scalars, list(range), pop -/
namespace Z
open PySem L2
open Rep (rep)
section
variable {X : Cx}
theorem ps_absurd {st : Stmt} : PS X st (fun _ _ _ => False) := ⟨fun _ _ _ _ _ _ h => h.elim⟩
theorem stepAnd {t u : TT} {σ : L2.St} {H : Hp} {Q : Bool → Hp → Prop} (h : t σ H fun c H1 => if c = true then u σ H1 Q else Q false H1) : tAnd t u σ H Q := h
theorem stepOr {t u : TT} {σ : L2.St} {H : Hp} {Q : Bool → Hp → Prop} (h : t σ H fun c H1 => if c = true then Q true H1 else u σ H1 Q) : tOr t u σ H Q := h
theorem stepNot {t : TT} {σ : L2.St} {H : Hp} {Q : Bool → Hp → Prop} (h : t σ H fun c H1 => Q (!c) H1) : tNot t σ H Q := h
/-- every tuple there is may be read -/
def tupF (F H : Hp) : Hp := fun b => match F b with
  | some u => some u
  | none => match H b with
    | some (.tup vs) => some (.tup vs)
    | _ => none
theorem tupF_some {F H : Hp} {b : Addr} {u : HO} (e : F b = some u) : tupF F H b = some u := by
  unfold tupF
  rw [e]
theorem tupF_none {F H : Hp} {b : Addr} {u : HO} (e : F b = none) (h : tupF F H b = some u) : H b = some u ∧ ∃ vs, u = .tup vs := by
  unfold tupF at h
  rw [e] at h
  dsimp only at h
  split at h
  · rename_i vs e'
    cases h
    exact ⟨e', _, rfl⟩
  · cases h
theorem tupF_tup {F H : Hp} {b : Addr} {vs : List V} (e : F b = none) (h : H b = some (.tup vs)) : tupF F H b = some (.tup vs) := by
  unfold tupF
  rw [e, h]
theorem W.tups {F H : Hp} {os : List (Addr × HO)} (w : W F H os) : ∃ F', Same F F' ∧ W F' H os ∧ ∀ b vs, H b = some (.tup vs) → F' b = some (.tup vs) := by
  refine ⟨tupF F H, fun b u e => tupF_some e, ⟨fun b u e => ?_, fun p hp => ?_, w.nd, w.nt⟩, fun b vs e => ?_⟩
  · cases q : F b with
    | some u' =>
      rw [tupF_some q] at e
      cases e
      exact w.same b _ q
    | none => exact (tupF_none q e).1
  · obtain ⟨h1, h2⟩ := w.own p hp
    refine ⟨h1, ?_⟩
    cases q : tupF F H p.1 with
    | none => rfl
    | some u =>
      obtain ⟨k, vs, rfl⟩ := tupF_none h2 q
      rw [h1] at k
      exact absurd (Option.some.inj k) (w.nt p hp vs)
  · cases q : F b with
    | some u' =>
      have := w.same b _ q
      rw [e] at this
      cases this
      exact tupF_some q
    | none => exact tupF_tup q e
/-! ### sorted, of pairs -/
def leP (p q : Int × Int) : Bool := decide (p.1 < q.1 ∨ (p.1 = q.1 ∧ p.2 ≤ q.2))
def sortP (xs : List (Int × Int)) : List (Int × Int) := xs.mergeSort leP
theorem sortP_perm (xs : List (Int × Int)) : (sortP xs).Perm xs := List.mergeSort_perm xs _
theorem sortP_sorted (xs : List (Int × Int)) : (sortP xs).Pairwise fun p q => leP p q = true := by
  refine List.pairwise_mergeSort (le := leP) (fun a b c h1 h2 => ?_) (fun a b => ?_) xs
  · unfold leP at *
    simp only [decide_eq_true_eq] at *
    omega
  · unfold leP
    simp only [Bool.or_eq_true, decide_eq_true_eq]
    omega
theorem sortP_uniq {xs ys : List (Int × Int)} (h : xs.Perm ys) (hx : xs.Pairwise fun p q => leP p q = true) (hy : ys.Pairwise fun p q => leP p q = true) : xs = ys := by
  induction xs generalizing ys with
  | nil => exact (List.nil_perm.mp h).symm
  | cons x xs ih =>
    cases ys with
    | nil => exact absurd h.length_eq (by simp)
    | cons y ys =>
      rw [List.pairwise_cons] at hx hy
      have e : x = y := by
        have h1 : y ∈ x :: xs := h.mem_iff.mpr List.mem_cons_self
        have h2 : x ∈ y :: ys := h.mem_iff.mp List.mem_cons_self
        rcases List.mem_cons.mp h1 with e | h1
        · exact e.symm
        · rcases List.mem_cons.mp h2 with e | h2
          · exact e
          · have a := hx.1 y h1
            have b := hy.1 x h2
            unfold leP at a b
            simp only [decide_eq_true_eq] at a b
            exact Prod.ext (by omega) (by omega)
      subst e
      rw [ih h.cons_inv hx.2 hy.2]
theorem sortP_eq {xs ys : List (Int × Int)} (h : ys.Perm xs) (hy : ys.Pairwise fun p q => leP p q = true) : ys = sortP xs := sortP_uniq (h.trans (sortP_perm xs).symm) hy (sortP_sorted xs)
/-- which pair stands at a reference -/
def keyP (H : Hp) (v : V) : Int × Int := match v with
  | .ref t => match H t with
    | some (.tup [.int i, .int j]) => (i, j)
    | _ => (0, 0)
  | _ => (0, 0)
theorem keyP_of {K : Fg} {F H : Hp} {v : V} {x : Int × Int} (s : Same F H) (r : rep K F v x) : ∃ t, v = .ref t ∧ F t = some (.tup [.int x.1, .int x.2]) ∧ keyP H v = x := by
  obtain ⟨t, u, z, rfl, q, r1, r2⟩ := r
  obtain rfl : u = V.int x.1 := r1
  obtain rfl : z = V.int x.2 := r2
  refine ⟨t, rfl, q, ?_⟩
  have h := s _ _ q
  unfold keyP
  dsimp only
  rw [h]
theorem keyP_all {K : Fg} {F H : Hp} {vs : List V} {xs : List (Int × Int)} (s : Same F H) (h : A2 (rep K F) vs xs) : xs = vs.map (keyP H) ∧ ∀ v ∈ vs, ∃ t, v = .ref t ∧ F t = some (.tup [.int (keyP H v).1, .int (keyP H v).2]) := by
  induction h with
  | nil => exact ⟨rfl, fun _ z => nomatch z⟩
  | cons a b ih =>
    obtain ⟨t, e, q, k⟩ := keyP_of s a
    refine ⟨by rw [List.map_cons, k, ← ih.1], fun v hv => ?_⟩
    rcases List.mem_cons.mp hv with rfl | hv
    · exact ⟨t, e, by rw [k]; exact q⟩
    · exact ih.2 v hv
theorem rep_keys {K : Fg} {F H : Hp} : ∀ {ys : List V}, (∀ v ∈ ys, ∃ t, v = V.ref t ∧ F t = some (.tup [.int (keyP H v).1, .int (keyP H v).2])) → A2 (rep K F) ys (ys.map (keyP H))
  | [], _ => .nil
  | v :: ys, h => by
    obtain ⟨t, e, q⟩ := h v List.mem_cons_self
    refine .cons ?_ (rep_keys fun y hy => h y (List.mem_cons_of_mem _ hy))
    subst e
    exact ⟨t, _, _, rfl, q, rfl, rfl⟩
theorem cr_sortP {K : Fg} (hK : X.K = K) : CallR X (.builtin "sorted") (fun vs H Q => ∃ (a : Addr) (us : List V) (F : Hp) (xs : List (Int × Int)), vs = [V.ref a] ∧ SqL K H a us ∧ Same F H ∧ A2 (rep K F) us xs ∧
    ∀ p ys, H p = none → A2 (rep K F) ys (sortP xs) → Q (.ref p) (upd H p (.lst ys))) := by
  subst hK
  intro pins s σ H vs us Q I r h
  obtain ⟨a, us', F, xs, rfl, hs, sF, hA, q⟩ := h
  obtain ⟨e1, e2⟩ := keyP_all sF hA
  refine cr_sortedPO pins s σ H _ us Q I r ⟨a, us', keyP H, rfl, hs, fun x hx => ?_, fun ys p h1 h2 hp => q p ys hp ?_⟩
  · obtain ⟨t, e, k⟩ := e2 x hx
    exact ⟨t, e, sF _ _ k⟩
  · have e : ys.map (keyP H) = sortP xs := by
      refine sortP_eq ?_ ?_
      · rw [e1]
        exact h2.perm.map _
      · rw [List.pairwise_map]
        refine h1.imp fun {x y} h => ?_
        have h := SrtO.lexB_no.mp h
        unfold leP
        rw [decide_eq_true_eq]
        omega
    rw [← e]
    exact rep_keys fun v hv => e2 v (h2.perm.mem_iff.mp hv)
end
/-! ### dicts of scalars -/
section
variable {κ β γ δ : Type} [DecidableEq κ]
def mput (m : List (κ × β)) (k : κ) (v : β) : List (κ × β) := if (m.any fun p => decide (p.1 = k)) = true then m.map (fun p => if p.1 = k then (p.1, v) else p) else m ++ [(k, v)]
def mhas (m : List (κ × β)) (k : κ) : Bool := m.any fun p => decide (p.1 = k)
def mget (m : List (κ × β)) (k : κ) : Option β := (m.find? fun p => decide (p.1 = k)).map (·.2)
def mputR (m : List (κ × β)) (k : κ) (v : β) : R (List (κ × β)) := if m.length < 100000 then .ok (mput m k v) else .bad
def mgetR (m : List (κ × β)) (k : κ) : R β := ofO (mget m k)
/-- as the dict stands -/
def encM (e : κ → γ) (ev : β → V) (m : List (κ × β)) : List (γ × V) := m.map fun p => (e p.1, ev p.2)
variable [DecidableEq γ] {e : κ → γ} {ev : β → V}
theorem any_enc (he : ∀ a b, e a = e b → a = b) (m : List (κ × β)) (k : κ) : ((encM e ev m).any fun p => decide (p.1 = e k)) = m.any fun p => decide (p.1 = k) := by
  unfold encM
  rw [List.any_map]
  congr 1
  funext p
  show decide (e p.1 = e k) = decide (p.1 = k)
  by_cases h : p.1 = k
  · rw [h]; simp
  · rw [decide_eq_false h, decide_eq_false fun z => h (he _ _ z)]
theorem put_enc (he : ∀ a b, e a = e b → a = b) (m : List (κ × β)) (k : κ) (v : β) : putK (encM e ev m) (e k) (ev v) = encM e ev (mput m k v) := by
  unfold putK mput
  rw [any_enc he]
  by_cases h : (m.any fun p => decide (p.1 = k)) = true
  · rw [if_pos h, if_pos h]
    unfold encM
    rw [List.map_map, List.map_map]
    refine List.map_congr_left fun p _ => ?_
    show (if e p.1 = e k then (e p.1, ev v) else (e p.1, ev p.2)) = (fun q : κ × β => (e q.1, ev q.2)) (if p.1 = k then (p.1, v) else p)
    by_cases h : p.1 = k
    · rw [if_pos h, if_pos (congrArg e h)]
    · rw [if_neg h, if_neg fun z => h (he _ _ z)]
  · rw [if_neg h, if_neg h]
    unfold encM
    rw [List.map_append]
    rfl
theorem val_enc (he : ∀ a b, e a = e b → a = b) (k : κ) : ∀ m : List (κ × β), valV (encM e ev m) (e k) = (mget m k).map ev
  | [] => rfl
  | p :: m => by
    show valV ((e p.1, ev p.2) :: encM e ev m) (e k) = _
    unfold mget
    by_cases h : p.1 = k
    · rw [valV_pos (congrArg e h), List.find?_cons_of_pos (by simpa using h)]
      rfl
    · rw [valV_neg (fun z => h (he _ _ z)), List.find?_cons_of_neg (by simpa using h), val_enc he k m]
      rfl
theorem has_enc (he : ∀ a b, e a = e b → a = b) (m : List (κ × β)) (k : κ) : (valV (encM e ev m) (e k)).isSome = mhas m k := by
  rw [← valV_any, any_enc he]
  rfl
theorem enc_length (m : List (κ × β)) : (encM e ev m).length = m.length := List.length_map _
end
abbrev kI : Int → Key := .inl
theorem kI_inj : ∀ a b, kI a = kI b → a = b := fun _ _ h => Sum.inl.inj h
def kP (p : Int × Int) : List Key := [.inl p.1, .inl p.2]
theorem kP_inj : ∀ a b, kP a = kP b → a = b := fun a b h => by
  unfold kP at h
  injection h with h1 h2
  injection h2 with h2 _
  exact Prod.ext (Sum.inl.inj h1) (Sum.inl.inj h2)
section
variable {β : Type} {ev : β → V} {H : Hp} {a b : Addr}
theorem dget_k {m : List (Int × β)} {k : Int} (e : H a = some (.dK (encM kI ev m))) : DGet H a (.int k) ((mget m k).map ev) := by
  rw [← val_enc kI_inj]
  exact DGet.k (k := kI k) e
theorem dget_p {m : List ((Int × Int) × β)} {k : Int × Int} (e : H a = some (.dT (encM kP ev m))) (eb : H b = some (.tup [.int k.1, .int k.2])) : DGet H a (.ref b) ((mget m k).map ev) := by
  rw [← val_enc kP_inj]
  exact DGet.t (k := kP k) e eb
theorem get_has {κ : Type} [DecidableEq κ] (m : List (κ × β)) (k : κ) (f : β → V) : ((mget m k).map f).isSome = mhas m k := by
  rw [Option.isSome_map]
  unfold mget mhas
  rw [Option.isSome_map, List.isSome_find?]
theorem dput_k {m : List (Int × β)} {k : Int} {v : β} (e : H a = some (.dK (encM kI ev m))) (hl : m.length < sizeLine) : DPut H a (.int k) (ev v) (upd H a (.dK (encM kI ev (mput m k v)))) := by
  rw [← put_enc kI_inj]
  exact DPut.k (k := kI k) e (by rw [enc_length]; exact hl)
theorem dput_p {m : List ((Int × Int) × β)} {k : Int × Int} {v : β} (e : H a = some (.dT (encM kP ev m))) (eb : H b = some (.tup [.int k.1, .int k.2])) (hl : m.length < sizeLine) : DPut H a (.ref b) (ev v) (upd H a (.dT (encM kP ev (mput m k v)))) := by
  rw [← put_enc kP_inj]
  exact DPut.t (k := kP k) e eb (by rw [enc_length]; exact hl)
end
/-- the keys of a dict, as tuples that may be read -/
theorem keys_rep {β : Type} {ev : β → V} {K : Fg} {F H : Hp} (hF : ∀ b vs, H b = some (.tup vs) → F b = some (.tup vs)) : ∀ {m : List ((Int × Int) × β)} {bs : List Addr}, IsKeys H (encM kP ev m) bs → A2 (rep K F) (bs.map V.ref) (m.map (·.1))
  | [], [], _ => .nil
  | [], _ :: _, h => nomatch h
  | _ :: _, [], h => nomatch h
  | p :: m, b :: bs, .cons h1 h2 => .cons ⟨b, _, _, rfl, hF _ _ h1, rfl, rfl⟩ (keys_rep hF h2)
theorem pn_mput {κ β δ : Type} [DecidableEq κ] {m : List (κ × β)} {k : κ} {v : β} {f : List (κ × β) → R δ} {P : δ → Prop} {E : Exn → Prop} (h : Post (mputR m k v >>= f) P E) : ∃ m', m.length < sizeLine ∧ m' = mput m k v ∧ Post (f m') P E := by
  unfold mputR at h
  by_cases hl : m.length < 100000
  · rw [if_pos hl] at h
    exact ⟨_, Nat.lt_of_lt_of_le hl line5, rfl, h⟩
  · rw [if_neg hl] at h
    exact (show False from h).elim
/-! ### list(range(n)) -/
@[irreducible] def listRng (i j : Int) : R (List Int) := if -(2 ^ 62) ≤ i ∧ i < 2 ^ 62 ∧ -(2 ^ 62) ≤ j ∧ j < 2 ^ 62 ∧ (j - i).toNat ≤ 100000 then .ok (rng i j) else .bad
theorem rgV_eq (i j : Int) : rgV i j = (rng i j).map V.int := by
  unfold rgV rng
  rw [List.map_map]
  rfl
theorem pb_lrng {δ : Type} {i j : Int} {f : List Int → R δ} {P : δ → Prop} {E : Exn → Prop} (h : Post (listRng i j >>= f) P E) : ∃ l, RgOk i j ∧ l = rng i j ∧ Post (f l) P E := by
  unfold listRng at h
  by_cases hl : -(2 ^ 62) ≤ i ∧ i < 2 ^ 62 ∧ -(2 ^ 62) ≤ j ∧ j < 2 ^ 62 ∧ (j - i).toNat ≤ 100000
  · rw [if_pos hl] at h
    obtain ⟨a, b, c, d, e⟩ := hl
    exact ⟨_, ⟨a, b, c, d, by omega⟩, rfl, h⟩
  · rw [if_neg hl] at h
    exact (show False from h).elim
/-! ### a list of perhaps nothing, where nothing is nothing -/
def allS {α : Type} : List (Option α) → R (List α)
  | [] => .ok []
  | none :: _ => .bad
  | some x :: xs => allS xs >>= fun ys => .ok (x :: ys)
theorem allS_iff {α : Type} : ∀ {xs : List (Option α)} {ys : List α}, allS xs = R.ok ys ↔ xs = ys.map some
  | [], ys => by
    constructor
    · intro h; cases h; rfl
    · intro h
      cases ys with
      | nil => rfl
      | cons => cases h
  | none :: xs, ys => by
    constructor
    · intro h; cases h
    · intro h
      cases ys <;> cases h
  | some x :: xs, ys => by
    constructor
    · intro h
      obtain ⟨zs, e, h⟩ := bind_ok_iff.mp h
      cases h
      rw [allS_iff.mp e]
      rfl
    · intro h
      cases ys with
      | nil => cases h
      | cons y ys =>
        rw [List.map_cons] at h
        injection h with h1 h2
        cases h1
        show (allS xs >>= fun ys => R.ok (x :: ys)) = _
        rw [allS_iff.mpr h2]
        rfl
theorem pb_allS {α δ : Type} {xs : List (Option α)} {f : List α → R δ} {P : δ → Prop} {E : Exn → Prop} (h : Post (allS xs >>= f) P E) : ∃ ys, xs = ys.map some ∧ Post (f ys) P E := by
  cases e : allS xs with
  | ok ys =>
    rw [e] at h
    exact ⟨ys, allS_iff.mp e, h⟩
  | exc x =>
    rw [e] at h
    exfalso
    clear h
    induction xs with
    | nil => cases e
    | cons x xs ih =>
      cases x with
      | none => cases e
      | some x =>
        have e' : (allS xs >>= fun ys => R.ok (x :: ys)) = R.exc _ := e
        cases e2 : allS xs with
        | ok y => rw [e2] at e'; cases e'
        | exc y => rw [e2] at e'; cases e'; exact ih e2
        | bad => rw [e2] at e'; cases e'
  | bad =>
    rw [e] at h
    exact (show False from h).elim
theorem A2.unsome {α : Type} [Rep α] {K : Fg} {F : Hp} : ∀ {vs : List V} {ys : List α}, A2 (rep K F) vs (ys.map some) → A2 (rep K F) vs ys
  | [], [], _ => .nil
  | _ :: _, [], h => nomatch h
  | [], _ :: _, h => nomatch h
  | _ :: _, _ :: _, .cons a b => .cons a (A2.unsome b)
/-! ### pop -/
@[irreducible] def popB {α : Type} (xs : List α) (i : Int) : R (α × List α) := if -(2 ^ 62) ≤ i ∧ i < 2 ^ 62 then popAt xs i else .bad
theorem pn_popB {α β : Type} {xs : List α} {i : Int} {f : α × List α → R β} {Q : β → Prop} {E : Exn → Prop} (h : Post (popB xs i >>= f) Q E) : ∃ j x ys, (-(2 ^ 63) ≤ i ∧ i < 2 ^ 63) ∧ ixN xs.length i = some j ∧ xs[j]? = some x ∧ ys = xs.eraseIdx j ∧ Post (f (x, ys)) Q E := by
  unfold popB at h
  by_cases hi : -(2 ^ 62) ≤ i ∧ i < 2 ^ 62
  · rw [if_pos hi] at h
    obtain ⟨j, x, ys, a, b, c, d⟩ := pn_popAt h
    exact ⟨j, x, ys, by omega, a, b, c, d⟩
  · rw [if_neg hi] at h
    exact (show False from h).elim
theorem pn_popI {α β : Type} {xs : List α} {f : α × List α → R β} {Q : β → Prop} {E : Exn → Prop} (h : Post (popI xs >>= f) Q E) : ∃ x ys, xs[xs.length - 1]? = some x ∧ ys = xs.dropLast ∧ Post (f (x, ys)) Q E := by
  unfold popI at h
  rw [List.getLast?_eq_getElem?] at h
  cases e : xs[xs.length - 1]? with
  | none =>
    rw [e] at h
    exact (show False from h).elim
  | some x =>
    rw [e] at h
    exact ⟨x, _, rfl, rfl, h⟩
theorem A2.lastV {α : Type} {r : V → α → Prop} {vs : List V} {xs : List α} {x : α} (h : A2 r vs xs) (e : xs[xs.length - 1]? = some x) : ∃ u, vs[vs.length - 1]? = some u ∧ r u x := by
  rw [h.length]
  exact h.get e
/-! ### in, of a dict of scalars -/
def tDInH (ty td : TE) : TE := fun σ H Q => ty σ H fun y H1 => td σ H1 fun x H2 => ∃ a o b, x = .ref a ∧ DGet H2 a y o ∧ o.isSome = b ∧ Q (.bl b) H2
def tDNotInH (ty td : TE) : TE := fun σ H Q => ty σ H fun y H1 => td σ H1 fun x H2 => ∃ a o b, x = .ref a ∧ DGet H2 a y o ∧ o.isSome = b ∧ Q (.bl (!b)) H2
section
variable {X : Cx} {o i : Expr} {td ty : TE}
theorem pc_dinH (hu : X.A.units + 1 < cLine) (hi : PE X i ty) (ho : PE X o td) : PC X .In i o (tDInH ty td) := by
  refine ⟨fun pins s σ H Q I h => ?_⟩
  refine thn (hi.run pins s σ H _ I h) fun iv s1 ⟨y, H1, I1, ry, q1⟩ => thn (ho.run pins s1 σ H1 _ I1 q1) fun u s2 ⟨x, H2, I2, rx, a, ov, b, ex, g, eb, q2⟩ => ?_
  subst ex
  subst eb
  obtain rfl : u = Value.ref a := rx
  exact d_in hu I2 g ry fun s3 I3 => ⟨.bl ov.isSome, H2, I3, rfl, q2⟩
theorem pc_dnotinH (hu : X.A.units + 1 < cLine) (hi : PE X i ty) (ho : PE X o td) : PC X .NotIn i o (tDNotInH ty td) := by
  refine ⟨fun pins s σ H Q I h => ?_⟩
  refine thn (hi.run pins s σ H _ I h) fun iv s1 ⟨y, H1, I1, ry, q1⟩ => thn (ho.run pins s1 σ H1 _ I1 q1) fun u s2 ⟨x, H2, I2, rx, a, ov, b, ex, g, eb, q2⟩ => ?_
  subst ex
  subst eb
  obtain rfl : u = Value.ref a := rx
  exact d_notIn hu I2 g ry fun s3 I3 => ⟨.bl (!ov.isSome), H2, I3, rfl, q2⟩
end
theorem Room.units1 {k : Nat} {A : Around} (r : Room k A) : A.units + 1 < cLine := by
  have := r.un
  omega
end Z
/-! ZX: an exception caught by its class, held behind the suite as a thing of its own -/
namespace L2
open PySem PySem.Spec PyProof.Rows
/-- a caught exception of the class cls at a -/
def ExH (cls : Value) (a : Addr) : HO := .ext fun h => ∃ (oe : Obj), h.get? a = some oe ∧ Zc cls none oe ∧ ∃ vs, oe.data = .fields vs
theorem exH_ok {P : Program} {w : World} {H : Hp} {h : Heap} {a : Addr} {cls : Value} {oe : Obj} (e : h.get? a = some oe) (z : Zc cls none oe) (d : ∃ vs, oe.data = .fields vs) : ObjOk P w H h a (ExH cls a) :=
  ⟨⟨oe, e, z, d⟩, ⟨oe, e⟩, fun _ _ ⟨o, q, r⟩ k => ⟨o, k o q, r⟩⟩
section
variable {X : Cx} {pins : List (Addr × Obj)} {σ : St} {H : Hp} {s : Shared}
/-- what is pinned, and new since the def began, may be tracked -/
theorem Inv.track {a : Addr} {oe : Obj} {cls : Value} (I : Inv X ((a, oe) :: pins) σ H s) (n0 : X.s_0.heap.get? a = none) (hz : Zc cls none oe) (hd : ∃ vs, oe.data = .fields vs) (hp : ∀ p ∈ X.pn ++ pins, p.1 ≠ a) : Inv X pins σ (upd H a (ExH cls a)) s := by
  obtain ⟨ha, na, nL, nF, _⟩ := I.pin (a, oe) (List.mem_append_right _ List.mem_cons_self)
  dsimp only at ha na nL nF
  have ne0 : ∀ b o, X.s_0.heap.get? b = some o → b ≠ a := fun b o e z => by
    rw [z, n0] at e
    cases e
  refine ⟨I.ok, I.os, I.bare, ⟨I.base.keep, I.base.slot, fun b o e n hq => ?_, I.base.there, fun b xs e => ?_, fun b o u e => ?_, fun b ps e => ?_⟩, I.loc, I.cell, ?_, fun x c e => ?_, fun p hp' => ?_, fun b u e => ?_, I.len⟩
  · rw [upd_ne (ne0 b o e)]
    exact I.base.free b o e n hq
  · have q := I.base.tups b xs e
    rw [upd_ne (ne_of_none q na)]
    exact q
  · have q := I.base.frzs b o u e
    rw [upd_ne (ne_of_none q na)]
    exact q
  · obtain ⟨m, q⟩ := I.base.tbls b ps e
    exact ⟨m, by rw [upd_ne (ne_of_none q na)]; exact q⟩
  · rw [upd_ne (Ne.symm nL)]
    exact I.free
  · have hne : c ≠ a := fun z => by
      obtain ⟨v, o, ho, hc⟩ := I.cell x c e
      rw [z, ha] at ho
      cases ho
      obtain ⟨vs, hd⟩ := hd
      rw [hd] at hc
      cases hc
    rw [upd_ne hne]
    exact I.freeC x c e
  · have hp2 : p ∈ X.pn ++ ((a, oe) :: pins) := by
      rcases List.mem_append.mp hp' with z | z
      · exact List.mem_append_left _ z
      · exact List.mem_append_right _ (List.mem_cons_of_mem _ z)
    obtain ⟨e, n, ne, nf, d⟩ := I.pin p hp2
    exact ⟨e, by rw [upd_ne (hp p hp')]; exact n, ne, nf, d⟩
  · by_cases hb : b = a
    · subst hb
      rw [upd_same] at e
      cases e
      exact exH_ok ha hz hd
    · rw [upd_ne hb] at e
      refine (I.hok b u e).stay (fun c v _ q => q) (fun c q => ?_) fun c xs q => ?_
      · rw [upd_ne (ne_of_none q na)]
        exact q
      · rw [upd_ne (ne_of_none q na)]
        exact q
theorem Inv.unsuiteK {a : Addr} {q : Addr × Obj} {pn' : List (Addr × Obj)} (I : Inv (X.suite a (q :: (X.pn ++ pins))) pn' σ H s) (ok : X.Ok) : Inv X (q :: pins) σ H s :=
  ⟨ok, I.os, I.bare, I.base, I.loc, I.cell, I.free, I.freeC, fun p hp => I.pin p (List.mem_append_left _ (by
    rcases List.mem_append.mp hp with z | z
    · exact List.mem_cons_of_mem _ (List.mem_append_left _ z)
    · rcases List.mem_cons.mp z with z | z
      · rw [z]; exact List.mem_cons_self
      · exact List.mem_cons_of_mem _ (List.mem_append_right _ z))), I.hok, I.len⟩
/-- what the clause 'except x as n' wishes, where the exception is held behind the suite: slot i is n's -/
def wHold (K : PySem.W.Frag) (c : Value) (i : Nat) (ts : Addr → Value → TS) (Wout : WX) (D : Ends) : WX := fun cls d σ H =>
  ∃ b, PySem.W.exmOne K cls c = some b ∧ (b = true → d = none ∧ ∀ a, H a = none → ts a cls { nx := fun σ' H' => H' a = none → D.nx (σ'.set i none) (upd H' a (ExH cls a)), rt := fun _ _ => False, bk := fun _ _ => False, ct := fun _ _ => False } (σ.set i (some (.ref a))) H) ∧
    (b = false → Wout cls d σ H)
variable {x n : Str} {c : Value} {i : Nat} {body suite : List Stmt} {b₀ : Stmt} {np pos pos' : Pos} {tb : WX → TS} {ts : Addr → Value → TS} {Wout : WX}
theorem ps_try_hold (hs : X.stack = X.env :: X.outer) (hf : X.env.frame = some X.env.locals) (hex : X.ex = []) (hN : X.N.Nodup) (hi : X.N[i]? = some n) (hln : X.env.kindOf n = some .local) (hc : Names X x c) (tk : Takes X Wout)
    (hb : ∀ (W : WX) (pn : List (Addr × Obj)) (xe : Value → Shared → Prop), Takes (X.tr pn xe) W → PassesOwn (model X.prog X.w) X.A X.env xe → PSs (X.tr pn xe) body (tb W))
    (hsu : ∀ (a : Addr) (oe : Obj) (cls : Value) (pn : List (Addr × Obj)), PSs (X.suite a ((a, oe) :: pn)) (b₀ :: suite) (ts a cls)) :
    PS X (.Try body [.ExceptHandler (some (.Name x np)) (some n) (b₀ :: suite) pos'] [] [] pos) (fun D σ H => tb (wHold X.K c i ts Wout D) D σ H) := by
  refine ⟨fun pins s σ H D I h => ?_⟩
  have ok := I.ok
  have hfr : X.A.frames = some (X.env :: X.outer) := by rw [ok.frames, hs]
  have hloc : Loc X.env.scope n := .inl hln
  refine wpAny_Try_except ?_
  refine wpAny_mono ((hb (wHold X.K c i ts Wout D) (X.pn ++ pins) (fun e s₁ => wpAny (model X.prog X.w) X.A (noteFrame e X.env) (fun _ s₂ => wpAny (model X.prog X.w) X.A (setFlight e none) (fun _ s₃ =>
    wpAny (model X.prog X.w) X.A (handleBy e X.env [.ExceptHandler (some (.Name x np)) (some n) (b₀ :: suite) pos']) (SP X pins D) X.xe s₃) X.xe s₂) X.xe s₁) (fun u s' xx => ?_) PassesOwn.looking).run [] s σ H D (I.toTry _) h) (fun f s1 hsp => ?_) (fun e s1 he => he)
  · -- the catch
    obtain ⟨a, B, sI, pins', σ', H', cls, d, rfl, J', nb, up, sky, na, os, ag, b, hb1, hyes, hno⟩ := xx
    have J : Inv X pins σ' H' sI := J'.ofTry ok
    have sky' : Sky B (X.env :: X.outer) a (Zc cls d) X.env.locals s'.heap := by rw [← hs]; exact sky
    show wpAny (model X.prog X.w) X.A (noteFrame (.ref a) X.env) _ _ _
    refine Sky.land Zc.steady hfr hf sky' fun h3 fl3 up3 => ?_
    have J3 : Inv X pins σ' H' { s' with heap := h3 } := J.landed nb fl3.1 (up.trans up3) os ag
    obtain ⟨oe3, vs3, he3, hz3, hd3⟩ := fl3.there
    have notFr : ∀ {h : Heap} {o : Obj} {vs : Array Value}, h.FunFrames B (X.env :: X.outer) → h.get? a = some o → o.data = .fields vs → a ∉ frs (X.env :: X.outer) := fun {h o vs} ff e dd hm => by
      obtain ⟨_, o', e', hnf⟩ := ff.mem hm
      rw [e] at e'; cases e'
      exact hnf _ dd
    have nfr := notFr fl3.2.2.1 he3 hd3
    have nL : a ≠ X.env.locals := fun z => nfr (List.mem_filterMap.mpr ⟨X.env, List.mem_cons_self, by rw [hf, z]⟩)
    have nF : a ∉ X.fs := fun hm => by
      obtain ⟨e, he, q⟩ := List.mem_filterMap.mp hm
      exact nfr (List.mem_filterMap.mpr ⟨e, List.mem_cons_of_mem _ he, q⟩)
    have nB : B.get? a = none := fl3.2.1
    have nI : sI.heap.get? a = none := by
      cases e : sI.heap.get? a with
      | none => rfl
      | some o =>
        have z := nb a o e (by rw [hs]; exact nfr)
        rw [nB] at z
        cases z
    have n0 : X.s_0.heap.get? a = none := by
      cases e : X.s_0.heap.get? a with
      | none => rfl
      | some o =>
        obtain ⟨o', z⟩ := J.base.there a o e (by rw [hex]; exact fun z => nomatch z)
        rw [nI] at z
        cases z
    have hpin : ∀ p ∈ X.pn ++ pins, p.1 ≠ a := fun p hp z => by
      have e := (J.pin p hp).1
      rw [z, nI] at e
      cases e
    have S3 := J3.suite he3 hd3 na nL nF
    refine wpAny_handleBy_cons (codeAny_handlers_test ?_) (by intro q; cases q)
    have LT : PySem.W.Looks (model X.prog X.w) h3 (typeOf (.ref a)) cls := fun A Q E s k q => wpAny_typeOf_ref (k _ _ he3) (by rw [hz3.1]; exact q)
    have LM := PySem.W.exm_one (M := model X.prog X.w) (J3.kIn) LT hb1
    have test : ∀ {Q : Value → Shared → Prop} {E : Value → Shared → Prop}, Q c { s' with heap := h3 } → wpAny (model X.prog X.w) (X.A.mark (some (.ref a))) (eval (.Name x np) X.env) Q E { s' with heap := h3 } := fun {Q E} q => by
      obtain ⟨hg, hdbg, hm | ⟨hm, hv, hnn⟩⟩ := hc
      · exact ld_glob (X := X.suite a ((a, oe3) :: (X.pn ++ pins))) S3 hg hm q hdbg
      · exact ld_blt (X := X.suite a ((a, oe3) :: (X.pn ++ pins))) S3 hg hm hv q hnn hdbg
    refine test (LM.here ?_)
    cases b with
    | true =>
      obtain ⟨rfl, hyes2⟩ := hyes rfl
      refine codeAny_handlers_suite_as ?_
      refine HandSPX.lands_againZ fl3 fun h4 fl4 up4 => ?_
      have J4 : Inv X pins σ' H' { s' with heap := h4 } := J.landed nb fl4.1 ((up.trans up3).trans up4) os ag
      obtain ⟨oe4, vs4, he4, hz4, hd4⟩ := fl4.there
      have S4 := J4.suite he4 hd4 na nL nF
      refine store_ok (X := X.suite a ((a, oe4) :: (X.pn ++ pins))) (v := .ref a) S4 hN hi hloc rfl (fun s5 S5 => ?_) (.inr hln)
      refine wpAny_mono ((hsu a oe4 cls (X.pn ++ pins)).run [] s5 _ H' _ S5 (hyes2 a na)) (fun f s6 hsp => ?_) (fun _ _ z => False.elim z)
      cases f with
      | next =>
        obtain ⟨σ6, H6, S6, q6⟩ := hsp
        refine gone_ok (S6.unsuiteK ok) hN hi hln fun s7 J7 => ?_
        have na6 : H6 a = none := (J7.pin (a, oe4) (List.mem_append_right _ List.mem_cons_self)).2.1
        exact ⟨_, _, J7.track n0 hz4 ⟨_, hd4⟩ hpin, q6 na6⟩
      | brk =>
        obtain ⟨σ6, H6, S6, q6⟩ := hsp
        exact q6.elim
      | cont =>
        obtain ⟨σ6, H6, S6, q6⟩ := hsp
        exact q6.elim
      | ret u =>
        obtain ⟨v6, σ6, H6, S6, r6, q6⟩ := hsp
        exact q6.elim
    | false =>
      show wpAny _ X.A (handleBy (.ref a) X.env []) _ _ _
      refine wpAny_handleBy_nil ?_
      obtain ⟨k1, k2, k3, oe, vs, T, oT, ts', he, hz, hd, h1, hr⟩ := id fl3
      unfold PySem.passOn
      refine wpAny_bind (wpAny_field he hd h1 ?_)
      rw [if_neg (show ¬ ((Value.ref T == Value.none) = true) from by simp)]
      have fin : wpAny (model X.prog X.w) X.A (setFlight (.ref a) X.env.frame) (fun _ s4 => wpAny (model X.prog X.w) X.A (throw (.ref a) : Sem Flow) (SP X pins D) X.xe s4) X.xe { s' with heap := h3 } := by
        rw [hf]
        refine HandSPX.setFlight_upZ fl3 fun h4 hh4 up4 => wpAny_throw (tk _ _ ?_)
        exact ⟨a, B, sI, pins, σ', H', cls, d, rfl, J, nb, (up.trans up3).trans up4, .inr (.inr (by rw [hs]; exact hh4)), na, os, ag, hno rfl⟩
      first
        | exact wpAny_bind (wpAny_pure (wpAny_bind fin))
        | exact wpAny_bind fin
  · cases f with
    | next =>
      obtain ⟨σ', H', J', q⟩ := hsp
      exact wpAny_execs_nil ⟨σ', H', J'.ofTry ok, q⟩
    | brk =>
      obtain ⟨σ', H', J', q⟩ := hsp
      exact ⟨σ', H', J'.ofTry ok, q⟩
    | cont =>
      obtain ⟨σ', H', J', q⟩ := hsp
      exact ⟨σ', H', J'.ofTry ok, q⟩
    | ret u =>
      obtain ⟨v, σ', H', J', r, q⟩ := hsp
      exact ⟨v, σ', H', J'.ofTry ok, r, q⟩
/-- isinstance(e, c) of a held exception e: c one class, or a tuple of classes -/
def rIsH (K : PySem.W.Frag) (D : Addr) : List V → Hp → VK → Prop := fun xs H Q => ∃ (a : Addr) (c : V) (b : Bool), xs = [.ref a, c] ∧ H a = some (ExH (.ref D) a) ∧
  ((∃ cv, (∀ u, RelV c u → u = cv) ∧ PySem.W.kitOne K (.ref D) cv = some b) ∨ (∃ p vs its, c = .ref p ∧ H p = some (.tup vs) ∧ (∀ us, Vals vs us → us = its) ∧ PySem.W.kitAny K (.ref D) its = some b)) ∧ Q (.bl b) H
theorem call_isH {D : Addr} (C : ExcC X.K D) : CallR X (.builtin "isinstance") (rIsH X.K D) := by
  intro pins s σ H xs us Q I r h
  obtain ⟨a, c, b, rfl, hH, hc, q⟩ := h
  cases r with
  | cons rx rr =>
    cases rr with
    | cons rt rr =>
      cases rr
      cases rx
      obtain ⟨⟨oe, hget, ⟨h1, h2⟩, vs, hv⟩, _, _⟩ := I.hok a _ hH
      have J : PySem.W.InstAt s.heap a oe D none := by
        obtain ⟨oc, od, oda, osl⟩ := oe
        dsimp only at h1 h2 hv
        subst h1 h2 hv
        exact ⟨hget, rfl, rfl, trivial⟩
      have fin : ∀ tk, EP X pins σ Q (.bool b) { s with toks := tk } := fun tk => ⟨.bl b, H, I.kept (t' := tk) fun _ _ z => z, rfl, q⟩
      rcases hc with ⟨cv, hcv, e⟩ | ⟨p, vs, its, rfl, hp, hu, e⟩
      · have ec := hcv _ rt
        subst ec
        exact PySem.W.kia_one (PySem.W.handS_kitx_exc C.hg C.hk C.hs C.hd C.ha C.hn C.ht C.hm) I.kIn J e (fun z => nomatch z) fin
      · cases rt
        obtain ⟨_, its', r', ob, ho, hob1, n, hob2⟩ := I.hok p _ hp
        have := hu _ r'
        subst this
        obtain ⟨oc, od, oda, osl⟩ := ob
        dsimp only at hob1 hob2
        subst hob1 hob2
        exact PySem.W.kia_tup (PySem.W.handS_kitx_exc C.hg C.hk C.hs C.hd C.ha C.hn C.ht C.hm) I.kIn J ho e (fun z => nomatch z) fin
/-- isinstance(e, c) of a handled exception, in its suite -/
def rIsEX (K : PySem.W.Frag) (cls : Value) (d : Option Addr) (a : Addr) : List V → Hp → VK → Prop := fun xs H Q => ∃ D, cls = .ref D ∧ d = none ∧ ExcC K D ∧ ∃ (c : V) (cv : Value) (b : Bool), xs = [.ref a, c] ∧ (∀ u, RelV c u → u = cv) ∧ PySem.W.kitOne K (.ref D) cv = some b ∧ Q (.bl b) H
theorem call_isEX {K : PySem.W.Frag} {a : Addr} {cls : Value} {d : Option Addr} {oe : Obj} {pn : List (Addr × Obj)} (hK : X.K = K) (hz : Zc cls d oe) (hf : ∃ vs, oe.data = .fields vs) : CallR (X.suite a ((a, oe) :: pn)) (.builtin "isinstance") (rIsEX K cls d a) := by
  subst hK
  intro pins s σ H xs us Q I r ⟨D, e1, e2, C, h⟩
  subst e1 e2
  exact call_isE C hz hf pins s σ H xs us Q I r h
theorem call_isH' : CallR X (.builtin "isinstance") (fun xs H Q => ∃ D, ExcC X.K D ∧ rIsH X.K D xs H Q) := fun pins s σ H xs us Q I r ⟨_, C, h⟩ => call_isH C pins s σ H xs us Q I r h
theorem call_isHK {K : PySem.W.Frag} (hK : X.K = K) : CallR X (.builtin "isinstance") (fun xs H Q => ∃ D, ExcC K D ∧ rIsH K D xs H Q) := by
  subst hK
  exact call_isH'
end
end L2
namespace Z
open PySem L2
open Rep (rep)
/-- the class that a name of the text names -/
def Nm (K : Fg) (x : Str) (C : Addr) : Prop := PySem.W.nsIn K mainGlobals x = some (some (.ref C))
theorem Nm.uniq {K : Fg} {x : Str} {C D : Addr} (a : Nm K x C) (b : Nm K x D) : C = D := by
  have h := a.symm.trans b
  injection h with h
  injection h with h
  injection h
instance repExn : Rep Exn := ⟨fun K F v e => ∃ a C, v = .ref a ∧ Nm K e.cls C ∧ F a = some (ExH (.ref C) a), fun s ⟨a, C, h, n, q⟩ => ⟨a, C, h, n, s _ _ q⟩⟩
/-- what a call that lets an error out leaves -/
def RetX (K : Fg) (F : Hp) (os : List (Addr × HO)) (E : XK) : Exn → Prop := fun e => ∀ C F' H', Nm K e.cls C → W F' H' os → Same F F' → E (.ref C) none H'
/-- all that the body lets out is caught -/
def tryR {α : Type} (names : List Str) (b : R α) : R (Option Exn) := match b with
  | .ok _ => .ok none
  | .exc e => if e.cls ∈ names then .ok (some e) else .bad
  | .bad => .bad
/-- .. with a suite -/
def tryWith {α : Type} (names : List Str) (b : R α) (h : Exn → R α) : R α := match b with
  | .ok x => .ok x
  | .exc e => if e.cls ∈ names then h e else .bad
  | .bad => .bad
theorem post_tryWith {α : Type} {names : List Str} {b : R α} {h : Exn → R α} {P : α → Prop} {X : Exn → Prop} (q : Post (tryWith names b h) P X) : Post b P (fun e => e.cls ∈ names ∧ Post (h e) P X) := by
  cases b with
  | ok a => exact q
  | exc e =>
    have q' : Post (if e.cls ∈ names then h e else R.bad) P X := q
    by_cases c : e.cls ∈ names
    · rw [if_pos c] at q'
      exact ⟨c, q'⟩
    · rw [if_neg c] at q'
      exact (show False from q').elim
  | bad => exact q
theorem post_try {α : Type} {names : List Str} {b : R α} {P : Option Exn → Prop} {X : Exn → Prop} (h : Post (tryR names b) P X) : Post b (fun _ => P none) (fun e => e.cls ∈ names ∧ P (some e)) := by
  cases b with
  | ok a => exact h
  | exc e =>
    have h' : Post (if e.cls ∈ names then R.ok (some e) else R.bad) P X := h
    by_cases c : e.cls ∈ names
    · rw [if_pos c] at h'
      exact ⟨c, h'⟩
    · rw [if_neg c] at h'
      exact (show False from h').elim
  | bad => exact h
/-- isinstance of a caught error: tn, the names under the classes asked -/
def isC (names tn : List Str) (e : Exn) : R Bool := if e.cls ∈ names then .ok (decide (e.cls ∈ tn)) else .bad
theorem pb_isC {δ : Type} {names tn : List Str} {e : Exn} {f : Bool → R δ} {P : δ → Prop} {X : Exn → Prop} (h : Post (isC names tn e >>= f) P X) : e.cls ∈ names ∧ Post (f (decide (e.cls ∈ tn))) P X := by
  unfold isC at h
  by_cases c : e.cls ∈ names
  · rw [if_pos c] at h
    exact ⟨c, h⟩
  · rw [if_neg c] at h
    exact (show False from h).elim
def raiseR {α : Type} (x : Str) : R α := .exc ⟨x, 0⟩
/-- a call that lets no error out -/
def nx {α : Type} (m : R α) : R α := match m with
  | .ok a => .ok a
  | .exc _ => .bad
  | .bad => .bad
theorem post_nx {α δ : Type} {m : R α} {k : α → R δ} {P : δ → Prop} {X : Exn → Prop} (h : Post (nx m >>= k) P X) : Post m (fun a => Post (k a) P X) noX := by
  cases m with
  | ok a => exact h
  | exc e => exact (show False from h).elim
  | bad => exact (show False from h).elim
theorem kit_ref {K : Fg} {x y : Addr} {b : Bool} (h1 : PySem.W.isClsIn K y = true) (h2 : PySem.W.typeIn K (.ref y) = some (.type "type")) (h3 : PySem.W.subIn K (.ref x) (.ref y) = some b) (h4 : b = true ∨ (Value.ref x == Value.ref y) = false) : PySem.W.kitOne K (.ref x) (.ref y) = some b := by
  have e : PySem.W.kitCls K (.ref x) (.ref y) = some b := by
    have h1' : (PySem.W.clsIn K y).isSome = true := h1
    have e2 : ((PySem.W.clsIn K y).isSome && PySem.W.typeIn K (.ref y) == some (.type "type")) = true := by rw [h1', h2] <;> rfl
    show (if ((PySem.W.clsIn K y).isSome && PySem.W.typeIn K (.ref y) == some (.type "type")) = true then PySem.W.subIn K (.ref x) (.ref y) else none) = some b
    rw [if_pos e2]
    exact h3
  unfold PySem.W.kitOne
  rcases h4 with rfl | h4
  · rw [e]
    split <;> rfl
  · rw [h4, if_neg (by decide)]
    exact e
theorem kit_ty {K : Fg} {x : Addr} {T : String} {b : Bool} (h1 : PySem.W.kitMeta T = true) (h3 : PySem.W.subIn K (.ref x) (.type T) = some b) : PySem.W.kitOne K (.ref x) (.type T) = some b := by
  have e : PySem.W.kitCls K (.ref x) (.type T) = some b := by
    show (if PySem.W.kitMeta T = true then PySem.W.subIn K (.ref x) (.type T) else none) = some b
    rw [if_pos h1]
    exact h3
  unfold PySem.W.kitOne
  have h4 : (Value.ref x == Value.type T) = false := rfl
  rw [h4, if_neg (by decide)]
  exact e
/-- what is known of an own error class -/
structure XC (K : Fg) (mg : Str → Option Value) (x : Str) (C : Addr) : Prop where
  ns : Nm K x C
  gm : mg x = some (.ref C)
  xc : PySem.W.excIn K C [.type "ValueError", .type "Exception", .type "BaseException", .type "object"] "ValueError.__new__" = true
  kp : PySem.W.keepIn K (.ref C) = true
  b : PySem.W.subIn K (.ref C) (.type "BaseException") = some true
  t : PySem.W.typeIn K (.ref C) = some (.type "type")
  ex : ExcC K C
end Z
/-! Z5: regions: lists of one's own by their number in a store -/
namespace Z
open PySem L2
open Rep (rep)
/-! ### two lists, item by item -/
inductive F2 {α β : Type} (r : α → β → Prop) : List α → List β → Prop
  | nil : F2 r [] []
  | cons {a : α} {b : β} {as : List α} {bs : List β} : r a b → F2 r as bs → F2 r (a :: as) (b :: bs)
section
variable {α β : Type} {r r' : α → β → Prop} {as : List α} {bs : List β}
theorem F2.length : ∀ {as : List α} {bs : List β}, F2 r as bs → as.length = bs.length
  | _, _, .nil => rfl
  | _, _, .cons _ t => by rw [List.length_cons, List.length_cons, F2.length t]
theorem F2.imp (f : ∀ a b, r a b → r' a b) : ∀ {as : List α} {bs : List β}, F2 r as bs → F2 r' as bs
  | _, _, .nil => .nil
  | _, _, .cons h t => .cons (f _ _ h) (F2.imp f t)
theorem F2.get : ∀ {as : List α} {bs : List β} {i : Nat} {b : β}, F2 r as bs → bs[i]? = some b → ∃ a, as[i]? = some a ∧ r a b
  | _, _, _, _, .nil, e => by simp at e
  | _, _, 0, _, .cons h _, e => by simp at e; subst e; exact ⟨_, rfl, h⟩
  | _, _, i + 1, b, .cons _ t, e => by
    obtain ⟨v, h1, h2⟩ := F2.get (i := i) (b := b) t (by simpa using e)
    exact ⟨v, by simpa using h1, h2⟩
theorem F2.set {a : α} {b : β} (h : r a b) : ∀ {as : List α} {bs : List β} (i : Nat), F2 r as bs → F2 r (as.set i a) (bs.set i b)
  | _, _, _, .nil => .nil
  | _, _, 0, .cons _ t => .cons h t
  | _, _, i + 1, .cons q t => .cons q (F2.set h i t)
theorem F2.append : ∀ {as as' : List α} {bs bs' : List β}, F2 r as bs → F2 r as' bs' → F2 r (as ++ as') (bs ++ bs')
  | _, _, _, _, .nil, h => h
  | _, _, _, _, .cons a t, h => .cons a (F2.append t h)
theorem F2.snoc {a : α} {b : β} (h : F2 r as bs) (q : r a b) : F2 r (as ++ [a]) (bs ++ [b]) := h.append (.cons q .nil)
end
/-! ### a store's lists: cells -/
def nz : List Addr → List (List V) → List (Addr × HO)
  | a :: as, vs :: vss => (a, .lst vs) :: nz as vss
  | _, _ => []
theorem nz_split : ∀ {as : List Addr} {vss : List (List V)} {j : Nat} {a : Addr} {vs : List V}, as[j]? = some a → vss[j]? = some vs →
    ∃ x y, nz as vss = x ++ (a, .lst vs) :: y ∧ ∀ us, nz as (vss.set j us) = x ++ (a, .lst us) :: y
  | [], _, j, _, _, h, _ => by simp at h
  | _ :: _, [], j, _, _, _, h => by simp at h
  | b :: as, ws :: vss, 0, a, vs, h1, h2 => by
    simp at h1 h2
    subst h1 h2
    exact ⟨[], nz as vss, rfl, fun _ => rfl⟩
  | b :: as, ws :: vss, j + 1, a, vs, h1, h2 => by
    obtain ⟨x, y, e1, e2⟩ := nz_split (as := as) (vss := vss) (j := j) (a := a) (vs := vs) (by simpa using h1) (by simpa using h2)
    exact ⟨(b, .lst ws) :: x, y, by show (b, HO.lst ws) :: nz as vss = _; rw [e1]; rfl, fun us => by show (b, HO.lst ws) :: nz as (vss.set j us) = _; rw [e2]; rfl⟩
theorem nz_snoc : ∀ {as : List Addr} {vss : List (List V)} {a : Addr} {vs : List V}, as.length = vss.length → nz (as ++ [a]) (vss ++ [vs]) = nz as vss ++ [(a, .lst vs)]
  | [], [], _, _, _ => rfl
  | [], _ :: _, _, _, h => by simp at h
  | _ :: _, [], _, _, h => by simp at h
  | b :: as, ws :: vss, a, vs, h => by
    show (b, HO.lst ws) :: nz (as ++ [a]) (vss ++ [vs]) = (b, HO.lst ws) :: (nz as vss ++ [(a, .lst vs)])
    rw [nz_snoc (by simpa using h)]
section
variable {F H : Hp} {os os' pre post : List (Addr × HO)} {a p : Addr} {o : HO} {as : List Addr} {vss : List (List V)} {j : Nat} {vs : List V}
theorem W.perm (h : os.Perm os') (w : W F H os) : W F H os' where
  same := w.same
  own := fun q hq => w.own q (h.mem_iff.mpr hq)
  nd := h.pairwise_iff (fun e q => e q.symm) |>.mp w.nd
  nt := fun q hq => w.nt q (h.mem_iff.mpr hq)
/-- the j-th list of a store -/
theorem W.nget (w : W F H (pre ++ (nz as vss ++ post))) (h1 : as[j]? = some a) (h2 : vss[j]? = some vs) : H a = some (.lst vs) := by
  obtain ⟨x, y, e, _⟩ := nz_split h1 h2
  rw [e] at w
  exact (w.own (a, .lst vs) (by simp)).1
theorem W.nset (w : W F H (pre ++ (nz as vss ++ post))) (us : List V) (h1 : as[j]? = some a) (h2 : vss[j]? = some vs) : W F (upd H a (.lst us)) (pre ++ (nz as (vss.set j us) ++ post)) := by
  obtain ⟨x, y, e, e2⟩ := nz_split h1 h2
  rw [e] at w
  rw [e2]
  have w' : W F H ((pre ++ x) ++ (a, .lst vs) :: (y ++ post)) := by
    have e3 : pre ++ (x ++ (a, HO.lst vs) :: y ++ post) = (pre ++ x) ++ (a, HO.lst vs) :: (y ++ post) := by simp
    rw [← e3]
    exact w
  have w2 := w'.set (o' := .lst us)
  have e3 : pre ++ (x ++ (a, HO.lst us) :: y ++ post) = (pre ++ x) ++ (a, HO.lst us) :: (y ++ post) := by simp
  rw [e3]
  exact w2
/-- a cell goes into a store -/
theorem W.nadd (w : W F H ((p, .lst vs) :: (pre ++ (nz as vss ++ post)))) (hl : as.length = vss.length) : W F H (pre ++ (nz (as ++ [p]) (vss ++ [vs]) ++ post)) := by
  rw [nz_snoc hl]
  refine w.perm ?_
  have e : pre ++ (nz as vss ++ [(p, HO.lst vs)] ++ post) = (pre ++ nz as vss) ++ (p, HO.lst vs) :: post := by simp
  have e2 : (p, HO.lst vs) :: (pre ++ (nz as vss ++ post)) = (p, HO.lst vs) :: ((pre ++ nz as vss) ++ post) := by simp
  rw [e, e2]
  exact List.perm_middle.symm
theorem W.dropL (w : W F H (pre ++ (os ++ post))) : W F H (pre ++ post) where
  same := w.same
  own := fun q hq => w.own q (by
    rcases List.mem_append.mp hq with h | h
    · exact List.mem_append_left _ h
    · exact List.mem_append_right _ (List.mem_append_right _ h))
  nd := by
    have nd := w.nd
    rw [List.pairwise_append] at nd ⊢
    obtain ⟨n1, n2, n3⟩ := nd
    rw [List.pairwise_append] at n2
    exact ⟨n1, n2.2.1, fun x hx y hy => n3 x hx y (List.mem_append_right _ hy)⟩
  nt := fun q hq => w.nt q (by
    rcases List.mem_append.mp hq with h | h
    · exact List.mem_append_left _ h
    · exact List.mem_append_right _ (List.mem_append_right _ h))
/-- the j-th list of a store, taken out as a cell; the others forgotten -/
theorem W.ntake (w : W F H (pre ++ (nz as vss ++ post))) (h1 : as[j]? = some a) (h2 : vss[j]? = some vs) : W F H ((a, .lst vs) :: (pre ++ post)) := by
  obtain ⟨x, y, e, _⟩ := nz_split h1 h2
  rw [e] at w
  have w' : W F H ((pre ++ x) ++ (a, .lst vs) :: (y ++ post)) := by
    have e3 : pre ++ (x ++ (a, HO.lst vs) :: y ++ post) = (pre ++ x) ++ (a, HO.lst vs) :: (y ++ post) := by simp
    rw [← e3]
    exact w
  have w2 := w'.front
  have e4 : (a, HO.lst vs) :: (pre ++ x ++ (y ++ post)) = ((a, HO.lst vs) :: pre) ++ ((x ++ y) ++ post) := by simp
  rw [e4] at w2
  exact w2.dropL
/-- a whole store is never written again -/
theorem W.nfreeze : ∀ {as : List Addr} {vss : List (List V)} {F : Hp}, W F H (pre ++ (nz as vss ++ post)) → ∃ F', Same F F' ∧ W F' H (pre ++ post) ∧ ∀ (j : Nat) (a : Addr) (vs : List V), as[j]? = some a → vss[j]? = some vs → F' a = some (.lst vs)
  | [], _, F, w => ⟨F, Same.refl _, w, fun j a vs h => by simp at h⟩
  | _ :: _, [], F, w => ⟨F, Same.refl _, w, fun j a vs _ h => by simp at h⟩
  | b :: as, ws :: vss, F, w => by
    have w' : W F H (pre ++ (b, .lst ws) :: (nz as vss ++ post)) := w
    obtain ⟨F1, s1, w1, q1⟩ := w'.freezeE
    obtain ⟨F2, s2, w2, q2⟩ := W.nfreeze (as := as) (vss := vss) w1
    refine ⟨F2, s1.trans s2, w2, fun j a vs h1 h2 => ?_⟩
    cases j with
    | zero =>
      simp at h1 h2
      subst h1 h2
      exact s2 _ _ q1
    | succ j => exact q2 j a vs (by simpa using h1) (by simpa using h2)
end
/-! ### what stands in a store -/
section
variable {α β δ : Type} [Rep α] [Rep β] {K : Fg} {F F' H : Hp} {as as' : List Addr} {vss : List (List V)} {st : List (List α)}
structure Sto (K : Fg) (F : Hp) (as : List Addr) (vss : List (List V)) (st : List (List α)) : Prop where
  len : as.length = vss.length
  all : F2 (A2 (rep K F)) vss st
theorem Sto.nil : Sto K F [] [] ([] : List (List α)) := ⟨rfl, .nil⟩
theorem Sto.mono (s : Same F F') (h : Sto K F as vss st) : Sto K F' as vss st := ⟨h.len, h.all.imp fun _ _ q => q.mono s⟩
theorem Sto.len2 (h : Sto K F as vss st) : as.length = st.length := h.len.trans h.all.length
theorem Sto.get {j : Nat} {xs : List α} (h : Sto K F as vss st) (e : st[j]? = some xs) : ∃ a vs, as[j]? = some a ∧ vss[j]? = some vs ∧ A2 (rep K F) vs xs := by
  obtain ⟨vs, h1, h2⟩ := h.all.get e
  have hj := (List.getElem?_eq_some_iff.mp e).1
  rw [← h.len2] at hj
  exact ⟨as[j], vs, List.getElem?_eq_getElem hj, h1, h2⟩
theorem Sto.set {j : Nat} {vs : List V} {xs : List α} (h : Sto K F as vss st) (q : A2 (rep K F) vs xs) : Sto K F as (vss.set j vs) (st.set j xs) := ⟨by rw [List.length_set]; exact h.len, h.all.set q j⟩
theorem Sto.snoc {p : Addr} {vs : List V} {xs : List α} (h : Sto K F as vss st) (q : A2 (rep K F) vs xs) : Sto K F (as ++ [p]) (vss ++ [vs]) (st ++ [xs]) := ⟨by simp [h.len], h.all.snoc q⟩
/-- a number in a store -/
abbrev Ix := Nat
def RX (as : List Addr) (v : V) (j : Ix) : Prop := ∃ a, v = .ref a ∧ as[j]? = some a
theorem RX.mono (h : as <+: as') {v : V} {j : Ix} (q : RX as v j) : RX as' v j := by
  obtain ⟨a, e, q⟩ := q
  obtain ⟨t, rfl⟩ := h
  refine ⟨a, e, ?_⟩
  rw [List.getElem?_append_left (List.getElem?_eq_some_iff.mp q).1]
  exact q
theorem RX.new (h : as.length = n) {p : Addr} : RX (as ++ [p]) (.ref p) n := ⟨p, rfl, by rw [List.getElem?_append_right (by omega), ← h]; simp⟩
theorem IQ.mono (h : as <+: as') {a : Addr} {j : Nat} (q : as[j]? = some a) : as'[j]? = some a := by
  obtain ⟨t, rfl⟩ := h
  rw [List.getElem?_append_left (List.getElem?_eq_some_iff.mp q).1]
  exact q
theorem IQ.new {n : Nat} (h : as.length = n) {p : Addr} : (as ++ [p])[n]? = some p := by
  rw [List.getElem?_append_right (by omega), ← h]
  simp
theorem pfx_trans {as2 : List Addr} (h : as <+: as') (h' : as' <+: as2) : as <+: as2 := h.trans h'
theorem Sto.getq {j : Nat} {xs : List α} {a : Addr} (h : Sto K F as vss st) (e : st[j]? = some xs) (q : as[j]? = some a) : ∃ vs, vss[j]? = some vs ∧ A2 (rep K F) vs xs := h.all.get e
theorem pfx_refl : as <+: as := List.prefix_refl _
theorem pfx_snoc {p : Addr} : as <+: as ++ [p] := List.prefix_append _ _
/-- the list of a number -/
def getS (st : List (List α)) (j : Ix) : R (List α) := ofO st[j]?
theorem pb_getS {st : List (List α)} {j : Ix} {f : List α → R δ} {P : δ → Prop} {E : Exn → Prop} (h : Post (getS st j >>= f) P E) : ∃ xs, st[j]? = some xs ∧ Post (f xs) P E := pb_ofO h
/-- .. another list in its place -/
def setS (st : List (List α)) (j : Ix) (ys : List α) : R (List (List α)) := .ok (st.set j ys)
theorem pn_setS {st : List (List α)} {j : Ix} {ys : List α} {f : List (List α) → R δ} {P : δ → Prop} {E : Exn → Prop} (h : Post (setS st j ys >>= f) P E) : ∃ st', st' = st.set j ys ∧ Post (f st') P E := ⟨_, rfl, h⟩
/-- .. a new one -/
def newS (st : List (List α)) (ys : List α) : R (Ix × List (List α)) := .ok (st.length, st ++ [ys])
theorem pn_newS {st : List (List α)} {ys : List α} {f : Ix × List (List α) → R δ} {P : δ → Prop} {E : Exn → Prop} (h : Post (newS st ys >>= f) P E) : ∃ j st', j = st.length ∧ st' = st ++ [ys] ∧ Post (f (j, st')) P E := ⟨_, _, rfl, rfl, h⟩
/-- lists by their numbers -/
def deref (st : List (List α)) (js : List Ix) : R (List (List α)) := mapR (getS st) js
theorem deref_rep {vs : List V} {js : List Ix} {xss : List (List α)} (h : Sto K F as vss st) (hf : ∀ (j : Nat) (a : Addr) (vs : List V), as[j]? = some a → vss[j]? = some vs → F' a = some (.lst vs)) (s : Same F F')
    (hv : A2 (RX as) vs js) (e : deref st js = R.ok xss) : A2 (rep K F') vs xss := by
  induction hv generalizing xss with
  | nil =>
    cases e
    exact .nil
  | cons a b ih =>
    obtain ⟨ad, rfl, h1⟩ := a
    obtain ⟨ys, e1, e⟩ := bind_ok_iff.mp e
    obtain ⟨yss, e2, e⟩ := bind_ok_iff.mp e
    cases e
    rename_i j js' _ _
    unfold getS at e1
    cases q : st[j]? with
    | none => rw [q] at e1; cases e1
    | some zs =>
      rw [q] at e1
      cases e1
      obtain ⟨a', ws, h2, h3, h4⟩ := h.get q
      rw [h1] at h2
      cases h2
      exact .cons ⟨ad, ws, rfl, hf _ _ _ h1 h3, h4.mono s⟩ (ih e2)
theorem pb_deref {js : List Ix} {f : List (List α) → R δ} {P : δ → Prop} {E : Exn → Prop} (h : Post (deref st js >>= f) P E) : ∃ xss, deref st js = R.ok xss ∧ Post (f xss) P E := by
  cases e : deref st js with
  | ok xss =>
    rw [e] at h
    exact ⟨xss, rfl, h⟩
  | exc x =>
    exfalso
    clear h
    unfold deref at e
    induction js with
    | nil => cases e
    | cons j js ih =>
      have e' : (getS st j >>= fun y => mapR (getS st) js >>= fun ys => R.ok (y :: ys)) = R.exc x := e
      unfold getS at e'
      cases q : st[j]? with
      | none => rw [q] at e'; cases e'
      | some z =>
        rw [q] at e'
        have e2 : (mapR (getS st) js >>= fun ys => R.ok (z :: ys)) = R.exc x := e'
        cases q2 : mapR (getS st) js with
        | ok y => rw [q2] at e2; cases e2
        | exc y => rw [q2] at e2; cases e2; exact ih q2
        | bad => rw [q2] at e2; cases e2
  | bad =>
    rw [e] at h
    exact (show False from h).elim
end
section
variable {F H : Hp} {os os' pre post x : List (Addr × HO)} {a p : Addr} {o : HO} {as : List Addr} {vss : List (List V)} {j : Nat} {vs : List V}
/-! the second store -/
theorem W.as2 : pre ++ (x ++ (os ++ post)) = (pre ++ x) ++ (os ++ post) := by simp
theorem W.nget2 (w : W F H (pre ++ (x ++ (nz as vss ++ post)))) (h1 : as[j]? = some a) (h2 : vss[j]? = some vs) : H a = some (.lst vs) := (W.as2 ▸ w : W F H ((pre ++ x) ++ (nz as vss ++ post))).nget h1 h2
theorem W.nset2 (w : W F H (pre ++ (x ++ (nz as vss ++ post)))) (us : List V) (h1 : as[j]? = some a) (h2 : vss[j]? = some vs) : W F (upd H a (.lst us)) (pre ++ (x ++ (nz as (vss.set j us) ++ post))) := by
  rw [W.as2] at w ⊢
  exact w.nset us h1 h2
theorem W.nadd2 (w : W F H ((p, .lst vs) :: (pre ++ (x ++ (nz as vss ++ post))))) (hl : as.length = vss.length) : W F H (pre ++ (x ++ (nz (as ++ [p]) (vss ++ [vs]) ++ post))) := by
  rw [W.as2] at w ⊢
  exact w.nadd hl
theorem W.dropL0 (w : W F H (nz as vss ++ post)) : W F H post := W.dropL (pre := []) (os := nz as vss) w
theorem W.dropL2 (w : W F H (pre ++ (x ++ (os ++ post)))) : W F H (pre ++ (x ++ post)) := by
  rw [W.as2] at w
  have h := w.dropL
  rw [List.append_assoc] at h
  exact h
theorem W.nfreeze2 (w : W F H (pre ++ (x ++ (nz as vss ++ post)))) : ∃ F', Same F F' ∧ W F' H (pre ++ (x ++ post)) ∧ ∀ (j : Nat) (a : Addr) (vs : List V), as[j]? = some a → vss[j]? = some vs → F' a = some (.lst vs) := by
  rw [W.as2] at w
  obtain ⟨F', s, w', h⟩ := w.nfreeze
  rw [List.append_assoc] at w'
  exact ⟨F', s, w', h⟩
theorem W.ntake2 (w : W F H (pre ++ (x ++ (nz as vss ++ post)))) (h1 : as[j]? = some a) (h2 : vss[j]? = some vs) : W F H ((a, .lst vs) :: (pre ++ (x ++ post))) := by
  rw [W.as2] at w
  have h := w.ntake h1 h2
  rw [List.append_assoc] at h
  exact h
end
section
variable {K : Fg} {F : Hp} {a : Addr} {β : Type} {vs : List V} {xs : List β} {r : V → β → Prop}
theorem tw_listR (h : A2 r vs xs) : TW (Itl K a) xs (fun H => SqL K H a vs) (fun b H x H' => H' = H ∧ r x b) := ⟨by
  rw [← h.length]
  exact walk_list.mono (fun _ g => g) fun i H x H' _ _ y => by
    obtain ⟨y1, y2⟩ := y
    obtain ⟨b, h1, h2⟩ := h.getV y2
    exact ⟨b, h1, y1, h2⟩⟩
end
section
variable {F H : Hp} {os pre post x : List (Addr × HO)} {q : Addr × HO} {as : List Addr} {vss : List (List V)}
/-- a store behind the cells -/
theorem W.nback (w : W F H (q :: (nz as vss ++ (pre ++ post)))) : W F H (q :: (pre ++ (nz as vss ++ post))) := by
  refine w.perm (List.Perm.cons _ ?_)
  rw [← List.append_assoc, ← List.append_assoc]
  exact List.perm_append_comm.append_right _
variable {α : Type} [Rep α] {K : Fg} {a : Addr} {us : List V} {js : List Ix} {st xss : List (List α)}
theorem rl_all (s : Same F H) (hf : ∀ (j : Nat) (a : Addr) (vs : List V), as[j]? = some a → vss[j]? = some vs → H a = some (.lst vs)) (h : Sto K F as vss st) (hv : A2 (RX as) us js) (e : deref st js = R.ok xss) : A2 (rep K H) us xss := deref_rep h hf s hv e
theorem W.rl (w : W F H (pre ++ (nz as vss ++ post))) (qa : H a = some (.lst us)) (h : Sto K F as vss st) (hv : A2 (RX as) us js) (e : deref st js = R.ok xss) : rep K H (.ref a) xss :=
  ⟨a, us, rfl, qa, rl_all w.same (fun _ _ _ h1 h2 => w.nget h1 h2) h hv e⟩
theorem W.rl2 (w : W F H (pre ++ (x ++ (nz as vss ++ post)))) (qa : H a = some (.lst us)) (h : Sto K F as vss st) (hv : A2 (RX as) us js) (e : deref st js = R.ok xss) : rep K H (.ref a) xss :=
  ⟨a, us, rfl, qa, rl_all w.same (fun _ _ _ h1 h2 => w.nget2 h1 h2) h hv e⟩
end
/-! ### comprehensions, what is made told by the state -/
section
variable {J : It} {β γ δ ε : Type} {items : List β} {G : Hp → Prop} {Y : β → Hp → V → Hp → Prop} {g : TG} {tt : TT} {te : TE} {P : ε → Prop} {X : Exn → Prop} {K : Fg} {vs : List Nat} {σ : St} {F H1 : Hp} {os : List (Addr × HO)} {D : Addr} {Qd : Hp → Prop}
theorem lcG (tw : TW J items G Y) {f : γ → β → R (Option δ × γ)} {s0 : γ} {k : List δ × γ → R ε} (hm : Post (filStG f s0 items >>= k) P X) (O : γ → Hp → List (Addr × HO) → List V → List δ → Prop) (w : W F H1 os) (o0 : O s0 F os [] []) (nD : H1 D = none)
    (hl : ∀ c F' os' us ys, O c F' os' us ys → us.length = ys.length)
    (hG : ∀ c F' H' os' acc ys, Same F F' → W F' H' ((D, .lst acc) :: os') → O c F' os' acc ys → G H')
    (hs : ∀ (b : β) (c : γ) (x : V) (F' H' H'' : Hp) (os' : List (Addr × HO)) (acc : List V) (ys : List δ) (N : V → Hp → Prop) (N0 : Hp → Prop) (P' : Option δ × γ → Prop), Same F F' → W F' H' ((D, .lst acc) :: os') → O c F' os' acc ys → Y b H' x H'' →
      (∀ d c', P' (some d, c') → ∀ y F'' H'' os'', W F'' H'' ((D, .lst acc) :: os'') → Same F' F'' → O c' F'' os'' (acc ++ [y]) (ys ++ [d]) → N y H'') →
      (∀ c', P' (none, c') → ∀ F'' H'' os'', W F'' H'' ((D, .lst acc) :: os'') → Same F' F'' → O c' F'' os'' acc ys → N0 H'') → Post (f c b) P' X →
      g x (wipe σ vs) H'' fun σ2 H2 => wipe σ2 vs = wipe σ vs ∧ tt σ2 H2 fun b H3 => if b = true then te σ2 H3 N else N0 H3)
    (hd : ∀ c us F' H' os' ys, Same F F' → W F' H' ((D, .lst us) :: os') → O c F' os' us ys → Post (k (ys, c)) P X → Qd H') : LcAsk J g tt te vs σ H1 D Qd := by
  obtain ⟨hlen, hm⟩ := pb_grd (pb_assoc hm)
  have hlen : items.length < sizeLine := Nat.lt_of_lt_of_le (of_decide_eq_true hlen) line5
  refine lc_it tw.walk (fun i H => ∃ c F' os' us ys, i ≤ items.length ∧ Same F F' ∧ W F' H ((D, .lst us) :: os') ∧ O c F' os' us ys ∧ ys.length ≤ i ∧ Post (filSt f c (items.drop i) >>= fun q => k (ys ++ q.1, q.2)) P X) ?_ ?_ ?_ ?_
  · exact ⟨s0, F, os, [], [], Nat.zero_le _, Same.refl _, w.new nD, o0, Nat.le_refl _, hm⟩
  · rintro i H _ ⟨c, F', os', us, ys, _, s, w', o, _⟩
    exact hG c F' H os' us ys s w' o
  · rintro i x H H' hi ⟨c, F', os', us, ys, _, s, w', o, hl2, hm⟩ ⟨b, hb, y⟩
    rw [drop_cons hb] at hm
    have hm' : Post ((f c b >>= fun p => filSt f p.2 (items.drop (i + 1)) >>= fun q => match p.1 with
      | some y => (R.ok (y :: q.1, q.2) : R (List δ × γ))
      | none => R.ok q) >>= fun q => k (ys ++ q.1, q.2)) P X := hm
    rw [bind_bind] at hm'
    have hm2 := post_bind hm'
    have hul : us.length = ys.length := hl _ _ _ _ _ o
    refine hs b c x F' H H' os' us ys (fun y H4 => ∃ acc, H4 D = some (.lst acc) ∧ acc.length < sizeLine ∧ _) _ _ s w' o y ?_ ?_ hm2
    · intro d c' p2 y F'' H'' os'' w2 s2 o2
      refine ⟨us, w2.get (pre := []), by omega, c', F'', os'', us ++ [y], ys ++ [d], hi, s.trans s2, w2.set (pre := []), o2, by rw [List.length_append, List.length_singleton]; omega, ?_⟩
      have p3 : Post ((filSt f c' (items.drop (i + 1)) >>= fun q => (R.ok (d :: q.1, q.2) : R (List δ × γ))) >>= fun q => k (ys ++ q.1, q.2)) P X := p2
      rw [bind_bind] at p3
      have e : (fun q : List δ × γ => (R.ok (d :: q.1, q.2) : R (List δ × γ)) >>= fun q => k (ys ++ q.1, q.2)) = fun q => k (ys ++ [d] ++ q.1, q.2) := by
        funext q
        show k (ys ++ (d :: q.1), q.2) = k (ys ++ [d] ++ q.1, q.2)
        rw [List.append_assoc]
        rfl
      rw [e] at p3
      exact p3
    · intro c' p2 F'' H'' os'' w2 s2 o2
      refine ⟨c', F'', os'', us, ys, hi, s.trans s2, w2, o2, by omega, ?_⟩
      have p3 : Post ((filSt f c' (items.drop (i + 1)) >>= fun q => (R.ok q : R (List δ × γ))) >>= fun q => k (ys ++ q.1, q.2)) P X := p2
      rw [bind_bind] at p3
      exact p3
  · rintro H ⟨c, F', os', us, ys, _, s, w', o, _, hm⟩
    rw [List.drop_length] at hm
    have hm' : Post (k (ys ++ [], c)) P X := hm
    rw [List.append_nil] at hm'
    exact hd c us F' H os' ys s w' o hm'
theorem lcGM (tw : TW J items G Y) {f : γ → β → R (δ × γ)} {s0 : γ} {k : List δ × γ → R ε} (hm : Post (mapStG f s0 items >>= k) P X) (O : γ → Hp → List (Addr × HO) → List V → List δ → Prop) (w : W F H1 os) (o0 : O s0 F os [] []) (nD : H1 D = none)
    (hl : ∀ c F' os' us ys, O c F' os' us ys → us.length = ys.length)
    (hG : ∀ c F' H' os' acc ys, Same F F' → W F' H' ((D, .lst acc) :: os') → O c F' os' acc ys → G H')
    (hs : ∀ (b : β) (c : γ) (x : V) (F' H' H'' : Hp) (os' : List (Addr × HO)) (acc : List V) (ys : List δ) (N : V → Hp → Prop) (P' : δ × γ → Prop), Same F F' → W F' H' ((D, .lst acc) :: os') → O c F' os' acc ys → Y b H' x H'' →
      (∀ d c', P' (d, c') → ∀ y F'' H'' os'', W F'' H'' ((D, .lst acc) :: os'') → Same F' F'' → O c' F'' os'' (acc ++ [y]) (ys ++ [d]) → N y H'') → Post (f c b) P' X →
      g x (wipe σ vs) H'' fun σ2 H2 => wipe σ2 vs = wipe σ vs ∧ te σ2 H2 N)
    (hd : ∀ c us F' H' os' ys, Same F F' → W F' H' ((D, .lst us) :: os') → O c F' os' us ys → Post (k (ys, c)) P X → Qd H') : LcAsk J g tYes te vs σ H1 D Qd := by
  have e : ∀ (s : γ) (l : List β), filSt (fun c b => f c b >>= fun p => R.ok (some p.1, p.2)) s l = mapSt f s l := by
    intro s l
    induction l generalizing s with
    | nil => rfl
    | cons b l ih =>
      show ((f s b >>= fun p => R.ok (some p.1, p.2)) >>= fun p => filSt (fun c b => f c b >>= fun p => R.ok (some p.1, p.2)) p.2 l >>= fun q => match p.1 with
        | some y => (R.ok (y :: q.1, q.2) : R (List δ × γ))
        | none => R.ok q) = (f s b >>= fun p => mapSt f p.2 l >>= fun q => .ok (p.1 :: q.1, q.2))
      rw [bind_bind]
      refine congrArg (f s b >>= ·) ?_
      funext p
      show (filSt (fun c b => f c b >>= fun p => R.ok (some p.1, p.2)) p.2 l >>= fun q => (R.ok (p.1 :: q.1, q.2) : R (List δ × γ))) = _
      rw [ih]
  have hm' : Post (filStG (fun c b => f c b >>= fun p => R.ok (some p.1, p.2)) s0 items >>= k) P X := by
    unfold filStG
    simp only [e]
    exact hm
  refine lcG tw hm' O w o0 nD hl hG (fun b c x F' H' H'' os' acc ys N N0 P' s w' o y hN hN0 hp => ?_) hd
  exact hs b c x F' H' H'' os' acc ys N _ s w' o y (fun d c' p2 y F'' H'' os'' w2 s2 o2 => hN d c' p2 y F'' H'' os'' w2 s2 o2) (post_bind hp)
end
end Z
/-! Z6: constants of the module, things, dicts as written and asked -/
namespace Z
open PySem L2
open Rep (rep)
section
variable {X : Cx}
theorem pe_globI {x : Str} {n : Int} {pos : Pos} (hg : Gl X x) (h : ∃ t, X.mg x = some (.int n t)) (hd : (x == ("__debug__" : Str)) = false := by decide) : PE X (.Name x pos) (tC (.int n)) := by
  obtain ⟨t, e⟩ := h
  exact pe_glob hg e ⟨_, rfl⟩ hd
theorem call_intB : CallR X (.type "int") (fun xs H Q => ∃ k, xs = [.bl k] ∧ Q (.int (if k = true then 1 else 0)) H) := by
  intro pins s σ H xs us Q I r ⟨k, e, q⟩
  exact call_int1 pins s σ H xs us Q I r (.inr ⟨k, e, q⟩)
end
theorem call_lenDR {X : Cx} : CallR X (.builtin "len") (fun xs H Q => ∃ (a : Addr) (kvs : List (Key × V)) (n : Nat), xs = [V.ref a] ∧ H a = some (.dK kvs) ∧ kvs.length = n ∧ Q (.int (n : Int)) H) := by
  intro pins s σ H xs us Q I r ⟨a, kvs, n, e, h, hn, q⟩
  subst hn
  exact call_lenD pins s σ H xs us Q I r ⟨a, kvs, e, h, q⟩
/-- a while's fuel, not to be reckoned with -/
@[irreducible] def fu (n : Nat) : Nat := n
theorem fu_eq (n : Nat) : fu n = n := by
  unfold fu
  rfl
/-- x in l -/
abbrev inB {α : Type} [DecidableEq α] (x : α) (l : List α) : Bool := decide (x ∈ l)
theorem inB_t {α : Type} [DecidableEq α] {x : α} {l : List α} : inB x l = true ↔ x ∈ l := decide_eq_true_iff
theorem inB_f {α : Type} [DecidableEq α] {x : α} {l : List α} : inB x l = false ↔ x ∉ l := decide_eq_false_iff_not
def b2i (b : Bool) : Int := if b = true then 1 else 0
/-! ### things -/
def Thing.isPl : Thing → Bool
  | .pl _ => true
  | .ti _ _ => false
def asPl : Thing → R Int
  | .pl i => .ok i
  | .ti _ _ => .bad
def asTi : Thing → R (Int × Int)
  | .pl _ => .bad
  | .ti a b => .ok (a, b)
def mkpl (xs : List Int) : List Thing := xs.map Thing.pl
def mkti (xs : List (Int × Int)) : List Thing := xs.map fun p => Thing.ti p.1 p.2
section
variable {δ : Type} {P : δ → Prop} {E : Exn → Prop} {K : Fg} {F H : Hp}
theorem pb_asPl {t : Thing} {f : Int → R δ} (h : Post (asPl t >>= f) P E) : ∃ i, t = .pl i ∧ Post (f i) P E := by
  cases t with
  | pl i => exact ⟨i, rfl, h⟩
  | ti a b => exact (show False from h).elim
theorem pb_asTi {t : Thing} {f : Int × Int → R δ} (h : Post (asTi t >>= f) P E) : ∃ q : Int × Int, t = .ti q.1 q.2 ∧ Post (f q) P E := by
  cases t with
  | pl i => exact (show False from h).elim
  | ti a b => exact ⟨(a, b), rfl, h⟩
theorem A2.pl : ∀ {vs : List V} {xs : List Int}, A2 (rep K F) vs xs → A2 (rep K F) vs (mkpl xs)
  | _, _, .nil => .nil
  | _, _, .cons h t => .cons h (A2.pl t)
theorem A2.ti : ∀ {vs : List V} {xs : List (Int × Int)}, A2 (rep K F) vs xs → A2 (rep K F) vs (mkti xs)
  | _, _, .nil => .nil
  | _, _, .cons h t => .cons h (A2.ti t)
theorem th_ty (s : Same F H) {v : V} {t : Thing} (r : rep K F v t) : ∃ a, TyOf K H v (.type a) ∧ (a = "int" ∧ t.isPl = true ∨ a = "tuple" ∧ t.isPl = false) := by
  cases t with
  | pl i =>
    have r' : v = V.int i := r
    subst r'
    exact ⟨_, .int i, .inl ⟨rfl, rfl⟩⟩
  | ti a b =>
    obtain ⟨c, u, w, rfl, q, _⟩ := (show rep K F v (a, b) from r)
    exact ⟨_, .tup (s _ _ q), .inr ⟨rfl, rfl⟩⟩
theorem th_int (s : Same F H) {v : V} {t : Thing} (r : rep K F v t) : ∃ a, TyOf K H v (.type a) ∧ kitB a "int" = some t.isPl := by
  obtain ⟨a, h, z⟩ := th_ty s r
  rcases z with ⟨rfl, e⟩ | ⟨rfl, e⟩
  · exact ⟨_, h, by rw [e]; decide +kernel⟩
  · exact ⟨_, h, by rw [e]; decide +kernel⟩
theorem th_tuple (s : Same F H) {v : V} {t : Thing} (r : rep K F v t) : ∃ a, TyOf K H v (.type a) ∧ kitB a "tuple" = some (!t.isPl) := by
  obtain ⟨a, h, z⟩ := th_ty s r
  rcases z with ⟨rfl, e⟩ | ⟨rfl, e⟩
  · exact ⟨_, h, by rw [e]; decide +kernel⟩
  · exact ⟨_, h, by rw [e]; decide +kernel⟩
theorem th_bool (s : Same F H) {v : V} {t : Thing} (r : rep K F v t) : ∃ a, TyOf K H v (.type a) ∧ kitB a "bool" = some false := by
  obtain ⟨a, h, z⟩ := th_ty s r
  rcases z with ⟨rfl, e⟩ | ⟨rfl, e⟩
  · exact ⟨_, h, by decide +kernel⟩
  · exact ⟨_, h, by decide +kernel⟩
end
/-! ### dicts of scalars: as written, asked -/
section
variable {κ β γ : Type} [DecidableEq κ]
/-- as a display makes it -/
def mmk (l : List (κ × β)) : List (κ × β) := l.foldl (fun m p => mput m p.1 p.2) []
theorem merge_enc {ev : β → V} (l m : List (Int × β)) : mergeK (encM kI ev m) (encM kI ev l) = encM kI ev (l.foldl (fun m p => mput m p.1 p.2) m) := by
  induction l generalizing m with
  | nil => rfl
  | cons p l ih =>
    show mergeK (putK (encM kI ev m) (kI p.1) (ev p.2)) (encM kI ev l) = _
    rw [put_enc kI_inj, ih]
    rfl
end
section
variable {β δ : Type} {ev : β → V} {H : Hp} {a b : Addr} {P : δ → Prop} {E : Exn → Prop}
theorem dgets_k {m : List (Int × β)} {k : Int} {t : β} (e : H a = some (.dK (encM kI ev m))) (q : mget m k = some t) : DGet H a (.int k) (some (ev t)) := by
  have h := dget_k (k := k) e
  rw [q] at h
  exact h
theorem dgets_p {m : List ((Int × Int) × β)} {k : Int × Int} {t : β} (e : H a = some (.dT (encM kP ev m))) (eb : H b = some (.tup [.int k.1, .int k.2])) (q : mget m k = some t) : DGet H a (.ref b) (some (ev t)) := by
  have h := dget_p (k := k) e eb
  rw [q] at h
  exact h
theorem pb_mget {κ : Type} [DecidableEq κ] {m : List (κ × β)} {k : κ} {f : β → R δ} (h : Post (mgetR m k >>= f) P E) : ∃ t, mget m k = some t ∧ Post (f t) P E := pb_ofO h
theorem getD_ev (f : β → V) (o : Option β) (d : β) : (o.map f).getD (f d) = f (o.getD d) := by cases o <;> rfl
theorem isD_k {kvs : List (Key × V)} (e : H a = some (.dK kvs)) : IsD H a := .inl ⟨kvs, .inl e⟩
theorem isD_t {kvs : List (List Key × V)} (e : H a = some (.dT kvs)) : IsD H a := .inr ⟨kvs, .inl e⟩
end
def tDGet2R (td ty tx : TE) : TE := fun σ H Q => td σ H fun x H1 => ∃ a, x = .ref a ∧ IsD H1 a ∧ ty σ H1 fun y H2 => tx σ H2 fun z H3 => ∃ o r, DGet H3 a y o ∧ o.getD z = r ∧ Q r H3
section
variable {X : Cx} {o e f : Expr} {apos cpos : Pos} {td ty tx : TE}
theorem pe_dget2R (hu : X.A.units + 1 < cLine) (ho : PE X o td) (he : PE X e ty) (hf : PE X f tx) (m : M2 X o "get" apos e f cpos) : PE X (.Call (.Attribute o "get" apos) [e, f] [] cpos) (tDGet2R td ty tx) := by
  refine ⟨fun pins s σ H Q I h => ?_⟩
  refine wpAny_Call_method m.base m.few m.line PySem.F.plainAttrs_dict PySem.F.slot_dict_get PySem.F.type_dict_get (thn (ho.run pins s σ H _ I h) fun u s1 ⟨x, H1, I1, rx, a, ex, d, q1⟩ => ?_)
  subst ex
  obtain rfl : u = Value.ref a := rx
  obtain ⟨t1, t2, _⟩ := isD_at I1 d
  refine ⟨t1, t2, ?_⟩
  rw [m.trees]
  refine Calls.callWith_builtin rfl (Calls.evalArgs_plain (Calls.spliced_cons (thn (he.run pins s1 σ H1 _ I1 q1) fun iv s2 ⟨y, H2, I2, ry, q2⟩ =>
    Calls.spliced_cons (thn (hf.run pins s2 σ H2 _ I2 q2) fun fv s3 ⟨z, H3, I3, rz, ov, r, g, er, q3⟩ => Calls.spliced_nil ?_))))
  subst er
  exact d_get2 hu I3 g ry rz fun w' s4 I4 rw' => ⟨_, H3, I4, rw', q3⟩
end
/-! ### tuples cut and joined -/
section
variable {X : Cx} {K : Fg}
theorem sl_tupU (hK : X.K = K) : SlR X (fun x lo hi H Q => ∃ (a : Addr) (xs : List V) (F : Hp) (os : List (Addr × HO)), x = .ref a ∧ W F H os ∧ F a = some (.tup xs) ∧ ∀ p F' H', Same F F' → W F' H' os → F' p = some (.tup (cutV xs lo hi)) → Q (.ref p) H') := by
  subst hK
  intro pins s σ H x v vl vu lo hi sl Q I rx hs pl pu ⟨a, xs, F, os, e, w, q, h⟩
  refine sl_tupA pins s σ H x v vl vu lo hi sl Q I rx hs pl pu ⟨a, xs, e, SqT.of (w.same _ _ q), fun c => ?_, fun _ p hp => ?_⟩
  · refine h a F H (Same.refl _) w ?_
    have ec : cutV xs lo hi = xs := by
      unfold cutV
      rw [c.1, c.2]
      simp
    rw [ec]
    exact q
  · obtain ⟨F', s', w', q'⟩ := w.frzE (o := .tup (cutV xs lo hi)) hp
    exact h p F' _ s' w' q'
theorem op_catU (hK : X.K = K) : OpR X (binaryOp .Add) (fun x y H Q => ∃ (a b : Addr) (xs ys : List V) (F : Hp) (os : List (Addr × HO)), x = .ref a ∧ y = .ref b ∧ W F H os ∧ F a = some (.tup xs) ∧ F b = some (.tup ys) ∧ xs.length + ys.length ≤ sizeLine ∧
    ∀ p F' H', Same F F' → W F' H' os → F' p = some (.tup (xs ++ ys)) → Q (.ref p) H') := by
  subst hK
  intro pins s σ H x y v u Q I rx ry ⟨a, b, xs, ys, F, os, e1, e2, w, qa, qb, hl, h⟩
  refine op_catA pins s σ H x y v u Q I rx ry ⟨a, b, xs, ys, e1, e2, SqT.of (w.same _ _ qa), SqT.of (w.same _ _ qb), hl, fun c => ?_, fun c d => ?_, fun _ _ p hp => ?_⟩
  · subst c
    exact h b F H (Same.refl _) w qb
  · subst d
    exact h a F H (Same.refl _) w (by rw [List.append_nil]; exact qa)
  · obtain ⟨F', s', w', q'⟩ := w.frzE (o := .tup (xs ++ ys)) hp
    exact h p F' _ s' w' q'
end
end Z
/-! Z7: dicts of tuple keys whose values are lists of a store; their values walked -/
namespace L2
open PySem PySem.Spec PyProof.Rows
/-- the values of the locked dict at d, of tuple keys -/
def ItdT (d : Addr) (o : Obj) (kvs : List (List Key × V)) : It :=
  ⟨fun i H => H d = some (.frz o (.dT kvs)) ∧ i < kvs.length, fun i H x H' => H' = H ∧ ∃ k, kvs[i]? = some (k, x), fun i H => H d = some (.frz o (.dT kvs)) ∧ kvs.length ≤ i⟩
section
variable {X : Cx} {pins : List (Addr × Obj)} {σ : St} {H : Hp} {s : Shared} {d : Addr} {o : Obj}
theorem Inv.frzTV {kvs : List (List Key × V)} (I : Inv X pins σ H s) (h : H d = some (.frz o (.dT kvs))) :
    (d == sysModules) = false ∧ s.heap.get? d = some o ∧ o.ExactDict ∧ ∃ (es : Array DictEntry) (ep : Nat), o.data = .dict es ep ∧ es.size = kvs.length ∧
      ∀ (i : Nat) (k : List Key) (v : V), kvs[i]? = some (k, v) → ∃ en : DictEntry, es[i]? = some en ∧ RelV v en.val := by
  obtain ⟨hd, z, hs, xs, pr, o', es, ep, ho, hx, hdt, he, _⟩ := I.hok d _ h
  rw [hd] at ho
  cases ho
  refine ⟨hs, hd, hx, es, ep, hdt, ?_, fun i k v e => ?_⟩
  · have l1 : es.size = xs.length := size_of_entries he
    have l2 : kvs.length = xs.length := Paired.length pr
    omega
  · obtain ⟨b, hb, e1, e2, e3⟩ := paired_get pr e
    have q := entry_at he i
    rw [hb] at q
    exact ⟨_, q, e3⟩
end
section
variable {P : Program} {w : World} {K : PySem.W.Frag} {tg : Expr} {d : Addr} {o : Obj} {es : Array DictEntry} {ep : Nat}
theorem turn_valsT {kvs : List (List Key × V)} (it : Addr) (hod : o.data = .dict es ep) : Turn P w K tg (ItdT d o kvs) [it] it (fun i h => h.IsValIter it d i kvs.length ep) where
  mem := by simp
  obj := fun i h st b hb => by
    have e : b = it := by simpa using hb
    subst e
    obtain ⟨oi, e, c, dd⟩ := st
    exact ⟨oi, e, fun v z => by rw [dd] at z; cases z⟩
  keep := fun i h h' st k => st.at fun oi e => k it (by simp) oi e
  item := by
    intro X hP hw hK hc i pins s σ H E I hf st hg
    subst hP hw hK
    obtain ⟨hd, hi⟩ := hg
    obtain ⟨f0, f1, f2, f3, f4, f5⟩ := hf it (by simp)
    obtain ⟨hs, hgd, hx, es', ep', hdt, hsz, ent⟩ := I.frzTV hd
    obtain ⟨rfl, rfl⟩ := dict_ep hod hdt
    obtain ⟨⟨k, v⟩, hkv⟩ : ∃ p, kvs[i]? = some p := ⟨kvs[i], List.getElem?_eq_getElem hi⟩
    obtain ⟨en, hen, ru⟩ := ent i k v hkv
    have hil : i < es'.size := by omega
    have een : es'[i] = en := by
      rw [Array.getElem?_eq_getElem hil] at hen
      exact Option.some.inj hen
    rw [← hsz] at st
    refine wpAny_pyNext_values_item_raw st ⟨o, hgd, hx, hdt⟩ hil fun h' st' sb => ?_
    have I1 : Inv X pins σ H { s with heap := h' } := I.turned (t' := s.toks) (fun b ob hb e => (sb.2 b hb).trans e) f0 f1 f3 f4 f5
    obtain ⟨oi, e, c, dd⟩ := id st'
    refine ⟨_, rfl, go_of (s := { s with heap := h' }) e c dd (by decide) ⟨v, H, I1, by rw [een]; exact ru, ⟨rfl, k, hkv⟩, ?_, fun b hb => (hf b hb).1⟩⟩
    show h'.IsValIter it d (i + 1) kvs.length _
    rw [← hsz]
    exact st'
  done := by
    intro X hP hw hK hc i pins s σ H E I hf st hg
    subst hP hw hK
    obtain ⟨hd, hi⟩ := hg
    obtain ⟨f0, f1, f2, f3, f4, f5⟩ := hf it (by simp)
    obtain ⟨hs, hgd, hx, es', ep', hdt, hsz, ent⟩ := I.frzTV hd
    obtain ⟨rfl, rfl⟩ := dict_ep hod hdt
    rw [← hsz] at st
    exact wpAny_pyNext_values_end_raw (I.ok.hd hc) st ⟨o, hgd, hx, hdt⟩ (by omega) fun h' eb => ⟨rfl, I.turned (t' := s.toks) (fun b ob hb e => eb b ob hb e) f0 f1 f3 f4 f5⟩
  self := fun A i s Q E st h => wpAny_pyIter_valiter st h
end
/-- d.values() of a dict that is locked from there on -/
def iValsT (td : TE) : TI := fun σ H R => td σ H fun x H1 => ∃ d kvs, x = .ref d ∧ H1 d = some (.dT kvs) ∧ ∀ od, R (ItdT d od kvs) (upd H1 d (.frz od (.dT kvs)))
section
variable {X : Cx} {tg e : Expr} {td : TE} {apos cpos : Pos}
theorem pi_valuesT (he : PE X e td) (hbase : attributeBase e "values" X.env (eval e X.env) = eval e X.env := by rfl) (hline : (apos.endLine == cpos.line) = true := by rfl) : PI X tg (.Call (.Attribute e "values" apos) [] [] cpos) (iValsT td) := by
  refine ⟨fun pins s σ H R I h => ?_⟩
  refine wpAny_Call_method (T := "dict") (id := "dict.values") hbase rfl hline F.plainAttrs_dict F.slot_dict_values F.type_dict_values (thn (he.run pins s σ H _ I h) fun u s1 ⟨x, H0, I0, rx, d, kvs, ex, hd0, q0⟩ => ?_)
  subst ex
  obtain rfl : u = Value.ref d := rx
  obtain ⟨od, I1⟩ := I0.lock hd0 (by exact True.intro)
  have q := q0 od
  have hd : upd H0 d (.frz od (.dT kvs)) d = some (.frz od (.dT kvs)) := upd_same
  obtain ⟨hs, hgd, hx, es, ep, hdt, hsz, ent⟩ := I1.frzTV hd
  have hm : s1.heap.DictRaw d es ep := ⟨od, hgd, hx, hdt⟩
  refine ⟨hm.typeIs, fun b hb => ?_, ?_⟩
  · cases hb
    exact ⟨od, hgd, hx.2.1⟩
  have I2 : Inv X pins σ (upd H0 d (.frz od (.dT kvs))) { s1 with heap := s1.heap.push { cls := .type "dict_values", data := .fields #[.ref d] } } := I1.kept (t' := s1.toks) fun b ob q => Heap.get?_push_of_some _ q
  have fin : wpAny (model X.prog X.w) X.A (pyIter (.ref s1.heap.objs.size)) (PIE X pins σ tg R) X.xe { s1 with heap := s1.heap.push { cls := .type "dict_values", data := .fields #[.ref d] } } := by
    refine wpAny_pyIter_values_raw (d := d) (es := es) (ep := ep) ⟨_, Heap.get?_push_size _ rfl, rfl, rfl⟩ (hm.at fun o q => Heap.get?_push_of_some _ q) (pi_one (tk := s1.toks) I2 _ (turn_valsT _ hdt) ⟨_, Heap.get?_push_size _ rfl, rfl, ?_⟩ q)
    rw [hsz] <;> rfl
  show wpAny _ _ (callWith cpos (.builtin "dict.values") [.ref d] [] []) _ X.xe s1
  exact method_meetsIn F.slot_dict_values F.entry_dict_values rfl (PySem.evalArgs_none ⟨rfl, hm.typeIs, F.args_dict_values_1 _, _, meets_dict_values_raw d hs, ⟨es, ep, hm⟩, fin⟩)
end
end L2
namespace Z
open PySem L2
open Rep (rep)
/-! ### dicts by what their values stand for -/
section
variable {κ β γ : Type} [DecidableEq κ] [DecidableEq γ] {e : κ → γ} {r r' : V → β → Prop}
inductive AD (e : κ → γ) (r : V → β → Prop) : List (γ × V) → List (κ × β) → Prop
  | nil : AD e r [] []
  | cons {k : κ} {v : V} {x : β} {kvs : List (γ × V)} {m : List (κ × β)} : r v x → AD e r kvs m → AD e r ((e k, v) :: kvs) ((k, x) :: m)
theorem AD.length : ∀ {kvs : List (γ × V)} {m : List (κ × β)}, AD e r kvs m → kvs.length = m.length
  | _, _, .nil => rfl
  | _, _, .cons _ t => by rw [List.length_cons, List.length_cons, AD.length t]
theorem AD.imp (f : ∀ v x, r v x → r' v x) : ∀ {kvs : List (γ × V)} {m : List (κ × β)}, AD e r kvs m → AD e r' kvs m
  | _, _, .nil => .nil
  | _, _, .cons h t => .cons (f _ _ h) (AD.imp f t)
theorem AD.no (he : ∀ a b, e a = e b → a = b) {k : κ} : ∀ {kvs : List (γ × V)} {m : List (κ × β)}, AD e r kvs m → (valV kvs (e k)).isSome = mhas m k
  | _, _, .nil => rfl
  | _, _, .cons (k := j) (v := v) (x := x) (kvs := kvs) (m := m) h t => by
    show _ = (decide (j = k) || mhas m k)
    by_cases q : j = k
    · rw [valV_pos (congrArg e q), decide_eq_true q]; rfl
    · rw [valV_neg (fun z => q (he _ _ z)), decide_eq_false q, AD.no he t]; rfl
theorem AD.get (he : ∀ a b, e a = e b → a = b) {k : κ} {y : β} : ∀ {kvs : List (γ × V)} {m : List (κ × β)}, AD e r kvs m → mget m k = some y → ∃ v, valV kvs (e k) = some v ∧ r v y
  | _, _, .nil, h => by cases h
  | _, _, .cons (k := j) (v := v) (x := x) (kvs := kvs) (m := m) h t, g => by
    unfold mget at g
    by_cases q : j = k
    · rw [List.find?_cons_of_pos (by simpa using q)] at g
      cases g
      exact ⟨v, valV_pos (congrArg e q), h⟩
    · rw [List.find?_cons_of_neg (by simpa using q)] at g
      obtain ⟨u, h1, h2⟩ := AD.get he (k := k) t g
      exact ⟨u, by rw [valV_neg (fun z => q (he _ _ z))]; exact h1, h2⟩
theorem AD.snoc {k : κ} {v : V} {x : β} (h : r v x) : ∀ {kvs : List (γ × V)} {m : List (κ × β)}, AD e r kvs m → AD e r (kvs ++ [(e k, v)]) (m ++ [(k, x)])
  | _, _, .nil => .cons h .nil
  | _, _, .cons a t => .cons a (AD.snoc h t)
theorem AD.upd (he : ∀ a b, e a = e b → a = b) {k : κ} {v : V} {x : β} (h : r v x) : ∀ {kvs : List (γ × V)} {m : List (κ × β)}, AD e r kvs m → AD e r (kvs.map fun p => if p.1 = e k then (p.1, v) else p) (m.map fun p => if p.1 = k then (p.1, x) else p)
  | _, _, .nil => .nil
  | _, _, .cons (k := j) (v := u) (x := y) (kvs := kvs) (m := m) a t => by
    rw [List.map_cons, List.map_cons]
    by_cases q : j = k
    · subst q
      rw [if_pos rfl, if_pos rfl]
      exact .cons h (AD.upd he h t)
    · rw [if_neg q, if_neg (fun z => q (he _ _ z))]
      exact .cons a (AD.upd he h t)
theorem AD.any (he : ∀ a b, e a = e b → a = b) {k : κ} : ∀ {kvs : List (γ × V)} {m : List (κ × β)}, AD e r kvs m → (kvs.any fun p => decide (p.1 = e k)) = m.any fun p => decide (p.1 = k)
  | _, _, .nil => rfl
  | _, _, .cons (k := j) (kvs := kvs) (m := m) a t => by
    rw [List.any_cons, List.any_cons, AD.any he t]
    congr 1
    by_cases q : j = k
    · rw [q]; simp
    · rw [decide_eq_false q, decide_eq_false (fun z => q (he _ _ z))]
theorem AD.put (he : ∀ a b, e a = e b → a = b) {k : κ} {v : V} {x : β} {kvs : List (γ × V)} {m : List (κ × β)} (t : AD e r kvs m) (h : r v x) : AD e r (putK kvs (e k) v) (mput m k x) := by
  unfold putK mput
  rw [t.any he]
  by_cases q : (m.any fun p => decide (p.1 = k)) = true
  · rw [if_pos q, if_pos q]
    exact t.upd he h
  · rw [if_neg q, if_neg q]
    exact t.snoc h
theorem AD.vals : ∀ {kvs : List (γ × V)} {m : List (κ × β)}, AD e r kvs m → ∀ {i : Nat} {k : γ} {v : V}, kvs[i]? = some (k, v) → ∃ x, (m.map (·.2))[i]? = some x ∧ r v x
  | _, _, .nil, i, k, v, h => by simp at h
  | _, _, .cons (k := j) (v := u) (x := x) a t, 0, k, v, h => by
    simp at h
    obtain ⟨_, rfl⟩ := h
    exact ⟨x, rfl, a⟩
  | _, _, .cons a t, i + 1, k, v, h => by
    obtain ⟨x, h1, h2⟩ := AD.vals t (i := i) (k := k) (v := v) (by simpa using h)
    exact ⟨x, by simpa using h1, h2⟩
end
/-- a tuple of ints as a key -/
def kT (t : Tup Int) : List Key := t.l.map Sum.inl
theorem kT_inj : ∀ a b, kT a = kT b → a = b := fun a b h => by
  have g : ∀ xs ys : List Int, (xs.map Sum.inl : List Key) = ys.map Sum.inl → xs = ys := by
    intro xs
    induction xs with
    | nil => intro ys e; cases ys <;> first | rfl | cases e
    | cons x xs ih =>
      intro ys e
      cases ys with
      | nil => cases e
      | cons y ys =>
        rw [List.map_cons, List.map_cons] at e
        injection e with e1 e2
        rw [Sum.inl.inj e1, ih ys e2]
  have : a.l = b.l := g _ _ h
  cases a
  cases b
  simp at this
  rw [this]
section
variable {K : Fg} {F H : Hp} {a b : Addr} {kvs : List (List Key × V)} {vs : List V} {t : Tup Int} {β : Type} {r : V → β → Prop} {m : List (Tup Int × β)}
theorem key_tup (s : Same F H) (q : F b = some (.tup vs)) (h : A2 (rep K F) vs t.l) : H b = some (.tup ((kT t).map kV)) := by
  have e : vs = (kT t).map kV := by
    rw [h.ints]
    unfold kT
    rw [List.map_map]
    rfl
  rw [← e]
  exact s _ _ q
theorem dgetA (e : H a = some (.dT kvs)) (eb : H b = some (.tup ((kT t).map kV))) : DGet H a (.ref b) (valV kvs (kT t)) := DGet.t e eb
theorem dgetsA {v : V} (e : H a = some (.dT kvs)) (eb : H b = some (.tup ((kT t).map kV))) (q : valV kvs (kT t) = some v) : DGet H a (.ref b) (some v) := by
  have h := dgetA (t := t) e eb
  rw [q] at h
  exact h
theorem dputA {v : V} (e : H a = some (.dT kvs)) (eb : H b = some (.tup ((kT t).map kV))) (h : AD kT r kvs m) (hl : m.length < sizeLine) : DPut H a (.ref b) v (upd H a (.dT (putK kvs (kT t) v))) := DPut.t e eb (by rw [h.length]; exact hl)
theorem tw_valsT {d : Addr} {o : Obj} (h : AD kT r kvs m) : TW (ItdT d o kvs) (m.map (·.2)) (fun H => H d = some (.frz o (.dT kvs))) (fun b H x H' => H' = H ∧ r x b) := ⟨by
  rw [List.length_map, ← h.length]
  refine ⟨fun _ _ hi q => ⟨q, hi⟩, fun _ q => ⟨q, Nat.le_refl _⟩, fun i H x H' _ _ y => ?_⟩
  obtain ⟨e, k, hk⟩ := y
  obtain ⟨b, h1, h2⟩ := h.vals hk
  exact ⟨b, h1, e, h2⟩⟩
end
section
variable {X : Cx} {K : Fg}
/-- l.index(x), of data -/
theorem mt_indexDt (hK : X.K = K) (α : Type) [Dat α] [DecidableEq α] (hd : Dat.dmax α ≤ 50) (hu : X.A.units + 65 < cLine) : MtR X "list.index" (fun x xs H Q => ∃ (a : Addr) (u : V) (ys : List α) (y : α) (j : Nat), x = V.ref a ∧ xs = [u] ∧ rep K H (V.ref a) ys ∧ rep K H u y ∧ fidx y ys = some j ∧ Q (.int (j : Int)) H) := by
  subst hK
  intro pins s σ H x xs v us Q I rx rxs ⟨a, u, ys, y, j, e1, e2, hs, hy, hj, q⟩
  obtain ⟨h1, h2⟩ := fidx_spec hj
  refine mt_indexD hu pins s σ H x xs v us Q I rx rxs ⟨a, u, Dat.toD y, ys.map Dat.toD, j, Dat.toD y, e1, e2, Dat.dp hs, Dat.dp hy, shapedD (α := List α) (by show Dat.dmax α + 1 ≤ 60; omega) ys, shapedD (by omega) y, ?_, ?_, fun m z hm hz => ?_, q⟩
  · rw [List.getElem?_map, h1]
    rfl
  · rw [eqvD]
    exact decide_eq_true rfl
  · rw [List.getElem?_map] at hz
    cases e : ys[m]? with
    | none => rw [e] at hz; cases hz
    | some t =>
      rw [e] at hz
      cases hz
      rw [eqvD]
      exact decide_eq_false (h2 m t hm e)
end
end Z
/-! ZW: a region that was lent to a call as frozen comes back -/
namespace Z
open PySem L2
section
variable {F F1 H : Hp} {os : List (Addr × HO)}
/-- cells that stand frozen are one's own again -/
theorem W.unfreezes : ∀ {cs : List (Addr × HO)}, W F1 H os → Same F F1 → (∀ p ∈ cs, F p.1 = none ∧ F1 p.1 = some p.2 ∧ ∀ vs, p.2 ≠ .tup vs) → cs.Pairwise (fun p q => p.1 ≠ q.1) → ∃ F', Same F F' ∧ W F' H (cs ++ os) ∧ ∀ b, (∀ p ∈ cs, b ≠ p.1) → F' b = F1 b
  | [], w, s, _, _ => ⟨F1, s, w, fun _ _ => rfl⟩
  | (a, o) :: cs, w, s, hc, hd => by
    obtain ⟨F2, s2, w2, k2⟩ := W.unfreezes (cs := cs) w s (fun p hp => hc p (List.mem_cons_of_mem _ hp)) (List.pairwise_cons.mp hd).2
    obtain ⟨n, k, nt⟩ := hc (a, o) List.mem_cons_self
    have ka : F2 a = some o := (k2 a fun p hp => (List.pairwise_cons.mp hd).1 p hp).trans k
    refine ⟨fun b => if b = a then none else F2 b, fun b u e => ?_, ⟨fun b u e => ?_, fun q hq => ?_, ?_, fun q hq => ?_⟩, fun b hb => ?_⟩
    · have hb : b ≠ a := ne_of_none e n
      show (if b = a then none else F2 b) = some u
      rw [if_neg hb]
      exact s2 b u e
    · by_cases hb : b = a
      · have e' : (if b = a then none else F2 b) = some u := e
        rw [if_pos hb] at e'
        cases e'
      · have e' : (if b = a then none else F2 b) = some u := e
        rw [if_neg hb] at e'
        exact w2.same b u e'
    · rcases List.mem_cons.mp hq with rfl | hq
      · exact ⟨w2.same _ _ ka, if_pos rfl⟩
      · have h := w2.own q hq
        refine ⟨h.1, ?_⟩
        by_cases hb : q.1 = a
        · exact if_pos hb
        · show (if q.1 = a then none else F2 q.1) = none
          rw [if_neg hb]
          exact h.2
    · refine List.pairwise_cons.mpr ⟨fun q hq e => ?_, w2.nd⟩
      have h := (w2.own q hq).2
      have e' : a = q.1 := e
      rw [← e', ka] at h
      cases h
    · rcases List.mem_cons.mp hq with rfl | hq
      · exact nt
      · exact w2.nt q hq
    · have hb1 : b ≠ a := hb (a, o) List.mem_cons_self
      show (if b = a then none else F2 b) = F1 b
      rw [if_neg hb1]
      exact k2 b fun p hp => hb p (List.mem_cons_of_mem _ hp)
theorem nz_mem {p : Addr × HO} : ∀ {as : List Addr} {vss : List (List V)}, p ∈ nz as vss → ∃ (j : Nat) (vs : List V), as[j]? = some p.1 ∧ vss[j]? = some vs ∧ p.2 = .lst vs
  | [], _, h => by cases h
  | _ :: _, [], h => by cases h
  | a :: as, vs :: vss, h => by
    rcases List.mem_cons.mp (show p ∈ (a, HO.lst vs) :: nz as vss from h) with rfl | h
    · exact ⟨0, vs, rfl, rfl, rfl⟩
    · obtain ⟨j, us, h1, h2, h3⟩ := nz_mem h
      exact ⟨j + 1, us, by simpa using h1, by simpa using h2, h3⟩
/-- a list of lists that was lent to a call as frozen, F2 being told behind the call -/
theorem W.lent {F0 F1 F2 H0 H : Hp} {os0 os : List (Addr × HO)} {a : Addr} {us : List V} {as : List Addr} {vss : List (List V)} (w0 : W F0 H0 os0) (sub : ((a, HO.lst us) :: nz as vss).Sublist os0) (s01 : Same F0 F1) (s12 : Same F1 F2) (q : F2 a = some (.lst us))
    (f : ∀ (j : Nat) (b : Addr) (vs : List V), as[j]? = some b → vss[j]? = some vs → F1 b = some (.lst vs)) (w : W F2 H os) : ∃ F', Same F0 F' ∧ W F' H ((a, HO.lst us) :: (nz as vss ++ os)) := by
  have hc : ∀ p ∈ (a, HO.lst us) :: nz as vss, F0 p.1 = none ∧ F2 p.1 = some p.2 ∧ ∀ vs, p.2 ≠ .tup vs := fun p hp => by
    refine ⟨(w0.own p (sub.subset hp)).2, ?_, w0.nt p (sub.subset hp)⟩
    rcases List.mem_cons.mp hp with rfl | hp
    · exact q
    · obtain ⟨j, vs, h1, h2, h3⟩ := nz_mem hp
      rw [h3]
      exact s12 _ _ (f j p.1 vs h1 h2)
  obtain ⟨F', s', w', _⟩ := W.unfreezes w (s01.trans s12) hc (w0.nd.sublist sub)
  exact ⟨F', s', w'⟩
end
/-! ### list.remove, ints -/
open Rep (rep)
theorem vs_ints {K : Fg} {F : Hp} : ∀ {vs : List V} {ns : List Int}, A2 (rep K F) vs ns → vs = ns.map V.int
  | _, _, .nil => rfl
  | v :: vs, n :: ns, .cons h t => by
    have h' : v = V.int n := h
    rw [h', vs_ints t]
    rfl
def rmI (xs : List Int) (k : Int) : R (List Int) := ofO ((fidx k xs).map fun j => xs.eraseIdx j)
theorem pb_rmI {δ : Type} {xs : List Int} {k : Int} {f : List Int → R δ} {P : δ → Prop} {E : Exn → Prop} (h : Post (rmI xs k >>= f) P E) : ∃ (j : Nat) (ys : List Int), (xs[j]? = some k ∧ ∀ m : Nat, m < j → xs[m]? ≠ some k) ∧ ys = xs.eraseIdx j ∧ Post (f ys) P E := by
  unfold rmI at h
  cases q : fidx k xs with
  | none => rw [q] at h; exact (show False from h).elim
  | some j =>
    rw [q] at h
    obtain ⟨h1, h2⟩ := fidx_spec q
    exact ⟨j, _, ⟨h1, fun m hm e => h2 m k hm e rfl⟩, rfl, h⟩
theorem map_erase {α β : Type} (f : α → β) : ∀ (l : List α) (j : Nat), (l.map f).eraseIdx j = (l.eraseIdx j).map f
  | [], _ => rfl
  | _ :: _, 0 => rfl
  | a :: l, j + 1 => congrArg (f a :: ·) (map_erase f l j)
theorem mt_rmI {X : Cx} {K : Fg} : MtM X "list.remove" (fun x xs H Q => ∃ (l : Addr) (vs : List V) (F : Hp) (ns : List Int) (k : Int) (j : Nat), x = .ref l ∧ xs = [.int k] ∧ H l = some (.lst vs) ∧ A2 (rep K F) vs ns ∧ ns[j]? = some k ∧ (∀ m : Nat, m < j → ns[m]? ≠ some k) ∧ Q .non (upd H l (.lst (vs.eraseIdx j)))) := by
  intro pins s σ H x xs v us Q I rx rxs h
  obtain ⟨l, vs, F, ns, k, j, e1, e2, e3, e4, e5, e6, q⟩ := h
  have e := vs_ints e4
  subst e
  refine mt_remove pins s σ H x xs v us Q I rx rxs ⟨l, ns, k, j, e1, e2, e3, e5, e6, ?_⟩
  rw [map_erase] at q
  exact q
end Z
/-! ZE: tuples item by item (Nt), objects of an own class (Oj), trees of tuples (Tr) -/
namespace Z
open PySem L2 PySem.Spec PyProof.Rows
open Rep (rep)
class RepL (α : Type) where
  repTs : Fg → Hp → List V → α → Prop
  mono : ∀ {K : Fg} {H H' : Hp} {vs : List V} {x : α}, Same H H' → repTs K H vs x → repTs K H' vs x
open RepL (repTs)
instance repLU : RepL Unit := ⟨fun _ _ vs _ => vs = [], fun _ h => h⟩
instance repLP {α β : Type} [Rep α] [RepL β] : RepL (α × β) := ⟨fun K H vs x => ∃ v us, vs = v :: us ∧ rep K H v x.1 ∧ repTs K H us x.2, fun s ⟨v, us, e, h1, h2⟩ => ⟨v, us, e, Rep.mono s h1, RepL.mono s h2⟩⟩
/-- a tuple, item by item -/
structure Nt (α : Type) where
  v : α
  deriving DecidableEq
instance decNtL {α : Type} [DecidableEq α] : DecidableEq (List (Nt α)) := inferInstance
instance repNt {α : Type} [RepL α] : Rep (Nt α) := ⟨fun K H v x => ∃ a vs, v = .ref a ∧ H a = some (.tup vs) ∧ repTs K H vs x.v, fun s ⟨a, vs, e, q, h⟩ => ⟨a, vs, e, s _ _ q, RepL.mono s h⟩⟩
section
variable {α β γ δ : Type} [Rep α] [Rep β] [Rep γ] [Rep δ] {K : Fg} {H H' : Hp} {v u1 u2 u3 u4 : V} {a : Addr}
theorem nt3 {x : Nt (α × β × γ × Unit)} (h : rep K H v x) : ∃ a u1 u2 u3, v = .ref a ∧ H a = some (.tup [u1, u2, u3]) ∧ rep K H u1 x.v.1 ∧ rep K H u2 x.v.2.1 ∧ rep K H u3 x.v.2.2.1 := by
  obtain ⟨a, vs, e, q, u1, _, rfl, h1, u2, _, rfl, h2, u3, _, rfl, h3, rfl⟩ := h
  exact ⟨a, u1, u2, u3, e, q, h1, h2, h3⟩
theorem nt4 {x : Nt (α × β × γ × δ × Unit)} (h : rep K H v x) : ∃ a u1 u2 u3 u4, v = .ref a ∧ H a = some (.tup [u1, u2, u3, u4]) ∧ rep K H u1 x.v.1 ∧ rep K H u2 x.v.2.1 ∧ rep K H u3 x.v.2.2.1 ∧ rep K H u4 x.v.2.2.2.1 := by
  obtain ⟨a, vs, e, q, u1, _, rfl, h1, u2, _, rfl, h2, u3, _, rfl, h3, u4, _, rfl, h4, rfl⟩ := h
  exact ⟨a, u1, u2, u3, u4, e, q, h1, h2, h3, h4⟩
theorem nt2 {x : Nt (α × β × Unit)} (h : rep K H v x) : ∃ a u1 u2, v = .ref a ∧ H a = some (.tup [u1, u2]) ∧ rep K H u1 x.v.1 ∧ rep K H u2 x.v.2.1 := by
  obtain ⟨a, vs, e, q, u1, _, rfl, h1, u2, _, rfl, h2, rfl⟩ := h
  exact ⟨a, u1, u2, e, q, h1, h2⟩
theorem rep_nt2 {x1 : α} {x2 : β} (q : H a = some (.tup [u1, u2])) (h1 : rep K H u1 x1) (h2 : rep K H u2 x2) : rep K H (.ref a) (⟨(x1, x2, ())⟩ : Nt (α × β × Unit)) := ⟨a, _, rfl, q, u1, _, rfl, h1, u2, _, rfl, h2, rfl⟩
theorem rep_nt3 {x1 : α} {x2 : β} {x3 : γ} (q : H a = some (.tup [u1, u2, u3])) (h1 : rep K H u1 x1) (h2 : rep K H u2 x2) (h3 : rep K H u3 x3) : rep K H (.ref a) (⟨(x1, x2, x3, ())⟩ : Nt (α × β × γ × Unit)) := ⟨a, _, rfl, q, u1, _, rfl, h1, u2, _, rfl, h2, u3, _, rfl, h3, rfl⟩
theorem rep_nt4 {x1 : α} {x2 : β} {x3 : γ} {x4 : δ} (q : H a = some (.tup [u1, u2, u3, u4])) (h1 : rep K H u1 x1) (h2 : rep K H u2 x2) (h3 : rep K H u3 x3) (h4 : rep K H u4 x4) : rep K H (.ref a) (⟨(x1, x2, x3, x4, ())⟩ : Nt (α × β × γ × δ × Unit)) := ⟨a, _, rfl, q, u1, _, rfl, h1, u2, _, rfl, h2, u3, _, rfl, h3, u4, _, rfl, h4, rfl⟩
end
/-! ### as data -/
class DatL (α : Type) extends RepL α where
  toDs : α → List PyData
  dmaxL : Nat
  dpL : ∀ {K : Fg} {H : Hp} {vs : List V} {x : α}, repTs K H vs x → DpAll K H vs (toDs x)
  layL : ∀ x : α, PyData.canLayAll0 (toDs x) = true
  depL : ∀ x : α, PyData.depthAll (toDs x) ≤ dmaxL
  eqvL : ∀ x y : α, PyData.eqvAll (toDs x) (toDs y) = true ↔ x = y
instance datLU : DatL Unit where
  toDs := fun _ => []
  dmaxL := 0
  dpL := fun h => by
    have h' : _ = [] := h
    subst h'
    exact .nil
  layL := fun _ => by simp only [PyData.canLayAll0]
  depL := fun _ => by simp only [PyData.depthAll, Nat.le_refl]
  eqvL := fun _ _ => by simp [PyData.eqvAll]
instance datLP {α β : Type} [Dat α] [DatL β] : DatL (α × β) where
  toDs := fun x => Dat.toD x.1 :: DatL.toDs x.2
  dmaxL := max (Dat.dmax α) (DatL.dmaxL β)
  dpL := fun {K H vs x} h => by
    obtain ⟨v, us, rfl, h1, h2⟩ := h
    exact .cons (Dat.dp h1) (DatL.dpL h2)
  layL := fun x => by simp only [PyData.canLayAll0, Dat.lay, DatL.layL, Bool.and_true]
  depL := fun x => by
    have h1 := Dat.dep x.1
    have h2 := DatL.depL x.2
    simp only [PyData.depthAll]
    omega
  eqvL := fun x y => by
    obtain ⟨x1, x2⟩ := x
    obtain ⟨y1, y2⟩ := y
    simp only [PyData.eqvAll, Bool.and_eq_true, Dat.eqv, DatL.eqvL, Prod.mk.injEq]
instance datNt {α : Type} [DatL α] : Dat (Nt α) where
  toD := fun x => .tuple (DatL.toDs x.v)
  dmax := DatL.dmaxL α + 1
  dp := fun {K H v x} h => by
    obtain ⟨a, vs, rfl, q, h⟩ := h
    exact .tup (SqT.of q) (DatL.dpL h)
  lay := fun x => by
    simp only [PyData.canLay0]
    exact DatL.layL x.v
  dep := fun x => by
    have h := DatL.depL x.v
    simp only [PyData.depth]
    omega
  eqv := fun x y => by
    obtain ⟨x⟩ := x
    obtain ⟨y⟩ := y
    simp only [PyData.eqv, Nt.mk.injEq]
    exact DatL.eqvL x y
/-! ### objects of an own class -/
def mkfs (fs : List Str) (us : List V) : List (Str × V) := (fs.zip us).foldl (fun l p => putF p.1 p.2 l) []
structure Oj (nm : Str) (fs : List Str) (α : Type) where
  v : α
instance repOj {nm : Str} {fs : List Str} {α : Type} [RepL α] : Rep (Oj nm fs α) := ⟨fun K H v x => ∃ a C dx us, v = .ref a ∧ Nm K nm C ∧ H a = some (.ins C dx (mkfs fs us)) ∧ repTs K H us x.v, fun s ⟨a, C, dx, us, e, n, q, h⟩ => ⟨a, C, dx, us, e, n, s _ _ q, RepL.mono s h⟩⟩
section
variable {α β γ δ : Type} [Rep α] [Rep β] [Rep γ] [Rep δ] {K : Fg} {H H' : Hp} {u1 u2 u3 u4 : V} {us : List V}
theorem rl1 {x : α × Unit} (h : repTs K H us x) : ∃ u1, us = [u1] ∧ rep K H u1 x.1 := by
  obtain ⟨u1, _, rfl, h1, rfl⟩ := h
  exact ⟨u1, rfl, h1⟩
theorem rl2 {x : α × β × Unit} (h : repTs K H us x) : ∃ u1 u2, us = [u1, u2] ∧ rep K H u1 x.1 ∧ rep K H u2 x.2.1 := by
  obtain ⟨u1, _, rfl, h1, u2, _, rfl, h2, rfl⟩ := h
  exact ⟨u1, u2, rfl, h1, h2⟩
theorem rl3 {x : α × β × γ × Unit} (h : repTs K H us x) : ∃ u1 u2 u3, us = [u1, u2, u3] ∧ rep K H u1 x.1 ∧ rep K H u2 x.2.1 ∧ rep K H u3 x.2.2.1 := by
  obtain ⟨u1, _, rfl, h1, u2, _, rfl, h2, u3, _, rfl, h3, rfl⟩ := h
  exact ⟨u1, u2, u3, rfl, h1, h2, h3⟩
theorem rl4 {x : α × β × γ × δ × Unit} (h : repTs K H us x) : ∃ u1 u2 u3 u4, us = [u1, u2, u3, u4] ∧ rep K H u1 x.1 ∧ rep K H u2 x.2.1 ∧ rep K H u3 x.2.2.1 ∧ rep K H u4 x.2.2.2.1 := by
  obtain ⟨u1, _, rfl, h1, u2, _, rfl, h2, u3, _, rfl, h3, u4, _, rfl, h4, rfl⟩ := h
  exact ⟨u1, u2, u3, u4, rfl, h1, h2, h3, h4⟩
theorem mk_rl1 {x1 : α} (h1 : rep K H u1 x1) : repTs K H [u1] (x1, ()) := ⟨u1, _, rfl, h1, rfl⟩
theorem mk_rl2 {x1 : α} {x2 : β} (h1 : rep K H u1 x1) (h2 : rep K H u2 x2) : repTs K H [u1, u2] (x1, x2, ()) := ⟨u1, _, rfl, h1, u2, _, rfl, h2, rfl⟩
theorem mk_rl3 {x1 : α} {x2 : β} {x3 : γ} (h1 : rep K H u1 x1) (h2 : rep K H u2 x2) (h3 : rep K H u3 x3) : repTs K H [u1, u2, u3] (x1, x2, x3, ()) := ⟨u1, _, rfl, h1, u2, _, rfl, h2, u3, _, rfl, h3, rfl⟩
theorem mk_rl4 {x1 : α} {x2 : β} {x3 : γ} {x4 : δ} (h1 : rep K H u1 x1) (h2 : rep K H u2 x2) (h3 : rep K H u3 x3) (h4 : rep K H u4 x4) : repTs K H [u1, u2, u3, u4] (x1, x2, x3, x4, ()) := ⟨u1, _, rfl, h1, u2, _, rfl, h2, u3, _, rfl, h3, u4, _, rfl, h4, rfl⟩
end
/-! ### trees: (a thing, a thing, a tuple of trees) -/
inductive Tr where
  | n (a b : Thing) (ts : List Tr)
def Tr.a : Tr → Thing
  | .n a _ _ => a
def Tr.b : Tr → Thing
  | .n _ b _ => b
def Tr.ts : Tr → List Tr
  | .n _ _ ts => ts
mutual
def trRep (K : Fg) (H : Hp) : Tr → V → Prop
  | .n a b ts, v => ∃ p u w q vs, v = .ref p ∧ H p = some (.tup [u, w, .ref q]) ∧ rep K H u a ∧ rep K H w b ∧ H q = some (.tup vs) ∧ trsRep K H ts vs
def trsRep (K : Fg) (H : Hp) : List Tr → List V → Prop
  | [], vs => vs = []
  | t :: ts, vs => ∃ v us, vs = v :: us ∧ trRep K H t v ∧ trsRep K H ts us
end
mutual
theorem trRep_mono {K : Fg} {H H' : Hp} (s : Same H H') : ∀ (t : Tr) (v : V), trRep K H t v → trRep K H' t v
  | .n a b ts, v, h => by
    rw [trRep] at h ⊢
    obtain ⟨p, u, w, q, vs, e, h1, h2, h3, h4, h5⟩ := h
    exact ⟨p, u, w, q, vs, e, s _ _ h1, Rep.mono s h2, Rep.mono s h3, s _ _ h4, trsRep_mono s ts vs h5⟩
theorem trsRep_mono {K : Fg} {H H' : Hp} (s : Same H H') : ∀ (ts : List Tr) (vs : List V), trsRep K H ts vs → trsRep K H' ts vs
  | [], vs, h => by
    rw [trsRep] at h ⊢
    exact h
  | t :: ts, vs, h => by
    rw [trsRep] at h ⊢
    obtain ⟨v, us, e, h1, h2⟩ := h
    exact ⟨v, us, e, trRep_mono s t v h1, trsRep_mono s ts us h2⟩
end
instance repTr : Rep Tr := ⟨fun K H v t => trRep K H t v, fun {_ _ _ v t} s h => trRep_mono s t v h⟩
theorem trs_a2 {K : Fg} {H : Hp} : ∀ (ts : List Tr) (vs : List V), trsRep K H ts vs ↔ A2 (rep K H) vs ts
  | [], vs => by
    rw [trsRep]
    exact ⟨fun e => by rw [e]; exact .nil, fun h => by cases h; rfl⟩
  | t :: ts, vs => by
    rw [trsRep]
    constructor
    · rintro ⟨v, us, rfl, h1, h2⟩
      exact .cons h1 ((trs_a2 ts us).mp h2)
    · intro h
      cases h with
      | cons h1 h2 => exact ⟨_, _, rfl, h1, (trs_a2 ts _).mpr h2⟩
abbrev TrN := Nt (Thing × Thing × Tup Tr × Unit)
def Tr.nt (t : Tr) : TrN := ⟨(t.a, t.b, ⟨t.ts⟩, ())⟩
def Tr.of (x : TrN) : Tr := .n x.v.1 x.v.2.1 x.v.2.2.1.l
theorem tr_nt {K : Fg} {H : Hp} {v : V} : ∀ {t : Tr}, rep K H v t → rep K H v t.nt
  | .n a b ts, h => by
    have h' : trRep K H (.n a b ts) v := h
    rw [trRep] at h'
    obtain ⟨p, u, w, q, vs, rfl, h1, h2, h3, h4, h5⟩ := h'
    exact rep_nt3 h1 h2 h3 ⟨q, vs, rfl, h4, (trs_a2 ts vs).mp h5⟩
theorem rep_tr {K : Fg} {H : Hp} {v : V} {x : TrN} (h : rep K H v x) : rep K H v (Tr.of x) := by
  obtain ⟨p, u, w, z, rfl, h1, h2, h3, h4⟩ := nt3 h
  obtain ⟨q, vs, rfl, h5, h6⟩ := h4
  show trRep K H (.n _ _ _) _
  rw [trRep]
  exact ⟨p, u, w, q, vs, rfl, h1, h2, h3, h5, (trs_a2 _ vs).mpr h6⟩
theorem nt_tr {K : Fg} {H : Hp} {v : V} : ∀ {t : Tr}, rep K H v t.nt → rep K H v t
  | .n a b ts, h => rep_tr h
/-! ### a tuple and the empty one -/
theorem A2.emp {α : Type} {r : V → α → Prop} {vs : List V} {xs : List α} (h : A2 r vs xs) : vs.isEmpty = xs.isEmpty := by
  cases h <;> rfl
theorem op_eqE {X : Cx} {K : Fg} (hK : X.K = K) (hu : X.A.units + 64 < cLine) : OpR X (compareOp .Eq) (fun x y H Q => ∃ (a b : Addr) (vs : List V) (k : Bool), x = .ref a ∧ y = .ref b ∧ SqT K H a vs ∧ SqT K H b [] ∧ vs.isEmpty = k ∧ Q (.bl k) H) := by
  subst hK
  intro pins s σ H x y v u Q I rx ry ⟨a, b, vs, k, e1, e2, h1, h2, ek, q⟩
  subst e1 e2 ek
  cases rx
  cases ry
  obtain ⟨its, r1, p1, _⟩ := I.tuple h1
  obtain ⟨its2, r2, p2, _⟩ := I.tuple h2
  cases r2
  have l1 : its.length = vs.length := (Vals.length r1).symm
  refine PySem.SeqAt.eq_tupleAt (e := fun _ => false) p1 p2 (by omega) (fun j _ z => absurd z (by simp)) ⟨.bl _, H, I, rfl, ?_⟩
  have e : ((List.range (min its.toArray.size ([] : List Value).toArray.size)).all (fun _ => false) && its.toArray.size == ([] : List Value).toArray.size) = vs.isEmpty := by
    cases vs with
    | nil =>
      have : its = [] := List.length_eq_zero_iff.mp l1
      subst this
      rfl
    | cons v vs =>
      cases its with
      | nil => cases l1
      | cons i its => simp
  rw [e]
  exact q
/-! ### great powers and products -/
@[irreducible] def sqR (i : Int) : R Int := if i.natAbs < 2 ^ 400 then .ok (i ^ (2 : Int).toNat) else .bad
@[irreducible] def mulW (i j : Int) : R Int := if i.natAbs < 2 ^ 400 ∧ j.natAbs < 2 ^ 400 then .ok (i * j) else .bad
theorem pb_sq {β : Type} {Q : β → Prop} {E : Exn → Prop} {i : Int} {f : Int → R β} (h : Post (sqR i >>= f) Q E) : i.natAbs < 2 ^ 400 ∧ Post (f (i ^ (2 : Int).toNat)) Q E := by
  unfold sqR at h
  exact pb_if h
theorem pb_mulW {β : Type} {Q : β → Prop} {E : Exn → Prop} {i j : Int} {f : Int → R β} (h : Post (mulW i j >>= f) Q E) : (i.natAbs < 2 ^ 400 ∧ j.natAbs < 2 ^ 400) ∧ Post (f (i * j)) Q E := by
  unfold mulW at h
  exact pb_if h
theorem po_sq {i : Int} (h : i.natAbs < 2 ^ 400) : sqR i = R.ok (i * i) := by
  unfold sqR
  rw [if_pos h]
  have e : i ^ (2 : Int).toNat = i * i := by
    show i ^ 2 = i * i
    rw [Int.pow_succ, Int.pow_succ, Int.pow_zero, Int.one_mul]
  rw [e]
theorem po_mulW {i j : Int} (h : i.natAbs < 2 ^ 400) (h2 : j.natAbs < 2 ^ 400) : mulW i j = R.ok (i * j) := by
  unfold mulW
  rw [if_pos ⟨h, h2⟩]
section
variable {X : Cx}
theorem op_sq : OpR X (binaryOp .Pow) (rI (fun i j => j = 2 ∧ i.natAbs < 2 ^ 400) fun i j => .int (i ^ j.toNat)) := opI fun i j _ _ _ _ _ hc q => by
  obtain ⟨rfl, h⟩ := hc
  refine PyProof.Rows.pow_int (by decide) ?_ q
  have := intBits_le_iff.mpr h
  omega
theorem op_mulW4 : OpR X (binaryOp .Mult) (rI (fun i j => i.natAbs < 2 ^ 400 ∧ j.natAbs < 2 ^ 400) fun i j => .int (i * j)) := opI fun _ _ _ _ _ _ _ hc q =>
  mul_int q (IntMulOk.of_le (intBits_le_iff.mpr hc.1) (intBits_le_iff.mpr hc.2) (by decide))
end
/-! ### min, max of a tuple of two ints -/
section
variable {prog : Program} {w : World} {A : Around} {E : Value → Shared → Prop} {s : Shared} {l : Addr} {xs : Array (Int × Tok)} {Q : Value → Shared → Prop}
theorem iter_intTup (hl : s.heap.IsTuple l (intItems xs))
    (h : ∀ s₂ : Shared, s₂ = { s with heap := s.heap.push { cls := .type "tuple_iterator", data := .fields #[.ref l, .int 0 0] } } →
      (s₂.heap.IsTupleIter s.heap.objs.size l 0 ∧ s₂.heap.IsTuple l (intItems xs)) → (∀ b ∈ [s.heap.objs.size, l], b < s₂.heap.objs.size) → l ≠ s.heap.objs.size → Q (.ref s.heap.objs.size) s₂) :
    wpAny (model prog w) A (pyIter (.ref l)) Q E s := by
  have hlt : l < s.heap.objs.size := by obtain ⟨_, e, _⟩ := hl; exact Heap.lt_size e
  refine wpAny_pyIter_tuple hl (h _ rfl ⟨⟨_, Heap.get?_push_size _ rfl, rfl, rfl⟩, hl.push _⟩ (fun b hb => ?_) (Nat.ne_of_lt hlt))
  show b < (s.heap.push _).objs.size
  rw [Heap.size_push]
  rcases List.mem_cons.mp hb with rfl | hb
  · exact Nat.lt_succ_self _
  · rcases List.mem_cons.mp hb with rfl | hb
    · exact Nat.lt_succ_of_lt hlt
    · cases hb
theorem old_keptT {h' : Heap} (hk : ∀ b o, b ∉ [s.heap.objs.size] → (s.heap.push { cls := .type "tuple_iterator", data := .fields #[.ref l, .int 0 0] }).get? b = some o → h'.get? b = some o) :
    ∀ b o, s.heap.get? b = some o → h'.get? b = some o := fun b o e => by
  refine hk b o (fun hm => ?_) (Heap.get?_push_of_some _ e)
  rcases List.mem_cons.mp hm with e1 | hm
  · exact absurd (e1 ▸ Heap.lt_size e) (Nat.lt_irrefl _)
  · cases hm
theorem max_intTup (hh : A.handled = none) (hl : s.heap.IsTuple l (intItems xs)) (hne : 0 < xs.size)
    (h : ∀ v h' tk, (intItems xs)[argBest (fun i j => decide (numAt xs i > numAt xs j)) (xs.size - 1)]? = some v → (∀ b o, s.heap.get? b = some o → h'.get? b = some o) → Q v { s with heap := h', toks := tk }) :
    wpAny (model prog w) A (call (.builtin "max") [.ref l]) Q E s := by
  refine call_max_walk (iter_intTup hl fun s₂ e st hfp hlI => ?_)
  subst e
  refine ⟨_, _, _, _, _, _, _, rfl, Walks.tuple (A := A.in1) hh _ l hlI (intItems xs), st, hfp, by simpa [intItems] using hne, CmpOf.ints_gt (numAt xs) (fun _ _ => intItems_at), fun v h' tk hP hk => ?_⟩
  exact h v h' tk (by simpa [intItems] using hP) (old_keptT hk)
theorem min_intTup (hh : A.handled = none) (hl : s.heap.IsTuple l (intItems xs)) (hne : 0 < xs.size)
    (h : ∀ v h' tk, (intItems xs)[argBest (fun i j => decide (numAt xs i < numAt xs j)) (xs.size - 1)]? = some v → (∀ b o, s.heap.get? b = some o → h'.get? b = some o) → Q v { s with heap := h', toks := tk }) :
    wpAny (model prog w) A (call (.builtin "min") [.ref l]) Q E s := by
  refine call_min_walk (iter_intTup hl fun s₂ e st hfp hlI => ?_)
  subst e
  refine ⟨_, _, _, _, _, _, _, rfl, Walks.tuple (A := A.in1) hh _ l hlI (intItems xs), st, hfp, by simpa [intItems] using hne, CmpOf.ints_lt (numAt xs) (fun _ _ => intItems_at), fun v h' tk hP hk => ?_⟩
  exact h v h' tk (by simpa [intItems] using hP) (old_keptT hk)
end
section
variable {X : Cx} {K : Fg}
theorem cr_maxT2 (hK : X.K = K) (hc : X.calm = true) : CallR X (.builtin "max") (fun vs H Q => ∃ (a : Addr) (i j : Int), vs = [V.ref a] ∧ SqT K H a [.int i, .int j] ∧ ∃ k, max2 i j = k ∧ Q (.int k) H) := by
  subst hK
  intro pins s σ H vs us Q I r ⟨a, i, j, e, h, k, ek, q⟩
  subst e ek
  obtain ⟨its, rv, hT, _⟩ := I.tuple h
  obtain ⟨t, u, rfl⟩ := Vals.int2 rv
  rw [Vals.ref1 r]
  refine max_intTup (xs := #[(i, t), (j, u)]) (I.ok.hd hc) (by rw [show intItems #[(i, t), (j, u)] = #[Value.int i t, Value.int j u] by simp [intItems]]; exact hT) (show 0 < 2 from by decide) fun v h' tk hv hk => ?_
  have hv' : v = Value.int (max2 i j) (if j > i then u else t) := by
    unfold max2
    by_cases z : j > i
    · have e : argBest (fun x y => decide (numAt #[(i, t), (j, u)] x > numAt #[(i, t), (j, u)] y)) 1 = 1 := by simp [argBest, numAt, z]
      rw [show (#[(i, t), (j, u)] : Array (Int × Tok)).size - 1 = 1 from rfl, e] at hv
      simpa [intItems, z] using hv.symm
    · have e : argBest (fun x y => decide (numAt #[(i, t), (j, u)] x > numAt #[(i, t), (j, u)] y)) 1 = 0 := by simp [argBest, numAt, z]
      rw [show (#[(i, t), (j, u)] : Array (Int × Tok)).size - 1 = 1 from rfl, e] at hv
      simpa [intItems, z] using hv.symm
  rw [hv']
  exact ⟨.int _, H, I.kept hk, ⟨_, rfl⟩, q⟩
theorem cr_minT2 (hK : X.K = K) (hc : X.calm = true) : CallR X (.builtin "min") (fun vs H Q => ∃ (a : Addr) (i j : Int), vs = [V.ref a] ∧ SqT K H a [.int i, .int j] ∧ ∃ k, min2 i j = k ∧ Q (.int k) H) := by
  subst hK
  intro pins s σ H vs us Q I r ⟨a, i, j, e, h, k, ek, q⟩
  subst e ek
  obtain ⟨its, rv, hT, _⟩ := I.tuple h
  obtain ⟨t, u, rfl⟩ := Vals.int2 rv
  rw [Vals.ref1 r]
  refine min_intTup (xs := #[(i, t), (j, u)]) (I.ok.hd hc) (by rw [show intItems #[(i, t), (j, u)] = #[Value.int i t, Value.int j u] by simp [intItems]]; exact hT) (show 0 < 2 from by decide) fun v h' tk hv hk => ?_
  have hv' : v = Value.int (min2 i j) (if j < i then u else t) := by
    unfold min2
    by_cases z : j < i
    · have e : argBest (fun x y => decide (numAt #[(i, t), (j, u)] x < numAt #[(i, t), (j, u)] y)) 1 = 1 := by simp [argBest, numAt, z]
      rw [show (#[(i, t), (j, u)] : Array (Int × Tok)).size - 1 = 1 from rfl, e] at hv
      simpa [intItems, z] using hv.symm
    · have e : argBest (fun x y => decide (numAt #[(i, t), (j, u)] x < numAt #[(i, t), (j, u)] y)) 1 = 0 := by simp [argBest, numAt, z]
      rw [show (#[(i, t), (j, u)] : Array (Int × Tok)).size - 1 = 1 from rfl, e] at hv
      simpa [intItems, z] using hv.symm
  rw [hv']
  exact ⟨.int _, H, I.kept hk, ⟨_, rfl⟩, q⟩
end
/-! ### a list grows by a tuple's items -/
theorem meets_extend_tup (l : Addr) (items : Array Value) (n : Nat) (b : Addr) (items2 : Array Value) (n2 : Nat) (o2 : Obj) (hc2 : o2.cls = .type "tuple") (hd2 : o2.data = .seq items2 n2) (hs0 : ¬(!items.isEmpty && Builtin.List.listTooLong (items.size + items2.size)) = true) (hs1 : items.size ≤ sizeLine) (hs2 : items.size + items2.size ≤ sizeLine + 1) :
    Meets (Builtin.«list.extend» ⟨[.ref l, .ref b], []⟩) (fun _ R s => s.heap.get? l = some { cls := .type "list", dict := none, data := .seq items n, slots := #[] } ∧ s.heap.get? b = some o2 ∧ R (.ok (.ret Value.none)) { s with heap := s.heap.update l (Obj.mapSeq fun x => x ++ items2), toks := s.toks }) :=
  .of_wp fun prog w A R s h => by
    obtain ⟨c2, d2, da2, sl2⟩ := o2
    dsimp only at hc2 hd2
    subst hc2 hd2
    obtain ⟨hp, g, d, tk, os⟩ := s; obtain ⟨hl, hb, h⟩ := h; have f1 := AutoSeq1.idx_int; have f2 := AutoSeq1.sub_tuple_tuple; have f3 := AutoSeq1.sub_list_list; have f4 := AutoSeq1.sub_tuple_list; have f5 := AutoSeq1.sub_list_tuple;
    have hz' : (items ++ items2).size ≤ sizeLine + 1 := by rw [Array.size_append]; exact hs2
    wp_walk using (wpAny_updateSeq hl rfl (hz := hs1) (_hz' := hz')), AutoSeq1.wpAny_loadPart' hl, AutoSeq1.wpAny_loadPart' hb; exact ⟨_, rfl, h⟩
theorem mt_extendT {X : Cx} {K : Fg} (hK : X.K = K) : MtM X "list.extend" (fun x vs H Q => ∃ l b xs zs, x = .ref l ∧ vs = [.ref b] ∧ H l = some (.lst xs) ∧ SqT K H b zs ∧ xs.length + zs.length ≤ sizeLine ∧ Q .non (upd H l (.lst (xs ++ zs)))) := by
  subst hK
  intro pins s σ H x vs v us Q I rx rv h
  obtain ⟨l, b, xs, zs, rfl, rfl, hH, hB, hz, q⟩ := h
  cases rx
  obtain ⟨u, rfl, ru⟩ := rv.one
  cases ru
  obtain ⟨z, its, n, r, hl, e⟩ := I.lstM hH
  obtain ⟨its2, r2, ⟨o2, e2, hc2, n2, hd2⟩, hl2⟩ := I.tuple hB
  have hl3 : zs.length = its2.length := r2.length
  have hsz : its.toArray.size + its2.toArray.size ≤ sizeLine := by rw [List.size_toArray, List.size_toArray]; omega
  have hlong : ¬ (!its.toArray.isEmpty && Builtin.List.listTooLong (its.toArray.size + its2.toArray.size)) = true := by
    rw [notLongL hsz, Bool.and_false]
    exact Bool.false_ne_true
  refine call_meets F.slot_list_extend ⟨_, e, rfl⟩ F.entry_list_extend (F.args_list_extend_2 _ _)
    (meets_extend_tup l its.toArray n b its2.toArray n2 o2 hc2 hd2 hlong (by rw [List.size_toArray]; omega) (by omega)) ⟨e, e2, ?_⟩
  refine ⟨.non, _, I.lset (its' := its ++ its2) hH e (by simp) (r.append r2) ?_, rfl, q⟩
  rw [List.length_append]
  omega
end Z
/-! ZC: texts as data; what is an int or a text -/
namespace Z
open PySem L2 PySem.Spec PyProof.Rows
open Rep (rep)
instance : NonN Exn := ⟨fun {K H v x} h q => by
  obtain ⟨a, C, e, _⟩ := h
  rw [e] at q
  cases q⟩
structure Txt where
  t : Str
  ok : PyData.strOk t = true
  deriving DecidableEq
inductive IoS where
  | i (n : Int)
  | s (t : Txt)
  deriving DecidableEq
instance repIoS : Rep IoS := ⟨fun K H v x => match x with
  | .i n => v = .int n
  | .s t => v = .str t.t, fun {_ _ _ _ x} s h => by
    cases x with
    | i n => exact h
    | s t => exact h⟩
instance datIoS : Dat IoS where
  toD := fun x => match x with
    | .i n => .int n
    | .s t => .str t.t
  dmax := 0
  dp := fun {K H v x} h => by
    cases x with
    | i n =>
      have h' : v = V.int n := h
      subst h'
      exact .int _
    | s t =>
      have h' : v = V.str t.t := h
      subst h'
      exact .str _
  lay := fun x => by
    cases x with
    | i n => simp only [PyData.canLay0]
    | s t =>
      simp only [PyData.canLay0]
      exact t.ok
  dep := fun x => by cases x <;> simp only [PyData.depth, Nat.le_refl]
  eqv := fun x y => by
    cases x with
    | i n => cases y <;> simp [PyData.eqv]
    | s t =>
      cases y with
      | i n => simp [PyData.eqv]
      | s u =>
        obtain ⟨t, ht⟩ := t
        obtain ⟨u, hu⟩ := u
        simp [PyData.eqv]
section
variable {K : Fg} {F H : Hp}
def IoS.isS : IoS → Bool
  | .i _ => false
  | .s _ => true
theorem rep_ioI {n : Int} : rep K F (V.int n) (IoS.i n) := rfl
theorem rep_ioS {t : Str} {h : PyData.strOk t = true} : rep K F (V.str t) (IoS.s ⟨t, h⟩) := rfl
def asI : IoS → R Int
  | .i n => R.ok n
  | .s _ => R.bad
theorem pb_asI {β : Type} {Q : β → Prop} {E : Exn → Prop} {o : IoS} {f : Int → R β} (h : Post (asI o >>= f) Q E) : ∃ a, o = .i a ∧ Post (f a) Q E := by
  cases o with
  | i n => exact ⟨n, rfl, h⟩
  | s t => exact h.elim
theorem io_str {v : V} {x : IoS} (r : rep K F v x) : ∃ a, TyOf K H v (.type a) ∧ kitB a "str" = some x.isS := by
  cases x with
  | i n =>
    have h' : v = V.int n := r
    subst h'
    exact ⟨_, .int _, show kitB "int" "str" = some false by decide +kernel⟩
  | s t =>
    have h' : v = V.str t.t := r
    subst h'
    exact ⟨_, .str _, show kitB "str" "str" = some true by decide +kernel⟩
end
end Z
/-! ZK: a list of two ints, unpacked -/
namespace Z
open PySem L2
open Rep (rep)
def un2 {α : Type} (xs : List α) : R (α × α) := match xs with
  | [a, b] => .ok (a, b)
  | _ => .bad
theorem pb_un2 {α δ : Type} {xs : List α} {f : α × α → R δ} {P : δ → Prop} {E : Exn → Prop} (h : Post (un2 xs >>= f) P E) : ∃ a b, xs = [a, b] ∧ Post (f (a, b)) P E := by
  match xs, h with
  | [], h => exact (show False from h).elim
  | [_], h => exact (show False from h).elim
  | [a, b], h => exact ⟨a, b, rfl, h⟩
  | _ :: _ :: _ :: _, h => exact (show False from h).elim
theorem two_ints {K : Fg} {F : Hp} {vs : List V} {xs : List Int} {a b : Int} (h : A2 (rep K F) vs xs) (e : xs = [a, b]) : vs = [.int a, .int b] := by
  subst e
  cases h with
  | cons h1 t =>
    cases t with
    | cons h2 t =>
      cases t
      have h1' : _ = V.int a := h1
      have h2' : _ = V.int b := h2
      rw [h1', h2']
theorem po_un2 {α δ : Type} {a b : α} {f : α × α → R δ} {P : δ → Prop} {E : Exn → Prop} (h : Post (f (a, b)) P E) : Post (un2 [a, b] >>= f) P E := h
theorem a2_some {K : Fg} {F : Hp} {vs : List V} {xs : List Int} (h : A2 (rep K F) vs xs) : A2 (rep K F) vs (xs.map some) := by
  induction h with
  | nil => exact .nil
  | cons r _ ih => exact .cons (rep_some r) ih
end Z
/-! ZP: a call of what an expression tells: one of several defs -/
namespace L2
open PySem PySem.Spec PyProof.Rows StX
/-- a def that may be told: its promise -/
structure HeldX (P : Program) (w : World) (K : PySem.W.Frag) (mg : Str → Option Value) (base : Heap) (CX : CXT) (k : Nat) (f : Addr) (sp : Sp) : Prop where
  ex : ∃ (j : Nat) (fd : FuncData) (ps : List Str), FnOk P w K mg base CX j f fd ps sp ∧ j ≤ k ∧ PySem.W.keepIn K (.ref f) = true ∧ Binds K fd ps []
section
variable {X : Cx} {CX : CXT} {k : Nat} {E : St → XK} {pos : Pos} {fe e : Expr} {es : List Expr} {tf : TE} {t : TA} {S : Addr → Sp → Prop}
def tCallE (S : Addr → Sp → Prop) (E : St → XK) (tf : TE) (t : TA) : TE := fun σ H Q => tf σ H fun y H1 => ∃ f sp, y = .ref f ∧ S f sp ∧ t σ H1 fun vs H2 => sp vs H2 Q (E σ)
theorem pe_callE (A : ∀ f sp, S f sp → HeldX X.prog X.w X.K X.mg X.base CX k f sp) (hr : Room k X.A) (hf : PE X fe tf) (hx : ∀ σ, PassesAt CX X σ (E σ)) (ha : PA X (e :: es) t)
    (ht : eval (.Call fe (e :: es) [] pos) X.env = (do callWith pos (← eval fe X.env) [] (backTo pos (starEach (e :: es) X.env)) (backToKw pos (keywordEach [] X.env))) := by rfl)
    (he : starEach (e :: es) X.env = (false, eval e X.env) :: starEach es X.env := by rfl) (hpl : (backTo pos (starEach es X.env)).any (·.1) = false := by rfl) : PE X (.Call fe (e :: es) [] pos) (tCallE S E tf t) := by
  refine ⟨fun pins s σ H Q I h => ?_⟩
  refine Call_ (thn (hf.run pins s σ H _ I h) fun u s1 ⟨y, H1, I1, ry, f, sp, ey, hS, q⟩ => ?_) ht
  subst ey
  obtain rfl : u = Value.ref f := ry
  obtain ⟨j, fd, ps, F, hj, hk, hb⟩ := (A f sp hS).ex
  refine PySem.W.callWith_K (h₀ := X.base) I1.ok.mod.kin hk (thn (ha.run pos pins s1 σ H1 _ I1 q) fun us s2 ⟨vs, H2, I2, r, q2⟩ => ⟨I2.kIn, ?_⟩) he hpl
  exact run_fnS F (hr.mono hj) hb (hx σ) I2 r q2
end
end L2
namespace Z
open PySem L2
theorem two_rel (a b : Addr) : A2 (fun (v : V) (i : Int) => v = V.ref (if i = 0 then a else b)) [V.ref a, V.ref b] [0, 1] := .cons rfl (.cons rfl .nil)
open PySem.Spec PyProof.Rows
open Rep (rep)
theorem io_bool {K : Fg} {F H : Hp} {v : V} {x : IoS} (r : rep K F v x) : ∃ a, TyOf K H v (.type a) ∧ kitB a "bool" = some false := by
  cases x with
  | i n =>
    have h' : v = V.int n := r
    subst h'
    exact ⟨_, .int _, show kitB "int" "bool" = some false by decide +kernel⟩
  | s t =>
    have h' : v = V.str t.t := r
    subst h'
    exact ⟨_, .str _, show kitB "str" "bool" = some false by decide +kernel⟩
theorem a2_io {K : Fg} {F : Hp} {vs : List V} {xs : List Int} (h : A2 (rep K F) vs xs) : A2 (rep K F) vs (xs.map IoS.i) := by
  induction h with
  | nil => exact .nil
  | cons r _ ih => exact .cons r ih
/-- a tuple of ints, or a text -/
inductive TuS where
  | t (x : Tup Int)
  | s (t : Txt)
  deriving DecidableEq
instance repTuS : Rep TuS := ⟨fun K H v x => match x with
  | .t n => rep K H v n
  | .s t => v = .str t.t, fun {_ _ _ _ x} s h => by
    cases x with
    | t n => exact Rep.mono s h
    | s t => exact h⟩
instance datTuS : Dat TuS where
  toD := fun x => match x with
    | .t n => Dat.toD n
    | .s t => .str t.t
  dmax := 1
  dp := fun {K H v x} h => by
    cases x with
    | t n => exact Dat.dp (show rep K H v n from h)
    | s t =>
      have h' : v = V.str t.t := h
      subst h'
      exact .str _
  lay := fun x => by
    cases x with
    | t n => exact Dat.lay n
    | s t =>
      simp only [PyData.canLay0]
      exact t.ok
  dep := fun x => by
    cases x with
    | t n => exact Dat.dep n
    | s t => simp [PyData.depth]
  eqv := fun x y => by
    cases x with
    | t n =>
      cases y with
      | t k => exact (Dat.eqv n k).trans (by simp)
      | s t => simp [PyData.eqv, Dat.toD]
    | s t =>
      cases y with
      | t n => simp [PyData.eqv, Dat.toD]
      | s u =>
        obtain ⟨t, ht⟩ := t
        obtain ⟨u, hu⟩ := u
        simp [PyData.eqv]
theorem rep_tuT {K : Fg} {F : Hp} {v : V} {x : Tup Int} (h : rep K F v x) : rep K F v (TuS.t x) := h
theorem rep_tuS {K : Fg} {F : Hp} {t : Str} {h : PyData.strOk t = true} : rep K F (V.str t) (TuS.s ⟨t, h⟩) := rfl
theorem a2_tu {K : Fg} {F : Hp} {vs : List V} {xs : List (Tup Int)} (h : A2 (rep K F) vs xs) : A2 (rep K F) vs (xs.map TuS.t) := by
  induction h with
  | nil => exact .nil
  | cons r _ ih => exact .cons (rep_tuT r) ih
theorem W.subl {F H : Hp} {os os' : List (Addr × HO)} (w : W F H os) (s : os'.Sublist os) : W F H os' := ⟨w.same, fun p hp => w.own p (s.subset hp), w.nd.sublist s, fun p hp => w.nt p (s.subset hp)⟩
/-- one of some lists of one's own -/
def Pick {α : Type} [Rep α] (K : Fg) (F H : Hp) (os : List (Addr × HO)) (v : V) (l : List α) : Prop := ∃ (a : Addr) (vs : List V), v = .ref a ∧ W F H ((a, .lst vs) :: os) ∧ A2 (rep K F) vs l
theorem pick_mk {α : Type} [Rep α] {K : Fg} {F H : Hp} {os os' : List (Addr × HO)} {a : Addr} {vs : List V} {l : List α} (w : W F H os') (s : ((a, HO.lst vs) :: os).Sublist os') (h : A2 (rep K F) vs l) : Pick K F H os (.ref a) l := ⟨a, vs, rfl, w.subl s, h⟩
theorem two_any {α : Type} [Rep α] {K : Fg} {F : Hp} {vs : List V} {xs : List α} {a b : α} (h : A2 (rep K F) vs xs) (e : xs = [a, b]) : ∃ u w, vs = [u, w] ∧ rep K F u a ∧ rep K F w b := by
  subst e
  cases h with
  | cons h1 t =>
    cases t with
    | cons h2 t =>
      cases t
      exact ⟨_, _, rfl, h1, h2⟩
section
variable {α β γ δ ε : Type} [Rep α] [Rep β] [Rep γ] [Rep δ] [Rep ε] {K : Fg} {H : Hp} {v u1 u2 u3 u4 u5 : V} {a : Addr}
theorem nt5 {x : Nt (α × β × γ × δ × ε × Unit)} (h : rep K H v x) : ∃ a u1 u2 u3 u4 u5, v = .ref a ∧ H a = some (.tup [u1, u2, u3, u4, u5]) ∧ rep K H u1 x.v.1 ∧ rep K H u2 x.v.2.1 ∧ rep K H u3 x.v.2.2.1 ∧ rep K H u4 x.v.2.2.2.1 ∧ rep K H u5 x.v.2.2.2.2.1 := by
  obtain ⟨a, vs, e, q, u1, _, rfl, h1, u2, _, rfl, h2, u3, _, rfl, h3, u4, _, rfl, h4, u5, _, rfl, h5, rfl⟩ := h
  exact ⟨a, u1, u2, u3, u4, u5, e, q, h1, h2, h3, h4, h5⟩
theorem rep_nt5 {x1 : α} {x2 : β} {x3 : γ} {x4 : δ} {x5 : ε} (q : H a = some (.tup [u1, u2, u3, u4, u5])) (h1 : rep K H u1 x1) (h2 : rep K H u2 x2) (h3 : rep K H u3 x3) (h4 : rep K H u4 x4) (h5 : rep K H u5 x5) : rep K H (.ref a) (⟨(x1, x2, x3, x4, x5, ())⟩ : Nt (α × β × γ × δ × ε × Unit)) := ⟨a, _, rfl, q, u1, _, rfl, h1, u2, _, rfl, h2, u3, _, rfl, h3, u4, _, rfl, h4, u5, _, rfl, h5, rfl⟩
end
end Z
/-! ZA: sorted of a tuple of pairs (the list's rules turned to tuples) -/
namespace SrtO
open PySem PyProof.Rows Srt
section
variable {prog : Program} {w : World} {A : Around} {s : Shared} {E : Value → Shared → Prop}
theorem collect_tupI {l : Addr} {vs : List Value} {Q : List Value → Shared → Prop} (hl : IsTup s.heap l vs.toArray)
    (h : Q vs { s with heap := (s.heap.push (seqObj "list" #[] 0)).update s.heap.objs.size (Obj.mapSeq (· ++ vs.toArray)) }) (hsz : vs.length ≤ sizeLine) :
    wpAny (model prog w) A (collect (.ref l)) Q E s := by
  obtain ⟨o, ho, hc, n, hd⟩ := id hl
  unfold collect
  refine wpAny_bind (wpAny_runValue (codeAny_builtin entry_proto_collect' ?_))
  show wpAny _ _ (do again (.builtin "list.__iadd__" ⟨[← newList [], .ref l], []⟩)) _ _ s
  refine wpAny_bind (wpAny_newList (wpAny_pure ⟨Code.quiet_builtin _ (by decide +kernel), codeAny_builtin entry_list_iadd' ?_⟩))
  show wpAny _ _ (Builtin.List.listExtendWith (.ref s.heap.objs.size) (.ref l) (.ref s.heap.objs.size)) _ _ { s with heap := s.heap.push (seqObj "list" #[] 0) }
  unfold Builtin.List.listExtendWith
  have ho' : (s.heap.push (seqObj "list" #[] 0)).get? l = some o := Heap.get?_push_of_some _ ho
  refine wpAny_bind (wpAny_typeOf (T := "tuple") ⟨o, ho', hc⟩ ?_)
  have ht : (Value.type "tuple" == Value.type "tuple") = true := by rfl
  rw [if_pos (by rw [ht]; simp)]
  refine wpAny_bind (listItems_at ho' hd ?_)
  refine wpAny_bind (listItems_at (xs := #[]) (n := 0) (Heap.get?_push_size _ rfl) rfl ?_)
  rw [if_neg (by simp)]
  refine wpAny_bind (listUpdate_at (xs := #[]) (n := 0) (Heap.get?_push_size _ rfl) rfl ?_ (Nat.zero_le _) (by show (#[] ++ vs.toArray).size ≤ sizeLine + 1; simp only [Array.size_append, List.size_toArray, List.length_nil]; omega))
  refine wpAny_pure ?_
  show wpAny (model prog w) A (do
      let o ← load s.heap.objs.size
      match o.data with
      | .seq xs _ => pure xs.toList
      | _ => unsupported "internal:collect") Q E { s with heap := (s.heap.push (seqObj "list" #[] 0)).update s.heap.objs.size (Obj.mapSeq (· ++ vs.toArray)) }
  refine wpAny_bind (wpAny_load (get?_update_seq (Heap.get?_push_size _ rfl) _) ?_)
  show wpAny _ _ (pure ((#[] : Array Value) ++ vs.toArray).toList) Q E _
  rw [show ((#[] : Array Value) ++ vs.toArray).toList = vs by simp]
  exact wpAny_pure h
theorem sorted_ordT {l : Addr} {vs : List Value} {ltv : Value → Value → Bool} {Q : Value → Shared → Prop} (O : Swo ltv) (hl : IsTup s.heap l vs.toArray) (hz : vs.length ≤ sizeLine)
    (hS : 2 ≤ vs.length → ∀ (h₁ : Heap) (a : Addr), h₁.get? a = some (seqObj "list" vs.toArray 0) → (∀ b o, s.heap.get? b = some o → b ≠ a ∧ h₁.get? b = some o) → SortableO prog w A.in1.in1 { s with heap := h₁ } a vs ltv)
    (h : ∀ out : List Value, Srtd ltv out → Stb ltv out vs → Q (.ref (s.heap.objs.size + 1)) { s with heap := sortedAll s.heap vs out.toArray }) :
    wpAny (model prog w) A (call (.builtin "sorted") [.ref l]) Q E s := by
  refine Calls.call_function_entry kind_sorted plain_sorted entry_sorted (args_sorted1 _) ?_
  unfold Builtin.«sorted»
  refine wpAny_bind (m := checkCount "sorted" 1 1 _) (wpAny_pure ?_)
  refine wpAny_bind (collect_tupI hl ?_ hz)
  refine wpAny_bind (wpAny_newList ?_ hz)
  have hsz : ((s.heap.push (seqObj "list" #[] 0)).update s.heap.objs.size (Obj.mapSeq (· ++ vs.toArray))).objs.size = s.heap.objs.size + 1 := by
    rw [Heap.size_update, size_push']
  have hoL : (((s.heap.push (seqObj "list" #[] 0)).update s.heap.objs.size (Obj.mapSeq (· ++ vs.toArray))).push (seqObj "list" vs.toArray 0)).get? (s.heap.objs.size + 1) = some (seqObj "list" vs.toArray 0) := by
    rw [← hsz]; exact Heap.get?_push_size _ rfl
  have keep : ∀ b o, s.heap.get? b = some o → b ≠ s.heap.objs.size + 1 ∧ (((s.heap.push (seqObj "list" #[] 0)).update s.heap.objs.size (Obj.mapSeq (· ++ vs.toArray))).push (seqObj "list" vs.toArray 0)).get? b = some o := fun b o q => by
    have hlt : b < s.heap.objs.size := Heap.lt_size q
    refine ⟨Nat.ne_of_lt (Nat.lt_succ_of_lt hlt), Heap.get?_push_of_some _ ?_⟩
    rw [Heap.get?_update_ne _ _ _ _ (Nat.ne_of_lt hlt)]
    exact Heap.get?_push_of_some _ q
  show wpAny _ _ _ _ _ { s with heap := ((s.heap.push (seqObj "list" #[] 0)).update s.heap.objs.size (Obj.mapSeq (· ++ vs.toArray))).push (seqObj "list" vs.toArray 0) }
  rw [hsz]
  refine wpAny_bind (wpAny_holding (wpAny_call_entry slot_list_sort ⟨_, hoL, rfl⟩ entry_list_sort (list_sort_ord O hoL hz (fun h2 => hS h2 _ _ hoL keep) fun out hs hb => ⟨_, rfl, ?_⟩) (args_list_sort _)))
  exact wpAny_pure ⟨_, rfl, h out hs hb⟩
theorem sorted_pairsOT {l : Addr} {vs : List Value} {k : Value → Int × Int} {Q : Value → Shared → Prop} (hl : IsTup s.heap l vs.toArray) (hz : vs.length ≤ sizeLine) (hp : ∀ v ∈ vs, IsPair s.heap v (k v).1 (k v).2)
    (h : ∀ (h' : Heap) (d : Addr) (out : List Value), Srtd (fun v u => lexB (k v) (k u)) out → Stb (fun v u => lexB (k v) (k u)) out vs → (∀ b o, s.heap.get? b = some o → h'.get? b = some o) → s.heap.objs.size ≤ d → (∃ n, h'.get? d = some (seqObj "list" out.toArray n)) → Q (.ref d) { s with heap := h' }) :
    wpAny (model prog w) A (call (.builtin "sorted") [.ref l]) Q E s := by
  refine sorted_ordT (swo_lex k) hl hz (fun h2 h₁ a ha kk => ?_) fun out hs hb => ?_
  · refine pairs_sortableO (s := { s with heap := h₁ }) (by omega) (fun v hm => (hp v hm).keeps fun b o e _ => (kk b o e).2) fun o e => ?_
    have e' : some o = some (seqObj "list" vs.toArray 0) := e.symm.trans ha
    cases e'
    intro c
    exact absurd (Value.type.inj c) (by decide)
  · exact h _ _ out hs hb (fun b o e => sortedAll_old e) (Nat.le_succ _) (sortedAll_at s.heap vs out.toArray)
end
end SrtO
namespace L2
open PySem PySem.Spec PyProof.Rows
def rSortedPOT (K : PySem.W.Frag) : List V → Hp → VK → Prop := fun vs H Q => ∃ (a : Addr) (xs : List V) (k : V → Int × Int), vs = [V.ref a] ∧ SqT K H a xs ∧ (∀ x ∈ xs, ∃ t, x = V.ref t ∧ H t = some (.tup [.int (k x).1, .int (k x).2])) ∧
  ∀ ys p, SrtO.Srtd (ltP k) ys → SrtO.Stb (ltP k) ys xs → H p = none → Q (.ref p) (upd H p (.lst ys))
theorem cr_sortedPOT {X : Cx} : CallR X (.builtin "sorted") (rSortedPOT X.K) := by
  intro pins s σ H vs us Q I r h
  obtain ⟨a, xs, k, rfl, hs, hx, q⟩ := h
  obtain ⟨its, rv, hl, hz⟩ := I.tuple hs
  obtain ⟨u, rfl, ru⟩ := vals1 r
  obtain rfl : u = Value.ref a := ru
  obtain ⟨e1, e2⟩ := refs_back rv fun x m => by
    obtain ⟨t, e, _⟩ := hx x m
    exact ⟨t, e⟩
  refine SrtO.sorted_pairsOT (k := fun u => k (backV u)) hl (by rw [← rv.length]; exact hz) (fun v hv => ?_) fun h' d out h1 h2 kp hd hn => ?_
  · obtain ⟨t, rfl⟩ := e2 v hv
    have hm : V.ref t ∈ xs := by rw [e1]; exact List.mem_map.mpr ⟨_, hv, rfl⟩
    obtain ⟨t', e, ht⟩ := hx _ hm
    cases e
    obtain ⟨_, its2, r2, o, ho, hc, n, hd⟩ := I.hok _ _ ht
    obtain ⟨u1, u2, rfl, ri, rj⟩ := vals2 r2
    obtain ⟨t1, rfl⟩ := ri
    obtain ⟨t2, rfl⟩ := rj
    exact ⟨t, o, t1, t2, n, rfl, ho, hc, hd⟩
  · have h3 : ∀ u ∈ out, ∃ a, u = Value.ref a := fun u hu => e2 u (h2.perm.mem_iff.mp hu)
    obtain ⟨n, hn⟩ := hn
    have hb : SrtO.Stb (ltP k) (out.map backV) xs := by
      rw [e1]
      exact SrtO.Stb.map (ltP_swo k) backV h2
    refine ⟨.ref d, upd H d (.lst (out.map backV)), I.laid (t' := s.toks) kp hd ⟨?_, out, n, vals_back h3, hn⟩, rfl, q _ d (SrtO.srtd_map h1) hb (I.hok.fresh hd)⟩
    rw [hb.len]
    exact hz
end L2
namespace Z
open PySem PySem.Spec PyProof.Rows L2
open Rep (rep)
theorem cr_sortPT {X : Cx} {K : Fg} (hK : X.K = K) : CallR X (.builtin "sorted") (fun vs H Q => ∃ (a : Addr) (us : List V) (F : Hp) (xs : List (Int × Int)), vs = [V.ref a] ∧ SqT K H a us ∧ Same F H ∧ A2 (rep K F) us xs ∧
    ∀ p ys, H p = none → A2 (rep K F) ys (sortP xs) → Q (.ref p) (upd H p (.lst ys))) := by
  subst hK
  intro pins s σ H vs us Q I r h
  obtain ⟨a, us', F, xs, rfl, hs, sF, hA, q⟩ := h
  obtain ⟨e1, e2⟩ := keyP_all sF hA
  refine cr_sortedPOT pins s σ H _ us Q I r ⟨a, us', keyP H, rfl, hs, fun x hx => ?_, fun ys p h1 h2 hp => q p ys hp ?_⟩
  · obtain ⟨t, e, k⟩ := e2 x hx
    exact ⟨t, e, sF _ _ k⟩
  · have e : ys.map (keyP H) = sortP xs := by
      refine sortP_eq ?_ ?_
      · rw [e1]
        exact h2.perm.map _
      · rw [List.pairwise_map]
        refine h1.imp fun {x y} h => ?_
        have h := SrtO.lexB_no.mp h
        unfold leP
        rw [decide_eq_true_eq]
        omega
    rw [← e]
    exact rep_keys fun v hv => e2 v (h2.perm.mem_iff.mp hv)
instance datOptTup {α : Type} [Dat α] : Dat (Option (Tup α)) where
  toD := fun x => match x with
    | none => .none
    | some i => Dat.toD i
  dmax := Dat.dmax α + 1
  dp := fun {K H v x} h => by
    cases x with
    | none =>
      have h' : v = V.non := h
      subst h'
      exact .non
    | some i => exact Dat.dp (show rep K H v i from h)
  lay := fun x => by
    cases x with
    | none => simp only [PyData.canLay0]
    | some i => exact Dat.lay i
  dep := fun x => by
    cases x with
    | none => simp only [PyData.depth]; omega
    | some i => exact Dat.dep i
  eqv := fun x y => by
    cases x with
    | none =>
      cases y with
      | none => simp [PyData.eqv]
      | some j => simp [PyData.eqv, Dat.toD]
    | some i =>
      cases y with
      | none => simp [PyData.eqv, Dat.toD]
      | some j =>
        have := Dat.eqv i j
        show PyData.eqv (Dat.toD i) (Dat.toD j) = true ↔ _
        rw [this, Option.some.injEq]
end Z
/-! Z8: set(list of ints), sorted of it; list.count of data; list.insert -/
namespace L2
open PySem PySem.Spec PyProof.Rows
section
variable {P : Program} {w : World} {A : Around} {E : Value → Shared → Prop} {s : Shared}
set_option maxHeartbeats 3200000 in
/-- set(l) of a list of ints (turned from the tuple's, call_set_tupI) -/
theorem set_of_listI {l : Addr} {items : Array Value} (ns : List Int) {Q : Value → Shared → Prop} (hh : A.handled = none) (hl : s.heap.IsList l items) (hit : IntsAre items.toList ns) (hb : ns.length + 1 < scanBound)
    (h : ∀ (h' : Heap) (tk c : Nat), SetR w h' s.heap.objs.size (fun j => decide (j ∈ ns)) c → c ≤ ns.length → (∀ b o, s.heap.get? b = some o → h'.get? b = some o) → Q (.ref s.heap.objs.size) { s with heap := h', toks := tk }) :
    wpAny (model P w) A (call (.type "set") [.ref l]) Q E s := by
  have hisz : items.size = ns.length := by
    have q := IntsAre.length hit
    rw [Array.length_toList] at q
    exact q
  obtain ⟨c, tl, hmro⟩ := F.called_set.mro
  have hmade := F.called_set.made
  have hsub := F.called_set.sub
  refine wpAny_call (codeAny_of_tree ?_)
  show wpAny _ _ (callAny (.type "set") _) _ _ _
  refine wpAny_pure ⟨Code.quiet_builtin _ (by decide +kernel), codeAny_builtin F.entry_type_call ?_⟩
  rw [Around.under_plain (weight_type_call_type "set" [.ref l] []) rfl]
  have h1 := F.called_set.notType
  have h2 := F.called_set.canCreate
  have hct := F.typeCall_set_1 (.ref l)
  repeat (any_goals (first | assumption | wp_step))
  refine codeAny_mono (code_set_led1 (.ref l) (E := E) (Q₁ := fun obj s₁ => obj = .ref s.heap.objs.size ∧ s₁ = { s with heap := s.heap.push { cls := .type "set", dict := none, data := .set #[] 0 (.fresh 0 0 (!w.params.followText "set-order")) } }) ⟨rfl, rfl⟩) fun r s₁ hr => ?_
  cases r with
  | error e => exact hr
  | ok fl =>
    cases fl with
    | ret obj =>
      obtain ⟨rfl, rfl⟩ := hr
      have hS : (s.heap.push { cls := .type "set", dict := none, data := .set #[] 0 (.fresh 0 0 (!w.params.followText "set-order")) }).get? s.heap.objs.size = some { cls := .type "set", dict := none, data := .set #[] 0 (.fresh 0 0 (!w.params.followText "set-order")) } := Heap.get?_push_size _ rfl
      have hT : Shared.TypeIs { s with heap := s.heap.push { cls := .type "set", dict := none, data := .set #[] 0 (.fresh 0 0 (!w.params.followText "set-order")) } } (.ref s.heap.objs.size) "set" := ⟨_, hS, rfl⟩
      have hli := F.called_set.init.lookup
      have hbi := F.called_set.init.bind (.ref s.heap.objs.size)
      repeat (any_goals (first | assumption | wp_step))
      refine codeAny_mono (codeAny_call_builtin (R := wants (fun r s₂ => r = .none ∧ ∃ h' tk c, s₂ = { s with heap := h', toks := tk } ∧ SetR w h' s.heap.objs.size (fun j => decide (j ∈ ns)) c ∧ c ≤ ns.length ∧
          (∀ b o, s.heap.get? b = some o → h'.get? b = some o)) E) F.called_set.init.plain F.entry_set_init (check_set_init_1 hT ?_)) fun r₂ s₂ hr₂ => ?_
      · obtain ⟨ol, hol, hcl, nl, hdl⟩ := hl
        obtain ⟨ocls, odict, odata, oslots⟩ := ol
        simp only at hcl hdl
        subst hcl; subst hdl
        have hol' : (s.heap.push { cls := .type "set", dict := none, data := .set #[] 0 (.fresh 0 0 (!w.params.followText "set-order")) }).get? l = some { cls := .type "list", dict := odict, data := .seq items nl, slots := oslots } := Heap.get?_push_of_some _ hol
        have hsls := F.sub_list_set
        have hslf := F.sub_list_frozenset
        have hne : (Value.type "list" == Value.type "dict") = false := by decide
        have hl1 : (s.heap.push { cls := .type "set", dict := none, data := .set #[] 0 (.fresh 0 0 (!w.params.followText "set-order")) }).IsList l items := ⟨_, hol', rfl, nl, rfl⟩
        unfold Builtin.«set.__init__» noKeywords Builtin.Frozenset.updateFrom
        generalize hPI : pyIter = PI
        wp_walk
        subst hPI
        refine wpAny_pyIter_list hl1 ?_
        refine wpAny_bind (wpAny_runValue ?_)
        have hlS : l < s.heap.objs.size := Heap.lt_size hol
        have hh3 : A.in1.in1.in1.handled = none := by simp [hh]
        have hz1 : (s.heap.push { cls := .type "set", dict := none, data := .set #[] 0 (.fresh 0 0 (!w.params.followText "set-order")) }).objs.size = s.heap.objs.size + 1 := Heap.size_push ..
        have hneI : l ≠ (s.heap.push { cls := .type "set", dict := none, data := .set #[] 0 (.fresh 0 0 (!w.params.followText "set-order")) }).objs.size := by
          rw [Heap.size_push]; exact Nat.ne_of_lt (Nat.lt_succ_of_lt hlS)
        have hSf : s.heap.objs.size ∉ [(s.heap.push { cls := .type "set", dict := none, data := .set #[] 0 (.fresh 0 0 (!w.params.followText "set-order")) }).objs.size, l] := by
          rw [Heap.size_push]; simp only [List.mem_cons, List.mem_singleton, List.not_mem_nil, or_false, not_or]
          exact ⟨Nat.ne_of_lt (Nat.lt_succ_self _), Nat.ne_of_gt hlS⟩
        have hval : ∀ (i : Nat) (v : Value), items[i]? = some v → ∃ k t, ns[i]? = some k ∧ v = .int k t := fun i v hv => by
          have hi : i < ns.length := by rw [← hisz]; exact (Array.getElem?_eq_some_iff.mp hv).1
          obtain ⟨t, e⟩ := PyProof.Rows.IntsAre.int_at hit i v (by rw [Array.getElem?_toList]; exact hv)
          refine ⟨ns[i], t, List.getElem?_eq_getElem hi, ?_⟩
          rw [e, List.getD_eq_getElem?_getD, List.getElem?_eq_getElem hi] <;> rfl
        refine set_update_ints ((Walks.list hh3 _ l hneI items).toS) s.heap.objs.size
          hSf ns hisz hb hval (items.size - 0) 0 _ (by omega) (Nat.zero_le _)
          ⟨⟨_, Heap.get?_push_size _ rfl, rfl, rfl⟩, (hl1.push _)⟩ ?hS0 ?hR
        case hS0 =>
          have hget : ((s.heap.push { cls := .type "set", dict := none, data := .set #[] 0 (.fresh 0 0 (!w.params.followText "set-order")) }).push { cls := .type "list_iterator", data := .fields #[.ref l, .int 0 0] }).get? s.heap.objs.size = some { cls := .type "set", dict := none, data := .set #[] 0 (.fresh 0 0 (!w.params.followText "set-order")) } := Heap.get?_push_of_some _ hS
          exact ⟨0, Nat.le_refl 0, setR_new_at hget⟩
        case hR =>
          intro s' c' hm hc' hS'
          obtain ⟨h', g2, d', tk', os'⟩ := s'
          have eg : g2 = s.gens := hm.gens
          have ed : d' = s.drawn := hm.drawn
          have eo : os' = s.os := hm.os
          subst eg; subst ed; subst eo
          show wpAny _ _ _ _ _ _
          refine wpAny_pure ?_
          show wpAny _ _ (ret Value.none) _ _ _
          rw [hisz] at hc'
          refine wpAny_pure ⟨rfl, h', tk', c', rfl, hS', hc', fun b o e => ?_⟩
          have hb0 : b < s.heap.objs.size := Heap.lt_size e
          have hb1 : b ≠ s.heap.objs.size := Nat.ne_of_lt hb0
          have hb2 : b ≠ (s.heap.push { cls := .type "set", dict := none, data := .set #[] 0 (.fresh 0 0 (!w.params.followText "set-order")) }).objs.size := by
            rw [Heap.size_push]; exact Nat.ne_of_lt (Nat.lt_succ_of_lt hb0)
          exact hm.heap b o (by simp only [List.mem_cons, List.mem_singleton, List.not_mem_nil, or_false, not_or]; exact ⟨hb1, hb2⟩) (Heap.get?_push_of_some _ (Heap.get?_push_of_some _ e))
      · cases r₂ with
        | error e => exact hr₂
        | ok fl₂ =>
          cases fl₂ with
          | ret r =>
            obtain ⟨rfl, h', tk, c', rfl, hS', hc', hk'⟩ := hr₂
            repeat (any_goals (first | assumption | wp_step))
            exact h _ _ _ hS' hc' hk'
          | _ => exact hr₂.elim
    | _ => exact hr.elim
end
end L2
namespace Z
open PySem L2
open Rep (rep)
section
variable {X : Cx} {K : Fg} {w : World}
theorem cr_setLI (hK : X.K = K) (hw : X.w = w) (hc : X.calm = true) : CallR X (.type "set") (fun xs H Q => ∃ (l : Addr) (ns : List Int), xs = [V.ref l] ∧ SqL K H l (ns.map V.int) ∧ ns.length < 4000 ∧ ∀ a, H a = none → Q (.ref a) (upd H a (SetO w a (fun j => decide (j ∈ ns)) (nub ns).length))) := by
  subst hK hw
  intro pins s σ H xs us Q I r h
  obtain ⟨l, ns, rfl, hl, hf, q⟩ := h
  rw [Vals.ref1 r]
  obtain ⟨its, rv, pl, hz⟩ := I.list hl
  have hn : H s.heap.objs.size = none := I.hok.fresh (Nat.le_refl _)
  refine set_of_listI ns (I.ok.hd hc) pl.isList (by simpa using ints_of_vals rv) (by unfold scanBound; omega) fun h' tk c R hcn k => ?_
  have ec : c = (nub ns).length := by
    obtain ⟨o, es, ep, t, ho, hex, hdt, g, nd, hm2, hb, hf, hcs, hr, hl2⟩ := R
    rw [← hcs]
    have e1 : (es.toList.map keyOf).length = (nub ns).length := nodup_len nd (nub_nodup _) fun y => by
      rw [nub_mem, ← hm2 y, decide_eq_true_eq]
    rw [← e1, List.length_map, Array.length_toList]
  subst ec
  exact ⟨.ref s.heap.objs.size, upd H s.heap.objs.size (SetO X.w s.heap.objs.size (fun j => decide (j ∈ ns)) (nub ns).length), I.laid (t' := tk) k (Nat.le_refl _) (setO_new R), rfl, q _ hn⟩
theorem cr_sortSet (hw : X.w = w) (hc : X.calm = true) : CallR X (.builtin "sorted") (rSortedSet w) := by
  subst hw
  exact cr_sortedSet hc
end
/-- sorted(set(xs)) -/
def ssI (xs : List Int) : List Int := sortI (nub xs)
def ssR (xs : List Int) : R (List Int) := grd (decide (xs.length < 4000) && decide ((nub xs).length < 64)) >>= fun _ => .ok (ssI xs)
theorem perm_ints {xs ys : List Int} (h1 : xs.Nodup) (h2 : ys.Nodup) (h : ∀ x, x ∈ xs ↔ x ∈ ys) : xs.Perm ys := by
  rw [List.perm_iff_count]
  intro a
  rw [h1.count, h2.count]
  by_cases q : a ∈ xs
  · rw [if_pos q, if_pos ((h a).mp q)]
  · rw [if_neg q, if_neg (fun z => q ((h a).mpr z))]
theorem ssI_uniq {xs ns : List Int} (h1 : ns.Pairwise (· < ·)) (h2 : ∀ k : Int, k ∈ ns ↔ decide (k ∈ xs) = true) : ns = ssI xs := by
  unfold ssI
  refine sort_uniq ?_ (h1.imp fun h => Int.le_of_lt h) (sortI_sorted _)
  refine List.Perm.trans ?_ (sortI_perm _).symm
  refine perm_ints (h1.imp fun h => Int.ne_of_lt h) (nub_nodup _) fun k => ?_
  rw [h2 k, decide_eq_true_iff, nub_mem]
theorem pb_ss {δ : Type} {xs : List Int} {f : List Int → R δ} {P : δ → Prop} {E : Exn → Prop} (h : Post (ssR xs >>= f) P E) : ∃ l, (xs.length < 4000 ∧ (nub xs).length < 64) ∧ l = ssI xs ∧ Post (f l) P E := by
  unfold ssR at h
  cases q : (decide (xs.length < 4000) && decide ((nub xs).length < 64)) with
  | true =>
    rw [q] at h
    rw [Bool.and_eq_true, decide_eq_true_iff, decide_eq_true_iff] at q
    exact ⟨_, q, rfl, h⟩
  | false =>
    rw [q] at h
    exact (show False from h).elim
/-- xs.insert(i, y), i not below nought -/
def insR {α : Type} (xs : List α) (i : Int) (y : α) : R (List α) := if xs.length < 100000 ∧ 0 ≤ i ∧ i < 9223372036854775808 then .ok (xs.take i.toNat ++ [y] ++ xs.drop i.toNat) else .bad
theorem pn_ins {α δ : Type} {xs : List α} {i : Int} {y : α} {f : List α → R δ} {P : δ → Prop} {E : Exn → Prop} (h : Post (insR xs i y >>= f) P E) : ∃ l, (xs.length < 100000 ∧ 0 ≤ i ∧ i < 9223372036854775808) ∧ l = xs.take i.toNat ++ [y] ++ xs.drop i.toNat ∧ Post (f l) P E := by
  unfold insR at h
  by_cases q : xs.length < 100000 ∧ 0 ≤ i ∧ i < 9223372036854775808
  · rw [if_pos q] at h
    exact ⟨_, q, rfl, h⟩
  · rw [if_neg q] at h
    exact (show False from h).elim
theorem A2.ins {α : Type} {r : V → α → Prop} {v : V} {y : α} (n : Nat) {vs : List V} {xs : List α} (h : A2 r vs xs) (g : r v y) : A2 r (vs.take n ++ [v] ++ vs.drop n) (xs.take n ++ [y] ++ xs.drop n) := A2.append (A2.append (A2.take n h) (.cons g .nil)) (A2.drop n h)
theorem line_ins {α : Type} {r : V → α → Prop} {vs : List V} {xs : List α} (h : A2 r vs xs) (g : xs.length < 100000) : vs.length < sizeLine := by
  rw [h.length]
  exact Nat.lt_of_lt_of_le g line5
/-- l.count(x), of data -/
def cntB {α : Type} [DecidableEq α] (xs : List α) (y : α) : Int := ((xs.countP fun z => decide (z = y) : Nat) : Int)
section
variable {X : Cx} {K : Fg}
theorem mt_countDt (hK : X.K = K) (α : Type) [Dat α] [DecidableEq α] (hd : Dat.dmax α ≤ 50) (hu : X.A.units + 65 < cLine) : MtR X "list.count" (fun x xs H Q => ∃ (a : Addr) (u : V) (ys : List α) (y : α), x = V.ref a ∧ xs = [u] ∧ rep K H (V.ref a) ys ∧ rep K H u y ∧ Q (.int (cntB ys y)) H) := by
  subst hK
  intro pins s σ H x xs v us Q I rx rxs ⟨a, y, ys, k, e1, e2, hs0, hy, q⟩
  subst e1 e2
  cases rx
  cases rxs with
  | cons ry rt =>
    rename_i uy ut
    cases rt
    have sl : SeqAt.shaped (.list (ys.map Dat.toD)) = true := shapedD (α := List α) (by show Dat.dmax α + 1 ≤ 60; omega) ys
    have sd : SeqAt.shaped (Dat.toD k) = true := shapedD (by omega) k
    have hl : Dp X.K H (V.ref a) (.list (ys.map Dat.toD)) := Dat.dp hs0
    obtain ⟨bs, r1⟩ := Dp.reads I (Dat.toD k) y uy (Dat.dp hy) ry
    have hxs : PyData.canLayAll0 (ys.map Dat.toD) = true := SeqAt.canLay_of_shaped sl
    have hroom : X.A.units + 1 + min (PyData.depthAll (ys.map Dat.toD)) (Dat.toD k).depth < cLine := PyProof.Rows.room_in_shaped sd hu
    cases hl with
    | lst hs ha =>
      obtain ⟨its, rv, ⟨⟨cls, dd, data, sls⟩, n, ho, hc, hdn, hdt⟩, hlen⟩ := I.list hs
      simp only at hc hdt
      subst hc hdt
      obtain ⟨as, h4⟩ := Dp.readsAll I _ _ its ha rv
      have hmap : its.map (SeqAt.readOf s.heap) = ys.map Dat.toD := SeqAt.readsAll_map _ its as hxs h4
      have hcount : its.toArray.toList.countP (fun u => PyData.eqv (SeqAt.readOf s.heap u) (Dat.toD k)) = ys.countP fun z => decide (z = k) := by
        have e1 : its.countP (fun u => PyData.eqv (SeqAt.readOf s.heap u) (Dat.toD k)) = (its.map (SeqAt.readOf s.heap)).countP fun z => PyData.eqv z (Dat.toD k) := by rw [List.countP_map]; rfl
        rw [List.toList_toArray, e1, hmap, List.countP_map]
        refine List.countP_congr fun z _ => ?_
        show PyData.eqv (Dat.toD z) (Dat.toD k) = true ↔ _
        rw [eqvD]
      refine call_meets PySem.F.slot_list_count ⟨_, ho, rfl⟩ PySem.F.entry_list_count (PySem.F.args_list_count_2 _ _)
        (SeqAt.list_countAt a its.toArray n dd sls uy (fun u => PyData.eqv (SeqAt.readOf s.heap u) (Dat.toD k))) ⟨ho, SeqAt.items_eqAt (vs := its.toArray) (show ReadsAll s.heap its.toArray.toList _ as from h4) r1 hxs (SeqAt.canLay_of_shaped sd) hroom, ?_⟩
      refine ⟨.int (cntB ys k), H, I.tok _, ⟨s.toks, ?_⟩, q⟩
      show Value.int ((its.toArray.toList.countP _ : Nat) : Int) s.toks = Value.int (cntB ys k) s.toks
      rw [hcount]
      rfl
end
end Z
namespace Z
open PySem L2
open Rep (rep)
/-- a dict that stays as it is -/
structure FzD (κ β : Type) where
  m : List (κ × β)
  deriving DecidableEq
instance repFD : Rep (FzD Int Int) := ⟨fun K H v d => ∃ a, v = .ref a ∧ H a = some (.dK (encM kI V.int d.m)), fun s ⟨a, e, q⟩ => ⟨a, e, s _ _ q⟩⟩
end Z
namespace Z
open PySem L2
open Rep (rep)
/-- a text as a key -/
def kS (s : Str) : Key := Sum.inr s
theorem kS_inj : ∀ a b, kS a = kS b → a = b := fun _ _ h => Sum.inr.inj h
theorem AD.merge {κ β : Type} [DecidableEq κ] {e : κ → Key} {r : V → β → Prop} (he : ∀ a b, e a = e b → a = b) : ∀ {more : List (Key × V)} {l : List (κ × β)}, AD e r more l → ∀ {kvs : List (Key × V)} {m : List (κ × β)}, AD e r kvs m → AD e r (mergeK kvs more) (l.foldl (fun m p => mput m p.1 p.2) m)
  | _, _, .nil, _, _, h => h
  | _, _, .cons a t, _, _, h => AD.merge he t (AD.put he h a)
theorem AD.mmk {κ β : Type} [DecidableEq κ] {e : κ → Key} {r : V → β → Prop} (he : ∀ a b, e a = e b → a = b) {more : List (Key × V)} {l : List (κ × β)} (h : AD e r more l) : AD e r (mergeK [] more) (Z.mmk l) := AD.merge he h .nil
theorem dgetsS {H : Hp} {a : Addr} {kvs : List (Key × V)} {s : Str} {v : V} (e : H a = some (.dK kvs)) (q : valV kvs (kS s) = some v) : DGet H a (.str s) (some v) := by
  have h : DGet H a (.str s) (valV kvs (kS s)) := DGet.k (k := kS s) e
  rw [q] at h
  exact h
end Z
namespace Z
open PySem L2
open Rep (rep)
section
variable {X : Cx} {K : Fg} {F H : Hp}
/-- isinstance(x, (b, c)) -/
theorem call_isBT (hK : X.K = K) : CallR X (.builtin "isinstance") (fun xs H Q => ∃ (x : V) (tp : Addr) (a b c : String) (r q : Bool), xs = [x, .ref tp] ∧ H tp = some (.tup [.ty b, .ty c]) ∧ TyOf K H x (.type a) ∧ kitB a b = some r ∧ kitB a c = some q ∧ Q (.bl (r || q)) H) := by
  subst hK
  intro pins s σ H xs us Q I rx ⟨x, tp, a, b, c, r, q, e, ht, h1, h2, h3, k⟩
  refine call_isiT pins s σ H xs us Q I rx ⟨x, tp, _, .type a, [.type b, .type c], r || q, e, ht, .cons (.ty b) (.cons (.ty c) .nil), .base h1, ?_, k⟩
  refine L2.kitAny_cons (L2.kit_ty h2) (fun e => ?_) fun e => by rw [e]; rfl
  rw [e, Bool.false_or]
  refine L2.kitAny_cons (L2.kit_ty h3) (fun e => ?_) fun e => e
  rw [e]
  exact L2.kitAny_nil
theorem th_it (s : Same F H) {v : V} {t : Thing} (r : rep K F v t) : ∃ a, TyOf K H v (.type a) ∧ kitB a "int" = some t.isPl ∧ kitB a "tuple" = some (!t.isPl) := by
  obtain ⟨a, h, z⟩ := th_ty s r
  rcases z with ⟨rfl, e⟩ | ⟨rfl, e⟩
  · exact ⟨_, h, by rw [e]; decide +kernel, by rw [e]; decide +kernel⟩
  · exact ⟨_, h, by rw [e]; decide +kernel, by rw [e]; decide +kernel⟩
theorem A2.some {α : Type} [Rep α] {vs : List V} {xs : List α} (h : A2 (rep K F) vs xs) : A2 (rep K F) vs (xs.map Option.some) := by
  induction h with
  | nil => exact .nil
  | cons a _ ih => exact .cons (rep_some a) ih
end
end Z
/-! ZM: lemmas about mirrors -/
namespace Z
open PySem L2
section
variable {α β γ : Type}
theorem foldR_inv {f : β → α → R β} (I : β → Prop) : ∀ {xs : List α} {s : β}, I s → (∀ s x, I s → x ∈ xs → ∃ s', f s x = R.ok s' ∧ I s') → ∃ s', foldR f s xs = R.ok s' ∧ I s'
  | [], s, h, _ => ⟨s, rfl, h⟩
  | x :: xs, s, h, hf => by
    obtain ⟨s', e, h'⟩ := hf s x h List.mem_cons_self
    obtain ⟨s2, e2, h2⟩ := foldR_inv I (xs := xs) (s := s') h' fun s y hs hy => hf s y hs (List.mem_cons_of_mem _ hy)
    exact ⟨s2, by show (f s x >>= fun s' => foldR f s' xs) = _; rw [e]; exact e2, h2⟩
/-- with how many items are gone through -/
theorem foldR_invN {f : β → α → R β} (I : Nat → β → Prop) : ∀ {xs : List α} {n : Nat} {s : β}, I n s → (∀ n s x, I n s → x ∈ xs → ∃ s', f s x = R.ok s' ∧ I (n + 1) s') → ∃ s', foldR f s xs = R.ok s' ∧ I (n + xs.length) s'
  | [], n, s, h, _ => ⟨s, rfl, h⟩
  | x :: xs, n, s, h, hf => by
    obtain ⟨s', e, h'⟩ := hf n s x h List.mem_cons_self
    obtain ⟨s2, e2, h2⟩ := foldR_invN I (xs := xs) (n := n + 1) (s := s') h' fun n s y hs hy => hf n s y hs (List.mem_cons_of_mem _ hy)
    refine ⟨s2, by show (f s x >>= fun s' => foldR f s' xs) = _; rw [e]; exact e2, ?_⟩
    rw [List.length_cons, show n + (xs.length + 1) = n + 1 + xs.length by omega]
    exact h2
theorem foldX_inv {ρ : Type} {f : β → α → R (Sum ρ (Bool × β))} (I : β → Prop) : ∀ {xs : List α} {s : β}, I s → (∀ s x, I s → x ∈ xs → ∃ s', f s x = R.ok (.inr (true, s')) ∧ I s') → ∃ s', foldX f s xs = R.ok (.inr s') ∧ I s'
  | [], s, h, _ => ⟨s, rfl, h⟩
  | x :: xs, s, h, hf => by
    obtain ⟨s', e, h'⟩ := hf s x h List.mem_cons_self
    obtain ⟨s2, e2, h2⟩ := foldX_inv I (xs := xs) (s := s') h' fun s y hs hy => hf s y hs (List.mem_cons_of_mem _ hy)
    refine ⟨s2, ?_, h2⟩
    show (f s x >>= fun r => match r with
      | .inl z => R.ok (.inl z)
      | .inr (true, s') => foldX f s' xs
      | .inr (false, s') => R.ok (.inr s')) = _
    rw [e]
    exact e2
/-- a search that never ends the whole -/
theorem foldX_unit {ρ : Type} {f : Unit → α → R (Sum ρ (Bool × Unit))} {xs : List α} (hf : ∀ x ∈ xs, f () x = R.ok (.inr (true, ()))) : foldX f () xs = R.ok (.inr ()) := by
  obtain ⟨s, e, _⟩ := foldX_inv (fun _ => True) (f := f) (xs := xs) (s := ()) trivial fun s x _ hx => ⟨(), hf x hx, trivial⟩
  exact e
theorem mapR_ok {f : α → R β} {g : α → β} : ∀ {xs : List α}, (∀ x ∈ xs, f x = R.ok (g x)) → mapR f xs = R.ok (xs.map g)
  | [], _ => rfl
  | x :: xs, h => by
    show (f x >>= fun y => mapR f xs >>= fun ys => R.ok (y :: ys)) = _
    rw [h x List.mem_cons_self, mapR_ok fun y hy => h y (List.mem_cons_of_mem _ hy)]
    rfl
theorem mapG_ok {f : α → R β} {g : α → β} {xs : List α} (hl : xs.length < 100000) (h : ∀ x ∈ xs, f x = R.ok (g x)) : mapG f xs = R.ok (xs.map g) := by
  unfold mapG
  rw [grd_t (decide_eq_true hl)]
  exact mapR_ok h
theorem mapR_ex {f : α → R β} (p : β → Prop) : ∀ {xs : List α}, (∀ x ∈ xs, ∃ y, f x = R.ok y ∧ p y) → ∃ ys, mapR f xs = R.ok ys ∧ ys.length = xs.length ∧ ∀ y ∈ ys, p y
  | [], _ => ⟨[], rfl, rfl, fun _ h => nomatch h⟩
  | x :: xs, h => by
    obtain ⟨y, e, hy⟩ := h x List.mem_cons_self
    obtain ⟨ys, e2, hl, hp⟩ := mapR_ex p fun y hy => h y (List.mem_cons_of_mem _ hy)
    refine ⟨y :: ys, ?_, by rw [List.length_cons, List.length_cons, hl], fun z hz => ?_⟩
    · show (f x >>= fun y => mapR f xs >>= fun ys => R.ok (y :: ys)) = _
      rw [e, e2]
      rfl
    · rcases List.mem_cons.mp hz with rfl | hz
      · exact hy
      · exact hp z hz
theorem mapG_ex {f : α → R β} (p : β → Prop) {xs : List α} (hl : xs.length < 100000) (h : ∀ x ∈ xs, ∃ y, f x = R.ok y ∧ p y) : ∃ ys, mapG f xs = R.ok ys ∧ ys.length = xs.length ∧ ∀ y ∈ ys, p y := by
  unfold mapG
  rw [grd_t (decide_eq_true hl)]
  exact mapR_ex p h
theorem filR_ok {f : α → R (Option β)} {g : α → Option β} : ∀ {xs : List α}, (∀ x ∈ xs, f x = R.ok (g x)) → filR f xs = R.ok (xs.filterMap g)
  | [], _ => rfl
  | x :: xs, h => by
    show (f x >>= fun o => filR f xs >>= fun ys => match o with
      | some y => R.ok (y :: ys)
      | none => R.ok ys) = _
    rw [h x List.mem_cons_self, filR_ok fun y hy => h y (List.mem_cons_of_mem _ hy)]
    show (match g x with
      | some y => R.ok (y :: xs.filterMap g)
      | none => R.ok (xs.filterMap g)) = R.ok ((x :: xs).filterMap g)
    rw [List.filterMap_cons]
    cases g x <;> rfl
theorem filG_ok {f : α → R (Option β)} {g : α → Option β} {xs : List α} (hl : xs.length < 100000) (h : ∀ x ∈ xs, f x = R.ok (g x)) : filG f xs = R.ok (xs.filterMap g) := by
  unfold filG
  rw [grd_t (decide_eq_true hl)]
  exact filR_ok h
theorem getI_nat {xs : List α} {i : Int} (h0 : 0 ≤ i) (h1 : i < xs.length) : ∃ x, getI xs i = R.ok x ∧ x ∈ xs ∧ xs[i.toNat]? = some x := by
  have hj : i.toNat < xs.length := by omega
  refine ⟨xs[i.toNat], ?_, List.getElem_mem hj, List.getElem?_eq_getElem hj⟩
  unfold getI
  have e : atI xs i = some xs[i.toNat] := by
    have := atI_nat (xs := xs) (j := i.toNat) (v := xs[i.toNat]) (List.getElem?_eq_getElem hj)
    rw [Int.toNat_of_nonneg h0] at this
    exact this
  rw [e]
  rfl
theorem getI_eq {xs : List α} {i : Int} {x : α} (h0 : 0 ≤ i) (h : xs[i.toNat]? = some x) : getI xs i = R.ok x := by
  have h1 := (List.getElem?_eq_some_iff.mp h).1
  obtain ⟨y, e, _, e2⟩ := getI_nat (xs := xs) (i := i) h0 (by omega)
  rw [h] at e2
  cases e2
  exact e
theorem getI_last {xs : List α} (x : α) : getI (xs ++ [x]) (-1) = R.ok x := by
  unfold getI
  rw [atI_last]
  rfl
theorem setI_nat {xs : List α} {i : Int} {x : α} (h0 : 0 ≤ i) (h1 : i < xs.length) : setI xs i x = R.ok (xs.set i.toNat x) := by
  have e : ixN xs.length i = some i.toNat := by
    unfold ixN
    rw [if_pos h0, if_pos h1]
  unfold setI
  rw [e]
theorem app_ok {xs : List α} {x : α} (h : xs.length < 100000) : app xs x = R.ok (xs ++ [x]) := by
  unfold app
  rw [if_pos h]
theorem extend_ok {xs ys : List α} (h : xs.length + ys.length < 100000) : extend xs ys = R.ok (xs ++ ys) := by
  unfold extend
  rw [if_pos h]
theorem modI_ok {i j : Int} (h : 0 < j) : modI i j = R.ok (i % j) := by
  unfold modI
  rw [if_pos h]
theorem divI_okW {i j : Int} (h : 0 < j) (h2 : j.natAbs.log2 < 9000) : divI i j = R.ok (i / j) := by
  unfold divI
  rw [if_pos ⟨h, h2⟩]
theorem divI_ok {i j : Int} (h : 0 < j) (h2 : j < 1073741824) : divI i j = R.ok (i / j) := by
  refine divI_okW h (Nat.lt_of_lt_of_le ((Nat.log2_lt (by omega)).mpr (show j.natAbs < 2 ^ 30 by omega)) (by decide))
theorem mulI_ok {i j : Int} (h : (-(2 ^ 64) < i ∧ i < 2 ^ 64) ∨ (-(2 ^ 64) < j ∧ j < 2 ^ 64)) : mulI i j = R.ok (i * j) := by
  unfold mulI
  rw [if_pos h]
theorem rngI_ok {i j : Int} (h1 : -(2 ^ 62) ≤ i) (h2 : i < 2 ^ 62) (h3 : -(2 ^ 62) ≤ j) (h4 : j < 2 ^ 62) : rngI i j = R.ok (rng i j) := by
  unfold rngI
  rw [if_pos ⟨h1, h2, h3, h4⟩]
theorem rng_mem {i j k : Int} : k ∈ rng i j ↔ i ≤ k ∧ k < j := by
  unfold rng
  rw [List.mem_map]
  constructor
  · rintro ⟨n, hn, rfl⟩
    have := List.mem_range.mp hn
    omega
  · intro h
    exact ⟨(k - i).toNat, List.mem_range.mpr (by omega), by omega⟩
/-! ### what holds of a result, step by step -/
section
variable {P Q : α → Prop} {S : β → Prop} {X : Exn → Prop}
theorem po_bind {m : R α} {k : α → R β} (h : Post m Q X) (hk : ∀ a, Q a → Post (k a) S X) : Post (m >>= k) S X := by
  cases m with
  | ok a => exact hk a h
  | exc e => exact h
  | bad => exact h
theorem po_ok {a : α} (h : P a) : Post (R.ok a) P X := h
theorem po_eq {m : R α} {a : α} (h : m = R.ok a) (hp : P a) : Post m P X := by
  rw [h]
  exact hp
theorem po_if {c : Prop} [Decidable c] {m n : R α} (h1 : c → Post m P X) (h2 : ¬ c → Post n P X) : Post (if c then m else n) P X := by
  by_cases h : c
  · rw [if_pos h]
    exact h1 h
  · rw [if_neg h]
    exact h2 h
theorem po_ex {m : R α} (h : Post m P noX) : ∃ a, m = R.ok a ∧ P a := by
  cases m with
  | ok a => exact ⟨a, rfl, h⟩
  | exc e => exact (show False from h).elim
  | bad => exact (show False from h).elim
theorem po_iff {m : R α} {a : α} (h : Post m (· = a) noX) : m = R.ok a := by
  obtain ⟨b, e, rfl⟩ := po_ex h
  exact e
theorem po_grd {b : Bool} {k : Unit → R β} (h : b = true) (hk : Post (k ()) S X) : Post (grd b >>= k) S X := by
  rw [grd_t h]
  exact hk
theorem po_get {xs : List α} {i : Int} {k : α → R β} (h0 : 0 ≤ i) (h1 : i < xs.length) (hk : ∀ x, x ∈ xs → xs[i.toNat]? = some x → Post (k x) S X) : Post (getI xs i >>= k) S X := by
  obtain ⟨x, e, h2, h3⟩ := getI_nat h0 h1
  rw [e]
  exact hk x h2 h3
theorem po_getE {xs : List α} {i : Int} {x : α} {k : α → R β} (h : getI xs i = R.ok x) (hk : Post (k x) S X) : Post (getI xs i >>= k) S X := by
  rw [h]
  exact hk
theorem po_last {xs : List α} {k : α → R β} (h : xs ≠ []) (hk : ∀ x, x ∈ xs → Post (k x) S X) : Post (getI xs (-1) >>= k) S X := by
  obtain ⟨ys, y, rfl⟩ : ∃ ys y, xs = ys ++ [y] := ⟨xs.dropLast, xs.getLast h, (List.dropLast_concat_getLast h).symm⟩
  rw [getI_last]
  exact hk y (List.mem_append_right _ List.mem_cons_self)
theorem po_set {xs : List α} {i : Int} {x : α} {k : List α → R β} (h0 : 0 ≤ i) (h1 : i < xs.length) (hk : Post (k (xs.set i.toNat x)) S X) : Post (setI xs i x >>= k) S X := by
  rw [setI_nat h0 h1]
  exact hk
theorem po_app {xs : List α} {x : α} {k : List α → R β} (h : xs.length < 100000) (hk : Post (k (xs ++ [x])) S X) : Post (app xs x >>= k) S X := by
  rw [app_ok h]
  exact hk
theorem po_extend {xs ys : List α} {k : List α → R β} (h : xs.length + ys.length < 100000) (hk : Post (k (xs ++ ys)) S X) : Post (extend xs ys >>= k) S X := by
  rw [extend_ok h]
  exact hk
theorem po_mod {i j : Int} {k : Int → R β} (h : 0 < j) (hk : 0 ≤ i % j → i % j < j → Post (k (i % j)) S X) : Post (modI i j >>= k) S X := by
  rw [modI_ok h]
  exact hk (Int.emod_nonneg _ (by omega)) (Int.emod_lt_of_pos _ h)
theorem po_div {i j : Int} {k : Int → R β} (h : 0 < j) (h2 : j < 1073741824) (hk : Post (k (i / j)) S X) : Post (divI i j >>= k) S X := by
  rw [divI_ok h h2]
  exact hk
theorem po_divW {i j : Int} {k : Int → R β} (h : 0 < j) (h2 : j.natAbs.log2 < 9000) (hk : Post (k (i / j)) S X) : Post (divI i j >>= k) S X := by
  rw [divI_okW h h2]
  exact hk
theorem po_mul {i j : Int} {k : Int → R β} (h : (-(2 ^ 64) < i ∧ i < 2 ^ 64) ∨ (-(2 ^ 64) < j ∧ j < 2 ^ 64)) (hk : Post (k (i * j)) S X) : Post (mulI i j >>= k) S X := by
  rw [mulI_ok h]
  exact hk
theorem po_rng {i j : Int} {k : List Int → R β} (h1 : -(2 ^ 62) ≤ i) (h2 : i < 2 ^ 62) (h3 : -(2 ^ 62) ≤ j) (h4 : j < 2 ^ 62) (hk : Post (k (rng i j)) S X) : Post (rngI i j >>= k) S X := by
  rw [rngI_ok h1 h2 h3 h4]
  exact hk
theorem po_fold {f : β → α → R β} {s : β} {xs : List α} (I : β → Prop) (h0 : I s) (hf : ∀ s x, I s → x ∈ xs → Post (f s x) I X) : Post (foldR f s xs) I X := by
  induction xs generalizing s with
  | nil => exact h0
  | cons x xs ih =>
    show Post (f s x >>= fun s' => foldR f s' xs) I X
    exact po_bind (hf s x h0 List.mem_cons_self) fun s' h' => ih h' fun s y hs hy => hf s y hs (List.mem_cons_of_mem _ hy)
/-- .. with the number of turns gone -/
theorem po_foldN {f : β → α → R β} {s : β} {xs : List α} (I : Nat → β → Prop) (h0 : I 0 s) (hf : ∀ n s x, n < xs.length → I n s → xs[n]? = some x → Post (f s x) (I (n + 1)) X) : Post (foldR f s xs) (I xs.length) X := by
  have key : ∀ (l : List α) (n : Nat) (s : β), xs.drop n = l → n ≤ xs.length → I n s → Post (foldR f s l) (I xs.length) X := by
    intro l
    induction l with
    | nil =>
      intro n s e hn h
      have : xs.length ≤ n := by
        have := congrArg List.length e
        rw [List.length_drop, List.length_nil] at this
        omega
      rw [show xs.length = n by omega]
      exact h
    | cons x l ih =>
      intro n s e hn h
      have hlt : n < xs.length := by
        have := congrArg List.length e
        rw [List.length_drop, List.length_cons] at this
        omega
      have e1 : xs[n] :: xs.drop (n + 1) = x :: l := (List.drop_eq_getElem_cons hlt).symm.trans e
      injection e1 with e2 e3
      show Post (f s x >>= fun s' => foldR f s' l) _ X
      exact po_bind (hf n s x hlt h (by rw [List.getElem?_eq_getElem hlt, e2])) fun s' h' => ih (n + 1) s' e3 (by omega) h'
  exact key xs 0 s rfl (Nat.zero_le _) h0
theorem po_foldX {ρ : Type} {f : β → α → R (Sum ρ (Bool × β))} {s : β} {xs : List α} (I : β → Prop) (h0 : I s) (hf : ∀ s x, I s → x ∈ xs → Post (f s x) (fun r => ∃ s', r = .inr (true, s') ∧ I s') X) : Post (foldX f s xs) (fun r => ∃ s', r = .inr s' ∧ I s') X := by
  induction xs generalizing s with
  | nil => exact ⟨s, rfl, h0⟩
  | cons x xs ih =>
    refine po_bind (S := fun r => ∃ s', r = Sum.inr s' ∧ I s') (k := fun r => match r with
      | .inl z => (R.ok (.inl z) : R (Sum ρ β))
      | .inr (true, s') => foldX f s' xs
      | .inr (false, s') => R.ok (.inr s')) (hf s x h0 List.mem_cons_self) fun r hr => ?_
    obtain ⟨s', rfl, h'⟩ := hr
    exact ih h' fun s y hs hy => hf s y hs (List.mem_cons_of_mem _ hy)
theorem po_mapG {f : α → R β} {xs : List α} (p : β → Prop) (hl : xs.length < 100000) (hf : ∀ x ∈ xs, Post (f x) p X) : Post (mapG f xs) (fun ys => ys.length = xs.length ∧ ∀ y ∈ ys, p y) X := by
  unfold mapG
  rw [grd_t (decide_eq_true hl)]
  show Post (mapR f xs) _ X
  clear hl
  induction xs with
  | nil => exact ⟨rfl, fun _ h => nomatch h⟩
  | cons x xs ih =>
    show Post (f x >>= fun y => mapR f xs >>= fun ys => R.ok (y :: ys)) _ X
    refine po_bind (hf x List.mem_cons_self) fun y hy => po_bind (ih fun z hz => hf z (List.mem_cons_of_mem _ hz)) fun ys ⟨h1, h2⟩ => ?_
    refine ⟨by rw [List.length_cons, List.length_cons, h1], fun z hz => ?_⟩
    rcases List.mem_cons.mp hz with rfl | hz
    · exact hy
    · exact h2 z hz
end
theorem cut_head (xs : List α) : cutL xs none (some 1) = xs.take 1 := by
  unfold cutL
  have e : HT.sIx xs.length xs.length (some 1) = min 1 xs.length := HT.sIx_nat xs.length xs.length 1
  have e0 : HT.sIx xs.length 0 none = 0 := rfl
  rw [e, e0, List.drop_zero]
  cases xs with
  | nil => rfl
  | cons x xs => simp
theorem cut_last (xs : List α) : cutL xs (some (-1)) none = xs.drop (xs.length - 1) := by
  unfold cutL
  have e : HT.sIx xs.length 0 (some (-1)) = xs.length - 1 := by
    unfold HT.sIx
    simp only [show ((-1 : Int) < 0) = True from eq_true (by decide), if_true]
    omega
  have e0 : HT.sIx xs.length xs.length none = xs.length := rfl
  rw [e, e0]
  refine List.take_of_length_le ?_
  rw [List.length_drop]
  exact Nat.le_refl _
end
section
variable {α β γ : Type} {X : Exn → Prop}
theorem po_mapStN {f : γ → α → R (β × γ)} {s : γ} {xs : List α} (I : Nat → γ → Prop) (p : β → Prop) (hl : xs.length < 100000) (h0 : I 0 s) (hf : ∀ n s x, n < xs.length → I n s → xs[n]? = some x → Post (f s x) (fun r => p r.1 ∧ I (n + 1) r.2) X) :
    Post (mapStG f s xs) (fun r => r.1.length = xs.length ∧ (∀ y ∈ r.1, p y) ∧ I xs.length r.2) X := by
  unfold mapStG
  rw [grd_t (decide_eq_true hl), ok_bind]
  clear hl
  have key : ∀ (l : List α) (n : Nat) (s : γ), xs.drop n = l → n ≤ xs.length → I n s → Post (mapSt f s l) (fun r => r.1.length = l.length ∧ (∀ y ∈ r.1, p y) ∧ I xs.length r.2) X := by
    intro l
    induction l with
    | nil =>
      intro n s e hn h
      have : xs.length ≤ n := by
        have := congrArg List.length e
        rw [List.length_drop, List.length_nil] at this
        omega
      rw [show n = xs.length by omega] at h
      exact ⟨rfl, by intro y hy; exact absurd hy List.not_mem_nil, h⟩
    | cons x l ih =>
      intro n s e hn h
      have hlt : n < xs.length := by
        have := congrArg List.length e
        rw [List.length_drop, List.length_cons] at this
        omega
      have e1 : xs[n] :: xs.drop (n + 1) = x :: l := (List.drop_eq_getElem_cons hlt).symm.trans e
      injection e1 with e2 e3
      refine po_bind (hf n s x hlt h (by rw [List.getElem?_eq_getElem hlt, e2])) fun r ⟨h1, h2⟩ => po_bind (ih (n + 1) r.2 e3 (by omega) h2) fun q ⟨h3, h4, h5⟩ => ?_
      refine ⟨by rw [List.length_cons, List.length_cons, h3], fun y hy => ?_, h5⟩
      rcases List.mem_cons.mp hy with rfl | hy
      · exact h1
      · exact h4 y hy
  exact key xs 0 s rfl (Nat.zero_le _) h0
end
section
variable {α : Type}
theorem cut_take (xs : List α) (n : Nat) : cutL xs none (some (n : Int)) = xs.take n := by
  unfold cutL
  have e : HT.sIx xs.length xs.length (some (n : Int)) = min n xs.length := HT.sIx_nat xs.length xs.length n
  have e0 : HT.sIx xs.length 0 none = 0 := rfl
  rw [e, e0, List.drop_zero, Nat.sub_zero]
  by_cases h : n ≤ xs.length
  · rw [Nat.min_eq_left h]
  · rw [Nat.min_eq_right (by omega), List.take_of_length_le (Nat.le_refl _), List.take_of_length_le (by omega)]
theorem cut_mid (xs : List α) (m n : Nat) : cutL xs (some (m : Int)) (some (n : Int)) = (xs.drop m).take (n - m) := by
  unfold cutL
  have e : HT.sIx xs.length xs.length (some (n : Int)) = min n xs.length := HT.sIx_nat xs.length xs.length n
  have e0 : HT.sIx xs.length 0 (some (m : Int)) = min m xs.length := HT.sIx_nat xs.length 0 m
  rw [e, e0]
  by_cases h : m ≤ xs.length
  · rw [Nat.min_eq_left h]
    by_cases h2 : n ≤ xs.length
    · rw [Nat.min_eq_left h2]
    · rw [Nat.min_eq_right (by omega), List.take_of_length_le (by rw [List.length_drop]; exact Nat.le_refl _), List.take_of_length_le (by rw [List.length_drop]; omega)]
  · rw [List.drop_of_length_le (by omega), List.drop_of_length_le (by omega), List.take_nil, List.take_nil]
end
/-! ### dicts -/
section
variable {κ β : Type} [DecidableEq κ]
theorem mhas_iff {m : List (κ × β)} {k : κ} : mhas m k = true ↔ ∃ p ∈ m, p.1 = k := by
  unfold mhas
  rw [List.any_eq_true]
  constructor
  · rintro ⟨p, h, e⟩
    exact ⟨p, h, of_decide_eq_true e⟩
  · rintro ⟨p, h, e⟩
    exact ⟨p, h, decide_eq_true e⟩
theorem mput_new {m : List (κ × β)} {k : κ} {v : β} (h : mhas m k = false) : mput m k v = m ++ [(k, v)] := by
  unfold mput
  have h' : (m.any fun p => decide (p.1 = k)) = false := h
  rw [h', if_neg (by decide)]
theorem mput_old {m : List (κ × β)} {k : κ} {v : β} (h : mhas m k = true) : mput m k v = m.map (fun p => if p.1 = k then (p.1, v) else p) := by
  unfold mput
  have h' : (m.any fun p => decide (p.1 = k)) = true := h
  rw [h', if_pos rfl]
theorem mput_keys {m : List (κ × β)} {k j : κ} {v : β} : (∃ p ∈ mput m k v, p.1 = j) ↔ (j = k ∨ ∃ p ∈ m, p.1 = j) := by
  cases h : mhas m k with
  | false =>
    rw [mput_new h]
    constructor
    · rintro ⟨p, hp, rfl⟩
      rcases List.mem_append.mp hp with hp | hp
      · exact .inr ⟨p, hp, rfl⟩
      · rw [List.mem_singleton] at hp
        exact .inl (by rw [hp])
    · rintro (rfl | ⟨p, hp, rfl⟩)
      · exact ⟨(j, v), List.mem_append_right _ List.mem_cons_self, rfl⟩
      · exact ⟨p, List.mem_append_left _ hp, rfl⟩
  | true =>
    rw [mput_old h]
    have fst : ∀ p : κ × β, (if p.1 = k then (p.1, v) else p).1 = p.1 := fun p => by split <;> rfl
    constructor
    · rintro ⟨p, hp, rfl⟩
      obtain ⟨q, hq, rfl⟩ := List.mem_map.mp hp
      rw [fst]
      exact .inr ⟨q, hq, rfl⟩
    · rintro (rfl | ⟨p, hp, rfl⟩)
      · obtain ⟨p, hp, e⟩ := mhas_iff.mp h
        exact ⟨_, List.mem_map.mpr ⟨p, hp, rfl⟩, by rw [fst]; exact e⟩
      · exact ⟨_, List.mem_map.mpr ⟨p, hp, rfl⟩, fst p⟩
theorem mput_length {m : List (κ × β)} {k : κ} {v : β} : (mput m k v).length = m.length + if mhas m k = true then 0 else 1 := by
  cases h : mhas m k with
  | false =>
    rw [mput_new h, List.length_append]
    rfl
  | true =>
    rw [mput_old h, List.length_map]
    rfl
theorem po_mput {δ : Type} {m : List (κ × β)} {k : κ} {v : β} {f : List (κ × β) → R δ} {S : δ → Prop} {X : Exn → Prop} (h : m.length < 100000) (hk : Post (f (mput m k v)) S X) : Post (mputR m k v >>= f) S X := by
  unfold mputR
  rw [if_pos h]
  exact hk
end
end Z
/-! ZG: webs: joined, how far; no program in sight -/
namespace Z
open PySem L2
/-! ### more steps -/
section
variable {α β γ δ : Type} {P Q : α → Prop} {S : β → Prop} {X : Exn → Prop}
/-- a fold, by what is gone through -/
theorem po_foldP {f : β → α → R β} {s : β} {xs : List α} (I : List α → β → Prop) (h0 : I [] s) (hf : ∀ pre s x post, xs = pre ++ x :: post → I pre s → Post (f s x) (I (pre ++ [x])) X) : Post (foldR f s xs) (I xs) X := by
  have key : ∀ (l pre : List α) (s : β), xs = pre ++ l → I pre s → Post (foldR f s l) (I xs) X := by
    intro l
    induction l with
    | nil =>
      intro pre s e h
      rw [List.append_nil] at e
      rw [e]
      exact h
    | cons x l ih =>
      intro pre s e h
      show Post (f s x >>= fun s' => foldR f s' l) _ X
      exact po_bind (hf pre s x l e h) fun s' h' => ih (pre ++ [x]) s' (by rw [e, List.append_assoc]; rfl) h'
  exact key xs [] s rfl h0
/-- items for items with a state, by what is made -/
theorem po_mapStA {f : γ → α → R (β × γ)} {s : γ} {xs : List α} (I : List α → List β → γ → Prop) (hl : xs.length < 100000) (h0 : I [] [] s)
    (hf : ∀ pre acc s x post, xs = pre ++ x :: post → I pre acc s → Post (f s x) (fun r => I (pre ++ [x]) (acc ++ [r.1]) r.2) X) : Post (mapStG f s xs) (fun r => I xs r.1 r.2) X := by
  unfold mapStG
  rw [grd_t (decide_eq_true hl), ok_bind]
  have key : ∀ (l pre : List α) (acc : List β) (s : γ), xs = pre ++ l → I pre acc s → Post (mapSt f s l) (fun r => I xs (acc ++ r.1) r.2) X := by
    intro l
    induction l with
    | nil =>
      intro pre acc s e h
      rw [List.append_nil] at e
      show I xs (acc ++ []) s
      rw [List.append_nil, e]
      exact h
    | cons x l ih =>
      intro pre acc s e h
      refine po_bind (hf pre acc s x l e h) fun r hr => po_bind (ih (pre ++ [x]) (acc ++ [r.1]) r.2 (by rw [e, List.append_assoc]; rfl) hr) fun q hq => ?_
      show I xs (acc ++ (r.1 :: q.1)) q.2
      rw [List.append_assoc] at hq
      exact hq
  exact key xs [] [] s rfl h0
theorem po_mapGE {f : α → R β} {g : α → β} {xs : List α} {k : List β → R γ} {T : γ → Prop} (hl : xs.length < 100000) (h : ∀ x ∈ xs, f x = R.ok (g x)) (hk : Post (k (xs.map g)) T X) : Post (mapG f xs >>= k) T X := by
  rw [mapG_ok hl h]
  exact hk
theorem po_filGE {f : α → R (Option β)} {g : α → Option β} {xs : List α} {k : List β → R γ} {T : γ → Prop} (hl : xs.length < 100000) (h : ∀ x ∈ xs, f x = R.ok (g x)) (hk : Post (k (xs.filterMap g)) T X) : Post (filG f xs >>= k) T X := by
  rw [filG_ok hl h]
  exact hk
/-- a while: an invariant, a measure -/
theorem po_while {c : γ → R Bool} {b : γ → R γ} {T : γ → Prop} (I : γ → Prop) (μ : γ → Nat)
    (hs : ∀ s, I s → Post (c s) (fun t => (t = true → Post (b s) (fun s' => I s' ∧ μ s' < μ s) X) ∧ (t = false → T s)) X) : ∀ {n : Nat} {s : γ}, I s → μ s < n → Post (whileR c b n s) T X
  | 0, s, _, h => absurd h (Nat.not_lt_zero _)
  | n + 1, s, hi, h => by
    refine po_bind (hs s hi) fun t ⟨h1, h2⟩ => ?_
    cases t with
    | false => exact h2 rfl
    | true => exact po_bind (h1 rfl) fun s' ⟨a, d⟩ => po_while I μ hs a (by omega)
theorem po_getS {st : List (List α)} {j : Nat} {xs : List α} {k : List α → R γ} {T : γ → Prop} (h : st[j]? = some xs) (hk : Post (k xs) T X) : Post (getS st j >>= k) T X := by
  unfold getS
  rw [h]
  exact hk
theorem po_setS {st : List (List α)} {j : Nat} {xs : List α} {k : List (List α) → R γ} {T : γ → Prop} (hk : Post (k (st.set j xs)) T X) : Post (setS st j xs >>= k) T X := hk
theorem po_newS {st : List (List α)} {xs : List α} {k : Nat × List (List α) → R γ} {T : γ → Prop} (hk : Post (k (st.length, st ++ [xs])) T X) : Post (newS st xs >>= k) T X := hk
theorem po_listRng {i j : Int} {k : List Int → R γ} {T : γ → Prop} (h1 : -(2 ^ 62) ≤ i) (h2 : i < 2 ^ 62) (h3 : -(2 ^ 62) ≤ j) (h4 : j < 2 ^ 62) (h5 : (j - i).toNat ≤ 100000) (hk : Post (k (rng i j)) T X) : Post (listRng i j >>= k) T X := by
  unfold listRng
  rw [if_pos ⟨h1, h2, h3, h4, h5⟩]
  exact hk
theorem po_rep {xs : List α} {i : Int} {k : List α → R γ} {T : γ → Prop} (h1 : 0 ≤ i) (h2 : i < 1000) (h3 : xs.length < 100) (hk : Post (k (repL xs i)) T X) : Post (repR xs i >>= k) T X := by
  unfold repR
  have h4 : xs.length * i.toNat ≤ 100 * 1000 := Nat.mul_le_mul (by omega) (by omega)
  have h5 : xs.length * i.toNat < 100000 := by
    have h6 : xs.length * i.toNat ≤ 99 * 999 := Nat.mul_le_mul (by omega) (by omega)
    omega
  rw [if_pos ⟨by omega, by omega, h5⟩]
  exact hk
theorem po_ofO {o : Option α} {x : α} {k : α → R γ} {T : γ → Prop} (h : o = some x) (hk : Post (k x) T X) : Post (ofO o >>= k) T X := by
  rw [h]
  exact hk
theorem po_mgetE {κ : Type} [DecidableEq κ] {m : List (κ × α)} {j : κ} {x : α} {k : α → R γ} {T : γ → Prop} (h : mget m j = some x) (hk : Post (k x) T X) : Post (mgetR m j >>= k) T X := po_ofO h hk
theorem po_popB {xs : List α} {i : Int} {k : α × List α → R γ} {T : γ → Prop} (h0 : 0 ≤ i) (h1 : i < xs.length) (h2 : i < 2 ^ 62) (hk : ∀ x, xs[i.toNat]? = some x → Post (k (x, xs.eraseIdx i.toNat)) T X) : Post (popB xs i >>= k) T X := by
  have hj : i.toNat < xs.length := by omega
  have e : popB xs i = R.ok (xs[i.toNat], xs.eraseIdx i.toNat) := by
    unfold popB popAt
    rw [if_pos (by omega)]
    have ei : ixN xs.length i = some i.toNat := by
      unfold ixN
      rw [if_pos h0, if_pos h1]
    rw [ei]
    dsimp only
    rw [List.getElem?_eq_getElem hj]
  rw [e]
  exact hk _ (List.getElem?_eq_getElem hj)
end
theorem rng_len {n : Int} (h : 0 ≤ n) : ((rng 0 n).length : Int) = n := by
  rw [rng_length]
  omega
theorem rng_atE {i j : Int} {k : Nat} (h : k < (j - i).toNat) : (rng i j)[k]? = some (i + k) := rng_get h
theorem rng_nodup (i j : Int) : (rng i j).Nodup := by
  unfold rng
  refine List.Pairwise.map _ (fun a b h => ?_) List.nodup_range
  intro e
  exact h (by omega)
theorem rng_pre {i j x : Int} {pre post : List Int} (h : rng i j = pre ++ x :: post) : x = i + pre.length := by
  have h1 : (rng i j)[pre.length]? = some x := by rw [h]; simp
  have hl : pre.length < (rng i j).length := by rw [h]; simp
  rw [rng_length] at hl
  rw [rng_atE hl] at h1
  cases h1
  rfl
theorem rng_split {i j x : Int} {pre post : List Int} (h : rng i j = pre ++ x :: post) : pre = rng i x ∧ i ≤ x ∧ x < j := by
  have e := rng_pre h
  have hl : (rng i j).length = pre.length + (post.length + 1) := by rw [h]; simp
  rw [rng_length] at hl
  refine ⟨?_, by omega, by omega⟩
  apply List.ext_getElem?
  intro k
  by_cases hk : k < pre.length
  · have h1 : (rng i j)[k]? = pre[k]? := by rw [h, List.getElem?_append_left hk]
    rw [← h1, rng_atE (by omega), rng_atE (by omega)]
  · rw [List.getElem?_eq_none (by omega), List.getElem?_eq_none (by rw [rng_length]; omega)]
theorem rng_snoc {i j : Int} (h : i ≤ j) : rng i (j + 1) = rng i j ++ [j] := by
  apply List.ext_getElem?
  intro k
  by_cases hk : k < (j - i).toNat
  · rw [List.getElem?_append_left (by rw [rng_length]; exact hk), rng_atE hk, rng_atE (by omega)]
  · by_cases hk2 : k = (j - i).toNat
    · rw [List.getElem?_append_right (by rw [rng_length]; omega), rng_atE (by omega), rng_length, hk2]
      simp
      omega
    · rw [List.getElem?_eq_none (by rw [rng_length]; omega), List.getElem?_eq_none (by rw [List.length_append, rng_length]; simp; omega)]
/-! ### joined -/
def Adj (ts : List (Int × Int)) (a b : Int) : Prop := (a, b) ∈ ts ∨ (b, a) ∈ ts
theorem Adj.symm {ts : List (Int × Int)} {a b : Int} (h : Adj ts a b) : Adj ts b a := h.elim .inr .inl
/-- what holds of a place and goes along all ties holds of all places -/
def Conn (n : Int) (ts : List (Int × Int)) : Prop := ∀ S : Int → Prop, S 0 → (∀ p ∈ ts, S p.1 ↔ S p.2) → ∀ k, 0 ≤ k → k < n → S k
theorem Conn.any {n : Int} {ts : List (Int × Int)} (h : Conn n ts) {S : Int → Prop} {r : Int} (r0 : 0 ≤ r) (r1 : r < n) (hr : S r) (hc : ∀ p ∈ ts, S p.1 ↔ S p.2) : ∀ k, 0 ≤ k → k < n → S k := by
  by_cases h0 : S 0
  · exact h S h0 hc
  · exact absurd hr (h (fun k => ¬ S k) h0 (fun p hp => not_congr (hc p hp)) r r0 r1)
theorem Conn.mono {n : Int} {ts us : List (Int × Int)} (h : Conn n ts) (hs : ∀ p ∈ ts, p ∈ us) : Conn n us := fun S h0 hc => h S h0 fun p hp => hc p (hs p hp)
theorem conn_tree {n : Int} {ts : List (Int × Int)} (h : ∀ k, 1 ≤ k → k < n → ∃ j, 0 ≤ j ∧ j < k ∧ Adj ts j k) : Conn n ts := by
  intro S h0 hc
  have key : ∀ (m : Nat) (k : Int), k.toNat ≤ m → 0 ≤ k → k < n → S k := by
    intro m
    induction m with
    | zero =>
      intro k hk k0 _
      rw [show k = 0 by omega]
      exact h0
    | succ m ih =>
      intro k hk k0 k1
      by_cases hz : k = 0
      · rw [hz]; exact h0
      · obtain ⟨j, j0, jk, hj⟩ := h k (by omega) k1
        have hj' := ih j (by omega) j0 (by omega)
        rcases hj with hj | hj
        · exact (hc _ hj).mp hj'
        · exact (hc _ hj).mpr hj'
  exact fun k k0 k1 => key k.toNat k (Nat.le_refl _) k0 k1
/-! ### how far -/
structure IsDist (n : Int) (ts : List (Int × Int)) (p : Int) (f : Int → Int) : Prop where
  zero : f p = 0
  nn : ∀ v, 0 ≤ v → v < n → 0 ≤ f v
  lip : ∀ a b, Adj ts a b → f b ≤ f a + 1
  desc : ∀ v, 0 ≤ v → v < n → v ≠ p → ∃ w, 0 ≤ w ∧ w < n ∧ Adj ts w v ∧ f w + 1 = f v
theorem IsDist.le {n : Int} {ts : List (Int × Int)} {p : Int} {f g : Int → Int} (hf : IsDist n ts p f) (hg : IsDist n ts p g) : ∀ v, 0 ≤ v → v < n → f v ≤ g v := by
  have key : ∀ (m : Nat) (v : Int), (g v).toNat ≤ m → 0 ≤ v → v < n → f v ≤ g v := by
    intro m
    induction m with
    | zero =>
      intro v hm v0 v1
      by_cases hv : v = p
      · rw [hv, hf.zero, hg.zero]; exact Int.le_refl _
      · obtain ⟨w, w0, w1, _, e⟩ := hg.desc v v0 v1 hv
        have := hg.nn w w0 w1
        omega
    | succ m ih =>
      intro v hm v0 v1
      by_cases hv : v = p
      · rw [hv, hf.zero, hg.zero]; exact Int.le_refl _
      · obtain ⟨w, w0, w1, ha, e⟩ := hg.desc v v0 v1 hv
        have h1 := hg.nn w w0 w1
        have h2 := ih w (by omega) w0 w1
        have h3 := hf.lip w v ha
        omega
  exact fun v v0 v1 => key _ v (Nat.le_refl _) v0 v1
theorem IsDist.uniq {n : Int} {ts : List (Int × Int)} {p : Int} {f g : Int → Int} (hf : IsDist n ts p f) (hg : IsDist n ts p g) (v : Int) (v0 : 0 ≤ v) (v1 : v < n) : f v = g v :=
  Int.le_antisymm (hf.le hg v v0 v1) (hg.le hf v v0 v1)
theorem IsDist.level {n : Int} {ts : List (Int × Int)} {p : Int} {f : Int → Int} (hf : IsDist n ts p f) : ∀ (m : Nat) (v : Int), 0 ≤ v → v < n → (f v).toNat = m → ∀ k : Nat, k ≤ m → ∃ w, 0 ≤ w ∧ w < n ∧ f w = k := by
  intro m
  induction m with
  | zero =>
    intro v v0 v1 e k hk
    have := hf.nn v v0 v1
    exact ⟨v, v0, v1, by omega⟩
  | succ m ih =>
    intro v v0 v1 e k hk
    have hv := hf.nn v v0 v1
    by_cases hk2 : k = m + 1
    · exact ⟨v, v0, v1, by omega⟩
    · have hne : v ≠ p := by
        intro e2
        rw [e2, hf.zero] at e
        simp at e
      obtain ⟨w, w0, w1, _, e2⟩ := hf.desc v v0 v1 hne
      exact ih w w0 w1 (by omega) k (by omega)
/-- no place is as far as there are places -/
theorem IsDist.lt {n : Int} {ts : List (Int × Int)} {p : Int} {f : Int → Int} (hf : IsDist n ts p f) (v : Int) (v0 : 0 ≤ v) (v1 : v < n) : f v < n := by
  have hv := hf.nn v v0 v1
  have hl := hf.level _ v v0 v1 rfl
  have key : ∀ m : Nat, m ≤ (f v).toNat + 1 → ∃ ws : List Int, ws.length = m ∧ ws.Nodup ∧ (∀ w ∈ ws, w ∈ rng 0 n ∧ f w < m) := by
    intro m
    induction m with
    | zero => exact fun _ => ⟨[], rfl, List.nodup_nil, fun _ h => nomatch h⟩
    | succ m ih =>
      intro hm
      obtain ⟨ws, h1, h2, h3⟩ := ih (by omega)
      obtain ⟨w, w0, w1, e⟩ := hl m (by omega)
      refine ⟨w :: ws, by rw [List.length_cons, h1], List.nodup_cons.mpr ⟨fun h => ?_, h2⟩, fun u hu => ?_⟩
      · have := (h3 w h).2
        omega
      · rcases List.mem_cons.mp hu with rfl | hu
        · exact ⟨rng_mem.mpr ⟨w0, w1⟩, by omega⟩
        · have := h3 u hu
          exact ⟨this.1, by omega⟩
  obtain ⟨ws, h1, h2, h3⟩ := key _ (Nat.le_refl _)
  have := nodup_le h2 fun w hw => (h3 w hw).1
  rw [h1, rng_length] at this
  omega
/-- how far places are from one, in a web that hangs together -/
noncomputable def dst (n : Int) (ts : List (Int × Int)) (p : Int) : Int → Int := by
  classical
  exact if h : ∃ f, IsDist n ts p f then Classical.choose h else fun _ => 0
theorem dst_is {n : Int} {ts : List (Int × Int)} {p : Int} {f : Int → Int} (h : IsDist n ts p f) : IsDist n ts p (dst n ts p) := by
  have e : ∃ f, IsDist n ts p f := ⟨f, h⟩
  unfold dst
  rw [dif_pos e]
  exact Classical.choose_spec e
theorem dst_eq {n : Int} {ts : List (Int × Int)} {p : Int} {f : Int → Int} (h : IsDist n ts p f) (v : Int) (v0 : 0 ≤ v) (v1 : v < n) : f v = dst n ts p v := h.uniq (dst_is h) v v0 v1
/-! ### there is a distance -/
inductive Rch (ts : List (Int × Int)) (p : Int) : Nat → Int → Prop
  | here : Rch ts p 0 p
  | step {k : Nat} {a b : Int} : Rch ts p k a → Adj ts a b → Rch ts p (k + 1) b
theorem least {P : Nat → Prop} (h : ∃ k, P k) : ∃ k, P k ∧ ∀ j, j < k → ¬ P j := by
  obtain ⟨k, hk⟩ := h
  induction k using Nat.strongRecOn with
  | _ k ih =>
    by_cases q : ∃ j, j < k ∧ P j
    · obtain ⟨j, h1, h2⟩ := q
      exact ih j h1 h2
    · exact ⟨k, hk, fun j hj hp => q ⟨j, hj, hp⟩⟩
theorem conn_ex {n : Int} {ts : List (Int × Int)} {p : Int} (hr : ∀ q ∈ ts, 0 ≤ q.1 ∧ q.1 < n ∧ 0 ≤ q.2 ∧ q.2 < n) (hc : Conn n ts) (p0 : 0 ≤ p) (p1 : p < n) : IsDist n ts p (dst n ts p) := by
  classical
  have all : ∀ v, 0 ≤ v → v < n → ∃ k, Rch ts p k v := hc.any (S := fun v => ∃ k, Rch ts p k v) p0 p1 ⟨0, .here⟩ fun q hq => ⟨fun ⟨k, h⟩ => ⟨k + 1, h.step (.inl hq)⟩, fun ⟨k, h⟩ => ⟨k + 1, h.step (.inr hq)⟩⟩
  have adj : ∀ a b, Adj ts a b → (0 ≤ a ∧ a < n) ∧ (0 ≤ b ∧ b < n) := fun a b h => by
    rcases h with h | h
    · have := hr _ h
      exact ⟨⟨this.1, this.2.1⟩, ⟨this.2.2.1, this.2.2.2⟩⟩
    · have := hr _ h
      exact ⟨⟨this.2.2.1, this.2.2.2⟩, ⟨this.1, this.2.1⟩⟩
  have key : ∀ v, ∃ d : Int, 0 ≤ d ∧ (0 ≤ v → v < n → ∃ k : Nat, d = k ∧ Rch ts p k v ∧ ∀ j, j < k → ¬ Rch ts p j v) := fun v => by
    by_cases hv : 0 ≤ v ∧ v < n
    · obtain ⟨k, h1, h2⟩ := least (all v hv.1 hv.2)
      exact ⟨k, by omega, fun _ _ => ⟨k, rfl, h1, h2⟩⟩
    · exact ⟨0, Int.le_refl 0, fun a b => absurd ⟨a, b⟩ hv⟩
  have hf : ∃ f : Int → Int, ∀ v, 0 ≤ f v ∧ (0 ≤ v → v < n → ∃ k : Nat, f v = k ∧ Rch ts p k v ∧ ∀ j, j < k → ¬ Rch ts p j v) := ⟨fun v => Classical.choose (key v), fun v => Classical.choose_spec (key v)⟩
  obtain ⟨f, hf⟩ := hf
  have lip : ∀ a b, Adj ts a b → f b ≤ f a + 1 := fun a b h => by
    obtain ⟨⟨a0, a1⟩, ⟨b0, b1⟩⟩ := adj a b h
    obtain ⟨k, e1, h1, _⟩ := (hf a).2 a0 a1
    obtain ⟨j, e2, _, h2⟩ := (hf b).2 b0 b1
    have : ¬ k + 1 < j := fun q => h2 (k + 1) q (h1.step h)
    omega
  refine dst_is (f := f) ⟨?_, fun v _ _ => (hf v).1, lip, fun v v0 v1 hne => ?_⟩
  · obtain ⟨k, e, _, h2⟩ := (hf p).2 p0 p1
    have : ¬ 0 < k := fun q => h2 0 q .here
    omega
  · obtain ⟨k, e, h1, h2⟩ := (hf v).2 v0 v1
    cases h1 with
    | here => exact absurd rfl hne
    | step h3 h4 =>
      rename_i j w
      obtain ⟨⟨w0, w1⟩, _⟩ := adj _ _ h4
      refine ⟨w, w0, w1, h4, ?_⟩
      obtain ⟨i, e2, _, h5⟩ := (hf w).2 w0 w1
      have h6 : ¬ j < i := fun q => h5 j q h3
      have := lip w v h4
      omega
end Z
/-! ZN: dicts as lists of pairs -/
namespace Z
open PySem L2
section
variable {κ β γ : Type} [DecidableEq κ]
def mkeys (m : List (κ × β)) : List κ := m.map (·.1)
theorem mget_nil (j : κ) : mget ([] : List (κ × β)) j = none := rfl
theorem mget_cons (p : κ × β) (m : List (κ × β)) (j : κ) : mget (p :: m) j = if p.1 = j then some p.2 else mget m j := by
  unfold mget
  by_cases h : p.1 = j
  · rw [List.find?_cons_of_pos (by simpa using h), if_pos h]
    rfl
  · rw [List.find?_cons_of_neg (by simpa using h), if_neg h]
theorem mget_append (m m' : List (κ × β)) (j : κ) : mget (m ++ m') j = (mget m j).or (mget m' j) := by
  induction m with
  | nil => rfl
  | cons p m ih =>
    rw [List.cons_append, mget_cons, mget_cons, ih]
    by_cases h : p.1 = j
    · rw [if_pos h, if_pos h]; rfl
    · rw [if_neg h, if_neg h]
theorem mhas_mget (m : List (κ × β)) (j : κ) : mhas m j = (mget m j).isSome := by
  unfold mhas mget
  rw [Option.isSome_map, List.isSome_find?]
theorem mhas_keys {m : List (κ × β)} {j : κ} : mhas m j = true ↔ j ∈ mkeys m := by
  rw [mhas_iff]
  unfold mkeys
  rw [List.mem_map]
theorem mget_mput (m : List (κ × β)) (k : κ) (v : β) (j : κ) : mget (mput m k v) j = if j = k then some v else mget m j := by
  cases h : mhas m k with
  | false =>
    rw [mput_new h, mget_append, mget_cons, mget_nil]
    by_cases e : j = k
    · subst e
      rw [if_pos rfl, if_pos rfl]
      rw [mhas_mget] at h
      cases q : mget m j with
      | none => rfl
      | some x => rw [q] at h; cases h
    · rw [if_neg (fun q => e q.symm), if_neg e]
      cases mget m j <;> rfl
  | true =>
    rw [mput_old h]
    by_cases e : j = k
    · subst e
      rw [if_pos rfl]
      induction m with
      | nil => cases h
      | cons p m ih =>
        rw [List.map_cons, mget_cons]
        by_cases q : p.1 = j
        · rw [if_pos q, if_pos q]
        · rw [if_neg q, if_neg q]
          refine ih ?_
          rw [mhas_mget, mget_cons, if_neg q, ← mhas_mget] at h
          exact h
    · rw [if_neg e]
      clear h
      induction m with
      | nil => rfl
      | cons p m ih =>
        rw [List.map_cons, mget_cons, mget_cons, ih]
        by_cases q : p.1 = k
        · rw [if_pos q, if_neg (by rw [q]; exact fun z => e z.symm), if_neg (by rw [q]; exact fun z => e z.symm)]
        · rw [if_neg q]
theorem mkeys_mput (m : List (κ × β)) (k : κ) (v : β) : mkeys (mput m k v) = if k ∈ mkeys m then mkeys m else mkeys m ++ [k] := by
  cases h : mhas m k with
  | false =>
    rw [mput_new h, if_neg (fun q => by rw [mhas_keys.mpr q] at h; cases h)]
    unfold mkeys
    rw [List.map_append]
    rfl
  | true =>
    rw [mput_old h, if_pos (mhas_keys.mp h)]
    unfold mkeys
    rw [List.map_map]
    refine List.map_congr_left fun p _ => ?_
    show (if p.1 = k then (p.1, v) else p).1 = p.1
    split <;> rfl
theorem mkeys_nodup {m : List (κ × β)} {k : κ} {v : β} (h : (mkeys m).Nodup) : (mkeys (mput m k v)).Nodup := by
  rw [mkeys_mput]
  split
  · exact h
  · rename_i q
    rw [List.nodup_append]
    refine ⟨h, by simp, fun a ha c hc e => ?_⟩
    rw [List.mem_singleton] at hc
    rw [e, hc] at ha
    exact q ha
theorem mkeys_length (m : List (κ × β)) : (mkeys m).length = m.length := List.length_map _
theorem mget_keys {m : List (κ × β)} {j : κ} : j ∈ mkeys m ↔ ∃ v, mget m j = some v := by
  rw [← mhas_keys, mhas_mget, Option.isSome_iff_exists]
end
end Z
namespace G
open PySem L2 Z
open Rep (rep)
open RepL (repTs)
def top (i : Nat) : Stmt := PySem.Challenge.pw_farhail_k33_things_by_their_codes.main.body.getD i (.Pass ⟨0, 0, 0, 0⟩)
abbrev s_side_number : Stmt := top 5
abbrev s_ring_far : Stmt := top 6
abbrev s_ring_tie_far : Stmt := top 7
abbrev s_ring_place : Stmt := top 8
abbrev s_ring_tie : Stmt := top 9
abbrev s_grid_place : Stmt := top 10
abbrev s_law_cell_at : Stmt := top 12
abbrev s_law_folded : Stmt := top 13
abbrev s_law_state : Stmt := top 14
abbrev s_law_next : Stmt := top 15
abbrev s_law_great : Stmt := top 16
abbrev s_law_looks : Stmt := top 17
abbrev s_law_far : Stmt := top 18
abbrev s_law_code : Stmt := top 19
abbrev s_law_having : Stmt := top 20
abbrev s_law_other : Stmt := top 21
abbrev s_law_told : Stmt := top 22
abbrev s_law_ring_right : Stmt := top 23
abbrev s_law_side : Stmt := top 24
abbrev s_law_spans : Stmt := top 25
abbrev s_law_by_halves : Stmt := top 26
abbrev s_law_grid_right : Stmt := top 27
abbrev s_law : Stmt := top 28
abbrev names : List Str := ["NoCode"]
/-! ### the mirrors -/
/-! side_number -/
def side_number (x_sizes : (Tup Int)) (x_one : (Tup Int)) (x_other : (Tup Int)) : R (Option Int) := do
  let r4 ← foldX (fun (g4 : Unit) (b4 : Int) => do
      let t5 ← getI x_sizes.l ((1 : Int) - b4)
      let j6 ← (do
        let t7 ← getI x_one.l b4
        let t8 ← getI x_other.l b4
        if (decide (t7 = t8)) = true then do
          let t10 ← getI x_one.l b4
          let t11 ← getI x_sizes.l b4
          R.ok (inB t10 (Tup.mk [(0 : Int), (t11 - (1 : Int))] : (Tup Int)).l)
        else do
          R.ok false : R (Bool))
      if j6 = true then do
        let t17 ← getI x_one.l ((1 : Int) - b4)
        let t18 ← getI x_other.l ((1 : Int) - b4)
        if (decide ((sortI ([t17, t18] : (List Int))) = ([(0 : Int), (t5 - (1 : Int))] : (List Int)))) = true then do
          R.ok (.inl (some b4))
        else do
          R.ok (.inr (true, ()))
      else do
        R.ok (.inr (true, ()))) () (rng 0 (2 : Int))
  match r4 with
  | .inl z => R.ok z
  | .inr g4 => do
    R.ok none
/-! ring_far -/
def ring_far (x_many : Int) (x_one : Int) (x_other : Int) : R Int := do
  let t1 ← modI (x_one - x_other) x_many
  R.ok (min2 t1 (x_many - t1))
/-! ring_tie_far -/
def ring_tie_far (x_many : Int) (x_place : Int) (x_tie : Int) : R Int := do
  let y1 ← ring_far x_many x_place x_tie
  let t2 ← modI (x_tie + (1 : Int)) x_many
  let y3 ← ring_far x_many x_place t2
  R.ok (min2 y1 y3)
/-! ring_place -/
def ring_placeX (x_many : Int) (x_looks : (List Int)) (x_told : (List Int)) : R Int := do
  let t4 ← getI x_looks (0 : Int)
  let t5 ← getI x_told (0 : Int)
  let t6 ← modI (t4 + t5) x_many
  let t7 ← getI x_looks (0 : Int)
  let t8 ← getI x_told (0 : Int)
  let t9 ← modI (t7 - t8) x_many
  let r3 ← foldX (fun (g3 : Unit) (b3 : Int) => do
      let l14 ← mapG (fun (b14 : Int) => do
          let y17 ← nx (ring_far x_many b14 b3)
          R.ok y17) x_looks
      if (decide (l14 = x_told)) = true then do
        R.ok (.inl b3)
      else do
        R.ok (.inr (true, ()))) () ([t6, t9] : (List Int))
  match r3 with
  | .inl z => R.ok z
  | .inr g3 => do
    raiseR "NoCode"
/-! ring_tie -/
def ring_tieX (x_many : Int) (x_looks : (List Int)) (x_told : (List Int)) : R Int := do
  let t4 ← getI x_looks (0 : Int)
  let t5 ← getI x_told (0 : Int)
  let t6 ← modI (t4 + t5) x_many
  let t7 ← getI x_looks (0 : Int)
  let t8 ← getI x_told (0 : Int)
  let t9 ← modI ((t7 - t8) - (1 : Int)) x_many
  let r3 ← foldX (fun (g3 : Unit) (b3 : Int) => do
      let l14 ← mapG (fun (b14 : Int) => do
          let y17 ← nx (ring_tie_far x_many b14 b3)
          R.ok y17) x_looks
      if (decide (l14 = x_told)) = true then do
        R.ok (.inl b3)
      else do
        R.ok (.inr (true, ()))) () ([t6, t9] : (List Int))
  match r3 with
  | .inl z => R.ok z
  | .inr g3 => do
    raiseR "NoCode"
/-! grid_place -/
def grid_placeX (x_wide : Int) (x_high : Int) (x_one : (Tup Int)) (x_other : (Tup Int)) (x_told : (List Int)) : R (Tup Int) := do
  let y6 ← nx (side_number (Tup.mk [x_wide, x_high] : (Tup Int)) x_one x_other)
  let t8 ← ofO y6
  let t9 ← getI (Tup.mk [x_wide, x_high] : (Tup Int)).l ((1 : Int) - t8)
  let t10 ← un2 x_told
  let g11 ← (do
    let t12 ← getI x_one.l ((1 : Int) - t8)
    let t13 ← getI x_other.l ((1 : Int) - t8)
    if (decide (t13 < t12)) = true then do
      R.ok (t10.2, t10.1)
    else do
      R.ok (t10.1, t10.2) : R (Int × Int))
  let j15 ← (do
    if (!decide ((((g11.1 - g11.2) + (t9 - (1 : Int))) % (2 : Int)) = (0 : Int))) = true then do
      R.ok true
    else do
      if (!((decide ((0 : Int) ≤ ((g11.1 - g11.2) + (t9 - (1 : Int))))) && (decide (((g11.1 - g11.2) + (t9 - (1 : Int))) ≤ ((2 : Int) * (t9 - (1 : Int))))))) = true then do
        R.ok true
      else do
        let j26 ← (do
          if (decide ((0 : Int) ≤ ((g11.1 + g11.2) - (t9 - (1 : Int))))) = true then do
            let t28 ← getI (Tup.mk [x_wide, x_high] : (Tup Int)).l t8
            R.ok (decide (((g11.1 + g11.2) - (t9 - (1 : Int))) ≤ ((2 : Int) * (t28 - (1 : Int)))))
          else do
            R.ok false : R (Bool))
        R.ok (!j26) : R (Bool))
  if j15 = true then do
    raiseR "NoCode"
  else do
    let g38 ← (do
      let t39 ← getI x_one.l t8
      if (decide ((0 : Int) < t39)) = true then do
        let t41 ← getI (Tup.mk [x_wide, x_high] : (Tup Int)).l t8
        let l43 ← setI ([(((g11.1 + g11.2) - (t9 - (1 : Int))) / (2 : Int)), (((g11.1 - g11.2) + (t9 - (1 : Int))) / (2 : Int))] : (List Int)) (0 : Int) ((t41 - (1 : Int)) - (((g11.1 + g11.2) - (t9 - (1 : Int))) / (2 : Int)))
        R.ok l43
      else do
        R.ok ([(((g11.1 + g11.2) - (t9 - (1 : Int))) / (2 : Int)), (((g11.1 - g11.2) + (t9 - (1 : Int))) / (2 : Int))] : (List Int)) : R ((List Int)))
    let g45 ← (do
      if (decide (t8 = (1 : Int))) = true then do
        R.ok g38.reverse
      else do
        R.ok g38 : R ((List Int)))
    R.ok (Tup.mk g45)
/-! _law_cell_at -/
def law_cell_at (x_script : Scr) (x_k : Int) : R Int := do
  if (decide (x_k < (x_script.l.length : Int))) = true then do
    let t3 ← getI x_script.l x_k
    R.ok t3
  else do
    let g4 ← (do
      if (!decide (x_script = (⟨([] : (List Int))⟩ : Scr))) = true then do
        let t9 ← modI x_k (x_script.l.length : Int)
        let t10 ← getI x_script.l t9
        R.ok (t10 % (1000003 : Int))
      else do
        R.ok (0 : Int) : R (Int))
    R.ok ((g4 + ((104729 : Int) * x_k)) + (13 : Int))
/-! _law_folded -/
def law_folded (x_script : Scr) (x_many : Int) : R (List Int) := do
  let l2 ← rngI 0 x_many
  let l3 ← mapG (fun (b3 : Int) => do
      let y5 ← law_cell_at x_script b3
      R.ok y5) l2
  let l8 ← rngI x_many (x_script.l.length : Int)
  let g7 ← foldR (fun (g7 : (List Int)) (b7 : Int) => do
      let t9 ← modI b7 x_many
      let t10 ← getI g7 t9
      let t14 ← getI x_script.l b7
      let l17 ← setI g7 t9 ((((t10 % ((10 : Int) ^ ((60 : Int) : Int).toNat)) * (48271 : Int)) + t14) % (((10 : Int) ^ ((60 : Int) : Int).toNat) + (7 : Int)))
      R.ok l17) l3 l8
  R.ok g7
/-! _law_state -/
def law_state (x_cell : Int) : R (List Int) := do
  let g1 ← (do
    if (decide (((10 : Int) ^ ((18 : Int) : Int).toNat) ≤ x_cell)) = true then do
      R.ok x_cell
    else do
      R.ok (0 : Int) : R (Int))
  R.ok ([g1, ((((x_cell % (2147483629 : Int)) + (11 : Int)) * (48271 : Int)) % (2147483647 : Int))] : (List Int))
/-! _law_next -/
def law_next (x_state : (List Int)) (x_many : Int) : R (Int × (List Int)) := do
  let t2 ← getI x_state (0 : Int)
  if (decide ((0 : Int) < t2)) = true then do
    let t4 ← getI x_state (0 : Int)
    let t5 ← modI t4 x_many
    let t6 ← getI x_state (0 : Int)
    let t7 ← divI t6 x_many
    let l8 ← setI x_state (0 : Int) t7
    R.ok (t5, l8)
  else do
    let t10 ← getI x_state (1 : Int)
    let l13 ← setI x_state (1 : Int) (((t10 * (69621 : Int)) + (40692 : Int)) % (2147483647 : Int))
    let t15 ← getI l13 (1 : Int)
    let t16 ← getI l13 (1 : Int)
    let t17 ← mulI t15 t16
    let t20 ← modI ((t17 % (2147483629 : Int)) / (8 : Int)) x_many
    R.ok (t20, l13)
/-! _law_great -/
def law_great (x_state : (List Int)) (x_top : Int) : R (Int × (List Int)) := do
  let g2 ← foldR (fun (g2 : Int × (List Int)) (b2 : Int) => do
      let y6 ← law_next g2.2 ((2 : Int) ^ ((24 : Int) : Int).toNat)
      R.ok (((g2.1 * ((2 : Int) ^ ((24 : Int) : Int).toNat)) + y6.1), y6.2)) ((0 : Int), x_state) (rng 0 (9 : Int))
  let t7 ← modI g2.1 x_top
  R.ok (t7, g2.2)
/-! _law_looks -/
def law_looks (x_state : (List Int)) (x_many : Int) (x_most : Int) : R ((List Int) × (List Int)) := do
  let y6 ← law_next x_state (x_most + (1 : Int))
  let l7 ← rngI 0 y6.1
  let g4 ← foldR (fun (g4 : (List Int) × (List Int)) (b4 : Int) => do
      let y9 ← law_great g4.1 x_many
      let y13 ← law_next y9.2 (9 : Int)
      let t14 ← getI ([(0 : Int), (x_many - (1 : Int)), (1 : Int), (x_many - (2 : Int)), (x_many / (2 : Int)), y9.1] : (List Int)) (min2 (5 : Int) y13.1)
      let g16 ← (do
        let j17 ← (do
          if (!decide (g4.2 = ([] : (List Int)))) = true then do
            let y22 ← law_next y13.2 (4 : Int)
            R.ok ((decide (y22.1 = (0 : Int))), y22.2)
          else do
            R.ok (false, y13.2) : R (Bool × (List Int)))
        if j17.1 = true then do
          let t28 ← getI g4.2 (-(1 : Int))
          let y30 ← law_next j17.2 (3 : Int)
          R.ok ((((t28 + (x_many / (2 : Int))) + y30.1) - (1 : Int)), y30.2)
        else do
          R.ok (t14, j17.2) : R (Int × (List Int)))
      let t31 ← modI g16.1 x_many
      if (!inB t31 g4.2) = true then do
        let t33 ← modI g16.1 x_many
        let l34 ← app g4.2 t33
        R.ok (g16.2, l34)
      else do
        R.ok (g16.2, g4.2)) (y6.2, ([] : (List Int))) l7
  R.ok ((sortI g4.2), g4.1)
/-! _law_far -/
def law_far (x_many : Int) (x_one : Int) (x_other : Int) : R Int := do
  let t1 ← modI (x_other - x_one) x_many
  R.ok (min2 t1 (x_many - t1))
/-! _law_code -/
def law_code (x_many : Int) (x_looks : (List Int)) (x_thing : Int) (x_kind : Str) : R (List Int) := do
  let l2 ← mapG (fun (b2 : Int) => do
      let y5 ← law_far x_many b2 x_thing
      R.ok y5) x_looks
  let g8 ← (do
    if (decide (x_kind = ("ties" : Str))) = true then do
      let l10 ← mapG (fun (b10 : (Int × Int)) => do
          let y13 ← law_far x_many b10.2 (x_thing + (1 : Int))
          R.ok (min2 b10.1 y13)) (l2.zip x_looks)
      R.ok l10
    else do
      R.ok l2 : R ((List Int)))
  R.ok g8
/-! _law_having -/
def law_having (x_many : Int) (x_looks : (List Int)) (x_told : (List Int)) (x_kind : Str) : R (List Int) := do
  let l3 ← listRng 0 (min2 x_many (12 : Int))
  let g6 ← (do
    if (decide ((12 : Int) < x_many)) = true then do
      let t8 ← getI x_looks (-(1 : Int))
      let t9 ← getI x_told (-(1 : Int))
      let t10 ← getI x_told (-(1 : Int))
      let t11 ← getI x_told (-(1 : Int))
      R.ok ([(t8 + t9), (t8 - t10), ((t8 - t11) - (1 : Int))] : (List Int))
    else do
      R.ok l3 : R ((List Int)))
  let l16 ← mapG (fun (b16 : Int) => do
      let t19 ← modI b16 x_many
      R.ok t19) g6
  let l21 ← ssR l16
  let l25 ← filG (fun (b25 : Int) => do
      let y28 ← law_code x_many x_looks b25 x_kind
      if (decide (y28 = x_told)) = true then do
        R.ok (some b25)
      else
        R.ok none) l21
  R.ok l25
/-! _law_other -/
def law_other (x_state : (List Int)) (x_told : (List Int)) : R ((List Int) × (List Int)) := do
  let y3 ← law_next x_state (x_told.length : Int)
  let y4 ← law_next y3.2 (5 : Int)
  let y6 ← law_great y4.2 ((10 : Int) ^ ((60 : Int) : Int).toNat)
  let t7 ← getI x_told y3.1
  let t13 ← getI x_told y3.1
  let t14 ← getI ([(0 : Int), (1 : Int), ((0 : Int) - (1 : Int)), (2 : Int), (y6.1 - t7)] : (List Int)) y4.1
  let l17 ← extend (cutL x_told none (some y3.1)) ([(t13 + t14)] : (List Int))
  let l21 ← extend l17 (cutL x_told (some (y3.1 + (1 : Int))) none)
  R.ok (l21, y6.2)
/-! _law_told -/
def law_told (x_way : Int) (x_args : (Nt (Int × (List Int) × (List Int) × Unit))) : R IoS := do
  let g5 ← tryWith names (do
    if (decide (x_way = (2 : Int))) = true then do
      R.bad
    else do
      let t7 ← getI ([0, 1] : (List Int)) x_way
      let y8 ← (if t7 = 0 then ring_placeX x_args.v.1 x_args.v.2.1 x_args.v.2.2.1 else ring_tieX x_args.v.1 x_args.v.2.1 x_args.v.2.2.1)
      R.ok (none, (some y8))) (fun (e : Exn) => (R.ok ((some e), none) : R ((Option Exn) × (Option Int))))
  if g5.1.isNone = true then do
    let t13 ← ofO g5.2
    R.ok (IoS.i t13)
  else do
    let j14 ← (do
      let t15 ← ofO g5.1
      let b15 ← isC names [("NoCode" : Str)] t15
      if (!b15) = true then do
        R.ok true
      else do
        let b18 ← isC names [("NoCode" : Str)] t15
        if (!b18) = true then do
          R.ok true
        else do
          let b21 ← isC names [] t15
          R.ok b21 : R (Bool))
    if j14 = true then do
      R.ok (IoS.s ⟨("odd" : Str), by decide +kernel⟩)
    else do
      R.ok (IoS.s ⟨("none" : Str), by decide +kernel⟩)
/-! _law_told -/
def law_toldgrid (x_way : Int) (x_args : (Nt (Int × Int × (Tup Int) × (Tup Int) × (List Int) × Unit))) : R TuS := do
  let g6 ← tryWith names (do
    if (decide (x_way = (2 : Int))) = true then do
      let y8 ← grid_placeX x_args.v.1 x_args.v.2.1 x_args.v.2.2.1 x_args.v.2.2.2.1 x_args.v.2.2.2.2.1
      R.ok (none, (some y8))
    else do
      R.bad) (fun (e : Exn) => (R.ok ((some e), none) : R ((Option Exn) × (Option (Tup Int)))))
  if g6.1.isNone = true then do
    let t14 ← ofO g6.2
    R.ok (TuS.t t14)
  else do
    let j16 ← (do
      let t17 ← ofO g6.1
      let b17 ← isC names [("NoCode" : Str)] t17
      if (!b17) = true then do
        R.ok true
      else do
        let b20 ← isC names [("NoCode" : Str)] t17
        if (!b20) = true then do
          R.ok true
        else do
          let b23 ← isC names [] t17
          R.ok b23 : R (Bool))
    if j16 = true then do
      R.ok (TuS.s ⟨("odd" : Str), by decide +kernel⟩)
    else do
      R.ok (TuS.s ⟨("none" : Str), by decide +kernel⟩)
/-! _law_ring_right -/
def law_ring_right (x_state : (List Int)) : R (Bool × (List Int)) := do
  let y6 ← law_next x_state (2 : Int)
  let t7 ← getI ([(7 : Int), (((10 : Int) ^ ((60 : Int) : Int).toNat) - (2 : Int))] : (List Int)) y6.1
  let y8 ← law_great y6.2 t7
  let y13 ← law_next y8.2 (8 : Int)
  let t14 ← getI ([(6 : Int), (20 : Int)] : (List Int)) (b2i (decide (y13.1 = (0 : Int))))
  let y15 ← law_looks y13.2 ((3 : Int) + y8.1) t14
  let g19 ← (do
    let j20 ← (do
      if (decide ((y15.1.length : Int) < (2 : Int))) = true then do
        R.ok true
      else do
        let j23 ← (do
          if (decide ((y15.1.length : Int) = (2 : Int))) = true then do
            let t25 ← getI y15.1 (1 : Int)
            let t26 ← getI y15.1 (0 : Int)
            R.ok (decide (((2 : Int) * (t25 - t26)) = ((3 : Int) + y8.1)))
          else do
            R.ok false : R (Bool))
        R.ok j23 : R (Bool))
    if j20 = true then do
      R.ok ([(0 : Int), (1 : Int)] : (List Int))
    else do
      R.ok y15.1 : R ((List Int)))
  let r36 ← foldX (fun (g36 : (List Int)) (b36 : (Int × Str)) => do
      let y41 ← law_great g36 ((3 : Int) + y8.1)
      let y42 ← law_code ((3 : Int) + y8.1) g19 y41.1 b36.2
      let y44 ← law_other y41.2 y42
      let y46 ← law_having ((3 : Int) + y8.1) g19 y44.1 b36.2
      let t57 ← getI ([g19, y44.1] : (List (List Int))) (0 : Int)
      let t59 ← getI ([g19, y44.1] : (List (List Int))) (1 : Int)
      let y62 ← law_told b36.1 (Nt.mk (((3 : Int) + y8.1), t57, t59, ()) : (Nt (Int × (List Int) × (List Int) × Unit)))
      let j64 ← (do
        if false = true then do
          R.ok true
        else do
          if (!decide (([g19, y44.1] : (List (List Int))) = ([g19, y44.1] : (List (List Int))))) = true then do
            R.ok true
          else do
            let l77 ← extend (y46.map IoS.i) ([(IoS.s ⟨("none" : Str), by decide +kernel⟩)] : (List IoS))
            R.ok (!decide (([y62] : (List IoS)) = (cutL l77 none (some (1 : Int))))) : R (Bool))
      if j64 = true then do
        R.ok (.inl (false, y44.2))
      else do
        R.ok (.inr (true, y44.2))) y15.2 (enum ([("places" : Str), ("ties" : Str)] : (List Str)))
  match r36 with
  | .inl z => R.ok z
  | .inr g36 => do
    R.ok (true, g36)
/-! _law_side -/
def law_side (x_state : (List Int)) (x_wide : Int) (x_high : Int) : R ((List (Tup Int)) × (List Int)) := do
  let y2 ← law_next x_state (4 : Int)
  let l27 ← getI ([([(Tup.mk [(0 : Int), (0 : Int)] : (Tup Int)), (Tup.mk [(x_wide - (1 : Int)), (0 : Int)] : (Tup Int))] : (List (Tup Int))), ([(Tup.mk [(0 : Int), (x_high - (1 : Int))] : (Tup Int)), (Tup.mk [(x_wide - (1 : Int)), (x_high - (1 : Int))] : (Tup Int))] : (List (Tup Int))), ([(Tup.mk [(0 : Int), (0 : Int)] : (Tup Int)), (Tup.mk [(0 : Int), (x_high - (1 : Int))] : (Tup Int))] : (List (Tup Int))), ([(Tup.mk [(x_wide - (1 : Int)), (0 : Int)] : (Tup Int)), (Tup.mk [(x_wide - (1 : Int)), (x_high - (1 : Int))] : (Tup Int))] : (List (Tup Int)))] : (List (List (Tup Int)))) y2.1
  let g29 ← (do
    let y31 ← law_next y2.2 (2 : Int)
    if (decide (y31.1 = (0 : Int))) = true then do
      R.ok (l27.reverse, y31.2)
    else do
      R.ok (l27, y31.2) : R ((List (Tup Int)) × (List Int)))
  R.ok (g29.1, g29.2)
/-! _law_spans -/
def law_spans (x_one : (Tup Int)) (x_spot : (Tup Int)) : R Int := do
  let t3 ← getI x_one.l (0 : Int)
  let t4 ← getI x_spot.l (0 : Int)
  let t5 ← getI x_one.l (1 : Int)
  let t6 ← getI x_spot.l (1 : Int)
  R.ok ((absI (t3 - t4)) + (absI (t5 - t6)))
/-! _law_spans -/
def law_spansl (x_one : (Tup Int)) (x_spot : (List Int)) : R Int := do
  let t3 ← getI x_one.l (0 : Int)
  let t4 ← getI x_spot (0 : Int)
  let t5 ← getI x_one.l (1 : Int)
  let t6 ← getI x_spot (1 : Int)
  R.ok ((absI (t3 - t4)) + (absI (t5 - t6)))
/-! _law_by_halves -/
def law_by_halves (x_wide : Int) (x_high : Int) (x_one : (Tup Int)) (x_other : (Tup Int)) (x_told : (List Int)) : R TuS := do
  let t4 ← getI x_one.l (0 : Int)
  let t5 ← getI x_other.l (0 : Int)
  let t6 ← un2 x_told
  let g7 ← (do
    let t8 ← getI x_one.l (b2i (decide (t4 = t5)))
    let t9 ← getI x_other.l (b2i (decide (t4 = t5)))
    if (decide (t9 < t8)) = true then do
      R.ok (t6.2, t6.1)
    else do
      R.ok (t6.1, t6.2) : R (Int × Int))
  let t11 ← getI x_one.l (b2i (decide (t4 = t5)))
  let t12 ← getI x_other.l (b2i (decide (t4 = t5)))
  let g17 ← (do
    let t18 ← getI x_one.l ((1 : Int) - (b2i (decide (t4 = t5))))
    if (decide ((0 : Int) < t18)) = true then do
      let t20 ← getI x_one.l ((1 : Int) - (b2i (decide (t4 = t5))))
      let t21 ← getI ([(((g7.1 - g7.2) + (max2 t11 t12)) / (2 : Int)), (((g7.1 + g7.2) - (max2 t11 t12)) / (2 : Int))] : (List Int)) (1 : Int)
      let l22 ← setI ([(((g7.1 - g7.2) + (max2 t11 t12)) / (2 : Int)), (((g7.1 + g7.2) - (max2 t11 t12)) / (2 : Int))] : (List Int)) (1 : Int) (t20 - t21)
      R.ok l22
    else do
      R.ok ([(((g7.1 - g7.2) + (max2 t11 t12)) / (2 : Int)), (((g7.1 + g7.2) - (max2 t11 t12)) / (2 : Int))] : (List Int)) : R ((List Int)))
  let g24 ← (do
    if (decide ((b2i (decide (t4 = t5))) = (1 : Int))) = true then do
      R.ok g17.reverse
    else do
      R.ok g17 : R ((List Int)))
  let j30 ← (do
    let j31 ← (do
      let t32 ← getI g24 (0 : Int)
      if (decide ((0 : Int) ≤ t32)) = true then do
        R.ok (decide (t32 < x_wide))
      else do
        R.ok false : R (Bool))
    if (!j31) = true then do
      R.ok true
    else do
      let j38 ← (do
        let t39 ← getI g24 (1 : Int)
        if (decide ((0 : Int) ≤ t39)) = true then do
          R.ok (decide (t39 < x_high))
        else do
          R.ok false : R (Bool))
      R.ok (!j38) : R (Bool))
  if j30 = true then do
    R.ok (TuS.s ⟨("none" : Str), by decide +kernel⟩)
  else do
    let y48 ← law_spansl x_one g24
    let y53 ← law_spansl x_other g24
    if (!decide (([y48, y53] : (List Int)) = x_told)) = true then do
      R.ok (TuS.s ⟨("none" : Str), by decide +kernel⟩)
    else do
      R.ok (TuS.t (Tup.mk g24))
/-! _law_grid_right -/
def law_grid_right (x_state : (List Int)) : R (Bool × (List Int)) := do
  let y6 ← law_next x_state (2 : Int)
  let t7 ← getI ([(5 : Int), ((10 : Int) ^ ((60 : Int) : Int).toNat)] : (List Int)) y6.1
  let y9 ← law_great y6.2 (t7 - (1 : Int))
  let y10 ← law_great y9.2 (t7 - (1 : Int))
  let y11 ← law_side y10.2 ((2 : Int) + y9.1) ((2 : Int) + y10.1)
  let t13 ← un2 y11.1
  let y17 ← law_great y11.2 ((2 : Int) + y9.1)
  let y18 ← law_great y17.2 ((2 : Int) + y10.1)
  let y22 ← law_spans t13.1 (Tup.mk [y17.1, y18.1] : (Tup Int))
  let y23 ← law_spans t13.2 (Tup.mk [y17.1, y18.1] : (Tup Int))
  let j30 ← (do
    let y32 ← law_toldgrid (2 : Int) (Nt.mk (((2 : Int) + y9.1), ((2 : Int) + y10.1), t13.1, t13.2, ([y22, y23] : (List Int)), ()) : (Nt (Int × Int × (Tup Int) × (Tup Int) × (List Int) × Unit)))
    if (!decide (y32 = (TuS.t (Tup.mk [y17.1, y18.1] : (Tup Int))))) = true then do
      R.ok true
    else do
      R.ok (!decide (([y22, y23] : (List Int)) = ([y22, y23] : (List Int)))) : R (Bool))
  if j30 = true then do
    R.ok (false, y18.2)
  else do
    let y38 ← law_other y18.2 ([y22, y23] : (List Int))
    let y43 ← law_by_halves ((2 : Int) + y9.1) ((2 : Int) + y10.1) t13.1 t13.2 y38.1
    let g45 ← (do
      if (decide ((max2 ((2 : Int) + y9.1) ((2 : Int) + y10.1)) < (7 : Int))) = true then do
        let l50 ← rngI 0 ((2 : Int) + y9.1)
        let g49 ← foldR (fun (g49 : (List (Tup Int))) (b49 : Int) => do
            let l51 ← rngI 0 ((2 : Int) + y10.1)
            let l52 ← mapG (fun (b52 : Int) => do
                R.ok (Tup.mk [b49, b52] : (Tup Int))) l51
            let l57 ← extend g49 l52
            R.ok l57) ([] : (List (Tup Int))) l50
        let l60 ← filG (fun (b60 : (Tup Int)) => do
            let y64 ← law_spans t13.1 b60
            let y65 ← law_spans t13.2 b60
            if (decide (([y64, y65] : (List Int)) = y38.1)) = true then do
              R.ok (some b60)
            else
              R.ok none) g49
        let l74 ← extend (l60.map TuS.t) ([(TuS.s ⟨("none" : Str), by decide +kernel⟩)] : (List TuS))
        let t76 ← getI l74 (0 : Int)
        R.ok t76
      else do
        R.ok y43 : R (TuS))
    let j83 ← (do
      let y85 ← law_toldgrid (2 : Int) (Nt.mk (((2 : Int) + y9.1), ((2 : Int) + y10.1), t13.1, t13.2, y38.1, ()) : (Nt (Int × Int × (Tup Int) × (Tup Int) × (List Int) × Unit)))
      if (decide (y85 = g45)) = true then do
        R.ok (decide (y38.1 = y38.1))
      else do
        R.ok false : R (Bool))
    R.ok (j83, y38.2)
/-! law -/
def law (x_script : Scr) : R Bool := do
  let y3 ← law_folded x_script (10 : Int)
  let r2 ← foldX (fun (g2 : Unit) (b2 : Int) => do
      let y7 ← law_state b2
      let j9 ← (do
        let y10 ← law_ring_right y7
        if (!y10.1) = true then do
          R.ok (true, y10.2)
        else do
          let y13 ← law_grid_right y10.2
          R.ok ((!y13.1), y13.2) : R (Bool × (List Int)))
      if j9.1 = true then do
        R.ok (.inl false)
      else do
        R.ok (.inr (true, ()))) () y3
  match r2 with
  | .inl z => R.ok z
  | .inr g2 => do
    R.ok true
/-! ### what the top has written -/
structure Dn (K : Fg) (mg : Str → Option Value) (x y : Str) (st : Stmt) (ps : List Str) (f : Addr) (fd : FuncData) : Prop where
  fn : Fun K y y st f fd
  mg : mg x = some (.ref f)
  b : Binds K fd ps []
structure Tx (K : Fg) (mg : Str → Option Value) (A : Nat → Addr) (FD : Nat → FuncData) : Prop where
  d5 : Dn K mg "side_number" "side_number" s_side_number ["sizes", "one", "other"] (A 5) (FD 5)
  d6 : Dn K mg "ring_far" "ring_far" s_ring_far ["many", "one", "other"] (A 6) (FD 6)
  d7 : Dn K mg "ring_tie_far" "ring_tie_far" s_ring_tie_far ["many", "place", "tie"] (A 7) (FD 7)
  d8 : Dn K mg "ring_place" "ring_place" s_ring_place ["many", "looks", "told"] (A 8) (FD 8)
  d9 : Dn K mg "ring_tie" "ring_tie" s_ring_tie ["many", "looks", "told"] (A 9) (FD 9)
  d10 : Dn K mg "grid_place" "grid_place" s_grid_place ["wide", "high", "one", "other", "told"] (A 10) (FD 10)
  d12 : Dn K mg "_law_cell_at" "_law_cell_at" s_law_cell_at ["script", "k"] (A 12) (FD 12)
  d13 : Dn K mg "_law_folded" "_law_folded" s_law_folded ["script", "many"] (A 13) (FD 13)
  d14 : Dn K mg "_law_state" "_law_state" s_law_state ["cell"] (A 14) (FD 14)
  d15 : Dn K mg "_law_next" "_law_next" s_law_next ["state", "many"] (A 15) (FD 15)
  d16 : Dn K mg "_law_great" "_law_great" s_law_great ["state", "top"] (A 16) (FD 16)
  d17 : Dn K mg "_law_looks" "_law_looks" s_law_looks ["state", "many", "most"] (A 17) (FD 17)
  d18 : Dn K mg "_law_far" "_law_far" s_law_far ["many", "one", "other"] (A 18) (FD 18)
  d19 : Dn K mg "_law_code" "_law_code" s_law_code ["many", "looks", "thing", "kind"] (A 19) (FD 19)
  d20 : Dn K mg "_law_having" "_law_having" s_law_having ["many", "looks", "told", "kind"] (A 20) (FD 20)
  d21 : Dn K mg "_law_other" "_law_other" s_law_other ["state", "told"] (A 21) (FD 21)
  d22 : Dn K mg "_law_told" "_law_told" s_law_told ["way", "args"] (A 22) (FD 22)
  d23 : Dn K mg "_law_ring_right" "_law_ring_right" s_law_ring_right ["state"] (A 23) (FD 23)
  d24 : Dn K mg "_law_side" "_law_side" s_law_side ["state", "wide", "high"] (A 24) (FD 24)
  d25 : Dn K mg "_law_spans" "_law_spans" s_law_spans ["one", "spot"] (A 25) (FD 25)
  d26 : Dn K mg "_law_by_halves" "_law_by_halves" s_law_by_halves ["wide", "high", "one", "other", "told"] (A 26) (FD 26)
  d27 : Dn K mg "_law_grid_right" "_law_grid_right" s_law_grid_right ["state"] (A 27) (FD 27)
  d28 : Dn K mg "law" "law" s_law ["script"] (A 28) (FD 28)
  n_ValueError : mg "ValueError" = none
  n_abs : mg "abs" = none
  n_bool : mg "bool" = none
  n_enumerate : mg "enumerate" = none
  n_int : mg "int" = none
  n_isinstance : mg "isinstance" = none
  n_len : mg "len" = none
  n_list : mg "list" = none
  n_max : mg "max" = none
  n_min : mg "min" = none
  n_range : mg "range" = none
  n_set : mg "set" = none
  n_sorted : mg "sorted" = none
  n_tuple : mg "tuple" = none
  n_zip : mg "zip" = none
  x_NoCode : XC K mg "NoCode" (A 3)
  g_HailError : mg "HailError" = some (.ref (A 1))
  g_NoCode : mg "NoCode" = some (.ref (A 3))
  g_NoLooks : mg "NoLooks" = some (.ref (A 2))
  eh_NoCode : PySem.W.exmOne K (.ref (A 3)) (.ref (A 1)) = some true
  kt_NoCode_NoCode : PySem.W.kitOne K (.ref (A 3)) (.ref (A 3)) = some true
  kt_NoCode_NoLooks : PySem.W.kitOne K (.ref (A 3)) (.ref (A 2)) = some false
  kt_NoCode_ValueError : PySem.W.kitOne K (.ref (A 3)) (.type "ValueError") = some true
theorem Tx.exc {K : Fg} {mg : Str → Option Value} {A : Nat → Addr} {FD : Nat → FuncData} (T : Tx K mg A FD) {x : Str} {C : Addr} (h : x ∈ names) (n : Nm K x C) : ExcC K C := by
  simp only [names, List.mem_cons, List.mem_nil_iff, or_false] at h
  rcases h with rfl
  · obtain rfl := n.uniq T.x_NoCode.ns; exact T.x_NoCode.ex
theorem Tx.exm {K : Fg} {mg : Str → Option Value} {A : Nat → Addr} {FD : Nat → FuncData} (T : Tx K mg A FD) {x : Str} {C : Addr} (h : x ∈ names) (n : Nm K x C) : PySem.W.exmOne K (.ref C) (.ref (A 1)) = some true := by
  simp only [names, List.mem_cons, List.mem_nil_iff, or_false] at h
  rcases h with rfl
  · obtain rfl := n.uniq T.x_NoCode.ns; exact T.eh_NoCode
theorem Tx.ki0 {K : Fg} {mg : Str → Option Value} {A : Nat → Addr} {FD : Nat → FuncData} (T : Tx K mg A FD) {x : Str} {C : Addr} (h : x ∈ names) (n : Nm K x C) : PySem.W.kitOne K (.ref C) (.ref (A 3)) = some (decide (x ∈ ([("NoCode" : Str)] : List Str))) := by
  simp only [names, List.mem_cons, List.mem_nil_iff, or_false] at h
  rcases h with rfl
  · obtain rfl := n.uniq T.x_NoCode.ns; exact T.kt_NoCode_NoCode.trans (by decide +kernel)
theorem Tx.ki1 {K : Fg} {mg : Str → Option Value} {A : Nat → Addr} {FD : Nat → FuncData} (T : Tx K mg A FD) {x : Str} {C : Addr} (h : x ∈ names) (n : Nm K x C) : PySem.W.kitOne K (.ref C) (.type "ValueError") = some (decide (x ∈ ([("NoCode" : Str)] : List Str))) := by
  simp only [names, List.mem_cons, List.mem_nil_iff, or_false] at h
  rcases h with rfl
  · obtain rfl := n.uniq T.x_NoCode.ns; exact T.kt_NoCode_ValueError.trans (by decide +kernel)
theorem Tx.ki2 {K : Fg} {mg : Str → Option Value} {A : Nat → Addr} {FD : Nat → FuncData} (T : Tx K mg A FD) {x : Str} {C : Addr} (h : x ∈ names) (n : Nm K x C) : PySem.W.kitOne K (.ref C) (.ref (A 2)) = some (decide (x ∈ ([] : List Str))) := by
  simp only [names, List.mem_cons, List.mem_nil_iff, or_false] at h
  rcases h with rfl
  · obtain rfl := n.uniq T.x_NoCode.ns; exact T.kt_NoCode_NoLooks.trans (by decide +kernel)
section
variable {P : Program} {w : World} {K : PySem.W.Frag} {mg : Str → Option Value} {base : Heap} {A : Nat → Addr} {FD : Nat → FuncData}
def sp_side_number (K : Fg) : Sp := fun vs H Q E => ∃ (F : Hp) (os : List (Addr × HO)) (v_sizes : V) (x_sizes : (Tup Int)) (v_one : V) (x_one : (Tup Int)) (v_other : V) (x_other : (Tup Int)), vs = [v_sizes, v_one, v_other] ∧ W F H (os) ∧ rep K F v_sizes x_sizes ∧ rep K F v_one x_one ∧ rep K F v_other x_other ∧ Post (side_number x_sizes x_one x_other) (Ret K F os Q) noX
theorem sc_side_number : FnScope ["sizes", "one", "other", "at", "last"] ["sizes", "one", "other"] (defScope s_side_number) := ⟨rfl, rfl, rfl, by decide +kernel, rfl, by decide +kernel, by decide +kernel⟩
theorem ok_side_number (T : Tx K mg A FD) : FnOk P w K mg base CX0 1 (A 5) (FD 5) ["sizes", "one", "other"] (sp_side_number K) := by
  refine T.d5.fn.ok sc_side_number (fun vs H Q E h => ?_) (fun cdv Ar outer s H vs Q E hr h => ?_)
  · obtain ⟨F, os, v_sizes, x_sizes, v_one, x_one, v_other, x_other, rfl, _⟩ := h
    rfl
  · obtain ⟨F0, os, v_sizes, x_sizes, v_one, x_one, v_other, x_other, rfl, w0, r_sizes, r_one, r_other, hm⟩ := h
    have sF : Same F0 F0 := Same.refl _
    obtain ⟨a1, vs1, rfl, q1, h1⟩ := r_sizes
    obtain ⟨a2, vs2, rfl, q2, h2⟩ := r_one
    obtain ⟨a3, vs3, rfl, q3, h3⟩ := r_other
    refine ⟨_, (pss_cons (ps_for PassesOwn.never rfl (pi_range1 (by rfl) T.n_range (pa_cons pe_int pa_nil)) (pg_name (i := 3) sc_side_number.nd rfl (Or.inl rfl)) (pss_cons (ps_set (i := 4) sc_side_number.nd rfl (Or.inl rfl) (pe_op op_sub (pe_ix (ix_tupK (K := K) rfl) (pv 0) (pe_op op_sub pe_int (pv 3)) (fun _ _ => rfl)) pe_int)) (pss_one (ps_if (PW.pt (pw_and (pt_cmp (pc_eqI (pe_ix (ix_tupK (K := K) rfl) (pv 1) (pv 3) (fun _ _ => rfl)) (pe_ix (ix_tupK (K := K) rfl) (pv 2) (pv 3) (fun _ _ => rfl)))) (pw_and1 (pt_cmpR (op_inT (K := K) rfl Int (by decide) (Room.units65 hr)) (pe_ix (ix_tupK (K := K) rfl) (pv 1) (pv 3) (fun _ _ => rfl)) (pe_tup (pa_cons pe_int (pa_cons (pe_op op_sub (pe_ix (ix_tupK (K := K) rfl) (pv 0) (pv 3) (fun _ _ => rfl)) pe_int) pa_nil))) (by rfl))))) (pss_one (ps_if (pt_cmpR (op_eqDt (K := K) rfl (List Int) (by decide) hr.units) (pe_callB (cr_sortI (K := K) rfl) (by rfl) T.n_sorted (by decide +kernel) (pa_cons (pe_lst (pa_cons (pe_ix (ix_tupK (K := K) rfl) (pv 1) (pe_op op_sub pe_int (pv 3)) (fun _ _ => rfl)) (pa_cons (pe_ix (ix_tupK (K := K) rfl) (pv 2) (pe_op op_sub pe_int (pv 3)) (fun _ _ => rfl)) pa_nil))) pa_nil)) (pe_lst (pa_cons pe_int (pa_cons (pv 4) pa_nil))) (nomark _)) (pss_one (ps_ret (pv 3))) pss_nil)) pss_nil)))) (pss_one (ps_ret pe_non))), ?_⟩
    refine ⟨_, rfl, (by decide), (by decide), ?_⟩
    refine forX (tw_rng0 (j := (2 : Int))) hm (fun (g4 : Unit) σ H' => ∃ (F' : Hp) (o4_4 : Option V) (o4_3 : Option V), σ = [some (.ref a1), some (.ref a2), some (.ref a3), o4_3, o4_4] ∧ Same F0 F' ∧ W F' H' (os)) ⟨_, _, _, rfl, Same.refl _, w0⟩ (fun _ _ _ _ => trivial) ?_ ?_
    · -- a turn
      intro b4 g4 x4 σ4 H4 H4' N4 B4 P4 hI hy hN4 hB4 hZ4 hm
      obtain ⟨F4, o4_4, o4_3, rfl, s4, w4⟩ := hI
      replace q1 := s4 _ _ q1
      replace h1 := A2.mono s4 h1
      replace q2 := s4 _ _ q2
      replace h2 := A2.mono s4 h2
      replace q3 := s4 _ _ q3
      replace h3 := A2.mono s4 h3
      replace sF := sF.trans s4
      obtain ⟨rfl, rfl⟩ := hy
      obtain ⟨t5, e5, hm⟩ := pb_get hm
      obtain ⟨u5, f5, r5⟩ := A2.at h1 e5
      obtain rfl : u5 = V.int t5 := r5
      refine ⟨_, rfl, _, rfl, _, _, rfl, rfl, _, _, _, _, rfl, rfl, SqT.of (w4.same _ _ q1), f5, _, _, rfl, rfl, ?_⟩
      refine stepN ?_
      try dsimp only
      refine stepIf ?_
      refine joinT hm (fun (j6 : Bool) c H' => c = j6 ∧ ∃ (F' : Hp), Same F4 F' ∧ W F' H' (os)) ?_ ?_
      · intro Q6 P6 q6 hm
        obtain ⟨t7, e7, hm⟩ := pb_get hm
        obtain ⟨u7, f7, r7⟩ := A2.at h2 e7
        obtain rfl : u7 = V.int t7 := r7
        obtain ⟨t8, e8, hm⟩ := pb_get hm
        obtain ⟨u8, f8, r8⟩ := A2.at h3 e8
        obtain rfl : u8 = V.int t8 := r8
        refine ⟨_, rfl, _, rfl, _, _, _, _, rfl, rfl, SqT.of (w4.same _ _ q2), f7, _, rfl, _, rfl, _, _, _, _, rfl, rfl, SqT.of (w4.same _ _ q3), f8, _, _, rfl, rfl, _, rfl, ?_⟩
        refine post_ite hm (fun k9 hm => ?_) (fun k9 hm => ?_)
        · skip
          obtain ⟨t10, e10, hm⟩ := pb_get hm
          obtain ⟨u10, f10, r10⟩ := A2.at h2 e10
          obtain rfl : u10 = V.int t10 := r10
          obtain ⟨t11, e11, hm⟩ := pb_get hm
          obtain ⟨u11, f11, r11⟩ := A2.at h1 e11
          obtain rfl : u11 = V.int t11 := r11
          have h12 : A2 (rep K F4) [(.int 0), (.int (t11 - (1 : Int)))] (Tup.mk [(0 : Int), (t11 - (1 : Int))] : (Tup Int)).l := .cons rep_i (.cons rep_i (.nil))
          refine ⟨_, rfl, _, rfl, _, _, _, _, rfl, rfl, SqT.of (w4.same _ _ q2), f10, _, rfl, _, rfl, _, _, _, _, rfl, rfl, SqT.of (w4.same _ _ q1), f11, _, _, rfl, rfl, (by show 2 ≤ sizeLine; decide), fun p13 n13 => ?_⟩
          obtain ⟨F13, s13, w13, q13⟩ := w4.frzE (o := .tup [(.int 0), (.int (t11 - (1 : Int)))]) n13
          replace h1 := A2.mono s13 h1
          replace q1 := s13 _ _ q1
          replace h2 := A2.mono s13 h2
          replace q2 := s13 _ _ q2
          replace h3 := A2.mono s13 h3
          replace q3 := s13 _ _ q3
          replace h12 := A2.mono s13 h12
          replace sF := sF.trans s13
          exact ⟨(t10 : Int), _, rep_i, (Rep.mono w13.same (rep_tup q13 h12)), _, rfl, q6 _ (post_ok hm) _ _ ⟨rfl, _, s13, w13⟩⟩
        · skip
          exact q6 _ (post_ok hm) _ _ ⟨rfl, _, Same.refl _, w4⟩
      intro j6 c6 H6 hc6 hm
      obtain ⟨rfl, F6, s6, w6⟩ := hc6
      replace h1 := A2.mono s6 h1
      replace q1 := s6 _ _ q1
      replace h2 := A2.mono s6 h2
      replace q2 := s6 _ _ q2
      replace h3 := A2.mono s6 h3
      replace q3 := s6 _ _ q3
      replace sF := sF.trans s6
      refine post_ite hm (fun k16 hm => ?_) (fun k16 hm => ?_)
      · skip
        obtain ⟨t17, e17, hm⟩ := pb_get hm
        obtain ⟨u17, f17, r17⟩ := A2.at h2 e17
        obtain rfl : u17 = V.int t17 := r17
        obtain ⟨t18, e18, hm⟩ := pb_get hm
        obtain ⟨u18, f18, r18⟩ := A2.at h3 e18
        obtain rfl : u18 = V.int t18 := r18
        have h19 : A2 (rep K F6) [(.int t17), (.int t18)] ([t17, t18] : (List Int)) := .cons rep_i (.cons rep_i (.nil))
        refine ⟨_, rfl, _, rfl, _, _, rfl, rfl, _, _, _, _, rfl, rfl, SqT.of (w6.same _ _ q2), f17, _, rfl, _, rfl, _, _, rfl, rfl, _, _, _, _, rfl, rfl, SqT.of (w6.same _ _ q3), f18, (by show 2 ≤ sizeLine; decide), fun p20 n20 => ?_⟩
        have w20 : W F6 _ ((p20, .lst [(.int t17), (.int t18)]) :: os) := w6.new n20
        have h21 : A2 (rep K F6) ((sortI ([t17, t18] : (List Int))).map V.int) (sortI ([t17, t18] : (List Int))) := A2.of_ints
        refine ⟨_, _, rfl, ints_q (SqL.of (w20.get (pre := []))) h19, fun p22 n22 => ?_⟩
        have w22 : W F6 _ ((p22, .lst ((sortI ([t17, t18] : (List Int))).map V.int)) :: (p20, .lst [(.int t17), (.int t18)]) :: os) := w20.new n22
        have h23 : A2 (rep K F6) [(.int 0), (.int (t5 - (1 : Int)))] ([(0 : Int), (t5 - (1 : Int))] : (List Int)) := .cons rep_i (.cons rep_i (.nil))
        refine ⟨_, rfl, (by show 2 ≤ sizeLine; decide), fun p24 n24 => ?_⟩
        have w24 : W F6 _ ((p24, .lst [(.int 0), (.int (t5 - (1 : Int)))]) :: (p22, .lst ((sortI ([t17, t18] : (List Int))).map V.int)) :: (p20, .lst [(.int t17), (.int t18)]) :: os) := w22.new n24
        refine ⟨((sortI ([t17, t18] : (List Int))) : (List Int)), (([(0 : Int), (t5 - (1 : Int))] : (List Int)) : (List Int)), (rep_own (pre := [_]) w24 h21), (rep_own (pre := []) w24 h23), _, rfl, ?_⟩
        have w25 : W F6 _ ((p22, .lst ((sortI ([t17, t18] : (List Int))).map V.int)) :: (p20, .lst [(.int t17), (.int t18)]) :: os) := w24.drop (pre := [])
        have w26 : W F6 _ ((p20, .lst [(.int t17), (.int t18)]) :: os) := w25.drop (pre := [])
        have w27 : W F6 _ (os) := w26.drop (pre := [])
        refine post_ite hm (fun k28 hm => ?_) (fun k28 hm => ?_)
        · skip
          have hm := hZ4 _ (post_ok hm)
          exact ⟨_, rfl, (post_ok hm) _ _ _ w27 sF (rep_some rep_i)⟩
        · skip
          exact hN4 _ (post_ok hm) _ _ ⟨_, _, _, rfl, (s4.trans s6), w27⟩
      · skip
        exact hN4 _ (post_ok hm) _ _ ⟨_, _, _, rfl, (s4.trans s6), w6⟩
    intro g4 σ4 H4 hI hm
    obtain ⟨F4, o4_4, o4_3, rfl, s4, w4⟩ := hI
    replace q1 := s4 _ _ q1
    replace h1 := A2.mono s4 h1
    replace q2 := s4 _ _ q2
    replace h2 := A2.mono s4 h2
    replace q3 := s4 _ _ q3
    replace h3 := A2.mono s4 h3
    replace sF := sF.trans s4
    exact (post_ok hm) _ _ _ w4 sF rep_none
def sp_ring_far (K : Fg) : Sp := fun vs H Q E => ∃ (F : Hp) (os : List (Addr × HO)) (x_many : Int) (x_one : Int) (x_other : Int), vs = [.int x_many, .int x_one, .int x_other] ∧ W F H (os) ∧ Post (ring_far x_many x_one x_other) (Ret K F os Q) noX
theorem sc_ring_far : FnScope ["many", "one", "other", "gap"] ["many", "one", "other"] (defScope s_ring_far) := ⟨rfl, rfl, rfl, by decide +kernel, rfl, by decide +kernel, by decide +kernel⟩
theorem ok_ring_far (T : Tx K mg A FD) : FnOk P w K mg base CX0 1 (A 6) (FD 6) ["many", "one", "other"] (sp_ring_far K) := by
  refine T.d6.fn.ok sc_ring_far (fun vs H Q E h => ?_) (fun cdv Ar outer s H vs Q E hr h => ?_)
  · obtain ⟨F, os, x_many, x_one, x_other, rfl, _⟩ := h
    rfl
  · obtain ⟨F0, os, x_many, x_one, x_other, rfl, w0, hm⟩ := h
    have sF : Same F0 F0 := Same.refl _
    refine ⟨_, (pss_cons (ps_set (i := 3) sc_ring_far.nd rfl (Or.inl rfl) (pe_op op_mod (pe_op op_sub (pv 1) (pv 2)) (pv 0))) (pss_one (ps_ret (pe_callB (call_min2 rfl) (by rfl) T.n_min (by decide +kernel) (pa_cons (pv 3) (pa_cons (pe_op op_sub (pv 0) (pv 3)) pa_nil)))))), ?_⟩
    obtain ⟨c1, hm⟩ := pb_mod hm
    exact ⟨_, rfl, _, rfl, _, _, rfl, rfl, _, rfl, _, _, rfl, rfl, c1, _, rfl, _, rfl, _, rfl, _, _, rfl, rfl, _, _, rfl, (post_ok hm) _ _ _ w0 sF rep_i⟩
def sp_ring_tie_far (K : Fg) : Sp := fun vs H Q E => ∃ (F : Hp) (os : List (Addr × HO)) (x_many : Int) (x_place : Int) (x_tie : Int), vs = [.int x_many, .int x_place, .int x_tie] ∧ W F H (os) ∧ Post (ring_tie_far x_many x_place x_tie) (Ret K F os Q) noX
theorem sc_ring_tie_far : FnScope ["many", "place", "tie"] ["many", "place", "tie"] (defScope s_ring_tie_far) := ⟨rfl, rfl, rfl, by decide +kernel, rfl, by decide +kernel, by decide +kernel⟩
theorem ok_ring_tie_far (T : Tx K mg A FD) : FnOk P w K mg base CX0 2 (A 7) (FD 7) ["many", "place", "tie"] (sp_ring_tie_far K) := by
  refine T.d7.fn.ok sc_ring_tie_far (fun vs H Q E h => ?_) (fun cdv Ar outer s H vs Q E hr h => ?_)
  · obtain ⟨F, os, x_many, x_place, x_tie, rfl, _⟩ := h
    rfl
  · obtain ⟨F0, os, x_many, x_place, x_tie, rfl, w0, hm⟩ := h
    have sF : Same F0 F0 := Same.refl _
    refine ⟨_, (pss_one (ps_ret (pe_callB (call_min2 rfl) (by rfl) T.n_min (by decide +kernel) (pa_cons (pe_call (ok_ring_far T) (hr.mono (by decide)) (by rfl) T.d6.mg T.d6.fn.kp T.d6.b .nil pass0 (pa_cons (pv 0) (pa_cons (pv 1) (pa_cons (pv 2) pa_nil)))) (pa_cons (pe_call (ok_ring_far T) (hr.mono (by decide)) (by rfl) T.d6.mg T.d6.fn.kp T.d6.b .nil pass0 (pa_cons (pv 0) (pa_cons (pv 1) (pa_cons (pe_op op_mod (pe_op op_add (pv 2) pe_int) (pv 0)) pa_nil)))) pa_nil))))), ?_⟩
    refine ⟨_, rfl, _, rfl, _, rfl, _, _, _, _, _, rfl, w0, ?_⟩
    refine (post_bind hm).mono (fun y1 hm v1 F1 H1 w1 s1 r1 => ?_) (fun _ z => z)
    replace sF := sF.trans s1
    obtain rfl : v1 = V.int y1 := r1
    obtain ⟨c2, hm⟩ := pb_mod hm
    refine ⟨_, rfl, _, rfl, _, rfl, _, _, rfl, rfl, _, rfl, _, _, rfl, rfl, c2, _, _, _, _, _, rfl, w1, ?_⟩
    refine (post_bind hm).mono (fun y3 hm v3 F3 H3 w3 s3 r3 => ?_) (fun _ z => z)
    replace sF := sF.trans s3
    obtain rfl : v3 = V.int y3 := r3
    exact ⟨_, _, rfl, (post_ok hm) _ _ _ w3 sF rep_i⟩
def sp_ring_placeX (K : Fg) : Sp := fun vs H Q E => ∃ (F : Hp) (os : List (Addr × HO)) (x_many : Int) (v_looks : V) (x_looks : (List Int)) (v_told : V) (x_told : (List Int)), vs = [.int x_many, v_looks, v_told] ∧ W F H (os) ∧ rep K F v_looks x_looks ∧ rep K F v_told x_told ∧ Post (ring_placeX x_many x_looks x_told) (Ret K F os Q) (RetX K F os E)
theorem sc_ring_place : FnScope ["many", "looks", "told", "place", "look"] ["many", "looks", "told"] (defScope s_ring_place) := ⟨rfl, rfl, rfl, by decide +kernel, rfl, by decide +kernel, by decide +kernel⟩
theorem ok_ring_placeX (T : Tx K mg A FD) : FnOk P w K mg base (L2.CX P w) 2 (A 8) (FD 8) ["many", "looks", "told"] (sp_ring_placeX K) := by
  refine T.d8.fn.okX sc_ring_place (fun vs H Q E h => ?_) (fun cdv Ar outer s H vs Q E hr h => ?_)
  · obtain ⟨F, os, x_many, v_looks, x_looks, v_told, x_told, rfl, _⟩ := h
    rfl
  · obtain ⟨F0, os, x_many, v_looks, x_looks, v_told, x_told, rfl, w0, r_looks, r_told, hm⟩ := h
    have sF : Same F0 F0 := Same.refl _
    obtain ⟨a1, vs1, rfl, q1, h1⟩ := r_looks
    obtain ⟨a2, vs2, rfl, q2, h2⟩ := r_told
    refine ⟨_, (pss_cons (ps_for (passes_of rfl) rfl (pi_listK (K := K) rfl (pe_lst (pa_cons (pe_op op_mod (pe_op op_add (pe_ix (ix_listK (K := K) rfl) (pv 1) pe_int (fun _ _ => rfl)) (pe_ix (ix_listK (K := K) rfl) (pv 2) pe_int (fun _ _ => rfl))) (pv 0)) (pa_cons (pe_op op_mod (pe_op op_sub (pe_ix (ix_listK (K := K) rfl) (pv 1) pe_int (fun _ _ => rfl)) (pe_ix (ix_listK (K := K) rfl) (pv 2) pe_int (fun _ _ => rfl))) (pv 0)) pa_nil)))) (pg_name (i := 3) sc_ring_place.nd rfl (Or.inr rfl)) (pss_one (ps_if (pt_cmpR (op_eqDt (K := K) rfl (List Int) (by decide) hr.units) (pe_lc (own := [("look", 4)]) (g := gName 4) (by rfl) sc_ring_place.nd (pi_listK (K := K) rfl (pv 1)) (blkOk_by (own := [("look", 4)]) (N := ["many", "looks", "told", "place", "look"]) (sc := defScope s_ring_place) (by decide +kernel)) (fun _ _ _ _ _ => (pg_name (i := 4) sc_ring_place.nd rfl (Or.inl rfl))) (fun _ _ _ _ _ => pts_nil) (fun _ _ _ _ _ => (pe_call (ok_ring_far T) (hr.mono (by decide)) (by rfl) T.d6.mg T.d6.fn.kp T.d6.b .nil pass0 (pa_cons (pv 0) (pa_cons (pv 4) (pa_cons (pv 3) pa_nil)))))) (pe_callTy (call_list_ofK (K := K) rfl) (by rfl) T.n_list (by decide +kernel) (pa_cons (pv 2) pa_nil)) (nomark _)) (pss_one (ps_ret (pv 3))) pss_nil))) (pss_one (ps_raise rfl (takes_of rfl rfl rfl rfl) (pmk_own PySem.F.excBase_ValueError T.x_NoCode.xc T.x_NoCode.gm T.x_NoCode.kp (raises_own T.x_NoCode.b T.x_NoCode.t) (by exact rfl))))), ?_⟩
    obtain ⟨t4, e4, hm⟩ := pb_get hm
    obtain ⟨u4, f4, r4⟩ := A2.at h1 e4
    obtain rfl : u4 = V.int t4 := r4
    obtain ⟨t5, e5, hm⟩ := pb_get hm
    obtain ⟨u5, f5, r5⟩ := A2.at h2 e5
    obtain rfl : u5 = V.int t5 := r5
    obtain ⟨c6, hm⟩ := pb_mod hm
    obtain ⟨t7, e7, hm⟩ := pb_get hm
    obtain ⟨u7, f7, r7⟩ := A2.at h1 e7
    obtain rfl : u7 = V.int t7 := r7
    obtain ⟨t8, e8, hm⟩ := pb_get hm
    obtain ⟨u8, f8, r8⟩ := A2.at h2 e8
    obtain rfl : u8 = V.int t8 := r8
    obtain ⟨c9, hm⟩ := pb_mod hm
    have h10 : A2 (rep K F0) [(.int ((t4 + t5) % x_many)), (.int ((t7 - t8) % x_many))] ([((t4 + t5) % x_many), ((t7 - t8) % x_many)] : (List Int)) := .cons rep_i (.cons rep_i (.nil))
    refine ⟨_, rfl, _, _, _, _, rfl, rfl, SqL.of (w0.same _ _ q1), f4, _, rfl, _, _, _, _, rfl, rfl, SqL.of (w0.same _ _ q2), f5, _, _, rfl, rfl, _, rfl, _, _, rfl, rfl, c6, _, rfl, _, _, _, _, rfl, rfl, SqL.of (w0.same _ _ q1), f7, _, rfl, _, _, _, _, rfl, rfl, SqL.of (w0.same _ _ q2), f8, _, _, rfl, rfl, _, rfl, _, _, rfl, rfl, c9, (by show 2 ≤ sizeLine; decide), fun p11 n11 => ?_⟩
    have w11 : W F0 _ ((p11, .lst [(.int ((t4 + t5) % x_many)), (.int ((t7 - t8) % x_many))]) :: os) := w0.new n11
    obtain ⟨F12, s12, w12, q12⟩ : ∃ F', Same F0 F' ∧ W F' _ (os) ∧ F' p11 = some (.lst [(.int ((t4 + t5) % x_many)), (.int ((t7 - t8) % x_many))]) := w11.freezeE (pre := [])
    replace q1 := s12 _ _ q1
    replace h1 := A2.mono s12 h1
    replace q2 := s12 _ _ q2
    replace h2 := A2.mono s12 h2
    replace h10 := A2.mono s12 h10
    replace sF := sF.trans s12
    refine ⟨_, rfl, ⟨_, SqL.of (w12.same _ _ q12)⟩, ?_⟩
    refine forX (tw_list (a := p11) h10) hm (fun (g3 : Unit) σ H' => ∃ (F' : Hp) (o3_3 : Option V), σ = [some (.int x_many), some (.ref a1), some (.ref a2), o3_3, none] ∧ Same F12 F' ∧ W F' H' (os)) ⟨_, _, rfl, Same.refl _, w12⟩ (fun g σ H' hI => by obtain ⟨F', _, _, s, w⟩ := hI; exact SqL.of (w.same _ _ (s _ _ q12))) ?_ ?_
    · -- a turn
      intro b3 g3 x3 σ3 H3 H3' N3 B3 P3 hI hy hN3 hB3 hZ3 hm
      obtain ⟨F3, o3_3, rfl, s3, w3⟩ := hI
      replace q1 := s3 _ _ q1
      replace h1 := A2.mono s3 h1
      replace q2 := s3 _ _ q2
      replace h2 := A2.mono s3 h2
      replace h10 := A2.mono s3 h10
      replace q12 := s3 _ _ q12
      replace sF := sF.trans s3
      obtain ⟨rfl, r13⟩ := hy
      obtain rfl : x3 = V.int b3 := r13
      refine ⟨_, rfl, _, rfl, ⟨_, SqL.of (w3.same _ _ q1)⟩, fun D14 nD14 => ?_⟩
      refine lcM (K := K) (tw_list (a := a1) h1) hm w3 nD14 (fun F' H' acc s w => SqL.of (w.same _ _ (s _ _ q1))) ?_ ?_
      · -- one turn
        intro b14 x14 F14 H14 H14' acc14 N14 P14 s14 w14 y14 hN14 hm
        replace h1 := A2.mono s14 h1
        replace q1 := s14 _ _ q1
        replace h2 := A2.mono s14 h2
        replace q2 := s14 _ _ q2
        replace sF := sF.trans s14
        obtain ⟨rfl, r16⟩ := y14
        obtain rfl : x14 = V.int b14 := r16
        refine ⟨rfl, _, rfl, _, rfl, _, rfl, _, _, _, _, _, rfl, w14, ?_⟩
        refine (post_nx hm).mono (fun y17 hm v17 F17 H17 w17 s17 r17 => ?_) (fun _ z => z)
        replace h1 := A2.mono s17 h1
        replace q1 := s17 _ _ q1
        replace h2 := A2.mono s17 h2
        replace q2 := s17 _ _ q2
        replace sF := sF.trans s17
        obtain rfl : v17 = V.int y17 := r17
        exact hN14 _ (post_ok hm) _ _ _ w17 s17 rep_i
      intro us14 F14 H14 ys14 s14 w14 gg14 hm
      replace h1 := A2.mono s14 h1
      replace q1 := s14 _ _ q1
      replace h2 := A2.mono s14 h2
      replace q2 := s14 _ _ q2
      replace sF := sF.trans s14
      have h19 : A2 (rep K F14) vs2 x_told := h2
      refine ⟨_, rfl, _, _, rfl, .inl (SqL.of (w14.same _ _ q2)), fun p20 n20 => ?_⟩
      have w20 : W F14 _ ((p20, .lst vs2) :: (D14, .lst us14) :: os) := w14.new n20
      refine ⟨(ys14 : (List Int)), (x_told : (List Int)), (rep_own (pre := [_]) w20 gg14), (rep_own (pre := []) w20 h19), _, rfl, ?_⟩
      have w21 : W F14 _ ((D14, .lst us14) :: os) := w20.drop (pre := [])
      have w22 : W F14 _ (os) := w21.drop (pre := [])
      refine post_ite hm (fun k23 hm => ?_) (fun k23 hm => ?_)
      · skip
        have hm := hZ3 _ (post_ok hm)
        exact ⟨_, rfl, (post_ok hm) _ _ _ w22 sF rep_i⟩
      · skip
        exact hN3 _ (post_ok hm) _ _ ⟨_, _, rfl, (s3.trans s14), w22⟩
    intro g3 σ3 H3 hI hm
    obtain ⟨F3, o3_3, rfl, s3, w3⟩ := hI
    replace q1 := s3 _ _ q1
    replace h1 := A2.mono s3 h1
    replace q2 := s3 _ _ q2
    replace h2 := A2.mono s3 h2
    replace h10 := A2.mono s3 h10
    replace q12 := s3 _ _ q12
    replace sF := sF.trans s3
    try dsimp only
    exact hm _ _ _ T.x_NoCode.ns w3 sF
def sp_ring_tieX (K : Fg) : Sp := fun vs H Q E => ∃ (F : Hp) (os : List (Addr × HO)) (x_many : Int) (v_looks : V) (x_looks : (List Int)) (v_told : V) (x_told : (List Int)), vs = [.int x_many, v_looks, v_told] ∧ W F H (os) ∧ rep K F v_looks x_looks ∧ rep K F v_told x_told ∧ Post (ring_tieX x_many x_looks x_told) (Ret K F os Q) (RetX K F os E)
theorem sc_ring_tie : FnScope ["many", "looks", "told", "tie", "look"] ["many", "looks", "told"] (defScope s_ring_tie) := ⟨rfl, rfl, rfl, by decide +kernel, rfl, by decide +kernel, by decide +kernel⟩
theorem ok_ring_tieX (T : Tx K mg A FD) : FnOk P w K mg base (L2.CX P w) 3 (A 9) (FD 9) ["many", "looks", "told"] (sp_ring_tieX K) := by
  refine T.d9.fn.okX sc_ring_tie (fun vs H Q E h => ?_) (fun cdv Ar outer s H vs Q E hr h => ?_)
  · obtain ⟨F, os, x_many, v_looks, x_looks, v_told, x_told, rfl, _⟩ := h
    rfl
  · obtain ⟨F0, os, x_many, v_looks, x_looks, v_told, x_told, rfl, w0, r_looks, r_told, hm⟩ := h
    have sF : Same F0 F0 := Same.refl _
    obtain ⟨a1, vs1, rfl, q1, h1⟩ := r_looks
    obtain ⟨a2, vs2, rfl, q2, h2⟩ := r_told
    refine ⟨_, (pss_cons (ps_for (passes_of rfl) rfl (pi_listK (K := K) rfl (pe_lst (pa_cons (pe_op op_mod (pe_op op_add (pe_ix (ix_listK (K := K) rfl) (pv 1) pe_int (fun _ _ => rfl)) (pe_ix (ix_listK (K := K) rfl) (pv 2) pe_int (fun _ _ => rfl))) (pv 0)) (pa_cons (pe_op op_mod (pe_op op_sub (pe_op op_sub (pe_ix (ix_listK (K := K) rfl) (pv 1) pe_int (fun _ _ => rfl)) (pe_ix (ix_listK (K := K) rfl) (pv 2) pe_int (fun _ _ => rfl))) pe_int) (pv 0)) pa_nil)))) (pg_name (i := 3) sc_ring_tie.nd rfl (Or.inr rfl)) (pss_one (ps_if (pt_cmpR (op_eqDt (K := K) rfl (List Int) (by decide) hr.units) (pe_lc (own := [("look", 4)]) (g := gName 4) (by rfl) sc_ring_tie.nd (pi_listK (K := K) rfl (pv 1)) (blkOk_by (own := [("look", 4)]) (N := ["many", "looks", "told", "tie", "look"]) (sc := defScope s_ring_tie) (by decide +kernel)) (fun _ _ _ _ _ => (pg_name (i := 4) sc_ring_tie.nd rfl (Or.inl rfl))) (fun _ _ _ _ _ => pts_nil) (fun _ _ _ _ _ => (pe_call (ok_ring_tie_far T) (hr.mono (by decide)) (by rfl) T.d7.mg T.d7.fn.kp T.d7.b .nil pass0 (pa_cons (pv 0) (pa_cons (pv 4) (pa_cons (pv 3) pa_nil)))))) (pe_callTy (call_list_ofK (K := K) rfl) (by rfl) T.n_list (by decide +kernel) (pa_cons (pv 2) pa_nil)) (nomark _)) (pss_one (ps_ret (pv 3))) pss_nil))) (pss_one (ps_raise rfl (takes_of rfl rfl rfl rfl) (pmk_own PySem.F.excBase_ValueError T.x_NoCode.xc T.x_NoCode.gm T.x_NoCode.kp (raises_own T.x_NoCode.b T.x_NoCode.t) (by exact rfl))))), ?_⟩
    obtain ⟨t4, e4, hm⟩ := pb_get hm
    obtain ⟨u4, f4, r4⟩ := A2.at h1 e4
    obtain rfl : u4 = V.int t4 := r4
    obtain ⟨t5, e5, hm⟩ := pb_get hm
    obtain ⟨u5, f5, r5⟩ := A2.at h2 e5
    obtain rfl : u5 = V.int t5 := r5
    obtain ⟨c6, hm⟩ := pb_mod hm
    obtain ⟨t7, e7, hm⟩ := pb_get hm
    obtain ⟨u7, f7, r7⟩ := A2.at h1 e7
    obtain rfl : u7 = V.int t7 := r7
    obtain ⟨t8, e8, hm⟩ := pb_get hm
    obtain ⟨u8, f8, r8⟩ := A2.at h2 e8
    obtain rfl : u8 = V.int t8 := r8
    obtain ⟨c9, hm⟩ := pb_mod hm
    have h10 : A2 (rep K F0) [(.int ((t4 + t5) % x_many)), (.int (((t7 - t8) - (1 : Int)) % x_many))] ([((t4 + t5) % x_many), (((t7 - t8) - (1 : Int)) % x_many)] : (List Int)) := .cons rep_i (.cons rep_i (.nil))
    refine ⟨_, rfl, _, _, _, _, rfl, rfl, SqL.of (w0.same _ _ q1), f4, _, rfl, _, _, _, _, rfl, rfl, SqL.of (w0.same _ _ q2), f5, _, _, rfl, rfl, _, rfl, _, _, rfl, rfl, c6, _, rfl, _, _, _, _, rfl, rfl, SqL.of (w0.same _ _ q1), f7, _, rfl, _, _, _, _, rfl, rfl, SqL.of (w0.same _ _ q2), f8, _, _, rfl, rfl, _, _, rfl, rfl, _, rfl, _, _, rfl, rfl, c9, (by show 2 ≤ sizeLine; decide), fun p11 n11 => ?_⟩
    have w11 : W F0 _ ((p11, .lst [(.int ((t4 + t5) % x_many)), (.int (((t7 - t8) - (1 : Int)) % x_many))]) :: os) := w0.new n11
    obtain ⟨F12, s12, w12, q12⟩ : ∃ F', Same F0 F' ∧ W F' _ (os) ∧ F' p11 = some (.lst [(.int ((t4 + t5) % x_many)), (.int (((t7 - t8) - (1 : Int)) % x_many))]) := w11.freezeE (pre := [])
    replace q1 := s12 _ _ q1
    replace h1 := A2.mono s12 h1
    replace q2 := s12 _ _ q2
    replace h2 := A2.mono s12 h2
    replace h10 := A2.mono s12 h10
    replace sF := sF.trans s12
    refine ⟨_, rfl, ⟨_, SqL.of (w12.same _ _ q12)⟩, ?_⟩
    refine forX (tw_list (a := p11) h10) hm (fun (g3 : Unit) σ H' => ∃ (F' : Hp) (o3_3 : Option V), σ = [some (.int x_many), some (.ref a1), some (.ref a2), o3_3, none] ∧ Same F12 F' ∧ W F' H' (os)) ⟨_, _, rfl, Same.refl _, w12⟩ (fun g σ H' hI => by obtain ⟨F', _, _, s, w⟩ := hI; exact SqL.of (w.same _ _ (s _ _ q12))) ?_ ?_
    · -- a turn
      intro b3 g3 x3 σ3 H3 H3' N3 B3 P3 hI hy hN3 hB3 hZ3 hm
      obtain ⟨F3, o3_3, rfl, s3, w3⟩ := hI
      replace q1 := s3 _ _ q1
      replace h1 := A2.mono s3 h1
      replace q2 := s3 _ _ q2
      replace h2 := A2.mono s3 h2
      replace h10 := A2.mono s3 h10
      replace q12 := s3 _ _ q12
      replace sF := sF.trans s3
      obtain ⟨rfl, r13⟩ := hy
      obtain rfl : x3 = V.int b3 := r13
      refine ⟨_, rfl, _, rfl, ⟨_, SqL.of (w3.same _ _ q1)⟩, fun D14 nD14 => ?_⟩
      refine lcM (K := K) (tw_list (a := a1) h1) hm w3 nD14 (fun F' H' acc s w => SqL.of (w.same _ _ (s _ _ q1))) ?_ ?_
      · -- one turn
        intro b14 x14 F14 H14 H14' acc14 N14 P14 s14 w14 y14 hN14 hm
        replace h1 := A2.mono s14 h1
        replace q1 := s14 _ _ q1
        replace h2 := A2.mono s14 h2
        replace q2 := s14 _ _ q2
        replace sF := sF.trans s14
        obtain ⟨rfl, r16⟩ := y14
        obtain rfl : x14 = V.int b14 := r16
        refine ⟨rfl, _, rfl, _, rfl, _, rfl, _, _, _, _, _, rfl, w14, ?_⟩
        refine (post_nx hm).mono (fun y17 hm v17 F17 H17 w17 s17 r17 => ?_) (fun _ z => z)
        replace h1 := A2.mono s17 h1
        replace q1 := s17 _ _ q1
        replace h2 := A2.mono s17 h2
        replace q2 := s17 _ _ q2
        replace sF := sF.trans s17
        obtain rfl : v17 = V.int y17 := r17
        exact hN14 _ (post_ok hm) _ _ _ w17 s17 rep_i
      intro us14 F14 H14 ys14 s14 w14 gg14 hm
      replace h1 := A2.mono s14 h1
      replace q1 := s14 _ _ q1
      replace h2 := A2.mono s14 h2
      replace q2 := s14 _ _ q2
      replace sF := sF.trans s14
      have h19 : A2 (rep K F14) vs2 x_told := h2
      refine ⟨_, rfl, _, _, rfl, .inl (SqL.of (w14.same _ _ q2)), fun p20 n20 => ?_⟩
      have w20 : W F14 _ ((p20, .lst vs2) :: (D14, .lst us14) :: os) := w14.new n20
      refine ⟨(ys14 : (List Int)), (x_told : (List Int)), (rep_own (pre := [_]) w20 gg14), (rep_own (pre := []) w20 h19), _, rfl, ?_⟩
      have w21 : W F14 _ ((D14, .lst us14) :: os) := w20.drop (pre := [])
      have w22 : W F14 _ (os) := w21.drop (pre := [])
      refine post_ite hm (fun k23 hm => ?_) (fun k23 hm => ?_)
      · skip
        have hm := hZ3 _ (post_ok hm)
        exact ⟨_, rfl, (post_ok hm) _ _ _ w22 sF rep_i⟩
      · skip
        exact hN3 _ (post_ok hm) _ _ ⟨_, _, rfl, (s3.trans s14), w22⟩
    intro g3 σ3 H3 hI hm
    obtain ⟨F3, o3_3, rfl, s3, w3⟩ := hI
    replace q1 := s3 _ _ q1
    replace h1 := A2.mono s3 h1
    replace q2 := s3 _ _ q2
    replace h2 := A2.mono s3 h2
    replace h10 := A2.mono s3 h10
    replace q12 := s3 _ _ q12
    replace sF := sF.trans s3
    try dsimp only
    exact hm _ _ _ T.x_NoCode.ns w3 sF
def sp_grid_placeX (K : Fg) : Sp := fun vs H Q E => ∃ (F : Hp) (os : List (Addr × HO)) (x_wide : Int) (x_high : Int) (v_one : V) (x_one : (Tup Int)) (v_other : V) (x_other : (Tup Int)) (v_told : V) (x_told : (List Int)), vs = [.int x_wide, .int x_high, v_one, v_other, v_told] ∧ W F H (os) ∧ rep K F v_one x_one ∧ rep K F v_other x_other ∧ rep K F v_told x_told ∧ Post (grid_placeX x_wide x_high x_one x_other x_told) (Ret K F os Q) (RetX K F os E)
theorem sc_grid_place : FnScope ["wide", "high", "one", "other", "told", "sizes", "at", "last", "near", "beyond", "along", "away", "found"] ["wide", "high", "one", "other", "told"] (defScope s_grid_place) := ⟨rfl, rfl, rfl, by decide +kernel, rfl, by decide +kernel, by decide +kernel⟩
theorem ok_grid_placeX (T : Tx K mg A FD) : FnOk P w K mg base (L2.CX P w) 2 (A 10) (FD 10) ["wide", "high", "one", "other", "told"] (sp_grid_placeX K) := by
  refine T.d10.fn.okX sc_grid_place (fun vs H Q E h => ?_) (fun cdv Ar outer s H vs Q E hr h => ?_)
  · obtain ⟨F, os, x_wide, x_high, v_one, x_one, v_other, x_other, v_told, x_told, rfl, _⟩ := h
    rfl
  · obtain ⟨F0, os, x_wide, x_high, v_one, x_one, v_other, x_other, v_told, x_told, rfl, w0, r_one, r_other, r_told, hm⟩ := h
    have sF : Same F0 F0 := Same.refl _
    obtain ⟨a1, vs1, rfl, q1, h1⟩ := r_one
    obtain ⟨a2, vs2, rfl, q2, h2⟩ := r_other
    obtain ⟨a3, vs3, rfl, q3, h3⟩ := r_told
    refine ⟨_, (pss_cons (ps_set (i := 5) sc_grid_place.nd rfl (Or.inl rfl) (pe_tup (pa_cons (pv 0) (pa_cons (pv 1) pa_nil)))) (pss_cons (ps_set (i := 6) sc_grid_place.nd rfl (Or.inl rfl) (pe_call (ok_side_number T) (hr.mono (by decide)) (by rfl) T.d5.mg T.d5.fn.kp T.d5.b .nil pass0 (pa_cons (pv 5) (pa_cons (pv 2) (pa_cons (pv 3) pa_nil))))) (pss_cons (ps_set (i := 7) sc_grid_place.nd rfl (Or.inl rfl) (pe_op op_sub (pe_ix (ix_tupK (K := K) rfl) (pv 5) (pe_op op_sub pe_int (pv 6)) (fun _ _ => rfl)) pe_int)) (pss_cons (ps_asg (pv 4) (pg_k (K := K) (t := fun K => gUnl K 2 _) rfl (pg_unl (n := 2) rfl (pgs_cons (pg_name (i := 8) sc_grid_place.nd rfl (Or.inl rfl)) (pgs_cons (pg_name (i := 9) sc_grid_place.nd rfl (Or.inl rfl)) pgs_nil))))) (pss_cons (ps_if (pt_cmp (pc_gt (pe_ix (ix_tupK (K := K) rfl) (pv 2) (pe_op op_sub pe_int (pv 6)) (fun _ _ => rfl)) (pe_ix (ix_tupK (K := K) rfl) (pv 3) (pe_op op_sub pe_int (pv 6)) (fun _ _ => rfl)))) (pss_one (ps_par (i := 8) (j := 9) rfl sc_grid_place.nd rfl rfl (by decide) rfl rfl (pa_cons (pv 9) (pa_cons (pv 8) pa_nil)) rfl)) pss_nil) (pss_cons (ps_par (i := 10) (j := 11) rfl sc_grid_place.nd rfl rfl (by decide) rfl rfl (pa_cons (pe_op op_add (pe_op op_sub (pv 8) (pv 9)) (pv 7)) (pa_cons (pe_op op_sub (pe_op op_add (pv 8) (pv 9)) (pv 7)) pa_nil)) rfl) (pss_cons (ps_if (PW.pt (pw_or (pt_cmp (pc_neI (pe_op op_mod (pv 10) pe_int) pe_int)) (pw_or (pt_not (pt_chain op_le op_le pe_int (pv 10) (pe_op op_mul pe_int (pv 7)))) (pw_or1 (pt_not (pt_chain op_le op_le pe_int (pv 11) (pe_op op_mul pe_int (pe_op op_sub (pe_ix (ix_tupK (K := K) rfl) (pv 5) (pv 6) (fun _ _ => rfl)) pe_int)))))))) (pss_one (ps_raise rfl (takes_of rfl rfl rfl rfl) (pmk_own PySem.F.excBase_ValueError T.x_NoCode.xc T.x_NoCode.gm T.x_NoCode.kp (raises_own T.x_NoCode.b T.x_NoCode.t) (by exact rfl)))) pss_nil) (pss_cons (ps_set (i := 12) sc_grid_place.nd rfl (Or.inl rfl) (pe_lst (pa_cons (pe_op op_fdiv (pv 11) pe_int) (pa_cons (pe_op op_fdiv (pv 10) pe_int) pa_nil)))) (pss_cons (ps_if (pt_cmp (pc_gt (pe_ix (ix_tupK (K := K) rfl) (pv 2) (pv 6) (fun _ _ => rfl)) pe_int)) (pss_one (ps_asg (pe_op op_sub (pe_op op_sub (pe_ix (ix_tupK (K := K) rfl) (pv 5) (pv 6) (fun _ _ => rfl)) pe_int) (pe_op op_fdiv (pv 11) pe_int)) (pg_sub (pv 12) pe_int set_list))) pss_nil) (pss_cons (ps_if (pt_cmp (pc_eqI (pv 6) pe_int)) (pss_one (ps_expr (pe_bm0 PySem.F.plainAttrs_list PySem.F.slot_list_reverse PySem.F.type_list_reverse mt_reverse (pv 12)))) pss_nil) (pss_one (ps_ret (pe_callTy (call_tuple_ofK (K := K) rfl) (by rfl) T.n_tuple (by decide +kernel) (pa_cons (pv 12) pa_nil)))))))))))))), ?_⟩
    have h4 : A2 (rep K F0) [(.int x_wide), (.int x_high)] (Tup.mk [x_wide, x_high] : (Tup Int)).l := .cons rep_i (.cons rep_i (.nil))
    refine ⟨_, rfl, _, rfl, (by show 2 ≤ sizeLine; decide), fun p5 n5 => ?_⟩
    obtain ⟨F5, s5, w5, q5⟩ := w0.frzE (o := .tup [(.int x_wide), (.int x_high)]) n5
    replace q1 := s5 _ _ q1
    replace h1 := A2.mono s5 h1
    replace q2 := s5 _ _ q2
    replace h2 := A2.mono s5 h2
    replace q3 := s5 _ _ q3
    replace h3 := A2.mono s5 h3
    replace h4 := A2.mono s5 h4
    replace sF := sF.trans s5
    refine ⟨_, rfl, _, rfl, _, rfl, _, _, _, ((Tup.mk [x_wide, x_high] : (Tup Int)) : (Tup Int)), _, (x_one : (Tup Int)), _, (x_other : (Tup Int)), rfl, w5, (rep_tup q5 h4), (rep_tup q1 h1), (rep_tup q2 h2), ?_⟩
    refine (post_nx hm).mono (fun y6 hm v6 F6 H6 w6 s6 r6 => ?_) (fun _ z => z)
    replace h1 := A2.mono s6 h1
    replace q1 := s6 _ _ q1
    replace h2 := A2.mono s6 h2
    replace q2 := s6 _ _ q2
    replace h3 := A2.mono s6 h3
    replace q3 := s6 _ _ q3
    replace h4 := A2.mono s6 h4
    replace q5 := s6 _ _ q5
    replace sF := sF.trans s6
    obtain ⟨t8, e8, hm⟩ := pb_ofO hm
    have r8 : rep K F6 v6 (some t8) := e8 ▸ r6
    replace r8 : v6 = V.int t8 := r8
    subst r8
    obtain ⟨t9, e9, hm⟩ := pb_get hm
    obtain ⟨u9, f9, r9⟩ := A2.at h4 e9
    obtain rfl : u9 = V.int t9 := r9
    obtain ⟨a10, b10, e10, hm⟩ := pb_un2 hm
    have ev10 : vs3 = [.int a10, .int b10] := two_ints h3 e10
    refine ⟨_, rfl, _, rfl, _, _, rfl, rfl, _, _, _, _, rfl, rfl, SqT.of (w6.same _ _ q5), f9, _, _, rfl, rfl, _, rfl, _, [.int a10, .int b10], rfl, (ev10 ▸ SqL.of (w6.same _ _ q3)), rfl, _, _, rfl, _, _, rfl, rfl, ?_⟩
    try dsimp only
    refine joinS hm (fun (g11 : Int × Int) σ H' => ∃ (F' : Hp), σ = [some (.int x_wide), some (.int x_high), some (.ref a1), some (.ref a2), some (.ref a3), some (.ref p5), some (.int t8), some (.int (t9 - (1 : Int))), some (.int g11.1), some (.int g11.2), none, none, none] ∧ Same F6 F' ∧ W F' H' (os)) ?_ ?_
    · intro N11 P11 hN11 hm
      obtain ⟨t12, e12, hm⟩ := pb_get hm
      obtain ⟨u12, f12, r12⟩ := A2.at h1 e12
      obtain rfl : u12 = V.int t12 := r12
      obtain ⟨t13, e13, hm⟩ := pb_get hm
      obtain ⟨u13, f13, r13⟩ := A2.at h2 e13
      obtain rfl : u13 = V.int t13 := r13
      refine ⟨_, rfl, _, rfl, _, _, rfl, rfl, _, _, _, _, rfl, rfl, SqT.of (w6.same _ _ q1), f12, _, rfl, _, rfl, _, _, rfl, rfl, _, _, _, _, rfl, rfl, SqT.of (w6.same _ _ q2), f13, _, _, rfl, rfl, _, rfl, ?_⟩
      refine post_ite hm (fun k14 hm => ?_) (fun k14 hm => ?_)
      · skip
        exact ⟨_, rfl, _, rfl, _, _, rfl, hN11 _ (post_ok hm) _ _ ⟨_, rfl, Same.refl _, w6⟩⟩
      · skip
        exact hN11 _ (post_ok hm) _ _ ⟨_, rfl, Same.refl _, w6⟩
    intro g11 σ11 H11 hI hm
    obtain ⟨F11, rfl, s11, w11⟩ := hI
    replace h1 := A2.mono s11 h1
    replace q1 := s11 _ _ q1
    replace h2 := A2.mono s11 h2
    replace q2 := s11 _ _ q2
    replace h3 := A2.mono s11 h3
    replace q3 := s11 _ _ q3
    replace h4 := A2.mono s11 h4
    replace q5 := s11 _ _ q5
    replace sF := sF.trans s11
    refine ⟨_, rfl, _, rfl, _, _, rfl, rfl, _, rfl, _, _, rfl, rfl, _, rfl, _, rfl, _, _, rfl, rfl, _, rfl, _, _, rfl, rfl, _, _, rfl, ?_⟩
    try dsimp only
    refine stepSeq (stepIf ?_)
    refine joinT hm (fun (j15 : Bool) c H' => c = j15 ∧ ∃ (F' : Hp), Same F11 F' ∧ W F' H' (os)) ?_ ?_
    · intro Q15 P15 q15 hm
      refine ⟨_, rfl, _, _, rfl, rfl, (by show (0 : Int) < (2 : Int); decide), _, _, rfl, rfl, _, rfl, ?_⟩
      refine post_ite hm (fun k17 hm => ?_) (fun k17 hm => ?_)
      · skip
        exact q15 _ (post_ok hm) _ _ ⟨rfl, _, Same.refl _, w11⟩
      · skip
        refine stepOr ?_
        refine stepNot ?_
        refine cutT (fun c H' => c = ((decide ((0 : Int) ≤ ((g11.1 - g11.2) + (t9 - (1 : Int))))) && (decide (((g11.1 - g11.2) + (t9 - (1 : Int))) ≤ ((2 : Int) * (t9 - (1 : Int)))))) ∧ ∃ F', Same F11 F' ∧ W F' H' (os)) (fun Q19 q19 => ?_) (fun c19 H19 hc19 => ?_)
        · -- the ways
          refine ⟨_, rfl, _, _, rfl, rfl, _, rfl, ?_⟩
          refine ifB (fun k20 => ?_) (fun k20 => ?_)
          · skip
            exact ⟨_, rfl, _, _, rfl, rfl, (.inl (by constructor <;> decide)), _, _, rfl, rfl, _, rfl, q19 _ _ ⟨(by first | rfl | exact absurd k20 (by decide) | (simp [k20]; done) | ((try simp only [Bool.not_eq_true] at k20); simp only [k20, Bool.true_or, Bool.false_or, Bool.or_false, Bool.or_true, Bool.true_and, Bool.false_and, Bool.and_true, Bool.and_false])), _, Same.refl _, w11⟩⟩
          · skip
            exact ⟨_, rfl, q19 _ _ ⟨(by first | rfl | exact absurd k20 (by decide) | (simp [k20]; done) | ((try simp only [Bool.not_eq_true] at k20); simp only [k20, Bool.true_or, Bool.false_or, Bool.or_false, Bool.or_true, Bool.true_and, Bool.false_and, Bool.and_true, Bool.and_false])), _, Same.refl _, w11⟩⟩
        obtain ⟨rfl, F19, s19, w19⟩ := hc19
        replace h1 := A2.mono s19 h1
        replace q1 := s19 _ _ q1
        replace h2 := A2.mono s19 h2
        replace q2 := s19 _ _ q2
        replace h3 := A2.mono s19 h3
        replace q3 := s19 _ _ q3
        replace h4 := A2.mono s19 h4
        replace q5 := s19 _ _ q5
        replace sF := sF.trans s19
        refine post_ite hm (fun k24 hm => ?_) (fun k24 hm => ?_)
        · skip
          exact q15 _ (post_ok hm) _ _ ⟨rfl, _, s19, w19⟩
        · skip
          refine stepNot ?_
          refine joinT hm (fun (j26 : Bool) c H' => c = j26 ∧ ∃ (F' : Hp), Same F19 F' ∧ W F' H' (os)) ?_ ?_
          · intro Q26 P26 q26 hm
            refine ⟨_, rfl, _, _, rfl, rfl, _, rfl, ?_⟩
            refine post_ite hm (fun k27 hm => ?_) (fun k27 hm => ?_)
            · skip
              obtain ⟨t28, e28, hm⟩ := pb_get hm
              obtain ⟨u28, f28, r28⟩ := A2.at h4 e28
              obtain rfl : u28 = V.int t28 := r28
              exact ⟨_, rfl, _, rfl, _, _, _, _, rfl, rfl, SqT.of (w19.same _ _ q5), f28, _, _, rfl, rfl, _, _, rfl, rfl, (.inl (by constructor <;> decide)), _, _, rfl, rfl, _, rfl, q26 _ (post_ok hm) _ _ ⟨rfl, _, Same.refl _, w19⟩⟩
            · skip
              exact ⟨_, rfl, q26 _ (post_ok hm) _ _ ⟨rfl, _, Same.refl _, w19⟩⟩
          intro j26 c26 H26 hc26 hm
          obtain ⟨rfl, F26, s26, w26⟩ := hc26
          replace h1 := A2.mono s26 h1
          replace q1 := s26 _ _ q1
          replace h2 := A2.mono s26 h2
          replace q2 := s26 _ _ q2
          replace h3 := A2.mono s26 h3
          replace q3 := s26 _ _ q3
          replace h4 := A2.mono s26 h4
          replace q5 := s26 _ _ q5
          replace sF := sF.trans s26
          exact q15 _ (post_ok hm) _ _ ⟨rfl, _, (s19.trans s26), w26⟩
    intro j15 c15 H15 hc15 hm
    obtain ⟨rfl, F15, s15, w15⟩ := hc15
    replace h1 := A2.mono s15 h1
    replace q1 := s15 _ _ q1
    replace h2 := A2.mono s15 h2
    replace q2 := s15 _ _ q2
    replace h3 := A2.mono s15 h3
    replace q3 := s15 _ _ q3
    replace h4 := A2.mono s15 h4
    replace q5 := s15 _ _ q5
    replace sF := sF.trans s15
    refine post_ite hm (fun k33 hm => ?_) (fun k33 hm => ?_)
    · skip
      try dsimp only
      exact hm _ _ _ T.x_NoCode.ns w15 sF
    · skip
      have h36 : A2 (rep K F15) [(.int (((g11.1 + g11.2) - (t9 - (1 : Int))) / (2 : Int))), (.int (((g11.1 - g11.2) + (t9 - (1 : Int))) / (2 : Int)))] ([(((g11.1 + g11.2) - (t9 - (1 : Int))) / (2 : Int)), (((g11.1 - g11.2) + (t9 - (1 : Int))) / (2 : Int))] : (List Int)) := .cons rep_i (.cons rep_i (.nil))
      refine ⟨_, rfl, _, _, rfl, rfl, (by constructor <;> decide), _, rfl, _, _, rfl, rfl, (by constructor <;> decide), (by show 2 ≤ sizeLine; decide), fun p37 n37 => ?_⟩
      have w37 : W F15 _ ((p37, .lst [(.int (((g11.1 + g11.2) - (t9 - (1 : Int))) / (2 : Int))), (.int (((g11.1 - g11.2) + (t9 - (1 : Int))) / (2 : Int)))]) :: os) := w15.new n37
      refine stepN ?_
      try dsimp only
      refine joinS hm (fun (g38 : (List Int)) σ H' => ∃ (F' : Hp) (vs38_0 : List V), σ = [some (.int x_wide), some (.int x_high), some (.ref a1), some (.ref a2), some (.ref a3), some (.ref p5), some (.int t8), some (.int (t9 - (1 : Int))), some (.int g11.1), some (.int g11.2), some (.int ((g11.1 - g11.2) + (t9 - (1 : Int)))), some (.int ((g11.1 + g11.2) - (t9 - (1 : Int)))), some (.ref p37)] ∧ Same F15 F' ∧ W F' H' ((p37, .lst vs38_0) :: os) ∧ A2 (rep K F') vs38_0 g38) ?_ ?_
      · intro N38 P38 hN38 hm
        obtain ⟨t39, e39, hm⟩ := pb_get hm
        obtain ⟨u39, f39, r39⟩ := A2.at h1 e39
        obtain rfl : u39 = V.int t39 := r39
        refine ⟨_, rfl, _, rfl, _, _, _, _, rfl, rfl, SqT.of (w37.same _ _ q1), f39, _, _, rfl, rfl, _, rfl, ?_⟩
        refine post_ite hm (fun k40 hm => ?_) (fun k40 hm => ?_)
        · skip
          obtain ⟨t41, e41, hm⟩ := pb_get hm
          obtain ⟨u41, f41, r41⟩ := A2.at h4 e41
          obtain rfl : u41 = V.int t41 := r41
          obtain ⟨j43, l43, z43, e43, hm⟩ := pn_set hm
          refine ⟨_, rfl, _, rfl, _, _, _, _, rfl, rfl, SqT.of (w37.same _ _ q5), f41, _, _, rfl, rfl, _, rfl, _, _, rfl, rfl, (by constructor <;> decide), _, _, rfl, rfl, _, rfl, _, _, _, _, rfl, rfl, (w37.get (pre := [])), (A2.ix h36 z43), ?_⟩
          have h43 : A2 (rep K F15) ([(.int (((g11.1 + g11.2) - (t9 - (1 : Int))) / (2 : Int))), (.int (((g11.1 - g11.2) + (t9 - (1 : Int))) / (2 : Int)))].set j43 (V.int ((t41 - (1 : Int)) - (((g11.1 + g11.2) - (t9 - (1 : Int))) / (2 : Int))))) l43 := e43 ▸ A2.set rep_i j43 h36
          have w44 : W F15 _ ((p37, .lst ([(.int (((g11.1 + g11.2) - (t9 - (1 : Int))) / (2 : Int))), (.int (((g11.1 - g11.2) + (t9 - (1 : Int))) / (2 : Int)))].set j43 (V.int ((t41 - (1 : Int)) - (((g11.1 + g11.2) - (t9 - (1 : Int))) / (2 : Int)))))) :: os) := w37.set (pre := [])
          exact hN38 _ (post_ok hm) _ _ ⟨_, _, rfl, Same.refl _, w44, h43⟩
        · skip
          exact hN38 _ (post_ok hm) _ _ ⟨_, _, rfl, Same.refl _, w37, h36⟩
      intro g38 σ38 H38 hI hm
      obtain ⟨F38, vs38_0, rfl, s38, w38, h38_0⟩ := hI
      replace h1 := A2.mono s38 h1
      replace q1 := s38 _ _ q1
      replace h2 := A2.mono s38 h2
      replace q2 := s38 _ _ q2
      replace h3 := A2.mono s38 h3
      replace q3 := s38 _ _ q3
      replace h4 := A2.mono s38 h4
      replace q5 := s38 _ _ q5
      replace sF := sF.trans s38
      try dsimp only
      refine joinS hm (fun (g45 : (List Int)) σ H' => ∃ (F' : Hp) (vs45_0 : List V), σ = [some (.int x_wide), some (.int x_high), some (.ref a1), some (.ref a2), some (.ref a3), some (.ref p5), some (.int t8), some (.int (t9 - (1 : Int))), some (.int g11.1), some (.int g11.2), some (.int ((g11.1 - g11.2) + (t9 - (1 : Int)))), some (.int ((g11.1 + g11.2) - (t9 - (1 : Int)))), some (.ref p37)] ∧ Same F38 F' ∧ W F' H' ((p37, .lst vs45_0) :: os) ∧ A2 (rep K F') vs45_0 g45) ?_ ?_
      · intro N45 P45 hN45 hm
        refine ⟨_, rfl, _, _, rfl, rfl, _, rfl, ?_⟩
        refine post_ite hm (fun k46 hm => ?_) (fun k46 hm => ?_)
        · skip
          refine ⟨_, rfl, .inl ⟨rfl, _, SqL.of (w38.get (pre := []))⟩, _, _, rfl, rfl, (w38.get (pre := [])), ?_⟩
          have h47 : A2 (rep K F38) (vs38_0.reverse) g38.reverse := A2.reverse h38_0
          have w48 : W F38 _ ((p37, .lst (vs38_0.reverse)) :: os) := w38.set (pre := [])
          exact hN45 _ (post_ok hm) _ _ ⟨_, _, rfl, Same.refl _, w48, h47⟩
        · skip
          exact hN45 _ (post_ok hm) _ _ ⟨_, _, rfl, Same.refl _, w38, h38_0⟩
      intro g45 σ45 H45 hI hm
      obtain ⟨F45, vs45_0, rfl, s45, w45, h45_0⟩ := hI
      replace h1 := A2.mono s45 h1
      replace q1 := s45 _ _ q1
      replace h2 := A2.mono s45 h2
      replace q2 := s45 _ _ q2
      replace h3 := A2.mono s45 h3
      replace q3 := s45 _ _ q3
      replace h4 := A2.mono s45 h4
      replace q5 := s45 _ _ q5
      replace sF := sF.trans s45
      have h49 : A2 (rep K F45) vs45_0 g45 := h45_0
      refine ⟨_, rfl, _, _, rfl, .inl ⟨SqL.of (w45.get (pre := [])), fun p50 n50 => ?_⟩⟩
      obtain ⟨F50, s50, w50, q50⟩ := w45.frzE (o := .tup vs45_0) n50
      replace h1 := A2.mono s50 h1
      replace q1 := s50 _ _ q1
      replace h2 := A2.mono s50 h2
      replace q2 := s50 _ _ q2
      replace h3 := A2.mono s50 h3
      replace q3 := s50 _ _ q3
      replace h4 := A2.mono s50 h4
      replace q5 := s50 _ _ q5
      replace h45_0 := A2.mono s50 h45_0
      replace h49 := A2.mono s50 h49
      replace sF := sF.trans s50
      have w51 : W F50 _ (os) := w50.drop (pre := [])
      exact (post_ok hm) _ _ _ w51 sF (rep_tup q50 h49)
def sp_law_cell_at (K : Fg) : Sp := fun vs H Q E => ∃ (F : Hp) (os : List (Addr × HO)) (v_script : V) (x_script : Scr) (x_k : Int), vs = [v_script, .int x_k] ∧ W F H (os) ∧ rep K F v_script x_script ∧ Post (law_cell_at x_script x_k) (Ret K F os Q) noX
theorem sc_law_cell_at : FnScope ["script", "k", "cell"] ["script", "k"] (defScope s_law_cell_at) := ⟨rfl, rfl, rfl, by decide +kernel, rfl, by decide +kernel, by decide +kernel⟩
theorem ok_law_cell_at (T : Tx K mg A FD) : FnOk P w K mg base CX0 1 (A 12) (FD 12) ["script", "k"] (sp_law_cell_at K) := by
  refine T.d12.fn.ok sc_law_cell_at (fun vs H Q E h => ?_) (fun cdv Ar outer s H vs Q E hr h => ?_)
  · obtain ⟨F, os, v_script, x_script, x_k, rfl, _⟩ := h
    rfl
  · obtain ⟨F0, os, v_script, x_script, x_k, rfl, w0, r_script, hm⟩ := h
    have sF : Same F0 F0 := Same.refl _
    obtain ⟨a1, rfl, q1⟩ := r_script
    have h1 : A2 (rep K F0) (x_script.l.map V.int) x_script.l := A2.of_ints
    refine ⟨_, (pss_cons (ps_if (pt_cmp (pc_lt (pv 1) (pe_callB (call_lenN (K := K) rfl) (by rfl) T.n_len (by decide +kernel) (pa_cons (pv 0) pa_nil)))) (pss_one (ps_ret (pe_ix (ix_listK (K := K) rfl) (pv 0) (pv 1) (fun _ _ => rfl)))) pss_nil) (pss_cons (ps_set (i := 2) sc_law_cell_at.nd rfl (Or.inl rfl) pe_int1) (pss_cons (ps_if (pt_cmpR (op_neDt (K := K) rfl Scr (by decide) hr.units) (pv 0) (pe_lst pa_nil) (nomark _)) (pss_one (ps_set (i := 2) sc_law_cell_at.nd rfl (Or.inl rfl) (pe_op op_mod (pe_ix (ix_listK (K := K) rfl) (pv 0) (pe_op op_mod (pv 1) (pe_callB (call_lenN (K := K) rfl) (by rfl) T.n_len (by decide +kernel) (pa_cons (pv 0) pa_nil))) (fun _ _ => rfl)) pe_int))) pss_nil) (pss_one (ps_ret (pe_op op_add (pe_op op_add (pv 2) (pe_op op_mul pe_int (pv 1))) pe_int)))))), ?_⟩
    refine ⟨_, rfl, _, rfl, _, _, _, rfl, .inl (w0.same.seq q1), h1.length, _, _, rfl, rfl, _, rfl, ?_⟩
    refine post_ite hm (fun k2 hm => ?_) (fun k2 hm => ?_)
    · skip
      obtain ⟨t3, e3, hm⟩ := pb_get hm
      obtain ⟨u3, f3, r3⟩ := A2.at h1 e3
      obtain rfl : u3 = V.int t3 := r3
      exact ⟨_, rfl, _, rfl, _, _, _, _, rfl, rfl, w0.same.seq q1, f3, (post_ok hm) _ _ _ w0 sF rep_i⟩
    · skip
      refine ⟨trivial, ?_⟩
      refine stepN ?_
      try dsimp only
      refine joinS hm (fun (g4 : Int) σ H' => ∃ (F' : Hp), σ = [some (.ref a1), some (.int x_k), some (.int g4)] ∧ Same F0 F' ∧ W F' H' (os)) ?_ ?_
      · intro N4 P4 hN4 hm
        have h5 : A2 (rep K F0) [] ([] : (List Int)) := .nil
        refine ⟨_, rfl, (by show 0 ≤ sizeLine; decide), fun p6 n6 => ?_⟩
        have w6 : W F0 _ ((p6, .lst []) :: os) := w0.new n6
        refine ⟨(x_script : Scr), (⟨([] : (List Int))⟩ : Scr), (Rep.mono w6.same ⟨_, rfl, q1⟩), ⟨_, rfl, SqL.of (w6.get (pre := []))⟩, _, rfl, ?_⟩
        have w7 : W F0 _ (os) := w6.drop (pre := [])
        refine post_ite hm (fun k8 hm => ?_) (fun k8 hm => ?_)
        · skip
          obtain ⟨c9, hm⟩ := pb_mod hm
          obtain ⟨t10, e10, hm⟩ := pb_get hm
          obtain ⟨u10, f10, r10⟩ := A2.at h1 e10
          obtain rfl : u10 = V.int t10 := r10
          exact ⟨_, rfl, _, rfl, _, rfl, _, _, _, rfl, .inl (w7.same.seq q1), h1.length, _, _, rfl, rfl, c9, _, _, _, _, rfl, rfl, w7.same.seq q1, f10, _, _, rfl, rfl, (by show (0 : Int) < (1000003 : Int); decide), hN4 _ (post_ok hm) _ _ ⟨_, rfl, Same.refl _, w7⟩⟩
        · skip
          exact hN4 _ (post_ok hm) _ _ ⟨_, rfl, Same.refl _, w7⟩
      intro g4 σ4 H4 hI hm
      obtain ⟨F4, rfl, s4, w4⟩ := hI
      replace h1 := A2.mono s4 h1
      replace q1 := s4.seq q1
      replace sF := sF.trans s4
      exact ⟨_, rfl, _, rfl, _, _, rfl, rfl, (.inl (by constructor <;> decide)), _, _, rfl, rfl, _, _, rfl, rfl, (post_ok hm) _ _ _ w4 sF rep_i⟩
def sp_law_folded (K : Fg) : Sp := fun vs H Q E => ∃ (F : Hp) (os : List (Addr × HO)) (v_script : V) (x_script : Scr) (x_many : Int), vs = [v_script, .int x_many] ∧ W F H (os) ∧ rep K F v_script x_script ∧ Post (law_folded x_script x_many) (RetL K F os Q) noX
theorem sc_law_folded : FnScope ["script", "many", "cells", "k", "at"] ["script", "many"] (defScope s_law_folded) := ⟨rfl, rfl, rfl, by decide +kernel, rfl, by decide +kernel, by decide +kernel⟩
theorem ok_law_folded (T : Tx K mg A FD) : FnOk P w K mg base CX0 2 (A 13) (FD 13) ["script", "many"] (sp_law_folded K) := by
  refine T.d13.fn.ok sc_law_folded (fun vs H Q E h => ?_) (fun cdv Ar outer s H vs Q E hr h => ?_)
  · obtain ⟨F, os, v_script, x_script, x_many, rfl, _⟩ := h
    rfl
  · obtain ⟨F0, os, v_script, x_script, x_many, rfl, w0, r_script, hm⟩ := h
    have sF : Same F0 F0 := Same.refl _
    obtain ⟨a1, rfl, q1⟩ := r_script
    have h1 : A2 (rep K F0) (x_script.l.map V.int) x_script.l := A2.of_ints
    refine ⟨_, (pss_cons (ps_setLc (i := 2) (own := [("k", 3)]) (g := gName 3) (by rfl) sc_law_folded.nd rfl rfl (sw_true rfl rfl rfl (by decide +kernel)) (pi_range1 (by rfl) T.n_range (pa_cons (pv 1) pa_nil)) (blkOk_by (own := [("k", 3)]) (N := ["script", "many", "cells", "k", "at"]) (sc := defScope s_law_folded) (by decide +kernel)) (fun _ _ _ _ _ => (pg_name (i := 3) sc_law_folded.nd rfl (Or.inl rfl))) (fun _ _ _ _ _ => pts_nil) (fun _ _ _ _ _ => (pe_call (ok_law_cell_at T) (hr.mono (by decide)) (by rfl) T.d12.mg T.d12.fn.kp T.d12.b .nil pass0 (pa_cons (pv 0) (pa_cons (pv 3) pa_nil))))) (pss_cons (ps_for PassesOwn.never rfl (pi_range2 (by rfl) T.n_range (pa_cons (pv 1) (pa_cons (pe_callB (call_lenN (K := K) rfl) (by rfl) T.n_len (by decide +kernel) (pa_cons (pv 0) pa_nil)) pa_nil))) (pg_name (i := 3) sc_law_folded.nd rfl (Or.inl rfl)) (pss_cons (ps_set (i := 4) sc_law_folded.nd rfl (Or.inl rfl) (pe_op op_mod (pv 3) (pv 1))) (pss_one (ps_asg (pe_op op_mod (pe_op op_add (pe_op op_mul (pe_op op_mod (pe_ix (ix_listK (K := K) rfl) (pv 2) (pv 4) (fun _ _ => rfl)) (pe_op op_pow pe_int pe_int)) pe_int) (pe_ix (ix_listK (K := K) rfl) (pv 0) (pv 3) (fun _ _ => rfl))) (pe_op op_add (pe_op op_pow pe_int pe_int) pe_int)) (pg_sub (pv 2) (pv 4) set_list))))) (pss_one (ps_ret (pv 2))))), ?_⟩
    obtain ⟨c2, hm⟩ := pb_rng hm
    refine ⟨_, rfl, _, rfl, c2.2.2.1, c2.2.2.2, fun D3 nD3 => ?_⟩
    refine lcM (K := K) (tw_rng0 (j := x_many)) hm w0 nD3 (fun F' H' acc s w => trivial) ?_ ?_
    · -- one turn
      intro b3 x3 F3 H3 H3' acc3 N3 P3 s3 w3 y3 hN3 hm
      replace q1 := s3.seq q1
      replace h1 := A2.mono s3 h1
      replace sF := sF.trans s3
      obtain ⟨rfl, rfl⟩ := y3
      refine ⟨rfl, _, rfl, _, rfl, _, _, _, (x_script : Scr), _, rfl, w3, ⟨_, rfl, q1⟩, ?_⟩
      refine (post_bind hm).mono (fun y5 hm v5 F5 H5 w5 s5 r5 => ?_) (fun _ z => z)
      replace q1 := s5.seq q1
      replace h1 := A2.mono s5 h1
      replace sF := sF.trans s5
      obtain rfl : v5 = V.int y5 := r5
      exact hN3 _ (post_ok hm) _ _ _ w5 s5 rep_i
    intro us3 F3 H3 ys3 s3 w3 gg3 hm
    replace q1 := s3.seq q1
    replace h1 := A2.mono s3 h1
    replace sF := sF.trans s3
    obtain ⟨c8, hm⟩ := pb_rng hm
    refine ⟨_, rfl, _, rfl, _, _, _, rfl, .inl (w3.same.seq q1), h1.length, _, _, rfl, c8, ?_⟩
    refine forS (tw_rng (i := x_many) (j := (x_script.l.length : Int))) hm (fun (g7 : (List Int)) σ H' => ∃ (F' : Hp) (vs7_0 : List V) (o7_4 : Option V) (o7_3 : Option V), σ = [some (.ref a1), some (.int x_many), some (.ref D3), o7_3, o7_4] ∧ Same F3 F' ∧ W F' H' ((D3, .lst vs7_0) :: os) ∧ A2 (rep K F') vs7_0 g7) ⟨_, _, _, _, rfl, Same.refl _, w3, gg3⟩ (fun _ _ _ _ => trivial) ?_ ?_
    · -- a turn
      intro b7 g7 x7 σ7 H7 H7' N7 P7 hI hy hN7 hm
      obtain ⟨F7, vs7_0, o7_4, o7_3, rfl, s7, w7, h7_0⟩ := hI
      replace h1 := A2.mono s7 h1
      replace q1 := s7.seq q1
      replace sF := sF.trans s7
      obtain ⟨rfl, rfl⟩ := hy
      obtain ⟨c9, hm⟩ := pb_mod hm
      obtain ⟨t10, e10, hm⟩ := pb_get hm
      obtain ⟨u10, f10, r10⟩ := A2.at h7_0 e10
      obtain rfl : u10 = V.int t10 := r10
      obtain ⟨t14, e14, hm⟩ := pb_get hm
      obtain ⟨u14, f14, r14⟩ := A2.at h1 e14
      obtain rfl : u14 = V.int t14 := r14
      obtain ⟨j17, l17, z17, e17, hm⟩ := pn_set hm
      refine ⟨_, rfl, _, rfl, _, _, rfl, rfl, c9, _, rfl, _, rfl, _, _, _, _, rfl, rfl, SqL.of (w7.get (pre := [])), f10, _, _, rfl, rfl, (by refine ⟨?_, ?_, ?_⟩ <;> decide), _, _, rfl, rfl, (by show (0 : Int) < ((10 : Int) ^ ((60 : Int) : Int).toNat); decide), _, _, rfl, rfl, (.inr (by constructor <;> decide)), _, rfl, _, rfl, _, _, _, _, rfl, rfl, w7.same.seq q1, f14, _, _, rfl, rfl, _, _, rfl, rfl, (by refine ⟨?_, ?_, ?_⟩ <;> decide), _, _, rfl, rfl, _, _, rfl, rfl, (by show (0 : Int) < (((10 : Int) ^ ((60 : Int) : Int).toNat) + (7 : Int)); decide), _, rfl, _, rfl, _, _, _, _, rfl, rfl, (w7.get (pre := [])), (A2.ix h7_0 z17), ?_⟩
      have h17 : A2 (rep K F7) (vs7_0.set j17 (V.int ((((t10 % ((10 : Int) ^ ((60 : Int) : Int).toNat)) * (48271 : Int)) + t14) % (((10 : Int) ^ ((60 : Int) : Int).toNat) + (7 : Int))))) l17 := e17 ▸ A2.set rep_i j17 h7_0
      have w18 : W F7 _ ((D3, .lst (vs7_0.set j17 (V.int ((((t10 % ((10 : Int) ^ ((60 : Int) : Int).toNat)) * (48271 : Int)) + t14) % (((10 : Int) ^ ((60 : Int) : Int).toNat) + (7 : Int)))))) :: os) := w7.set (pre := [])
      exact hN7 _ (post_ok hm) _ _ ⟨_, _, _, _, rfl, s7, w18, h17⟩
    intro g7 σ7 H7 hI hm
    obtain ⟨F7, vs7_0, o7_4, o7_3, rfl, s7, w7, h7_0⟩ := hI
    replace h1 := A2.mono s7 h1
    replace q1 := s7.seq q1
    replace sF := sF.trans s7
    exact ⟨_, rfl, (post_ok hm) _ _ _ _ w7 sF h7_0⟩
def sp_law_state (K : Fg) : Sp := fun vs H Q E => ∃ (F : Hp) (os : List (Addr × HO)) (x_cell : Int), vs = [.int x_cell] ∧ W F H (os) ∧ Post (law_state x_cell) (RetL K F os Q) noX
theorem sc_law_state : FnScope ["cell", "left"] ["cell"] (defScope s_law_state) := ⟨rfl, rfl, rfl, by decide +kernel, rfl, by decide +kernel, by decide +kernel⟩
theorem ok_law_state (T : Tx K mg A FD) : FnOk P w K mg base CX0 1 (A 14) (FD 14) ["cell"] (sp_law_state K) := by
  refine T.d14.fn.ok sc_law_state (fun vs H Q E h => ?_) (fun cdv Ar outer s H vs Q E hr h => ?_)
  · obtain ⟨F, os, x_cell, rfl, _⟩ := h
    rfl
  · obtain ⟨F0, os, x_cell, rfl, w0, hm⟩ := h
    have sF : Same F0 F0 := Same.refl _
    refine ⟨_, (pss_cons (ps_set (i := 1) sc_law_state.nd rfl (Or.inl rfl) pe_int1) (pss_cons (ps_if (pt_cmp (pc_ge (pv 0) (pe_op op_pow pe_int pe_int))) (pss_one (ps_set (i := 1) sc_law_state.nd rfl (Or.inl rfl) (pv 0))) pss_nil) (pss_one (ps_ret (pe_lst (pa_cons (pv 1) (pa_cons (pe_op op_mod (pe_op op_mul (pe_op op_add (pe_op op_mod (pv 0) pe_int) pe_int) pe_int) pe_int) pa_nil))))))), ?_⟩
    refine ⟨trivial, ?_⟩
    refine stepN ?_
    try dsimp only
    refine joinS hm (fun (g1 : Int) σ H' => ∃ (F' : Hp), σ = [some (.int x_cell), some (.int g1)] ∧ Same F0 F' ∧ W F' H' (os)) ?_ ?_
    · intro N1 P1 hN1 hm
      refine ⟨_, rfl, _, _, rfl, rfl, (by refine ⟨?_, ?_, ?_⟩ <;> decide), _, _, rfl, rfl, _, rfl, ?_⟩
      refine post_ite hm (fun k3 hm => ?_) (fun k3 hm => ?_)
      · skip
        exact ⟨_, rfl, hN1 _ (post_ok hm) _ _ ⟨_, rfl, Same.refl _, w0⟩⟩
      · skip
        exact hN1 _ (post_ok hm) _ _ ⟨_, rfl, Same.refl _, w0⟩
    intro g1 σ1 H1 hI hm
    obtain ⟨F1, rfl, s1, w1⟩ := hI
    replace sF := sF.trans s1
    have h7 : A2 (rep K F1) [(.int g1), (.int ((((x_cell % (2147483629 : Int)) + (11 : Int)) * (48271 : Int)) % (2147483647 : Int)))] ([g1, ((((x_cell % (2147483629 : Int)) + (11 : Int)) * (48271 : Int)) % (2147483647 : Int))] : (List Int)) := .cons rep_i (.cons rep_i (.nil))
    refine ⟨_, rfl, _, rfl, _, _, rfl, rfl, (by show (0 : Int) < (2147483629 : Int); decide), _, _, rfl, rfl, _, _, rfl, rfl, (.inr (by constructor <;> decide)), _, _, rfl, rfl, (by show (0 : Int) < (2147483647 : Int); decide), (by show 2 ≤ sizeLine; decide), fun p8 n8 => ?_⟩
    have w8 : W F1 _ ((p8, .lst [(.int g1), (.int ((((x_cell % (2147483629 : Int)) + (11 : Int)) * (48271 : Int)) % (2147483647 : Int)))]) :: os) := w1.new n8
    exact (post_ok hm) _ _ _ _ w8 sF h7
def sp_law_next (K : Fg) : Sp := fun vs H Q E => ∃ (F : Hp) (os : List (Addr × HO)) (a_state : Addr) (vs_state : List V) (x_state : (List Int)) (x_many : Int), vs = [.ref a_state, .int x_many] ∧ W F H ((a_state, .lst vs_state) :: os) ∧ A2 (rep K F) vs_state x_state ∧ Post (law_next x_state x_many) (RetM K F a_state os Q) noX
theorem sc_law_next : FnScope ["state", "many", "found"] ["state", "many"] (defScope s_law_next) := ⟨rfl, rfl, rfl, by decide +kernel, rfl, by decide +kernel, by decide +kernel⟩
theorem ok_law_next (T : Tx K mg A FD) : FnOk P w K mg base CX0 1 (A 15) (FD 15) ["state", "many"] (sp_law_next K) := by
  refine T.d15.fn.ok sc_law_next (fun vs H Q E h => ?_) (fun cdv Ar outer s H vs Q E hr h => ?_)
  · obtain ⟨F, os, a_state, vs_state, x_state, x_many, rfl, _⟩ := h
    rfl
  · obtain ⟨F0, os, a_state, vs_state, x_state, x_many, rfl, w0, h_state, hm⟩ := h
    have sF : Same F0 F0 := Same.refl _
    refine ⟨_, (pss_cons (ps_if (pt_cmp (pc_gt (pe_ix (ix_listK (K := K) rfl) (pv 0) pe_int (fun _ _ => rfl)) pe_int)) (pss_cons (ps_set (i := 2) sc_law_next.nd rfl (Or.inl rfl) (pe_op op_mod (pe_ix (ix_listK (K := K) rfl) (pv 0) pe_int (fun _ _ => rfl)) (pv 1))) (pss_cons (ps_asg (pe_op op_fdivW (pe_ix (ix_listK (K := K) rfl) (pv 0) pe_int (fun _ _ => rfl)) (pv 1)) (pg_sub (pv 0) pe_int set_list)) (pss_one (ps_ret (pv 2))))) pss_nil) (pss_cons (ps_asg (pe_op op_mod (pe_op op_add (pe_op op_mul (pe_ix (ix_listK (K := K) rfl) (pv 0) pe_int (fun _ _ => rfl)) pe_int) pe_int) pe_int) (pg_sub (pv 0) pe_int set_list)) (pss_one (ps_ret (pe_op op_mod (pe_op op_fdiv (pe_op op_mod (pe_op op_mul (pe_ix (ix_listK (K := K) rfl) (pv 0) pe_int (fun _ _ => rfl)) (pe_ix (ix_listK (K := K) rfl) (pv 0) pe_int (fun _ _ => rfl))) pe_int) pe_int) (pv 1)))))), ?_⟩
    obtain ⟨t2, e2, hm⟩ := pb_get hm
    obtain ⟨u2, f2, r2⟩ := A2.at h_state e2
    obtain rfl : u2 = V.int t2 := r2
    refine ⟨_, rfl, _, _, _, _, rfl, rfl, SqL.of (w0.get (pre := [])), f2, _, _, rfl, rfl, _, rfl, ?_⟩
    refine post_ite hm (fun k3 hm => ?_) (fun k3 hm => ?_)
    · skip
      obtain ⟨t4, e4, hm⟩ := pb_get hm
      obtain ⟨u4, f4, r4⟩ := A2.at h_state e4
      obtain rfl : u4 = V.int t4 := r4
      obtain ⟨c5, hm⟩ := pb_mod hm
      obtain ⟨t6, e6, hm⟩ := pb_get hm
      obtain ⟨u6, f6, r6⟩ := A2.at h_state e6
      obtain rfl : u6 = V.int t6 := r6
      obtain ⟨c7, hm⟩ := pb_div hm
      obtain ⟨j8, l8, z8, e8, hm⟩ := pn_set hm
      refine ⟨_, rfl, _, _, _, _, rfl, rfl, SqL.of (w0.get (pre := [])), f4, _, rfl, _, _, rfl, rfl, c5, _, rfl, _, _, _, _, rfl, rfl, SqL.of (w0.get (pre := [])), f6, _, rfl, _, _, rfl, rfl, c7, _, rfl, _, _, _, _, rfl, rfl, (w0.get (pre := [])), (A2.ix h_state z8), ?_⟩
      have h8 : A2 (rep K F0) (vs_state.set j8 (V.int (t6 / x_many))) l8 := e8 ▸ A2.set rep_i j8 h_state
      have w9 : W F0 _ ((a_state, .lst (vs_state.set j8 (V.int (t6 / x_many)))) :: os) := w0.set (pre := [])
      exact ⟨_, rfl, (post_ok hm) _ _ _ _ w9 sF rep_i h8⟩
    · skip
      obtain ⟨t10, e10, hm⟩ := pb_get hm
      obtain ⟨u10, f10, r10⟩ := A2.at h_state e10
      obtain rfl : u10 = V.int t10 := r10
      obtain ⟨j13, l13, z13, e13, hm⟩ := pn_set hm
      refine ⟨_, rfl, _, _, _, _, rfl, rfl, SqL.of (w0.get (pre := [])), f10, _, _, rfl, rfl, (.inr (by constructor <;> decide)), _, _, rfl, rfl, _, _, rfl, rfl, (by show (0 : Int) < (2147483647 : Int); decide), _, rfl, _, _, _, _, rfl, rfl, (w0.get (pre := [])), (A2.ix h_state z13), ?_⟩
      have h13 : A2 (rep K F0) (vs_state.set j13 (V.int (((t10 * (69621 : Int)) + (40692 : Int)) % (2147483647 : Int)))) l13 := e13 ▸ A2.set rep_i j13 h_state
      have w14 : W F0 _ ((a_state, .lst (vs_state.set j13 (V.int (((t10 * (69621 : Int)) + (40692 : Int)) % (2147483647 : Int))))) :: os) := w0.set (pre := [])
      obtain ⟨t15, e15, hm⟩ := pb_get hm
      obtain ⟨u15, f15, r15⟩ := A2.at h13 e15
      obtain rfl : u15 = V.int t15 := r15
      obtain ⟨t16, e16, hm⟩ := pb_get hm
      obtain ⟨u16, f16, r16⟩ := A2.at h13 e16
      obtain rfl : u16 = V.int t16 := r16
      obtain ⟨c17, hm⟩ := pb_mul hm
      obtain ⟨c20, hm⟩ := pb_mod hm
      exact ⟨_, rfl, _, _, _, _, rfl, rfl, SqL.of (w14.get (pre := [])), f15, _, rfl, _, _, _, _, rfl, rfl, SqL.of (w14.get (pre := [])), f16, _, _, rfl, rfl, c17, _, _, rfl, rfl, (by show (0 : Int) < (2147483629 : Int); decide), _, _, rfl, rfl, (by constructor <;> decide), _, rfl, _, _, rfl, rfl, c20, (post_ok hm) _ _ _ _ w14 sF rep_i h13⟩
def sp_law_great (K : Fg) : Sp := fun vs H Q E => ∃ (F : Hp) (os : List (Addr × HO)) (a_state : Addr) (vs_state : List V) (x_state : (List Int)) (x_top : Int), vs = [.ref a_state, .int x_top] ∧ W F H ((a_state, .lst vs_state) :: os) ∧ A2 (rep K F) vs_state x_state ∧ Post (law_great x_state x_top) (RetM K F a_state os Q) noX
theorem sc_law_great : FnScope ["state", "top", "found", "k"] ["state", "top"] (defScope s_law_great) := ⟨rfl, rfl, rfl, by decide +kernel, rfl, by decide +kernel, by decide +kernel⟩
theorem ok_law_great (T : Tx K mg A FD) : FnOk P w K mg base CX0 2 (A 16) (FD 16) ["state", "top"] (sp_law_great K) := by
  refine T.d16.fn.ok sc_law_great (fun vs H Q E h => ?_) (fun cdv Ar outer s H vs Q E hr h => ?_)
  · obtain ⟨F, os, a_state, vs_state, x_state, x_top, rfl, _⟩ := h
    rfl
  · obtain ⟨F0, os, a_state, vs_state, x_state, x_top, rfl, w0, h_state, hm⟩ := h
    have sF : Same F0 F0 := Same.refl _
    refine ⟨_, (pss_cons (ps_set (i := 2) sc_law_great.nd rfl (Or.inl rfl) pe_int1) (pss_cons (ps_for PassesOwn.never rfl (pi_range1 (by rfl) T.n_range (pa_cons pe_int pa_nil)) (pg_name (i := 3) sc_law_great.nd rfl (Or.inl rfl)) (pss_one (ps_set (i := 2) sc_law_great.nd rfl (Or.inl rfl) (pe_op op_add (pe_op op_mul (pv 2) (pe_op op_pow pe_int pe_int)) (pe_call (ok_law_next T) (hr.mono (by decide)) (by rfl) T.d15.mg T.d15.fn.kp T.d15.b .nil pass0 (pa_cons (pv 0) (pa_cons (pe_op op_pow pe_int pe_int) pa_nil))))))) (pss_one (ps_ret (pe_op op_mod (pv 2) (pv 1)))))), ?_⟩
    refine ⟨trivial, _, rfl, (by decide), (by decide), ?_⟩
    refine forS (tw_rng0 (j := (9 : Int))) hm (fun (g2 : Int × (List Int)) σ H' => ∃ (F' : Hp) (vs2_0 : List V) (o2_3 : Option V), σ = [some (.ref a_state), some (.int x_top), some (.int g2.1), o2_3] ∧ Same F0 F' ∧ W F' H' ((a_state, .lst vs2_0) :: os) ∧ A2 (rep K F') vs2_0 g2.2) ⟨_, _, _, rfl, Same.refl _, w0, h_state⟩ (fun _ _ _ _ => trivial) ?_ ?_
    · -- a turn
      intro b2 g2 x2 σ2 H2 H2' N2 P2 hI hy hN2 hm
      obtain ⟨F2, vs2_0, o2_3, rfl, s2, w2, h2_0⟩ := hI
      replace sF := sF.trans s2
      obtain ⟨rfl, rfl⟩ := hy
      refine ⟨_, rfl, _, _, rfl, rfl, (by refine ⟨?_, ?_, ?_⟩ <;> decide), _, _, rfl, rfl, (.inr (by constructor <;> decide)), _, rfl, _, _, rfl, rfl, (by refine ⟨?_, ?_, ?_⟩ <;> decide), _, _, _, _, _, _, rfl, w2, h2_0, ?_⟩
      refine (post_bind hm).mono (fun y6 hm v6 vs6 F6 H6 w6 s6 r6 h6 => ?_) (fun _ z => z)
      replace sF := sF.trans s6
      obtain rfl : v6 = V.int y6.1 := r6
      exact ⟨_, _, rfl, rfl, hN2 _ (post_ok hm) _ _ ⟨_, _, _, rfl, (s2.trans s6), w6, h6⟩⟩
    intro g2 σ2 H2 hI hm
    obtain ⟨F2, vs2_0, o2_3, rfl, s2, w2, h2_0⟩ := hI
    replace sF := sF.trans s2
    obtain ⟨c7, hm⟩ := pb_mod hm
    exact ⟨_, rfl, _, rfl, _, _, rfl, rfl, c7, (post_ok hm) _ _ _ _ w2 sF rep_i h2_0⟩
def sp_law_looks (K : Fg) : Sp := fun vs H Q E => ∃ (F : Hp) (os : List (Addr × HO)) (a_state : Addr) (vs_state : List V) (x_state : (List Int)) (x_many : Int) (x_most : Int), vs = [.ref a_state, .int x_many, .int x_most] ∧ W F H ((a_state, .lst vs_state) :: os) ∧ A2 (rep K F) vs_state x_state ∧ Post (law_looks x_state x_many x_most) (RetLM K F a_state os Q) noX
theorem sc_law_looks : FnScope ["state", "many", "most", "found", "k", "place"] ["state", "many", "most"] (defScope s_law_looks) := ⟨rfl, rfl, rfl, by decide +kernel, rfl, by decide +kernel, by decide +kernel⟩
theorem ok_law_looks (T : Tx K mg A FD) : FnOk P w K mg base CX0 3 (A 17) (FD 17) ["state", "many", "most"] (sp_law_looks K) := by
  refine T.d17.fn.ok sc_law_looks (fun vs H Q E h => ?_) (fun cdv Ar outer s H vs Q E hr h => ?_)
  · obtain ⟨F, os, a_state, vs_state, x_state, x_many, x_most, rfl, _⟩ := h
    rfl
  · obtain ⟨F0, os, a_state, vs_state, x_state, x_many, x_most, rfl, w0, h_state, hm⟩ := h
    have sF : Same F0 F0 := Same.refl _
    refine ⟨_, (pss_cons (ps_set (i := 3) sc_law_looks.nd rfl (Or.inl rfl) (pe_lst pa_nil)) (pss_cons (ps_for PassesOwn.never rfl (pi_range1 (by rfl) T.n_range (pa_cons (pe_call (ok_law_next T) (hr.mono (by decide)) (by rfl) T.d15.mg T.d15.fn.kp T.d15.b .nil pass0 (pa_cons (pv 0) (pa_cons (pe_op op_add (pv 2) pe_int) pa_nil))) pa_nil)) (pg_name (i := 4) sc_law_looks.nd rfl (Or.inl rfl)) (pss_cons (ps_set (i := 5) sc_law_looks.nd rfl (Or.inl rfl) (pe_ix (ix_listK (K := K) rfl) (pe_lst (pa_cons pe_int (pa_cons (pe_op op_sub (pv 1) pe_int) (pa_cons pe_int (pa_cons (pe_op op_sub (pv 1) pe_int) (pa_cons (pe_op op_fdiv (pv 1) pe_int) (pa_cons (pe_call (ok_law_great T) (hr.mono (by decide)) (by rfl) T.d16.mg T.d16.fn.kp T.d16.b .nil pass0 (pa_cons (pv 0) (pa_cons (pv 1) pa_nil))) pa_nil))))))) (pe_callB (call_min2 rfl) (by rfl) T.n_min (by decide +kernel) (pa_cons pe_int (pa_cons (pe_call (ok_law_next T) (hr.mono (by decide)) (by rfl) T.d15.mg T.d15.fn.kp T.d15.b .nil pass0 (pa_cons (pv 0) (pa_cons pe_int pa_nil))) pa_nil))) (fun _ _ => rfl))) (pss_cons (ps_if (PW.pt (pw_and (pt_cmpR (op_neDt (K := K) rfl (List Int) (by decide) hr.units) (pv 3) (pe_lst pa_nil) (nomark _)) (pw_and1 (pt_cmp (pc_eqI (pe_call (ok_law_next T) (hr.mono (by decide)) (by rfl) T.d15.mg T.d15.fn.kp T.d15.b .nil pass0 (pa_cons (pv 0) (pa_cons pe_int pa_nil))) pe_int))))) (pss_one (ps_set (i := 5) sc_law_looks.nd rfl (Or.inl rfl) (pe_op op_sub (pe_op op_add (pe_op op_add (pe_ix (ix_listK (K := K) rfl) (pv 3) (pe_un un_neg pe_int) (fun _ _ => rfl)) (pe_op op_fdiv (pv 1) pe_int)) (pe_call (ok_law_next T) (hr.mono (by decide)) (by rfl) T.d15.mg T.d15.fn.kp T.d15.b .nil pass0 (pa_cons (pv 0) (pa_cons pe_int pa_nil)))) pe_int))) pss_nil) (pss_one (ps_if (pt_cmpR (op_notInL (K := K) rfl Int (by decide) (Room.units65 hr)) (pe_op op_mod (pv 5) (pv 1)) (pv 3) (by rfl)) (pss_one (ps_expr (pe_bm PySem.F.plainAttrs_list PySem.F.slot_list_append PySem.F.type_list_append mt_append (pv 3) (pa_cons (pe_op op_mod (pv 5) (pv 1)) pa_nil)))) pss_nil))))) (pss_one (ps_ret (pe_callB (cr_sortI (K := K) rfl) (by rfl) T.n_sorted (by decide +kernel) (pa_cons (pv 3) pa_nil)))))), ?_⟩
    have h2 : A2 (rep K F0) [] ([] : (List Int)) := .nil
    refine ⟨(by show 0 ≤ sizeLine; decide), fun p3 n3 => ?_⟩
    have w3 : W F0 _ ((p3, .lst []) :: (a_state, .lst vs_state) :: os) := w0.new n3
    have w5 : W F0 _ ((a_state, .lst vs_state) :: (p3, .lst []) :: os) := w3.front (pre := [_])
    refine ⟨_, rfl, _, rfl, _, _, rfl, rfl, _, _, _, _, _, _, rfl, w5, h_state, ?_⟩
    refine (post_bind hm).mono (fun y6 hm v6 vs6 F6 H6 w6 s6 r6 h6 => ?_) (fun _ z => z)
    replace h2 := A2.mono s6 h2
    replace sF := sF.trans s6
    obtain rfl : v6 = V.int y6.1 := r6
    obtain ⟨c7, hm⟩ := pb_rng hm
    refine ⟨_, rfl, c7.2.2.1, c7.2.2.2, ?_⟩
    refine forS (tw_rng0 (j := y6.1)) hm (fun (g4 : (List Int) × (List Int)) σ H' => ∃ (F' : Hp) (vs4_0 : List V) (vs4_1 : List V) (o4_5 : Option V) (o4_4 : Option V), σ = [some (.ref a_state), some (.int x_many), some (.int x_most), some (.ref p3), o4_4, o4_5] ∧ Same F6 F' ∧ W F' H' ((a_state, .lst vs4_0) :: (p3, .lst vs4_1) :: os) ∧ A2 (rep K F') vs4_0 g4.1 ∧ A2 (rep K F') vs4_1 g4.2) ⟨_, _, _, _, _, rfl, Same.refl _, w6, h6, h2⟩ (fun _ _ _ _ => trivial) ?_ ?_
    · -- a turn
      intro b4 g4 x4 σ4 H4 H4' N4 P4 hI hy hN4 hm
      obtain ⟨F4, vs4_0, vs4_1, o4_5, o4_4, rfl, s4, w4, h4_0, h4_1⟩ := hI
      replace sF := sF.trans s4
      obtain ⟨rfl, rfl⟩ := hy
      refine ⟨_, rfl, _, _, rfl, rfl, _, rfl, _, _, rfl, rfl, _, rfl, _, _, rfl, rfl, (by constructor <;> decide), _, rfl, _, rfl, _, _, _, _, _, _, rfl, w4, h4_0, ?_⟩
      refine (post_bind hm).mono (fun y9 hm v9 vs9 F9 H9 w9 s9 r9 h9 => ?_) (fun _ z => z)
      replace h4_1 := A2.mono s9 h4_1
      replace sF := sF.trans s9
      obtain rfl : v9 = V.int y9.1 := r9
      have h10 : A2 (rep K F9) [(.int 0), (.int (x_many - (1 : Int))), (.int 1), (.int (x_many - (2 : Int))), (.int (x_many / (2 : Int))), (.int y9.1)] ([(0 : Int), (x_many - (1 : Int)), (1 : Int), (x_many - (2 : Int)), (x_many / (2 : Int)), y9.1] : (List Int)) := .cons rep_i (.cons rep_i (.cons rep_i (.cons rep_i (.cons rep_i (.cons rep_i (.nil))))))
      refine ⟨(by show 6 ≤ sizeLine; decide), fun p11 n11 => ?_⟩
      have w11 : W F9 _ ((p11, .lst [(.int 0), (.int (x_many - (1 : Int))), (.int 1), (.int (x_many - (2 : Int))), (.int (x_many / (2 : Int))), (.int y9.1)]) :: (a_state, .lst vs9) :: (p3, .lst vs4_1) :: os) := w9.new n11
      have w12 : W F9 _ ((a_state, .lst vs9) :: (p11, .lst [(.int 0), (.int (x_many - (1 : Int))), (.int 1), (.int (x_many - (2 : Int))), (.int (x_many / (2 : Int))), (.int y9.1)]) :: (p3, .lst vs4_1) :: os) := w11.front (pre := [_])
      refine ⟨_, rfl, _, _, _, _, _, _, rfl, w12, h9, ?_⟩
      refine (post_bind hm).mono (fun y13 hm v13 vs13 F13 H13 w13 s13 r13 h13 => ?_) (fun _ z => z)
      replace h4_1 := A2.mono s13 h4_1
      replace h10 := A2.mono s13 h10
      replace sF := sF.trans s13
      obtain rfl : v13 = V.int y13.1 := r13
      obtain ⟨t14, e14, hm⟩ := pb_get hm
      obtain ⟨u14, f14, r14⟩ := A2.at h10 e14
      obtain rfl : u14 = V.int t14 := r14
      have w15 : W F13 _ ((a_state, .lst vs13) :: (p3, .lst vs4_1) :: os) := w13.drop (pre := [_])
      refine ⟨_, _, rfl, _, _, _, _, rfl, rfl, SqL.of (w13.get (pre := [_])), f14, ?_⟩
      refine stepN ?_
      try dsimp only
      refine joinS hm (fun (g16 : Int × (List Int)) σ H' => ∃ (F' : Hp) (vs16_0 : List V), σ = [some (.ref a_state), some (.int x_many), some (.int x_most), some (.ref p3), some (.int b4), some (.int g16.1)] ∧ Same F13 F' ∧ W F' H' ((a_state, .lst vs16_0) :: (p3, .lst vs4_1) :: os) ∧ A2 (rep K F') vs16_0 g16.2) ?_ ?_
      · intro N16 P16 hN16 hm
        refine stepIf ?_
        refine joinT hm (fun (j17 : Bool × (List Int)) c H' => c = j17.1 ∧ ∃ (F' : Hp) (vs17_0 : List V), Same F13 F' ∧ W F' H' ((a_state, .lst vs17_0) :: (p3, .lst vs4_1) :: os) ∧ A2 (rep K F') vs17_0 j17.2) ?_ ?_
        · intro Q17 P17 q17 hm
          have h18 : A2 (rep K F13) [] ([] : (List Int)) := .nil
          refine ⟨_, rfl, (by show 0 ≤ sizeLine; decide), fun p19 n19 => ?_⟩
          have w19 : W F13 _ ((p19, .lst []) :: (a_state, .lst vs13) :: (p3, .lst vs4_1) :: os) := w15.new n19
          refine ⟨(g4.2 : (List Int)), (([] : (List Int)) : (List Int)), (rep_own (pre := [_, _]) w19 h4_1), (rep_own (pre := []) w19 h18), _, rfl, ?_⟩
          refine post_ite hm (fun k20 hm => ?_) (fun k20 hm => ?_)
          · skip
            have w21 : W F13 _ ((a_state, .lst vs13) :: (p19, .lst []) :: (p3, .lst vs4_1) :: os) := w19.front (pre := [_])
            refine ⟨_, rfl, _, _, _, _, _, _, rfl, w21, h13, ?_⟩
            refine (post_bind hm).mono (fun y22 hm v22 vs22 F22 H22 w22 s22 r22 h22 => ?_) (fun _ z => z)
            replace h4_1 := A2.mono s22 h4_1
            replace h18 := A2.mono s22 h18
            replace sF := sF.trans s22
            obtain rfl : v22 = V.int y22.1 := r22
            have w24 : W F22 _ ((a_state, .lst vs22) :: (p3, .lst vs4_1) :: os) := w22.drop (pre := [_])
            exact ⟨_, _, rfl, rfl, _, rfl, q17 _ (post_ok hm) _ _ ⟨rfl, _, _, s22, w24, h22⟩⟩
          · skip
            have w26 : W F13 _ ((a_state, .lst vs13) :: (p3, .lst vs4_1) :: os) := w19.drop (pre := [])
            exact q17 _ (post_ok hm) _ _ ⟨rfl, _, _, Same.refl _, w26, h13⟩
        intro j17 c17 H17 hc17 hm
        obtain ⟨rfl, F17, vs17_0, s17, w17, h17_0⟩ := hc17
        replace h4_1 := A2.mono s17 h4_1
        replace sF := sF.trans s17
        refine post_ite hm (fun k27 hm => ?_) (fun k27 hm => ?_)
        · skip
          obtain ⟨t28, e28, hm⟩ := pb_get hm
          obtain ⟨u28, f28, r28⟩ := A2.at h4_1 e28
          obtain rfl : u28 = V.int t28 := r28
          refine ⟨_, rfl, _, rfl, _, _, _, _, rfl, rfl, SqL.of (w17.get (pre := [_])), f28, _, rfl, _, _, rfl, rfl, (by constructor <;> decide), _, _, rfl, rfl, _, rfl, _, _, _, _, _, _, rfl, w17, h17_0, ?_⟩
          refine (post_bind hm).mono (fun y30 hm v30 vs30 F30 H30 w30 s30 r30 h30 => ?_) (fun _ z => z)
          replace h4_1 := A2.mono s30 h4_1
          replace sF := sF.trans s30
          obtain rfl : v30 = V.int y30.1 := r30
          exact ⟨_, _, rfl, rfl, _, _, rfl, rfl, hN16 _ (post_ok hm) _ _ ⟨_, _, rfl, (s17.trans s30), w30, h30⟩⟩
        · skip
          exact hN16 _ (post_ok hm) _ _ ⟨_, _, rfl, s17, w17, h17_0⟩
      intro g16 σ16 H16 hI hm
      obtain ⟨F16, vs16_0, rfl, s16, w16, h16_0⟩ := hI
      replace h4_1 := A2.mono s16 h4_1
      replace sF := sF.trans s16
      obtain ⟨c31, hm⟩ := pb_mod hm
      refine ⟨_, rfl, _, rfl, _, _, rfl, rfl, c31, _, rfl, ((g16.1 % x_many) : Int), _, rep_i, (rep_own (pre := [_]) w16 h4_1), _, rfl, ?_⟩
      refine post_ite hm (fun k32 hm => ?_) (fun k32 hm => ?_)
      · skip
        obtain ⟨c33, hm⟩ := pb_mod hm
        obtain ⟨l34, z34, e34, hm⟩ := pn_app hm
        refine ⟨_, rfl, .inl ⟨rfl, _, SqL.of (w16.get (pre := [_]))⟩, _, rfl, _, rfl, _, _, rfl, rfl, c33, _, _, _, rfl, rfl, (w16.get (pre := [_])), (A2.lt h4_1 z34), ?_⟩
        have h34 : A2 (rep K F16) (vs4_1 ++ [(V.int (g16.1 % x_many))]) l34 := e34 ▸ A2.snoc h4_1 rep_i
        have w35 : W F16 _ ((a_state, .lst vs16_0) :: (p3, .lst (vs4_1 ++ [(V.int (g16.1 % x_many))])) :: os) := w16.set (pre := [_])
        exact hN4 _ (post_ok hm) _ _ ⟨_, _, _, _, _, rfl, (s4.trans (s9.trans (s13.trans s16))), w35, h16_0, h34⟩
      · skip
        exact hN4 _ (post_ok hm) _ _ ⟨_, _, _, _, _, rfl, (s4.trans (s9.trans (s13.trans s16))), w16, h16_0, h4_1⟩
    intro g4 σ4 H4 hI hm
    obtain ⟨F4, vs4_0, vs4_1, o4_5, o4_4, rfl, s4, w4, h4_0, h4_1⟩ := hI
    replace sF := sF.trans s4
    have h36 : A2 (rep K F4) ((sortI g4.2).map V.int) (sortI g4.2) := A2.of_ints
    refine ⟨_, rfl, _, _, rfl, ints_q (SqL.of (w4.get (pre := [_]))) h4_1, fun p37 n37 => ?_⟩
    have w37 : W F4 _ ((p37, .lst ((sortI g4.2).map V.int)) :: (a_state, .lst vs4_0) :: (p3, .lst vs4_1) :: os) := w4.new n37
    have w38 : W F4 _ ((p37, .lst ((sortI g4.2).map V.int)) :: (a_state, .lst vs4_0) :: os) := w37.drop (pre := [_, _])
    exact (post_ok hm) _ _ _ _ _ w38 sF h36 h4_0
def sp_law_far (K : Fg) : Sp := fun vs H Q E => ∃ (F : Hp) (os : List (Addr × HO)) (x_many : Int) (x_one : Int) (x_other : Int), vs = [.int x_many, .int x_one, .int x_other] ∧ W F H (os) ∧ Post (law_far x_many x_one x_other) (Ret K F os Q) noX
theorem sc_law_far : FnScope ["many", "one", "other", "on"] ["many", "one", "other"] (defScope s_law_far) := ⟨rfl, rfl, rfl, by decide +kernel, rfl, by decide +kernel, by decide +kernel⟩
theorem ok_law_far (T : Tx K mg A FD) : FnOk P w K mg base CX0 1 (A 18) (FD 18) ["many", "one", "other"] (sp_law_far K) := by
  refine T.d18.fn.ok sc_law_far (fun vs H Q E h => ?_) (fun cdv Ar outer s H vs Q E hr h => ?_)
  · obtain ⟨F, os, x_many, x_one, x_other, rfl, _⟩ := h
    rfl
  · obtain ⟨F0, os, x_many, x_one, x_other, rfl, w0, hm⟩ := h
    have sF : Same F0 F0 := Same.refl _
    refine ⟨_, (pss_cons (ps_set (i := 3) sc_law_far.nd rfl (Or.inl rfl) (pe_op op_mod (pe_op op_sub (pv 2) (pv 1)) (pv 0))) (pss_one (ps_ret (pe_callB (call_min2 rfl) (by rfl) T.n_min (by decide +kernel) (pa_cons (pv 3) (pa_cons (pe_op op_sub (pv 0) (pv 3)) pa_nil)))))), ?_⟩
    obtain ⟨c1, hm⟩ := pb_mod hm
    exact ⟨_, rfl, _, rfl, _, _, rfl, rfl, _, rfl, _, _, rfl, rfl, c1, _, rfl, _, rfl, _, rfl, _, _, rfl, rfl, _, _, rfl, (post_ok hm) _ _ _ w0 sF rep_i⟩
def sp_law_code (K : Fg) : Sp := fun vs H Q E => ∃ (F : Hp) (os : List (Addr × HO)) (x_many : Int) (v_looks : V) (x_looks : (List Int)) (x_thing : Int) (x_kind : Str), vs = [.int x_many, v_looks, .int x_thing, .str x_kind] ∧ W F H (os) ∧ rep K F v_looks x_looks ∧ Post (law_code x_many x_looks x_thing x_kind) (Ret K F os Q) noX
theorem sc_law_code : FnScope ["many", "looks", "thing", "kind", "found", "look", "one"] ["many", "looks", "thing", "kind"] (defScope s_law_code) := ⟨rfl, rfl, rfl, by decide +kernel, rfl, by decide +kernel, by decide +kernel⟩
theorem ok_law_code (T : Tx K mg A FD) : FnOk P w K mg base CX0 2 (A 19) (FD 19) ["many", "looks", "thing", "kind"] (sp_law_code K) := by
  refine T.d19.fn.ok sc_law_code (fun vs H Q E h => ?_) (fun cdv Ar outer s H vs Q E hr h => ?_)
  · obtain ⟨F, os, x_many, v_looks, x_looks, x_thing, x_kind, rfl, _⟩ := h
    rfl
  · obtain ⟨F0, os, x_many, v_looks, x_looks, x_thing, x_kind, rfl, w0, r_looks, hm⟩ := h
    have sF : Same F0 F0 := Same.refl _
    obtain ⟨a1, vs1, rfl, q1, h1⟩ := r_looks
    refine ⟨_, (pss_cons (ps_setLc (i := 4) (own := [("look", 5)]) (g := gName 5) (by rfl) sc_law_code.nd rfl rfl (sw_true rfl rfl rfl (by decide +kernel)) (pi_listK (K := K) rfl (pv 1)) (blkOk_by (own := [("look", 5)]) (N := ["many", "looks", "thing", "kind", "found", "look", "one"]) (sc := defScope s_law_code) (by decide +kernel)) (fun _ _ _ _ _ => (pg_name (i := 5) sc_law_code.nd rfl (Or.inl rfl))) (fun _ _ _ _ _ => pts_nil) (fun _ _ _ _ _ => (pe_call (ok_law_far T) (hr.mono (by decide)) (by rfl) T.d18.mg T.d18.fn.kp T.d18.b .nil pass0 (pa_cons (pv 0) (pa_cons (pv 5) (pa_cons (pv 2) pa_nil)))))) (pss_cons (ps_if (pt_cmpR op_eqS (pv 3) pe_str (nomark _)) (pss_one (ps_setLc (i := 4) (own := [("one", 6), ("look", 5)]) (g := _) (by rfl) sc_law_code.nd rfl rfl (sw_true rfl rfl rfl (by decide +kernel)) (pi_k (K := K) (wi := fun K => iZip K _) rfl (pi_zip (by rfl) T.n_zip (pa_cons (pv 4) (pa_cons (pv 1) pa_nil)))) (blkOk_by (own := [("one", 6), ("look", 5)]) (N := ["many", "looks", "thing", "kind", "found", "look", "one"]) (sc := defScope s_law_code) (by decide +kernel)) (fun _ _ _ _ _ => (pg_k (K := K) (t := fun K => gTup K 2 _) rfl (pg_tup (n := 2) rfl (pgs_cons (pg_name (i := 6) sc_law_code.nd rfl (Or.inl rfl)) (pgs_cons (pg_name (i := 5) sc_law_code.nd rfl (Or.inl rfl)) pgs_nil))))) (fun _ _ _ _ _ => pts_nil) (fun _ _ _ _ _ => (pe_callB (call_min2 rfl) (by rfl) T.n_min (by decide +kernel) (pa_cons (pv 6) (pa_cons (pe_call (ok_law_far T) (hr.mono (by decide)) (by rfl) T.d18.mg T.d18.fn.kp T.d18.b .nil pass0 (pa_cons (pv 0) (pa_cons (pv 5) (pa_cons (pe_op op_add (pv 2) pe_int) pa_nil)))) pa_nil)))))) pss_nil) (pss_one (ps_ret (pv 4))))), ?_⟩
    refine ⟨_, rfl, _, rfl, ⟨_, SqL.of (w0.same _ _ q1)⟩, fun D2 nD2 => ?_⟩
    refine lcM (K := K) (tw_list (a := a1) h1) hm w0 nD2 (fun F' H' acc s w => SqL.of (w.same _ _ (s _ _ q1))) ?_ ?_
    · -- one turn
      intro b2 x2 F2 H2 H2' acc2 N2 P2 s2 w2 y2 hN2 hm
      replace q1 := s2 _ _ q1
      replace h1 := A2.mono s2 h1
      replace sF := sF.trans s2
      obtain ⟨rfl, r4⟩ := y2
      obtain rfl : x2 = V.int b2 := r4
      refine ⟨rfl, _, rfl, _, rfl, _, rfl, _, _, _, _, _, rfl, w2, ?_⟩
      refine (post_bind hm).mono (fun y5 hm v5 F5 H5 w5 s5 r5 => ?_) (fun _ z => z)
      replace q1 := s5 _ _ q1
      replace h1 := A2.mono s5 h1
      replace sF := sF.trans s5
      obtain rfl : v5 = V.int y5 := r5
      exact hN2 _ (post_ok hm) _ _ _ w5 s5 rep_i
    intro us2 F2 H2 ys2 s2 w2 gg2 hm
    replace q1 := s2 _ _ q1
    replace h1 := A2.mono s2 h1
    replace sF := sF.trans s2
    obtain ⟨F7, s7, w7, q7⟩ : ∃ F', Same F2 F' ∧ W F' _ (os) ∧ F' D2 = some (.lst us2) := w2.freezeE (pre := [])
    replace q1 := s7 _ _ q1
    replace h1 := A2.mono s7 h1
    replace gg2 := A2.mono s7 gg2
    replace sF := sF.trans s7
    refine stepN ?_
    try dsimp only
    refine joinS hm (fun (g8 : (List Int)) σ H' => ∃ (F' : Hp) (v8_4 : V), σ = [some (.int x_many), some (.ref a1), some (.int x_thing), some (.str x_kind), some v8_4, none, none] ∧ Same F7 F' ∧ W F' H' (os) ∧ rep K F' v8_4 (g8 : (List Int))) ?_ ?_
    · intro N8 P8 hN8 hm
      refine ⟨_, rfl, _, _, rfl, rfl, _, rfl, ?_⟩
      refine post_ite hm (fun k9 hm => ?_) (fun k9 hm => ?_)
      · skip
        refine ⟨_, rfl, _, rfl, _, _, _, _, rfl, SqL.of (w7.same _ _ q7), SqL.of (w7.same _ _ q1), fun D10 nD10 => ?_⟩
        refine lcM (K := K) (tw_zip (a := D2) (b := a1) gg2 h1) hm w7 nD10 (fun F' H' acc s w => ⟨SqL.of (w.same _ _ (s _ _ q7)), SqL.of (w.same _ _ (s _ _ q1))⟩) ?_ ?_
        · -- one turn
          intro b10 x10 F10 H10 H10' acc10 N10 P10 s10 w10 y10 hN10 hm
          replace h1 := A2.mono s10 h1
          replace q1 := s10 _ _ q1
          replace gg2 := A2.mono s10 gg2
          replace q7 := s10 _ _ q7
          replace sF := sF.trans s10
          obtain ⟨T12, z12, u12, rfl, n12, rfl, r12a, r12b⟩ := y10
          obtain ⟨F12, s12, w12, q12⟩ := w10.frzE (o := .tup [z12, u12]) n12
          replace r12a := Rep.mono s10 r12a
          replace r12b := Rep.mono s10 r12b
          replace h1 := A2.mono s12 h1
          replace q1 := s12 _ _ q1
          replace gg2 := A2.mono s12 gg2
          replace q7 := s12 _ _ q7
          replace sF := sF.trans s12
          replace r12a := Rep.mono s12 r12a
          replace r12b := Rep.mono s12 r12b
          obtain rfl : z12 = V.int b10.1 := r12a
          obtain rfl : u12 = V.int b10.2 := r12b
          refine ⟨_, _, rfl, SqT.of (w12.same _ _ q12), rfl, _, _, rfl, _, _, rfl, rfl, rfl, _, rfl, _, rfl, _, rfl, _, rfl, _, _, rfl, rfl, _, _, _, _, _, rfl, w12, ?_⟩
          refine (post_bind hm).mono (fun y13 hm v13 F13 H13 w13 s13 r13 => ?_) (fun _ z => z)
          replace h1 := A2.mono s13 h1
          replace q1 := s13 _ _ q1
          replace gg2 := A2.mono s13 gg2
          replace q7 := s13 _ _ q7
          replace q12 := s13 _ _ q12
          replace sF := sF.trans s13
          obtain rfl : v13 = V.int y13 := r13
          exact ⟨_, _, rfl, hN10 _ (post_ok hm) _ _ _ w13 (s12.trans s13) rep_i⟩
        intro us10 F10 H10 ys10 s10 w10 gg10 hm
        replace h1 := A2.mono s10 h1
        replace q1 := s10 _ _ q1
        replace gg2 := A2.mono s10 gg2
        replace q7 := s10 _ _ q7
        replace sF := sF.trans s10
        obtain ⟨F15, s15, w15, q15⟩ : ∃ F', Same F10 F' ∧ W F' _ (os) ∧ F' D10 = some (.lst us10) := w10.freezeE (pre := [])
        replace h1 := A2.mono s15 h1
        replace q1 := s15 _ _ q1
        replace gg2 := A2.mono s15 gg2
        replace q7 := s15 _ _ q7
        replace gg10 := A2.mono s15 gg10
        replace sF := sF.trans s15
        exact hN8 _ (post_ok hm) _ _ ⟨_, _, rfl, (s10.trans s15), w15, (rep_lst q15 gg10)⟩
      · skip
        exact hN8 _ (post_ok hm) _ _ ⟨_, _, rfl, Same.refl _, w7, (rep_lst q7 gg2)⟩
    intro g8 σ8 H8 hI hm
    obtain ⟨F8, v8_4, rfl, s8, w8, r8_4⟩ := hI
    replace h1 := A2.mono s8 h1
    replace q1 := s8 _ _ q1
    replace gg2 := A2.mono s8 gg2
    replace q7 := s8 _ _ q7
    replace sF := sF.trans s8
    obtain ⟨a16, vs16, rfl, q16, h16⟩ := r8_4
    exact ⟨_, rfl, (post_ok hm) _ _ _ w8 sF (rep_lst q16 h16)⟩
def sp_law_having (K : Fg) : Sp := fun vs H Q E => ∃ (F : Hp) (os : List (Addr × HO)) (x_many : Int) (v_looks : V) (x_looks : (List Int)) (v_told : V) (x_told : (List Int)) (x_kind : Str), vs = [.int x_many, v_looks, v_told, .str x_kind] ∧ W F H (os) ∧ rep K F v_looks x_looks ∧ rep K F v_told x_told ∧ Post (law_having x_many x_looks x_told x_kind) (Ret K F os Q) noX
theorem sc_law_having : FnScope ["many", "looks", "told", "kind", "some", "last", "thing"] ["many", "looks", "told", "kind"] (defScope s_law_having) := ⟨rfl, rfl, rfl, by decide +kernel, rfl, by decide +kernel, by decide +kernel⟩
theorem ok_law_having (T : Tx K mg A FD) : FnOk P w K mg base CX0 3 (A 20) (FD 20) ["many", "looks", "told", "kind"] (sp_law_having K) := by
  refine T.d20.fn.ok sc_law_having (fun vs H Q E h => ?_) (fun cdv Ar outer s H vs Q E hr h => ?_)
  · obtain ⟨F, os, x_many, v_looks, x_looks, v_told, x_told, x_kind, rfl, _⟩ := h
    rfl
  · obtain ⟨F0, os, x_many, v_looks, x_looks, v_told, x_told, x_kind, rfl, w0, r_looks, r_told, hm⟩ := h
    have sF : Same F0 F0 := Same.refl _
    obtain ⟨a1, vs1, rfl, q1, h1⟩ := r_looks
    obtain ⟨a2, vs2, rfl, q2, h2⟩ := r_told
    refine ⟨_, (pss_cons (ps_set (i := 4) sc_law_having.nd rfl (Or.inl rfl) (pe_listRg rfl (by rfl) T.n_list (prg_1 (by rfl) T.n_range (pe_callB (call_min2 rfl) (by rfl) T.n_min (by decide +kernel) (pa_cons (pv 0) (pa_cons pe_int pa_nil)))))) (pss_cons (ps_if (pt_cmp (pc_gt (pv 0) pe_int)) (pss_cons (ps_set (i := 5) sc_law_having.nd rfl (Or.inl rfl) (pe_ix (ix_listK (K := K) rfl) (pv 1) (pe_un un_neg pe_int) (fun _ _ => rfl))) (pss_one (ps_set (i := 4) sc_law_having.nd rfl (Or.inl rfl) (pe_lst (pa_cons (pe_op op_add (pv 5) (pe_ix (ix_listK (K := K) rfl) (pv 2) (pe_un un_neg pe_int) (fun _ _ => rfl))) (pa_cons (pe_op op_sub (pv 5) (pe_ix (ix_listK (K := K) rfl) (pv 2) (pe_un un_neg pe_int) (fun _ _ => rfl))) (pa_cons (pe_op op_sub (pe_op op_sub (pv 5) (pe_ix (ix_listK (K := K) rfl) (pv 2) (pe_un un_neg pe_int) (fun _ _ => rfl))) pe_int) pa_nil))))))) pss_nil) (pss_cons (ps_set (i := 4) sc_law_having.nd rfl (Or.inl rfl) (pe_callB (cr_sortSet (w := w) rfl rfl) (by rfl) T.n_sorted (by decide +kernel) (pa_cons (pe_callTy (cr_setLI (K := K) (w := w) rfl rfl rfl) (by rfl) T.n_set (by decide +kernel) (pa_cons (pe_lc (own := [("thing", 6)]) (g := gName 6) (by rfl) sc_law_having.nd (pi_listK (K := K) rfl (pv 4)) (blkOk_by (own := [("thing", 6)]) (N := ["many", "looks", "told", "kind", "some", "last", "thing"]) (sc := defScope s_law_having) (by decide +kernel)) (fun _ _ _ _ _ => (pg_name (i := 6) sc_law_having.nd rfl (Or.inl rfl))) (fun _ _ _ _ _ => pts_nil) (fun _ _ _ _ _ => (pe_op op_mod (pv 6) (pv 0)))) pa_nil)) pa_nil))) (pss_one (ps_ret (pe_lc (own := [("thing", 6)]) (g := gName 6) (by rfl) sc_law_having.nd (pi_listK (K := K) rfl (pv 4)) (blkOk_by (own := [("thing", 6)]) (N := ["many", "looks", "told", "kind", "some", "last", "thing"]) (sc := defScope s_law_having) (by decide +kernel)) (fun _ _ _ _ _ => (pg_name (i := 6) sc_law_having.nd rfl (Or.inl rfl))) (fun _ _ _ _ _ => (pts_one (pt_cmpR (op_eqDt (K := K) rfl (List Int) (by decide) hr.units) (pe_call (ok_law_code T) (hr.mono (by decide)) (by rfl) T.d19.mg T.d19.fn.kp T.d19.b .nil pass0 (pa_cons (pv 0) (pa_cons (pv 1) (pa_cons (pv 6) (pa_cons (pv 3) pa_nil))))) (pv 2) (nomark _)))) (fun _ _ _ _ _ => (pv 6)))))))), ?_⟩
    obtain ⟨l3, z3, e3, hm⟩ := pb_lrng hm
    have h3 : A2 (rep K F0) (rgV 0 (min2 x_many (12 : Int))) l3 := by rw [e3, rgV_eq]; exact A2.of_ints
    refine ⟨_, rfl, _, _, rfl, _, rfl, z3, fun p4 n4 => ?_⟩
    have w4 : W F0 _ ((p4, .lst (rgV 0 (min2 x_many (12 : Int)))) :: os) := w0.new n4
    obtain ⟨F5, s5, w5, q5⟩ : ∃ F', Same F0 F' ∧ W F' _ (os) ∧ F' p4 = some (.lst (rgV 0 (min2 x_many (12 : Int)))) := w4.freezeE (pre := [])
    replace q1 := s5 _ _ q1
    replace h1 := A2.mono s5 h1
    replace q2 := s5 _ _ q2
    replace h2 := A2.mono s5 h2
    replace h3 := A2.mono s5 h3
    replace sF := sF.trans s5
    refine stepN ?_
    try dsimp only
    refine joinS hm (fun (g6 : (List Int)) σ H' => ∃ (F' : Hp) (v6_4 : V) (o6_5 : Option V), σ = [some (.int x_many), some (.ref a1), some (.ref a2), some (.str x_kind), some v6_4, o6_5, none] ∧ Same F5 F' ∧ W F' H' (os) ∧ rep K F' v6_4 (g6 : (List Int))) ?_ ?_
    · intro N6 P6 hN6 hm
      refine ⟨_, rfl, _, _, rfl, rfl, _, rfl, ?_⟩
      refine post_ite hm (fun k7 hm => ?_) (fun k7 hm => ?_)
      · skip
        obtain ⟨t8, e8, hm⟩ := pb_get hm
        obtain ⟨u8, f8, r8⟩ := A2.at h1 e8
        obtain rfl : u8 = V.int t8 := r8
        obtain ⟨t9, e9, hm⟩ := pb_get hm
        obtain ⟨u9, f9, r9⟩ := A2.at h2 e9
        obtain rfl : u9 = V.int t9 := r9
        obtain ⟨t10, e10, hm⟩ := pb_get hm
        obtain ⟨u10, f10, r10⟩ := A2.at h2 e10
        obtain rfl : u10 = V.int t10 := r10
        obtain ⟨t11, e11, hm⟩ := pb_get hm
        obtain ⟨u11, f11, r11⟩ := A2.at h2 e11
        obtain rfl : u11 = V.int t11 := r11
        have h12 : A2 (rep K F5) [(.int (t8 + t9)), (.int (t8 - t10)), (.int ((t8 - t11) - (1 : Int)))] ([(t8 + t9), (t8 - t10), ((t8 - t11) - (1 : Int))] : (List Int)) := .cons rep_i (.cons rep_i (.cons rep_i (.nil)))
        refine ⟨_, rfl, _, rfl, _, _, _, _, rfl, rfl, SqL.of (w5.same _ _ q1), f8, _, rfl, _, rfl, _, rfl, _, _, _, _, rfl, rfl, SqL.of (w5.same _ _ q2), f9, _, _, rfl, rfl, _, rfl, _, rfl, _, rfl, _, _, _, _, rfl, rfl, SqL.of (w5.same _ _ q2), f10, _, _, rfl, rfl, _, rfl, _, rfl, _, rfl, _, _, _, _, rfl, rfl, SqL.of (w5.same _ _ q2), f11, _, _, rfl, rfl, _, _, rfl, rfl, (by show 3 ≤ sizeLine; decide), fun p13 n13 => ?_⟩
        have w13 : W F5 _ ((p13, .lst [(.int (t8 + t9)), (.int (t8 - t10)), (.int ((t8 - t11) - (1 : Int)))]) :: os) := w5.new n13
        obtain ⟨F14, s14, w14, q14⟩ : ∃ F', Same F5 F' ∧ W F' _ (os) ∧ F' p13 = some (.lst [(.int (t8 + t9)), (.int (t8 - t10)), (.int ((t8 - t11) - (1 : Int)))]) := w13.freezeE (pre := [])
        replace h1 := A2.mono s14 h1
        replace q1 := s14 _ _ q1
        replace h2 := A2.mono s14 h2
        replace q2 := s14 _ _ q2
        replace h3 := A2.mono s14 h3
        replace q5 := s14 _ _ q5
        replace h12 := A2.mono s14 h12
        replace sF := sF.trans s14
        exact hN6 _ (post_ok hm) _ _ ⟨_, _, _, rfl, s14, w14, (rep_lst q14 h12)⟩
      · skip
        exact hN6 _ (post_ok hm) _ _ ⟨_, _, _, rfl, Same.refl _, w5, (rep_lst q5 h3)⟩
    intro g6 σ6 H6 hI hm
    obtain ⟨F6, v6_4, o6_5, rfl, s6, w6, r6_4⟩ := hI
    replace h1 := A2.mono s6 h1
    replace q1 := s6 _ _ q1
    replace h2 := A2.mono s6 h2
    replace q2 := s6 _ _ q2
    replace h3 := A2.mono s6 h3
    replace q5 := s6 _ _ q5
    replace sF := sF.trans s6
    obtain ⟨a15, vs15, rfl, q15, h15⟩ := r6_4
    refine ⟨_, rfl, _, rfl, ⟨_, SqL.of (w6.same _ _ q15)⟩, fun D16 nD16 => ?_⟩
    refine lcM (K := K) (tw_list (a := a15) h15) hm w6 nD16 (fun F' H' acc s w => SqL.of (w.same _ _ (s _ _ q15))) ?_ ?_
    · -- one turn
      intro b16 x16 F16 H16 H16' acc16 N16 P16 s16 w16 y16 hN16 hm
      replace h1 := A2.mono s16 h1
      replace q1 := s16 _ _ q1
      replace h2 := A2.mono s16 h2
      replace q2 := s16 _ _ q2
      replace h15 := A2.mono s16 h15
      replace q15 := s16 _ _ q15
      replace sF := sF.trans s16
      obtain ⟨rfl, r18⟩ := y16
      obtain rfl : x16 = V.int b16 := r18
      obtain ⟨c19, hm⟩ := pb_mod hm
      exact ⟨rfl, _, rfl, _, rfl, _, _, rfl, rfl, c19, hN16 _ (post_ok hm) _ _ _ w16 (Same.refl _) rep_i⟩
    intro us16 F16 H16 ys16 s16 w16 gg16 hm
    replace h1 := A2.mono s16 h1
    replace q1 := s16 _ _ q1
    replace h2 := A2.mono s16 h2
    replace q2 := s16 _ _ q2
    replace h15 := A2.mono s16 h15
    replace q15 := s16 _ _ q15
    replace sF := sF.trans s16
    obtain ⟨l21, c21, e21, hm⟩ := pb_ss hm
    refine ⟨_, _, rfl, ints_q (SqL.of (w16.get (pre := []))) gg16, c21.1, fun p21 n21 => ?_⟩
    obtain ⟨F21, s21, w21, q21⟩ := w16.frzE (o := SetO w p21 (fun j => decide (j ∈ ys16)) (nub ys16).length) n21
    replace h1 := A2.mono s21 h1
    replace q1 := s21 _ _ q1
    replace h2 := A2.mono s21 h2
    replace q2 := s21 _ _ q2
    replace h15 := A2.mono s21 h15
    replace q15 := s21 _ _ q15
    replace gg16 := A2.mono s21 gg16
    replace sF := sF.trans s21
    refine ⟨_, _, _, rfl, w21.same _ _ q21, c21.2, fun ns22 p22 u22 i22 j22 n22 => ?_⟩
    obtain rfl : ns22 = l21 := (ssI_uniq u22 i22).trans e21.symm
    have h22 : A2 (rep K F21) (ns22.map V.int) ns22 := A2.of_ints
    have w22 : W F21 _ ((p22, .lst (ns22.map V.int)) :: (D16, .lst us16) :: os) := w21.new n22
    obtain ⟨F23, s23, w23, q23⟩ : ∃ F', Same F21 F' ∧ W F' _ ((D16, .lst us16) :: os) ∧ F' p22 = some (.lst (ns22.map V.int)) := w22.freezeE (pre := [])
    replace h1 := A2.mono s23 h1
    replace q1 := s23 _ _ q1
    replace h2 := A2.mono s23 h2
    replace q2 := s23 _ _ q2
    replace h15 := A2.mono s23 h15
    replace q15 := s23 _ _ q15
    replace gg16 := A2.mono s23 gg16
    replace h22 := A2.mono s23 h22
    replace sF := sF.trans s23
    have w24 : W F23 _ (os) := w23.drop (pre := [])
    refine ⟨_, rfl, _, rfl, ⟨_, SqL.of (w24.same _ _ q23)⟩, fun D25 nD25 => ?_⟩
    refine lcF (K := K) (tw_list (a := p22) h22) hm w24 nD25 (fun F' H' acc s w => SqL.of (w.same _ _ (s _ _ q23))) ?_ ?_
    · -- one turn
      intro b25 x25 F25 H25 H25' acc25 N25 M25 P25 s25 w25 y25 hN25 hM25 hm
      replace h1 := A2.mono s25 h1
      replace q1 := s25 _ _ q1
      replace h2 := A2.mono s25 h2
      replace q2 := s25 _ _ q2
      replace h22 := A2.mono s25 h22
      replace q23 := s25 _ _ q23
      replace sF := sF.trans s25
      obtain ⟨rfl, r27⟩ := y25
      obtain rfl : x25 = V.int b25 := r27
      refine ⟨rfl, _, rfl, _, rfl, _, rfl, _, rfl, _, _, _, _, (x_looks : (List Int)), _, _, rfl, w25, (rep_lst q1 h1), ?_⟩
      refine (post_bind hm).mono (fun y28 hm v28 F28 H28 w28 s28 r28 => ?_) (fun _ z => z)
      replace h1 := A2.mono s28 h1
      replace q1 := s28 _ _ q1
      replace h2 := A2.mono s28 h2
      replace q2 := s28 _ _ q2
      replace h22 := A2.mono s28 h22
      replace q23 := s28 _ _ q23
      replace sF := sF.trans s28
      obtain ⟨a29, vs29, rfl, q29, h29⟩ := r28
      refine ⟨_, rfl, (y28 : (List Int)), (x_told : (List Int)), (Rep.mono w28.same (rep_lst q29 h29)), (Rep.mono w28.same (rep_lst q2 h2)), _, rfl, ?_⟩
      refine post_ite hm (fun k30 hm => ?_) (fun k30 hm => ?_)
      · skip
        exact ⟨_, rfl, hN25 _ (post_ok hm) _ _ _ w28 s28 rep_i⟩
      · skip
        exact hM25 (post_ok hm) _ _ w28 s28
    intro us25 F25 H25 ys25 s25 w25 gg25 hm
    replace h1 := A2.mono s25 h1
    replace q1 := s25 _ _ q1
    replace h2 := A2.mono s25 h2
    replace q2 := s25 _ _ q2
    replace h22 := A2.mono s25 h22
    replace q23 := s25 _ _ q23
    replace sF := sF.trans s25
    obtain ⟨F32, s32, w32, q32⟩ : ∃ F', Same F25 F' ∧ W F' _ (os) ∧ F' D25 = some (.lst us25) := w25.freezeE (pre := [])
    replace h1 := A2.mono s32 h1
    replace q1 := s32 _ _ q1
    replace h2 := A2.mono s32 h2
    replace q2 := s32 _ _ q2
    replace h22 := A2.mono s32 h22
    replace q23 := s32 _ _ q23
    replace gg25 := A2.mono s32 gg25
    replace sF := sF.trans s32
    exact (post_ok hm) _ _ _ w32 sF (rep_lst q32 gg25)
def sp_law_other (K : Fg) : Sp := fun vs H Q E => ∃ (F : Hp) (os : List (Addr × HO)) (a_state : Addr) (vs_state : List V) (x_state : (List Int)) (v_told : V) (x_told : (List Int)), vs = [.ref a_state, v_told] ∧ W F H ((a_state, .lst vs_state) :: os) ∧ A2 (rep K F) vs_state x_state ∧ rep K F v_told x_told ∧ Post (law_other x_state x_told) (RetM K F a_state os Q) noX
theorem sc_law_other : FnScope ["state", "told", "at", "way", "some"] ["state", "told"] (defScope s_law_other) := ⟨rfl, rfl, rfl, by decide +kernel, rfl, by decide +kernel, by decide +kernel⟩
theorem ok_law_other (T : Tx K mg A FD) : FnOk P w K mg base CX0 3 (A 21) (FD 21) ["state", "told"] (sp_law_other K) := by
  refine T.d21.fn.ok sc_law_other (fun vs H Q E h => ?_) (fun cdv Ar outer s H vs Q E hr h => ?_)
  · obtain ⟨F, os, a_state, vs_state, x_state, v_told, x_told, rfl, _⟩ := h
    rfl
  · obtain ⟨F0, os, a_state, vs_state, x_state, v_told, x_told, rfl, w0, h_state, r_told, hm⟩ := h
    have sF : Same F0 F0 := Same.refl _
    obtain ⟨a2, vs2, rfl, q2, h2⟩ := r_told
    refine ⟨_, (pss_cons (ps_set (i := 2) sc_law_other.nd rfl (Or.inl rfl) (pe_call (ok_law_next T) (hr.mono (by decide)) (by rfl) T.d15.mg T.d15.fn.kp T.d15.b .nil pass0 (pa_cons (pv 0) (pa_cons (pe_callB (call_lenN (K := K) rfl) (by rfl) T.n_len (by decide +kernel) (pa_cons (pv 1) pa_nil)) pa_nil)))) (pss_cons (ps_set (i := 3) sc_law_other.nd rfl (Or.inl rfl) (pe_call (ok_law_next T) (hr.mono (by decide)) (by rfl) T.d15.mg T.d15.fn.kp T.d15.b .nil pass0 (pa_cons (pv 0) (pa_cons pe_int pa_nil)))) (pss_cons (ps_set (i := 4) sc_law_other.nd rfl (Or.inl rfl) (pe_lst (pa_cons pe_int (pa_cons pe_int (pa_cons (pe_op op_sub pe_int pe_int) (pa_cons pe_int (pa_cons (pe_op op_sub (pe_call (ok_law_great T) (hr.mono (by decide)) (by rfl) T.d16.mg T.d16.fn.kp T.d16.b .nil pass0 (pa_cons (pv 0) (pa_cons (pe_op op_pow pe_int pe_int) pa_nil))) (pe_ix (ix_listK (K := K) rfl) (pv 1) (pv 2) (fun _ _ => rfl))) pa_nil))))))) (pss_one (ps_ret (pe_op op_cat (pe_op op_cat (pe_slice (sl_listK (K := K) rfl) (pv 1) po_none (po_some (pv 2))) (pe_lst (pa_cons (pe_op op_add (pe_ix (ix_listK (K := K) rfl) (pv 1) (pv 2) (fun _ _ => rfl)) (pe_ix (ix_listK (K := K) rfl) (pv 4) (pv 3) (fun _ _ => rfl))) pa_nil))) (pe_slice (sl_listK (K := K) rfl) (pv 1) (po_some (pe_op op_add (pv 2) pe_int)) po_none))))))), ?_⟩
    refine ⟨_, rfl, _, rfl, _, _, _, rfl, .inl (SqL.of (w0.same _ _ q2)), h2.length, _, _, _, _, _, _, rfl, w0, h_state, ?_⟩
    refine (post_bind hm).mono (fun y3 hm v3 vs3 F3 H3 w3 s3 r3 h3 => ?_) (fun _ z => z)
    replace q2 := s3 _ _ q2
    replace h2 := A2.mono s3 h2
    replace sF := sF.trans s3
    obtain rfl : v3 = V.int y3.1 := r3
    refine ⟨_, rfl, _, _, _, _, _, _, rfl, w3, h3, ?_⟩
    refine (post_bind hm).mono (fun y4 hm v4 vs4 F4 H4 w4 s4 r4 h4 => ?_) (fun _ z => z)
    replace h2 := A2.mono s4 h2
    replace q2 := s4 _ _ q2
    replace sF := sF.trans s4
    obtain rfl : v4 = V.int y4.1 := r4
    refine ⟨_, _, rfl, rfl, _, rfl, _, _, rfl, rfl, (by refine ⟨?_, ?_, ?_⟩ <;> decide), _, _, _, _, _, _, rfl, w4, h4, ?_⟩
    refine (post_bind hm).mono (fun y6 hm v6 vs6 F6 H6 w6 s6 r6 h6 => ?_) (fun _ z => z)
    replace h2 := A2.mono s6 h2
    replace q2 := s6 _ _ q2
    replace sF := sF.trans s6
    obtain rfl : v6 = V.int y6.1 := r6
    obtain ⟨t7, e7, hm⟩ := pb_get hm
    obtain ⟨u7, f7, r7⟩ := A2.at h2 e7
    obtain rfl : u7 = V.int t7 := r7
    have h8 : A2 (rep K F6) [(.int 0), (.int 1), (.int ((0 : Int) - (1 : Int))), (.int 2), (.int (y6.1 - t7))] ([(0 : Int), (1 : Int), ((0 : Int) - (1 : Int)), (2 : Int), (y6.1 - t7)] : (List Int)) := .cons rep_i (.cons rep_i (.cons rep_i (.cons rep_i (.cons rep_i (.nil)))))
    refine ⟨_, rfl, _, rfl, _, _, _, _, rfl, rfl, SqL.of (w6.same _ _ q2), f7, _, _, rfl, rfl, (by show 5 ≤ sizeLine; decide), fun p9 n9 => ?_⟩
    have w9 : W F6 _ ((p9, .lst [(.int 0), (.int 1), (.int ((0 : Int) - (1 : Int))), (.int 2), (.int (y6.1 - t7))]) :: (a_state, .lst vs6) :: os) := w6.new n9
    obtain ⟨F10, s10, w10, q10⟩ : ∃ F', Same F6 F' ∧ W F' _ ((a_state, .lst vs6) :: os) ∧ F' p9 = some (.lst [(.int 0), (.int 1), (.int ((0 : Int) - (1 : Int))), (.int 2), (.int (y6.1 - t7))]) := w9.freezeE (pre := [])
    replace h2 := A2.mono s10 h2
    replace q2 := s10 _ _ q2
    replace h6 := A2.mono s10 h6
    replace h8 := A2.mono s10 h8
    replace sF := sF.trans s10
    have h11 : A2 (rep K F10) (cutV vs2 none (some y3.1)) (cutL x_told none (some y3.1)) := sl_cut h2 _ _
    refine ⟨_, rfl, _, rfl, _, rfl, _, _, rfl, SqL.of (w10.same _ _ q2), fun p12 n12 => ?_⟩
    have w12 : W F10 _ ((p12, .lst (cutV vs2 none (some y3.1))) :: (a_state, .lst vs6) :: os) := w10.new n12
    obtain ⟨t13, e13, hm⟩ := pb_get hm
    obtain ⟨u13, f13, r13⟩ := A2.at h2 e13
    obtain rfl : u13 = V.int t13 := r13
    obtain ⟨t14, e14, hm⟩ := pb_get hm
    obtain ⟨u14, f14, r14⟩ := A2.at h8 e14
    obtain rfl : u14 = V.int t14 := r14
    have h15 : A2 (rep K F10) [(.int (t13 + t14))] ([(t13 + t14)] : (List Int)) := .cons rep_i (.nil)
    refine ⟨_, rfl, _, rfl, _, _, _, _, rfl, rfl, SqL.of (w12.same _ _ q2), f13, _, rfl, _, rfl, _, _, _, _, rfl, rfl, SqL.of (w12.same _ _ q10), f14, _, _, rfl, rfl, (by show 1 ≤ sizeLine; decide), fun p16 n16 => ?_⟩
    have w16 : W F10 _ ((p16, .lst [(.int (t13 + t14))]) :: (p12, .lst (cutV vs2 none (some y3.1))) :: (a_state, .lst vs6) :: os) := w12.new n16
    obtain ⟨l17, z17, e17, hm⟩ := pn_extend hm
    have h17 : A2 (rep K F10) ((cutV vs2 none (some y3.1)) ++ [(.int (t13 + t14))]) l17 := e17 ▸ A2.append h11 h15
    refine ⟨_, _, _, _, rfl, rfl, (w16.get (pre := [_])), (w16.get (pre := [])), (A2.le2 h11 h15 z17), fun p18 n18 => ?_⟩
    have w18 : W F10 _ ((p18, .lst ((cutV vs2 none (some y3.1)) ++ [(.int (t13 + t14))])) :: (p16, .lst [(.int (t13 + t14))]) :: (p12, .lst (cutV vs2 none (some y3.1))) :: (a_state, .lst vs6) :: os) := w16.new n18
    have h19 : A2 (rep K F10) (cutV vs2 (some (y3.1 + (1 : Int))) none) (cutL x_told (some (y3.1 + (1 : Int))) none) := sl_cut h2 _ _
    refine ⟨_, rfl, _, rfl, _, _, rfl, rfl, _, rfl, _, _, rfl, SqL.of (w18.same _ _ q2), fun p20 n20 => ?_⟩
    have w20 : W F10 _ ((p20, .lst (cutV vs2 (some (y3.1 + (1 : Int))) none)) :: (p18, .lst ((cutV vs2 none (some y3.1)) ++ [(.int (t13 + t14))])) :: (p16, .lst [(.int (t13 + t14))]) :: (p12, .lst (cutV vs2 none (some y3.1))) :: (a_state, .lst vs6) :: os) := w18.new n20
    obtain ⟨l21, z21, e21, hm⟩ := pn_extend hm
    have h21 : A2 (rep K F10) (((cutV vs2 none (some y3.1)) ++ [(.int (t13 + t14))]) ++ (cutV vs2 (some (y3.1 + (1 : Int))) none)) l21 := e21 ▸ A2.append h17 h19
    refine ⟨_, _, _, _, rfl, rfl, (w20.get (pre := [_])), (w20.get (pre := [])), (A2.le2 h17 h19 z21), fun p22 n22 => ?_⟩
    have w22 : W F10 _ ((p22, .lst (((cutV vs2 none (some y3.1)) ++ [(.int (t13 + t14))]) ++ (cutV vs2 (some (y3.1 + (1 : Int))) none))) :: (p20, .lst (cutV vs2 (some (y3.1 + (1 : Int))) none)) :: (p18, .lst ((cutV vs2 none (some y3.1)) ++ [(.int (t13 + t14))])) :: (p16, .lst [(.int (t13 + t14))]) :: (p12, .lst (cutV vs2 none (some y3.1))) :: (a_state, .lst vs6) :: os) := w20.new n22
    obtain ⟨F23, s23, w23, q23⟩ : ∃ F', Same F10 F' ∧ W F' _ ((p20, .lst (cutV vs2 (some (y3.1 + (1 : Int))) none)) :: (p18, .lst ((cutV vs2 none (some y3.1)) ++ [(.int (t13 + t14))])) :: (p16, .lst [(.int (t13 + t14))]) :: (p12, .lst (cutV vs2 none (some y3.1))) :: (a_state, .lst vs6) :: os) ∧ F' p22 = some (.lst (((cutV vs2 none (some y3.1)) ++ [(.int (t13 + t14))]) ++ (cutV vs2 (some (y3.1 + (1 : Int))) none))) := w22.freezeE (pre := [])
    replace h2 := A2.mono s23 h2
    replace q2 := s23 _ _ q2
    replace h8 := A2.mono s23 h8
    replace q10 := s23 _ _ q10
    replace h6 := A2.mono s23 h6
    replace h11 := A2.mono s23 h11
    replace h15 := A2.mono s23 h15
    replace h17 := A2.mono s23 h17
    replace h19 := A2.mono s23 h19
    replace h21 := A2.mono s23 h21
    replace sF := sF.trans s23
    have w24 : W F23 _ ((p18, .lst ((cutV vs2 none (some y3.1)) ++ [(.int (t13 + t14))])) :: (p16, .lst [(.int (t13 + t14))]) :: (p12, .lst (cutV vs2 none (some y3.1))) :: (a_state, .lst vs6) :: os) := w23.drop (pre := [])
    have w25 : W F23 _ ((p16, .lst [(.int (t13 + t14))]) :: (p12, .lst (cutV vs2 none (some y3.1))) :: (a_state, .lst vs6) :: os) := w24.drop (pre := [])
    have w26 : W F23 _ ((p12, .lst (cutV vs2 none (some y3.1))) :: (a_state, .lst vs6) :: os) := w25.drop (pre := [])
    have w27 : W F23 _ ((a_state, .lst vs6) :: os) := w26.drop (pre := [])
    exact (post_ok hm) _ _ _ _ w27 sF (rep_lst q23 h21) h6
def sp_law_told (K : Fg) : Sp := fun vs H Q E => ∃ (F : Hp) (os : List (Addr × HO)) (x_way : Int) (v_args : V) (x_args : (Nt (Int × (List Int) × (List Int) × Unit))), vs = [.int x_way, v_args] ∧ W F H (os) ∧ rep K F v_args x_args ∧ Post (law_told x_way x_args) (Ret K F os Q) noX
theorem two_ring_placeX_ring_tieX {K : Fg} {t : Int} {vs : List V} {H : Hp} {Q : VK} {E : XK} (h : ∃ (F : Hp) (os : List (Addr × HO)) (x_many : Int) (v_looks : V) (x_looks : (List Int)) (v_told : V) (x_told : (List Int)), vs = [.int x_many, v_looks, v_told] ∧ W F H (os) ∧ rep K F v_looks x_looks ∧ rep K F v_told x_told ∧ Post (if t = 0 then ring_placeX x_many x_looks x_told else ring_tieX x_many x_looks x_told) (Ret K F os Q) (RetX K F os E)) : (if t = 0 then sp_ring_placeX K else sp_ring_tieX K) vs H Q E := by
  by_cases c : t = 0
  · rw [if_pos c]
    simp only [if_pos c] at h
    exact h
  · rw [if_neg c]
    simp only [if_neg c] at h
    exact h
theorem held_ring_placeX_ring_tieX (T : Tx K mg A FD) : ∀ f sp, (∃ t : Int, f = (if t = 0 then A 8 else A 9) ∧ sp = (if t = 0 then sp_ring_placeX K else sp_ring_tieX K)) → HeldX P w K mg base (L2.CX P w) 3 f sp := by
  rintro f sp ⟨t, rfl, rfl⟩
  by_cases c : t = 0
  · rw [if_pos c, if_pos c]
    exact ⟨_, _, _, ok_ring_placeX T, by decide, T.d8.fn.kp, T.d8.b⟩
  · rw [if_neg c, if_neg c]
    exact ⟨_, _, _, ok_ring_tieX T, by decide, T.d9.fn.kp, T.d9.b⟩
theorem sc_law_told : FnScope ["way", "args", "caught", "found", "e"] ["way", "args"] (defScope s_law_told) := ⟨rfl, rfl, rfl, by decide +kernel, rfl, by decide +kernel, by decide +kernel⟩
theorem ok_law_told (T : Tx K mg A FD) : FnOk P w K mg base CX0 4 (A 22) (FD 22) ["way", "args"] (sp_law_told K) := by
  refine T.d22.fn.ok sc_law_told (fun vs H Q E h => ?_) (fun cdv Ar outer s H vs Q E hr h => ?_)
  · obtain ⟨F, os, x_way, v_args, x_args, rfl, _⟩ := h
    rfl
  · obtain ⟨F0, os, x_way, v_args, x_args, rfl, w0, r_args, hm⟩ := h
    have sF : Same F0 F0 := Same.refl _
    obtain ⟨a1, u1_0, u1_1, u1_2, rfl, q1, r1_0, r1_1, r1_2⟩ := nt3 r_args
    replace r1_0 : rep K F0 u1_0 (x_args.v.1 : Int) := r1_0
    obtain rfl : u1_0 = V.int x_args.v.1 := r1_0
    replace r1_1 : rep K F0 u1_1 (x_args.v.2.1 : (List Int)) := r1_1
    obtain ⟨a2, vs2, rfl, q2, h2⟩ := r1_1
    replace r1_2 : rep K F0 u1_2 (x_args.v.2.2.1 : (List Int)) := r1_2
    obtain ⟨a3, vs3, rfl, q3, h3⟩ := r1_2
    refine ⟨_, (pss_cons (ps_set (i := 2) sc_law_told.nd rfl (Or.inl rfl) pe_non1) (pss_cons (ps_set (i := 3) sc_law_told.nd rfl (Or.inl rfl) pe_non1) (pss_cons (ps_try_hold (i := 4) rfl rfl rfl sc_law_told.nd rfl rfl ⟨rfl, by decide, .inl T.g_HailError⟩ takes0 (fun W pn xe tk _ => (pss_one (ps_if (pt_cmp (pc_eqI (pv 0) pe_int)) (pss_one ps_absurd) (pss_one (ps_set (i := 3) sc_law_told.nd rfl (Or.inl rfl) (pe_callE (held_ring_placeX_ring_tieX T) (hr.mono (by decide)) (pe_ix (ix_listK (K := K) rfl) (pe_lst (pa_cons (pe_glob (v := .ref (A 8)) (by rfl) T.d8.mg rfl) (pa_cons (pe_glob (v := .ref (A 9)) (by rfl) T.d9.mg rfl) pa_nil))) (pv 0) (fun _ _ => rfl)) (fun σ => passAt tk σ) (pa_cons (pe_ix (ix_tupK (K := K) rfl) (pv 1) pe_int (fun _ _ => rfl)) (pa_cons (pe_ix (ix_tupK (K := K) rfl) (pv 1) pe_int (fun _ _ => rfl)) (pa_cons (pe_ix (ix_tupK (K := K) rfl) (pv 1) pe_int (fun _ _ => rfl)) pa_nil))))))))) (fun _ _ _ _ => (pss_one (ps_set (i := 2) sc_law_told.nd rfl (Or.inl rfl) (pv 4))))) (pss_cons (ps_if (pt_cmpR op_isN2 (pv 2) pe_non (nomark _)) (pss_one (ps_ret (pv 3))) pss_nil) (pss_cons (ps_if (PW.pt (pw_or (pt_not (pt_val (pe_callB (call_isHK (K := K) rfl) (by rfl) T.n_isinstance (by decide +kernel) (pa_cons (pv 2) (pa_cons (pe_glob (v := .ref (A 3)) (by rfl) T.g_NoCode rfl) pa_nil))))) (pw_or (pt_not (pt_val (pe_callB (call_isHK (K := K) rfl) (by rfl) T.n_isinstance (by decide +kernel) (pa_cons (pv 2) (pa_cons (pe_bltn (v := .ty "ValueError") (by rfl) T.n_ValueError (by decide +kernel) rfl) pa_nil))))) (pw_or1 (pt_val (pe_callB (call_isHK (K := K) rfl) (by rfl) T.n_isinstance (by decide +kernel) (pa_cons (pv 2) (pa_cons (pe_glob (v := .ref (A 2)) (by rfl) T.g_NoLooks rfl) pa_nil)))))))) (pss_one (ps_ret pe_str)) pss_nil) (pss_one (ps_ret pe_str))))))), ?_⟩
    have r4 : rep K F0 .non (none : (Option Int)) := rep_none
    refine ⟨trivial, trivial, ?_⟩
    refine stepN ?_
    try dsimp only
    refine joinS hm (fun (g5 : (Option Exn) × (Option Int)) σ H' => ∃ (F' : Hp) (v5_2 : V) (v5_3 : V), σ = [some (.int x_way), some (.ref a1), some v5_2, some v5_3, none] ∧ Same F0 F' ∧ W F' H' (os) ∧ rep K F' v5_2 (g5.1 : (Option Exn)) ∧ rep K F' v5_3 (g5.2 : (Option Int))) ?_ ?_
    · intro N5 P5 hN5 hm
      replace hm := post_tryWith hm
      refine ⟨_, rfl, _, _, rfl, rfl, _, rfl, ?_⟩
      refine post_ite hm (fun k6 hm => ?_) (fun k6 hm => ?_)
      · skip
        try dsimp only
        exact hm
      · skip
        refine ⟨(by show 2 ≤ sizeLine; decide), fun p7 n7 => ?_⟩
        obtain ⟨F7, s7, w7, q7⟩ := w0.frzE (o := .lst [V.ref (A 8), V.ref (A 9)]) n7
        replace q1 := s7 _ _ q1
        replace h2 := A2.mono s7 h2
        replace q2 := s7 _ _ q2
        replace h3 := A2.mono s7 h3
        replace q3 := s7 _ _ q3
        replace r4 := Rep.mono s7 r4
        replace sF := sF.trans s7
        obtain ⟨t7, e7, hm⟩ := pb_get hm
        obtain ⟨u7, f7, r7⟩ := A2.at (two_rel (A 8) (A 9)) e7
        obtain rfl : u7 = V.ref (if t7 = 0 then A 8 else A 9) := r7
        refine ⟨_, rfl, _, _, _, _, rfl, rfl, SqL.of (w7.same _ _ q7), f7, _, _, rfl, ⟨t7, rfl, rfl⟩, _, rfl, _, _, _, _, rfl, rfl, SqT.of (w7.same _ _ q1), rfl, _, rfl, _, _, _, _, rfl, rfl, SqT.of (w7.same _ _ q1), rfl, _, rfl, _, _, _, _, rfl, rfl, SqT.of (w7.same _ _ q1), rfl, ?_⟩
        refine two_ring_placeX_ring_tieX (t := t7) ?_
        refine ⟨_, _, _, _, (x_args.v.2.1 : (List Int)), _, (x_args.v.2.2.1 : (List Int)), rfl, w7, (rep_lst q2 h2), (rep_lst q3 h3), ?_⟩
        refine (post_bind hm).mono (fun y8 hm v8 F8 H8 w8 s8 r8 => ?_) (fun e z C Fe He nC w s => ?_)
        rotate_left 1
        · skip
          obtain ⟨em, hm⟩ := z
          refine ⟨true, T.exm em nC, fun _ => ⟨rfl, fun a na => ?_⟩, fun z => nomatch z⟩
          refine ⟨_, rfl, ?_⟩
          refine stepN ?_
          intro na2
          obtain ⟨FX, sX, wX, qX⟩ := w.frzE (o := ExH (.ref C) a) na
          replace q1 := s _ _ q1
          replace h2 := A2.mono s h2
          replace q2 := s _ _ q2
          replace h3 := A2.mono s h3
          replace q3 := s _ _ q3
          replace r4 := Rep.mono s r4
          replace q7 := s _ _ q7
          replace sF := sF.trans s
          replace q1 := sX _ _ q1
          replace h2 := A2.mono sX h2
          replace q2 := sX _ _ q2
          replace h3 := A2.mono sX h3
          replace q3 := sX _ _ q3
          replace r4 := Rep.mono sX r4
          replace q7 := sX _ _ q7
          replace sF := sF.trans sX
          exact hN5 _ (post_ok hm) _ _ ⟨_, _, _, rfl, (s7.trans (s.trans sX)), wX, (⟨a, C, rfl, nC, qX⟩ : rep K FX (.ref a) (some e)), r4⟩
        replace q1 := s8 _ _ q1
        replace h2 := A2.mono s8 h2
        replace q2 := s8 _ _ q2
        replace h3 := A2.mono s8 h3
        replace q3 := s8 _ _ q3
        replace r4 := Rep.mono s8 r4
        replace q7 := s8 _ _ q7
        replace sF := sF.trans s8
        obtain rfl : v8 = V.int y8 := r8
        have r9 : rep K F8 (.int y8) ((some y8) : (Option Int)) := (rep_some rep_i)
        exact hN5 _ (post_ok hm) _ _ ⟨_, _, _, rfl, (s7.trans s8), w8, rep_none, r9⟩
    intro g5 σ5 H5 hI hm
    obtain ⟨F5, v5_2, v5_3, rfl, s5, w5, r5_2, r5_3⟩ := hI
    replace q1 := s5 _ _ q1
    replace h2 := A2.mono s5 h2
    replace q2 := s5 _ _ q2
    replace h3 := A2.mono s5 h3
    replace q3 := s5 _ _ q3
    replace r4 := Rep.mono s5 r4
    replace sF := sF.trans s5
    refine ⟨_, rfl, rfl, _, isN_eq r5_2, _, rfl, ?_⟩
    refine post_ite hm (fun k12 hm => ?_) (fun k12 hm => ?_)
    · skip
      obtain ⟨t13, e13, hm⟩ := pb_ofO hm
      have r13 : rep K F5 v5_3 (some t13) := e13 ▸ r5_3
      replace r13 : v5_3 = V.int t13 := r13
      subst r13
      exact ⟨_, rfl, (post_ok hm) _ _ _ w5 sF rep_ioI⟩
    · skip
      refine stepX ?_
      try dsimp only
      refine stepSeq (stepIf ?_)
      refine joinT hm (fun (j14 : Bool) c H' => c = j14 ∧ ∃ (F' : Hp), Same F5 F' ∧ W F' H' (os)) ?_ ?_
      · intro Q14 P14 q14 hm
        obtain ⟨t15, e15, hm⟩ := pb_ofO hm
        obtain ⟨a15, C15, k15, n15, q15⟩ : rep K F5 v5_2 t15 := (e15 ▸ r5_2 : rep K F5 v5_2 (some t15))
        subst k15
        obtain ⟨m15, hm⟩ := pb_isC hm
        refine ⟨_, rfl, _, T.exc m15 n15, _, _, _, rfl, (w5.same _ _ q15), .inl ⟨.ref (A 3), fun _ h => h, T.ki0 m15 n15⟩, _, rfl, ?_⟩
        refine post_ite hm (fun k16 hm => ?_) (fun k16 hm => ?_)
        · skip
          exact q14 _ (post_ok hm) _ _ ⟨rfl, _, Same.refl _, w5⟩
        · skip
          obtain ⟨m18, hm⟩ := pb_isC hm
          refine ⟨_, rfl, _, T.exc m18 n15, _, _, _, rfl, (w5.same _ _ q15), .inl ⟨.type "ValueError", fun _ h => h, T.ki1 m18 n15⟩, _, rfl, ?_⟩
          refine post_ite hm (fun k19 hm => ?_) (fun k19 hm => ?_)
          · skip
            exact q14 _ (post_ok hm) _ _ ⟨rfl, _, Same.refl _, w5⟩
          · skip
            obtain ⟨m21, hm⟩ := pb_isC hm
            exact ⟨_, rfl, _, T.exc m21 n15, _, _, _, rfl, (w5.same _ _ q15), .inl ⟨.ref (A 2), fun _ h => h, T.ki2 m21 n15⟩, _, rfl, q14 _ (post_ok hm) _ _ ⟨rfl, _, Same.refl _, w5⟩⟩
      intro j14 c14 H14 hc14 hm
      obtain ⟨rfl, F14, s14, w14⟩ := hc14
      replace q1 := s14 _ _ q1
      replace h2 := A2.mono s14 h2
      replace q2 := s14 _ _ q2
      replace h3 := A2.mono s14 h3
      replace q3 := s14 _ _ q3
      replace r5_2 := Rep.mono s14 r5_2
      replace r5_3 := Rep.mono s14 r5_3
      replace sF := sF.trans s14
      refine post_ite hm (fun k23 hm => ?_) (fun k23 hm => ?_)
      · skip
        exact (post_ok hm) _ _ _ w14 sF rep_ioS
      · skip
        exact (post_ok hm) _ _ _ w14 sF rep_ioS
def sp_law_toldgrid (K : Fg) : Sp := fun vs H Q E => ∃ (F : Hp) (os : List (Addr × HO)) (x_way : Int) (v_args : V) (x_args : (Nt (Int × Int × (Tup Int) × (Tup Int) × (List Int) × Unit))), vs = [.int x_way, v_args] ∧ W F H (os) ∧ rep K F v_args x_args ∧ Post (law_toldgrid x_way x_args) (Ret K F os Q) noX
theorem ok_law_toldgrid (T : Tx K mg A FD) : FnOk P w K mg base CX0 3 (A 22) (FD 22) ["way", "args"] (sp_law_toldgrid K) := by
  refine T.d22.fn.ok sc_law_told (fun vs H Q E h => ?_) (fun cdv Ar outer s H vs Q E hr h => ?_)
  · obtain ⟨F, os, x_way, v_args, x_args, rfl, _⟩ := h
    rfl
  · obtain ⟨F0, os, x_way, v_args, x_args, rfl, w0, r_args, hm⟩ := h
    have sF : Same F0 F0 := Same.refl _
    obtain ⟨a1, u1_0, u1_1, u1_2, u1_3, u1_4, rfl, q1, r1_0, r1_1, r1_2, r1_3, r1_4⟩ := nt5 r_args
    replace r1_0 : rep K F0 u1_0 (x_args.v.1 : Int) := r1_0
    obtain rfl : u1_0 = V.int x_args.v.1 := r1_0
    replace r1_1 : rep K F0 u1_1 (x_args.v.2.1 : Int) := r1_1
    obtain rfl : u1_1 = V.int x_args.v.2.1 := r1_1
    replace r1_2 : rep K F0 u1_2 (x_args.v.2.2.1 : (Tup Int)) := r1_2
    obtain ⟨a2, vs2, rfl, q2, h2⟩ := r1_2
    replace r1_3 : rep K F0 u1_3 (x_args.v.2.2.2.1 : (Tup Int)) := r1_3
    obtain ⟨a3, vs3, rfl, q3, h3⟩ := r1_3
    replace r1_4 : rep K F0 u1_4 (x_args.v.2.2.2.2.1 : (List Int)) := r1_4
    obtain ⟨a4, vs4, rfl, q4, h4⟩ := r1_4
    refine ⟨_, (pss_cons (ps_set (i := 2) sc_law_told.nd rfl (Or.inl rfl) pe_non1) (pss_cons (ps_set (i := 3) sc_law_told.nd rfl (Or.inl rfl) pe_non1) (pss_cons (ps_try_hold (i := 4) rfl rfl rfl sc_law_told.nd rfl rfl ⟨rfl, by decide, .inl T.g_HailError⟩ takes0 (fun W pn xe tk _ => (pss_one (ps_if (pt_cmp (pc_eqI (pv 0) pe_int)) (pss_one (ps_set (i := 3) sc_law_told.nd rfl (Or.inl rfl) (pe_callS (ok_grid_placeX T) (hr.mono (by decide)) (by rfl) T.d10.mg T.d10.fn.kp T.d10.b (fun σ => passAt tk σ) (pa_cons (pe_ix (ix_tupK (K := K) rfl) (pv 1) pe_int (fun _ _ => rfl)) (pa_cons (pe_ix (ix_tupK (K := K) rfl) (pv 1) pe_int (fun _ _ => rfl)) (pa_cons (pe_ix (ix_tupK (K := K) rfl) (pv 1) pe_int (fun _ _ => rfl)) (pa_cons (pe_ix (ix_tupK (K := K) rfl) (pv 1) pe_int (fun _ _ => rfl)) (pa_cons (pe_ix (ix_tupK (K := K) rfl) (pv 1) pe_int (fun _ _ => rfl)) pa_nil)))))))) (pss_one ps_absurd)))) (fun _ _ _ _ => (pss_one (ps_set (i := 2) sc_law_told.nd rfl (Or.inl rfl) (pv 4))))) (pss_cons (ps_if (pt_cmpR op_isN2 (pv 2) pe_non (nomark _)) (pss_one (ps_ret (pv 3))) pss_nil) (pss_cons (ps_if (PW.pt (pw_or (pt_not (pt_val (pe_callB (call_isHK (K := K) rfl) (by rfl) T.n_isinstance (by decide +kernel) (pa_cons (pv 2) (pa_cons (pe_glob (v := .ref (A 3)) (by rfl) T.g_NoCode rfl) pa_nil))))) (pw_or (pt_not (pt_val (pe_callB (call_isHK (K := K) rfl) (by rfl) T.n_isinstance (by decide +kernel) (pa_cons (pv 2) (pa_cons (pe_bltn (v := .ty "ValueError") (by rfl) T.n_ValueError (by decide +kernel) rfl) pa_nil))))) (pw_or1 (pt_val (pe_callB (call_isHK (K := K) rfl) (by rfl) T.n_isinstance (by decide +kernel) (pa_cons (pv 2) (pa_cons (pe_glob (v := .ref (A 2)) (by rfl) T.g_NoLooks rfl) pa_nil)))))))) (pss_one (ps_ret pe_str)) pss_nil) (pss_one (ps_ret pe_str))))))), ?_⟩
    have r5 : rep K F0 .non (none : (Option (Tup Int))) := rep_none
    refine ⟨trivial, trivial, ?_⟩
    refine stepN ?_
    try dsimp only
    refine joinS hm (fun (g6 : (Option Exn) × (Option (Tup Int))) σ H' => ∃ (F' : Hp) (v6_2 : V) (v6_3 : V), σ = [some (.int x_way), some (.ref a1), some v6_2, some v6_3, none] ∧ Same F0 F' ∧ W F' H' (os) ∧ rep K F' v6_2 (g6.1 : (Option Exn)) ∧ rep K F' v6_3 (g6.2 : (Option (Tup Int)))) ?_ ?_
    · intro N6 P6 hN6 hm
      replace hm := post_tryWith hm
      refine ⟨_, rfl, _, _, rfl, rfl, _, rfl, ?_⟩
      refine post_ite hm (fun k7 hm => ?_) (fun k7 hm => ?_)
      · skip
        refine ⟨_, rfl, _, _, _, _, rfl, rfl, SqT.of (w0.same _ _ q1), rfl, _, rfl, _, _, _, _, rfl, rfl, SqT.of (w0.same _ _ q1), rfl, _, rfl, _, _, _, _, rfl, rfl, SqT.of (w0.same _ _ q1), rfl, _, rfl, _, _, _, _, rfl, rfl, SqT.of (w0.same _ _ q1), rfl, _, rfl, _, _, _, _, rfl, rfl, SqT.of (w0.same _ _ q1), rfl, _, _, _, _, _, (x_args.v.2.2.1 : (Tup Int)), _, (x_args.v.2.2.2.1 : (Tup Int)), _, (x_args.v.2.2.2.2.1 : (List Int)), rfl, w0, (rep_tup q2 h2), (rep_tup q3 h3), (rep_lst q4 h4), ?_⟩
        refine (post_bind hm).mono (fun y8 hm v8 F8 H8 w8 s8 r8 => ?_) (fun e z C Fe He nC w s => ?_)
        rotate_left 1
        · skip
          obtain ⟨em, hm⟩ := z
          refine ⟨true, T.exm em nC, fun _ => ⟨rfl, fun a na => ?_⟩, fun z => nomatch z⟩
          refine ⟨_, rfl, ?_⟩
          refine stepN ?_
          intro na2
          obtain ⟨FX, sX, wX, qX⟩ := w.frzE (o := ExH (.ref C) a) na
          replace q1 := s _ _ q1
          replace h2 := A2.mono s h2
          replace q2 := s _ _ q2
          replace h3 := A2.mono s h3
          replace q3 := s _ _ q3
          replace h4 := A2.mono s h4
          replace q4 := s _ _ q4
          replace r5 := Rep.mono s r5
          replace sF := sF.trans s
          replace q1 := sX _ _ q1
          replace h2 := A2.mono sX h2
          replace q2 := sX _ _ q2
          replace h3 := A2.mono sX h3
          replace q3 := sX _ _ q3
          replace h4 := A2.mono sX h4
          replace q4 := sX _ _ q4
          replace r5 := Rep.mono sX r5
          replace sF := sF.trans sX
          exact hN6 _ (post_ok hm) _ _ ⟨_, _, _, rfl, (s.trans sX), wX, (⟨a, C, rfl, nC, qX⟩ : rep K FX (.ref a) (some e)), r5⟩
        replace q1 := s8 _ _ q1
        replace h2 := A2.mono s8 h2
        replace q2 := s8 _ _ q2
        replace h3 := A2.mono s8 h3
        replace q3 := s8 _ _ q3
        replace h4 := A2.mono s8 h4
        replace q4 := s8 _ _ q4
        replace r5 := Rep.mono s8 r5
        replace sF := sF.trans s8
        obtain ⟨a9, vs9, rfl, q9, h9⟩ := r8
        have r10 : rep K F8 (.ref a9) ((some y8) : (Option (Tup Int))) := (rep_some (rep_tup q9 h9))
        exact hN6 _ (post_ok hm) _ _ ⟨_, _, _, rfl, s8, w8, rep_none, r10⟩
      · skip
        try dsimp only
        exact hm
    intro g6 σ6 H6 hI hm
    obtain ⟨F6, v6_2, v6_3, rfl, s6, w6, r6_2, r6_3⟩ := hI
    replace q1 := s6 _ _ q1
    replace h2 := A2.mono s6 h2
    replace q2 := s6 _ _ q2
    replace h3 := A2.mono s6 h3
    replace q3 := s6 _ _ q3
    replace h4 := A2.mono s6 h4
    replace q4 := s6 _ _ q4
    replace r5 := Rep.mono s6 r5
    replace sF := sF.trans s6
    refine ⟨_, rfl, rfl, _, isN_eq r6_2, _, rfl, ?_⟩
    refine post_ite hm (fun k13 hm => ?_) (fun k13 hm => ?_)
    · skip
      obtain ⟨t14, e14, hm⟩ := pb_ofO hm
      have r14 : rep K F6 v6_3 t14 := (show rep K F6 v6_3 (some t14) from e14 ▸ r6_3)
      obtain ⟨a15, vs15, rfl, q15, h15⟩ := r14
      exact ⟨_, rfl, (post_ok hm) _ _ _ w6 sF (rep_tuT (rep_tup q15 h15))⟩
    · skip
      refine stepX ?_
      try dsimp only
      refine stepSeq (stepIf ?_)
      refine joinT hm (fun (j16 : Bool) c H' => c = j16 ∧ ∃ (F' : Hp), Same F6 F' ∧ W F' H' (os)) ?_ ?_
      · intro Q16 P16 q16 hm
        obtain ⟨t17, e17, hm⟩ := pb_ofO hm
        obtain ⟨a17, C17, k17, n17, q17⟩ : rep K F6 v6_2 t17 := (e17 ▸ r6_2 : rep K F6 v6_2 (some t17))
        subst k17
        obtain ⟨m17, hm⟩ := pb_isC hm
        refine ⟨_, rfl, _, T.exc m17 n17, _, _, _, rfl, (w6.same _ _ q17), .inl ⟨.ref (A 3), fun _ h => h, T.ki0 m17 n17⟩, _, rfl, ?_⟩
        refine post_ite hm (fun k18 hm => ?_) (fun k18 hm => ?_)
        · skip
          exact q16 _ (post_ok hm) _ _ ⟨rfl, _, Same.refl _, w6⟩
        · skip
          obtain ⟨m20, hm⟩ := pb_isC hm
          refine ⟨_, rfl, _, T.exc m20 n17, _, _, _, rfl, (w6.same _ _ q17), .inl ⟨.type "ValueError", fun _ h => h, T.ki1 m20 n17⟩, _, rfl, ?_⟩
          refine post_ite hm (fun k21 hm => ?_) (fun k21 hm => ?_)
          · skip
            exact q16 _ (post_ok hm) _ _ ⟨rfl, _, Same.refl _, w6⟩
          · skip
            obtain ⟨m23, hm⟩ := pb_isC hm
            exact ⟨_, rfl, _, T.exc m23 n17, _, _, _, rfl, (w6.same _ _ q17), .inl ⟨.ref (A 2), fun _ h => h, T.ki2 m23 n17⟩, _, rfl, q16 _ (post_ok hm) _ _ ⟨rfl, _, Same.refl _, w6⟩⟩
      intro j16 c16 H16 hc16 hm
      obtain ⟨rfl, F16, s16, w16⟩ := hc16
      replace q1 := s16 _ _ q1
      replace h2 := A2.mono s16 h2
      replace q2 := s16 _ _ q2
      replace h3 := A2.mono s16 h3
      replace q3 := s16 _ _ q3
      replace h4 := A2.mono s16 h4
      replace q4 := s16 _ _ q4
      replace r6_2 := Rep.mono s16 r6_2
      replace r6_3 := Rep.mono s16 r6_3
      replace sF := sF.trans s16
      refine post_ite hm (fun k25 hm => ?_) (fun k25 hm => ?_)
      · skip
        exact (post_ok hm) _ _ _ w16 sF rep_tuS
      · skip
        exact (post_ok hm) _ _ _ w16 sF rep_tuS
def sp_law_ring_right (K : Fg) : Sp := fun vs H Q E => ∃ (F : Hp) (os : List (Addr × HO)) (a_state : Addr) (vs_state : List V) (x_state : (List Int)), vs = [.ref a_state] ∧ W F H ((a_state, .lst vs_state) :: os) ∧ A2 (rep K F) vs_state x_state ∧ Post (law_ring_right x_state) (RetM K F a_state os Q) noX
theorem sc_law_ring_right : FnScope ["state", "many", "looks", "way", "kind", "told", "having", "handed", "found"] ["state"] (defScope s_law_ring_right) := ⟨rfl, rfl, rfl, by decide +kernel, rfl, by decide +kernel, by decide +kernel⟩
set_option maxHeartbeats 40000000 in
theorem ok_law_ring_right (T : Tx K mg A FD) : FnOk P w K mg base CX0 5 (A 23) (FD 23) ["state"] (sp_law_ring_right K) := by
  refine T.d23.fn.ok sc_law_ring_right (fun vs H Q E h => ?_) (fun cdv Ar outer s H vs Q E hr h => ?_)
  · obtain ⟨F, os, a_state, vs_state, x_state, rfl, _⟩ := h
    rfl
  · obtain ⟨F0, os, a_state, vs_state, x_state, rfl, w0, h_state, hm⟩ := h
    have sF : Same F0 F0 := Same.refl _
    refine ⟨_, (pss_cons (ps_set (i := 1) sc_law_ring_right.nd rfl (Or.inl rfl) (pe_op op_add pe_int (pe_call (ok_law_great T) (hr.mono (by decide)) (by rfl) T.d16.mg T.d16.fn.kp T.d16.b .nil pass0 (pa_cons (pv 0) (pa_cons (pe_ix (ix_listK (K := K) rfl) (pe_lst (pa_cons pe_int (pa_cons (pe_op op_sub (pe_op op_pow pe_int pe_int) pe_int) pa_nil))) (pe_call (ok_law_next T) (hr.mono (by decide)) (by rfl) T.d15.mg T.d15.fn.kp T.d15.b .nil pass0 (pa_cons (pv 0) (pa_cons pe_int pa_nil))) (fun _ _ => rfl)) pa_nil))))) (pss_cons (ps_set (i := 2) sc_law_ring_right.nd rfl (Or.inl rfl) (pe_call (ok_law_looks T) (hr.mono (by decide)) (by rfl) T.d17.mg T.d17.fn.kp T.d17.b .nil pass0 (pa_cons (pv 0) (pa_cons (pv 1) (pa_cons (pe_ix (ix_listK (K := K) rfl) (pe_lst (pa_cons pe_int (pa_cons pe_int pa_nil))) (pe_callTy call_intB (by rfl) T.n_int (by decide +kernel) (pa_cons (pe_cmp (pc_eqI (pe_call (ok_law_next T) (hr.mono (by decide)) (by rfl) T.d15.mg T.d15.fn.kp T.d15.b .nil pass0 (pa_cons (pv 0) (pa_cons pe_int pa_nil))) pe_int)) pa_nil)) (fun _ _ => rfl)) pa_nil))))) (pss_cons (ps_if (PW.pt (pw_or (pt_cmp (pc_lt (pe_callB (call_lenN (K := K) rfl) (by rfl) T.n_len (by decide +kernel) (pa_cons (pv 2) pa_nil)) pe_int)) (pw_or1 (PW.pt (pw_and (pt_cmp (pc_eqI (pe_callB (call_lenN (K := K) rfl) (by rfl) T.n_len (by decide +kernel) (pa_cons (pv 2) pa_nil)) pe_int)) (pw_and1 (pt_cmp (pc_eqI (pe_op op_mul pe_int (pe_op op_sub (pe_ix (ix_listK (K := K) rfl) (pv 2) pe_int (fun _ _ => rfl)) (pe_ix (ix_listK (K := K) rfl) (pv 2) pe_int (fun _ _ => rfl)))) (pv 1))))))))) (pss_one (ps_set (i := 2) sc_law_ring_right.nd rfl (Or.inl rfl) (pe_lst (pa_cons pe_int (pa_cons pe_int pa_nil))))) pss_nil) (pss_cons (ps_for PassesOwn.never rfl (pi_k (K := K) (wi := fun K => iEnum K _) rfl (pi_enum (by rfl) T.n_enumerate (pa_cons (pe_lst (pa_cons pe_str (pa_cons pe_str pa_nil))) pa_nil))) (pg_k (K := K) (t := fun K => gTup K 2 _) rfl (pg_tup (n := 2) rfl (pgs_cons (pg_name (i := 3) sc_law_ring_right.nd rfl (Or.inl rfl)) (pgs_cons (pg_name (i := 4) sc_law_ring_right.nd rfl (Or.inl rfl)) pgs_nil)))) (pss_cons (ps_set (i := 5) sc_law_ring_right.nd rfl (Or.inl rfl) (pe_call (ok_law_other T) (hr.mono (by decide)) (by rfl) T.d21.mg T.d21.fn.kp T.d21.b .nil pass0 (pa_cons (pv 0) (pa_cons (pe_call (ok_law_code T) (hr.mono (by decide)) (by rfl) T.d19.mg T.d19.fn.kp T.d19.b .nil pass0 (pa_cons (pv 1) (pa_cons (pv 2) (pa_cons (pe_call (ok_law_great T) (hr.mono (by decide)) (by rfl) T.d16.mg T.d16.fn.kp T.d16.b .nil pass0 (pa_cons (pv 0) (pa_cons (pv 1) pa_nil))) (pa_cons (pv 4) pa_nil))))) pa_nil)))) (pss_cons (ps_set (i := 6) sc_law_ring_right.nd rfl (Or.inl rfl) (pe_call (ok_law_having T) (hr.mono (by decide)) (by rfl) T.d20.mg T.d20.fn.kp T.d20.b .nil pass0 (pa_cons (pv 1) (pa_cons (pv 2) (pa_cons (pv 5) (pa_cons (pv 4) pa_nil)))))) (pss_cons (ps_set (i := 7) sc_law_ring_right.nd rfl (Or.inl rfl) (pe_lst (pa_cons (pe_callTy (call_list_ofK (K := K) rfl) (by rfl) T.n_list (by decide +kernel) (pa_cons (pv 2) pa_nil)) (pa_cons (pe_callTy (call_list_ofK (K := K) rfl) (by rfl) T.n_list (by decide +kernel) (pa_cons (pv 5) pa_nil)) pa_nil)))) (pss_cons (ps_set (i := 8) sc_law_ring_right.nd rfl (Or.inl rfl) (pe_call (ok_law_told T) (hr.mono (by decide)) (by rfl) T.d22.mg T.d22.fn.kp T.d22.b .nil pass0 (pa_cons (pv 3) (pa_cons (pe_tup (pa_cons (pv 1) (pa_cons (pe_ix (ix_listK (K := K) rfl) (pv 7) pe_int (fun _ _ => rfl)) (pa_cons (pe_ix (ix_listK (K := K) rfl) (pv 7) pe_int (fun _ _ => rfl)) pa_nil)))) pa_nil)))) (pss_one (ps_if (PW.pt (pw_or (pt_val (pe_callB (call_isB (K := K) rfl) (by rfl) T.n_isinstance (by decide +kernel) (pa_cons (pv 8) (pa_cons (pe_bltn (v := .ty "bool") (by rfl) T.n_bool (by decide +kernel) rfl) pa_nil)))) (pw_or (pt_cmpR (op_neDt (K := K) rfl (List (List Int)) (by decide) hr.units) (pv 7) (pe_lst (pa_cons (pv 2) (pa_cons (pv 5) pa_nil))) (nomark _)) (pw_or1 (pt_cmpR (op_neDt (K := K) rfl (List IoS) (by decide) hr.units) (pe_lst (pa_cons (pv 8) pa_nil)) (pe_slice (sl_listK (K := K) rfl) (pe_op op_cat (pv 6) (pe_lst (pa_cons pe_str pa_nil))) po_none (po_some pe_int)) (nomark _)))))) (pss_one (ps_ret pe_bl)) pss_nil))))))) (pss_one (ps_ret pe_bl)))))), ?_⟩
    have h3 : A2 (rep K F0) [(.int 7), (.int (((10 : Int) ^ ((60 : Int) : Int).toNat) - (2 : Int)))] ([(7 : Int), (((10 : Int) ^ ((60 : Int) : Int).toNat) - (2 : Int))] : (List Int)) := .cons rep_i (.cons rep_i (.nil))
    refine ⟨_, rfl, _, _, rfl, rfl, (by refine ⟨?_, ?_, ?_⟩ <;> decide), _, _, rfl, rfl, (by show 2 ≤ sizeLine; decide), fun p4 n4 => ?_⟩
    have w4 : W F0 _ ((p4, .lst [(.int 7), (.int (((10 : Int) ^ ((60 : Int) : Int).toNat) - (2 : Int)))]) :: (a_state, .lst vs_state) :: os) := w0.new n4
    have w5 : W F0 _ ((a_state, .lst vs_state) :: (p4, .lst [(.int 7), (.int (((10 : Int) ^ ((60 : Int) : Int).toNat) - (2 : Int)))]) :: os) := w4.front (pre := [_])
    refine ⟨_, rfl, _, _, _, _, _, _, rfl, w5, h_state, ?_⟩
    refine (post_bind hm).mono (fun y6 hm v6 vs6 F6 H6 w6 s6 r6 h6 => ?_) (fun _ z => z)
    replace h3 := A2.mono s6 h3
    replace sF := sF.trans s6
    obtain rfl : v6 = V.int y6.1 := r6
    obtain ⟨t7, e7, hm⟩ := pb_get hm
    obtain ⟨u7, f7, r7⟩ := A2.at h3 e7
    obtain rfl : u7 = V.int t7 := r7
    refine ⟨_, _, _, _, rfl, rfl, SqL.of (w6.get (pre := [_])), f7, _, _, _, _, _, _, rfl, w6, h6, ?_⟩
    refine (post_bind hm).mono (fun y8 hm v8 vs8 F8 H8 w8 s8 r8 h8 => ?_) (fun _ z => z)
    replace h3 := A2.mono s8 h3
    replace sF := sF.trans s8
    obtain rfl : v8 = V.int y8.1 := r8
    have w9 : W F8 _ ((a_state, .lst vs8) :: os) := w8.drop (pre := [_])
    have h10 : A2 (rep K F8) [(.int 6), (.int 20)] ([(6 : Int), (20 : Int)] : (List Int)) := .cons rep_i (.cons rep_i (.nil))
    refine ⟨_, _, rfl, rfl, _, rfl, _, rfl, (by show 2 ≤ sizeLine; decide), fun p11 n11 => ?_⟩
    have w11 : W F8 _ ((p11, .lst [(.int 6), (.int 20)]) :: (a_state, .lst vs8) :: os) := w9.new n11
    have w12 : W F8 _ ((a_state, .lst vs8) :: (p11, .lst [(.int 6), (.int 20)]) :: os) := w11.front (pre := [_])
    refine ⟨_, rfl, _, _, _, _, _, _, rfl, w12, h8, ?_⟩
    refine (post_bind hm).mono (fun y13 hm v13 vs13 F13 H13 w13 s13 r13 h13 => ?_) (fun _ z => z)
    replace h10 := A2.mono s13 h10
    replace sF := sF.trans s13
    obtain rfl : v13 = V.int y13.1 := r13
    obtain ⟨t14, e14, hm⟩ := pb_get hm
    obtain ⟨u14, f14, r14⟩ := A2.at h10 e14
    obtain rfl : u14 = V.int t14 := r14
    refine ⟨_, _, rfl, rfl, _, rfl, _, _, _, _, rfl, rfl, SqL.of (w13.get (pre := [_])), f14, _, _, _, _, _, _, _, rfl, w13, h13, ?_⟩
    refine (post_bind hm).mono (fun y15 hm p15 us15 vs15 F15 H15 w15 s15 g15 h15 => ?_) (fun _ z => z)
    replace h10 := A2.mono s15 h10
    replace sF := sF.trans s15
    obtain ⟨F17, s17, w17, q17⟩ : ∃ F', Same F15 F' ∧ W F' _ ((a_state, .lst vs15) :: (p11, .lst [(.int 6), (.int 20)]) :: os) ∧ F' p15 = some (.lst us15) := w15.freezeE (pre := [])
    replace h10 := A2.mono s17 h10
    replace h15 := A2.mono s17 h15
    replace g15 := A2.mono s17 g15
    replace sF := sF.trans s17
    have w18 : W F17 _ ((a_state, .lst vs15) :: os) := w17.drop (pre := [_])
    refine stepN ?_
    try dsimp only
    refine joinS hm (fun (g19 : (List Int)) σ H' => ∃ (F' : Hp) (v19_2 : V), σ = [some (.ref a_state), some (.int ((3 : Int) + y8.1)), some v19_2, none, none, none, none, none, none] ∧ Same F17 F' ∧ W F' H' ((a_state, .lst vs15) :: os) ∧ rep K F' v19_2 (g19 : (List Int))) ?_ ?_
    · intro N19 P19 hN19 hm
      refine stepIf ?_
      refine joinT hm (fun (j20 : Bool) c H' => c = j20 ∧ ∃ (F' : Hp), Same F17 F' ∧ W F' H' ((a_state, .lst vs15) :: os)) ?_ ?_
      · intro Q20 P20 q20 hm
        refine ⟨_, rfl, _, _, _, rfl, .inl (SqL.of (w18.same _ _ q17)), g15.length, _, _, rfl, rfl, _, rfl, ?_⟩
        refine post_ite hm (fun k21 hm => ?_) (fun k21 hm => ?_)
        · skip
          exact q20 _ (post_ok hm) _ _ ⟨rfl, _, Same.refl _, w18⟩
        · skip
          refine joinT hm (fun (j23 : Bool) c H' => c = j23 ∧ ∃ (F' : Hp), Same F17 F' ∧ W F' H' ((a_state, .lst vs15) :: os)) ?_ ?_
          · intro Q23 P23 q23 hm
            refine ⟨_, rfl, _, _, _, rfl, .inl (SqL.of (w18.same _ _ q17)), g15.length, _, _, rfl, rfl, _, rfl, ?_⟩
            refine post_ite hm (fun k24 hm => ?_) (fun k24 hm => ?_)
            · skip
              obtain ⟨t25, e25, hm⟩ := pb_get hm
              obtain ⟨u25, f25, r25⟩ := A2.at g15 e25
              obtain rfl : u25 = V.int t25 := r25
              obtain ⟨t26, e26, hm⟩ := pb_get hm
              obtain ⟨u26, f26, r26⟩ := A2.at g15 e26
              obtain rfl : u26 = V.int t26 := r26
              exact ⟨_, rfl, _, _, _, _, rfl, rfl, SqL.of (w18.same _ _ q17), f25, _, rfl, _, _, _, _, rfl, rfl, SqL.of (w18.same _ _ q17), f26, _, _, rfl, rfl, _, _, rfl, rfl, (.inl (by constructor <;> decide)), _, rfl, _, _, rfl, rfl, _, rfl, q23 _ (post_ok hm) _ _ ⟨rfl, _, Same.refl _, w18⟩⟩
            · skip
              exact q23 _ (post_ok hm) _ _ ⟨rfl, _, Same.refl _, w18⟩
          intro j23 c23 H23 hc23 hm
          obtain ⟨rfl, F23, s23, w23⟩ := hc23
          replace g15 := A2.mono s23 g15
          replace q17 := s23 _ _ q17
          replace h15 := A2.mono s23 h15
          replace sF := sF.trans s23
          exact q20 _ (post_ok hm) _ _ ⟨rfl, _, s23, w23⟩
      intro j20 c20 H20 hc20 hm
      obtain ⟨rfl, F20, s20, w20⟩ := hc20
      replace g15 := A2.mono s20 g15
      replace q17 := s20 _ _ q17
      replace h15 := A2.mono s20 h15
      replace sF := sF.trans s20
      refine post_ite hm (fun k31 hm => ?_) (fun k31 hm => ?_)
      · skip
        have h32 : A2 (rep K F20) [(.int 0), (.int 1)] ([(0 : Int), (1 : Int)] : (List Int)) := .cons rep_i (.cons rep_i (.nil))
        refine ⟨(by show 2 ≤ sizeLine; decide), fun p33 n33 => ?_⟩
        have w33 : W F20 _ ((p33, .lst [(.int 0), (.int 1)]) :: (a_state, .lst vs15) :: os) := w20.new n33
        obtain ⟨F34, s34, w34, q34⟩ : ∃ F', Same F20 F' ∧ W F' _ ((a_state, .lst vs15) :: os) ∧ F' p33 = some (.lst [(.int 0), (.int 1)]) := w33.freezeE (pre := [])
        replace g15 := A2.mono s34 g15
        replace q17 := s34 _ _ q17
        replace h15 := A2.mono s34 h15
        replace h32 := A2.mono s34 h32
        replace sF := sF.trans s34
        exact hN19 _ (post_ok hm) _ _ ⟨_, _, rfl, (s20.trans s34), w34, (rep_lst q34 h32)⟩
      · skip
        exact hN19 _ (post_ok hm) _ _ ⟨_, _, rfl, s20, w20, (rep_lst q17 g15)⟩
    intro g19 σ19 H19 hI hm
    obtain ⟨F19, v19_2, rfl, s19, w19, r19_2⟩ := hI
    replace g15 := A2.mono s19 g15
    replace q17 := s19 _ _ q17
    replace h15 := A2.mono s19 h15
    replace sF := sF.trans s19
    obtain ⟨a35, vs35, rfl, q35, h35⟩ := r19_2
    have h37 : A2 (rep K F19) [(.str "places"), (.str "ties")] ([("places" : Str), ("ties" : Str)] : (List Str)) := .cons rep_s (.cons rep_s (.nil))
    refine ⟨(by show 2 ≤ sizeLine; decide), fun p38 n38 => ?_⟩
    have w38 : W F19 _ ((p38, .lst [(.str "places"), (.str "ties")]) :: (a_state, .lst vs15) :: os) := w19.new n38
    obtain ⟨F39, s39, w39, q39⟩ : ∃ F', Same F19 F' ∧ W F' _ ((a_state, .lst vs15) :: os) ∧ F' p38 = some (.lst [(.str "places"), (.str "ties")]) := w38.freezeE (pre := [])
    replace h35 := A2.mono s39 h35
    replace q35 := s39 _ _ q35
    replace h15 := A2.mono s39 h15
    replace h37 := A2.mono s39 h37
    replace sF := sF.trans s39
    refine ⟨_, _, rfl, SqL.of (w39.same _ _ q39), ?_⟩
    refine forX (tw_enum (a := p38) h37) hm (fun (g36 : (List Int)) σ H' => ∃ (F' : Hp) (vs36_0 : List V) (o36_5 : Option V) (o36_6 : Option V) (o36_7 : Option V) (o36_8 : Option V) (o36_3 : Option V) (o36_4 : Option V), σ = [some (.ref a_state), some (.int ((3 : Int) + y8.1)), some (.ref a35), o36_3, o36_4, o36_5, o36_6, o36_7, o36_8] ∧ Same F39 F' ∧ W F' H' ((a_state, .lst vs36_0) :: os) ∧ A2 (rep K F') vs36_0 g36) ⟨_, _, _, _, _, _, _, _, rfl, Same.refl _, w39, h15⟩ (fun g σ H' hI => by obtain ⟨F', _, _, _, _, _, _, _, _, s, w, _⟩ := hI; exact SqL.of (w.same _ _ (s _ _ q39))) ?_ ?_
    · -- a turn
      intro b36 g36 x36 σ36 H36 H36' N36 B36 P36 hI hy hN36 hB36 hZ36 hm
      obtain ⟨F36, vs36_0, o36_5, o36_6, o36_7, o36_8, o36_3, o36_4, rfl, s36, w36, h36_0⟩ := hI
      replace h35 := A2.mono s36 h35
      replace q35 := s36 _ _ q35
      replace h37 := A2.mono s36 h37
      replace q39 := s36 _ _ q39
      replace sF := sF.trans s36
      obtain ⟨T40, u40, rfl, n40, rfl, r40⟩ := hy
      obtain ⟨F40, s40, w40, q40⟩ := w36.frzE (o := .tup [.int b36.1, u40]) n40
      replace r40 := Rep.mono s36 r40
      replace h35 := A2.mono s40 h35
      replace q35 := s40 _ _ q35
      replace h37 := A2.mono s40 h37
      replace q39 := s40 _ _ q39
      replace h36_0 := A2.mono s40 h36_0
      replace sF := sF.trans s40
      replace r40 := Rep.mono s40 r40
      obtain rfl : u40 = V.str b36.2 := r40
      refine ⟨_, _, rfl, SqT.of (w40.same _ _ q40), rfl, _, _, rfl, _, _, rfl, rfl, _, rfl, _, rfl, _, rfl, _, rfl, _, rfl, _, _, _, _, _, _, rfl, w40, h36_0, ?_⟩
      refine (post_bind hm).mono (fun y41 hm v41 vs41 F41 H41 w41 s41 r41 h41 => ?_) (fun _ z => z)
      replace h35 := A2.mono s41 h35
      replace q35 := s41 _ _ q35
      replace sF := sF.trans s41
      obtain rfl : v41 = V.int y41.1 := r41
      refine ⟨_, rfl, _, _, _, _, (g19 : (List Int)), _, _, rfl, w41, (rep_lst q35 h35), ?_⟩
      refine (post_bind hm).mono (fun y42 hm v42 F42 H42 w42 s42 r42 => ?_) (fun _ z => z)
      replace h35 := A2.mono s42 h35
      replace q35 := s42 _ _ q35
      replace h41 := A2.mono s42 h41
      replace sF := sF.trans s42
      obtain ⟨a43, vs43, rfl, q43, h43⟩ := r42
      refine ⟨_, _, _, _, _, _, (y42 : (List Int)), rfl, w42, h41, (rep_lst q43 h43), ?_⟩
      refine (post_bind hm).mono (fun y44 hm v44 vs44 F44 H44 w44 s44 r44 h44 => ?_) (fun _ z => z)
      replace h35 := A2.mono s44 h35
      replace q35 := s44 _ _ q35
      replace q43 := s44 _ _ q43
      replace h43 := A2.mono s44 h43
      replace sF := sF.trans s44
      obtain ⟨a45, vs45, rfl, q45, h45⟩ := r44
      refine ⟨_, rfl, _, rfl, _, rfl, _, rfl, _, _, _, _, (g19 : (List Int)), _, (y44.1 : (List Int)), _, rfl, w44, (rep_lst q35 h35), (rep_lst q45 h45), ?_⟩
      refine (post_bind hm).mono (fun y46 hm v46 F46 H46 w46 s46 r46 => ?_) (fun _ z => z)
      replace h35 := A2.mono s46 h35
      replace q35 := s46 _ _ q35
      replace h45 := A2.mono s46 h45
      replace q45 := s46 _ _ q45
      replace h44 := A2.mono s46 h44
      replace sF := sF.trans s46
      obtain ⟨a47, vs47, rfl, q47, h47⟩ := r46
      have h48 : A2 (rep K F46) vs35 g19 := h35
      refine ⟨_, rfl, _, _, rfl, .inl (SqL.of (w46.same _ _ q35)), fun p49 n49 => ?_⟩
      have w49 : W F46 _ ((p49, .lst vs35) :: (a_state, .lst vs44) :: os) := w46.new n49
      have h50 : A2 (rep K F46) vs45 y44.1 := h45
      refine ⟨_, rfl, _, _, rfl, .inl (SqL.of (w49.same _ _ q45)), fun p51 n51 => ?_⟩
      have w51 : W F46 _ ((p51, .lst vs45) :: (p49, .lst vs35) :: (a_state, .lst vs44) :: os) := w49.new n51
      obtain ⟨F52, s52, w52, q52⟩ : ∃ F', Same F46 F' ∧ W F' _ ((p51, .lst vs45) :: (a_state, .lst vs44) :: os) ∧ F' p49 = some (.lst vs35) := w51.freezeE (pre := [_])
      replace h35 := A2.mono s52 h35
      replace q35 := s52 _ _ q35
      replace h45 := A2.mono s52 h45
      replace q45 := s52 _ _ q45
      replace h47 := A2.mono s52 h47
      replace q47 := s52 _ _ q47
      replace h44 := A2.mono s52 h44
      replace h48 := A2.mono s52 h48
      replace h50 := A2.mono s52 h50
      replace sF := sF.trans s52
      obtain ⟨F53, s53, w53, q53⟩ : ∃ F', Same F52 F' ∧ W F' _ ((a_state, .lst vs44) :: os) ∧ F' p51 = some (.lst vs45) := w52.freezeE (pre := [])
      replace h35 := A2.mono s53 h35
      replace q35 := s53 _ _ q35
      replace h45 := A2.mono s53 h45
      replace q45 := s53 _ _ q45
      replace h47 := A2.mono s53 h47
      replace q47 := s53 _ _ q47
      replace h44 := A2.mono s53 h44
      replace h48 := A2.mono s53 h48
      replace h50 := A2.mono s53 h50
      replace q52 := s53 _ _ q52
      replace sF := sF.trans s53
      have h54 : A2 (rep K F53) [(.ref p49), (.ref p51)] ([g19, y44.1] : (List (List Int))) := .cons (rep_lst q52 h48) (.cons (rep_lst q53 h50) (.nil))
      refine ⟨(by show 2 ≤ sizeLine; decide), fun p55 n55 => ?_⟩
      have w55 : W F53 _ ((p55, .lst [(.ref p49), (.ref p51)]) :: (a_state, .lst vs44) :: os) := w53.new n55
      obtain ⟨F56, s56, w56, q56⟩ : ∃ F', Same F53 F' ∧ W F' _ ((a_state, .lst vs44) :: os) ∧ F' p55 = some (.lst [(.ref p49), (.ref p51)]) := w55.freezeE (pre := [])
      replace h35 := A2.mono s56 h35
      replace q35 := s56 _ _ q35
      replace h45 := A2.mono s56 h45
      replace q45 := s56 _ _ q45
      replace h47 := A2.mono s56 h47
      replace q47 := s56 _ _ q47
      replace h44 := A2.mono s56 h44
      replace h48 := A2.mono s56 h48
      replace h50 := A2.mono s56 h50
      replace q52 := s56 _ _ q52
      replace q53 := s56 _ _ q53
      replace h54 := A2.mono s56 h54
      replace sF := sF.trans s56
      obtain ⟨t57, e57, hm⟩ := pb_get hm
      obtain ⟨u57, f57, r57⟩ := A2.at h54 e57
      obtain ⟨a58, vs58, rfl, q58, h58⟩ := r57
      obtain ⟨t59, e59, hm⟩ := pb_get hm
      obtain ⟨u59, f59, r59⟩ := A2.at h54 e59
      obtain ⟨a60, vs60, rfl, q60, h60⟩ := r59
      refine ⟨_, rfl, _, rfl, _, rfl, _, _, _, _, rfl, rfl, SqL.of (w56.same _ _ q56), f57, _, rfl, _, _, _, _, rfl, rfl, SqL.of (w56.same _ _ q56), f59, (by show 3 ≤ sizeLine; decide), fun p61 n61 => ?_⟩
      obtain ⟨F61, s61, w61, q61⟩ := w56.frzE (o := .tup [(.int ((3 : Int) + y8.1)), (.ref a58), (.ref a60)]) n61
      replace h35 := A2.mono s61 h35
      replace q35 := s61 _ _ q35
      replace h45 := A2.mono s61 h45
      replace q45 := s61 _ _ q45
      replace h47 := A2.mono s61 h47
      replace q47 := s61 _ _ q47
      replace h54 := A2.mono s61 h54
      replace q56 := s61 _ _ q56
      replace h44 := A2.mono s61 h44
      replace q58 := s61 _ _ q58
      replace h58 := A2.mono s61 h58
      replace q60 := s61 _ _ q60
      replace h60 := A2.mono s61 h60
      replace sF := sF.trans s61
      refine ⟨_, _, _, _, ((Nt.mk (((3 : Int) + y8.1), t57, t59, ()) : (Nt (Int × (List Int) × (List Int) × Unit))) : (Nt (Int × (List Int) × (List Int) × Unit))), rfl, w61, (rep_nt3 q61 rep_i (rep_lst q58 h58) (rep_lst q60 h60)), ?_⟩
      refine (post_bind hm).mono (fun y62 hm v62 F62 H62 w62 s62 r62 => ?_) (fun _ z => z)
      replace h35 := A2.mono s62 h35
      replace q35 := s62 _ _ q35
      replace h45 := A2.mono s62 h45
      replace q45 := s62 _ _ q45
      replace h47 := A2.mono s62 h47
      replace q47 := s62 _ _ q47
      replace h54 := A2.mono s62 h54
      replace q56 := s62 _ _ q56
      replace h44 := A2.mono s62 h44
      replace q58 := s62 _ _ q58
      replace h58 := A2.mono s62 h58
      replace q60 := s62 _ _ q60
      replace h60 := A2.mono s62 h60
      replace q61 := s62 _ _ q61
      replace sF := sF.trans s62
      refine stepN ?_
      try dsimp only
      refine stepIf ?_
      refine joinT hm (fun (j64 : Bool) c H' => c = j64 ∧ ∃ (F' : Hp), Same F62 F' ∧ W F' H' ((a_state, .lst vs44) :: os)) ?_ ?_
      · intro Q64 P64 q64 hm
        obtain ⟨a65, y65, k65⟩ := io_bool (H := _) r62
        refine ⟨_, rfl, _, _, _, false, rfl, y65, k65, _, rfl, ?_⟩
        refine post_ite hm (fun k66 hm => ?_) (fun k66 hm => ?_)
        · skip
          exact q64 _ (post_ok hm) _ _ ⟨rfl, _, Same.refl _, w62⟩
        · skip
          have h68 : A2 (rep K F62) [(.ref a35), (.ref a45)] ([g19, y44.1] : (List (List Int))) := .cons (rep_lst q35 h35) (.cons (rep_lst q45 h45) (.nil))
          refine ⟨_, rfl, _, rfl, _, rfl, (by show 2 ≤ sizeLine; decide), fun p69 n69 => ?_⟩
          have w69 : W F62 _ ((p69, .lst [(.ref a35), (.ref a45)]) :: (a_state, .lst vs44) :: os) := w62.new n69
          refine ⟨(([g19, y44.1] : (List (List Int))) : (List (List Int))), (([g19, y44.1] : (List (List Int))) : (List (List Int))), (Rep.mono w69.same (rep_lst q56 h54)), (rep_own (pre := []) w69 h68), _, rfl, ?_⟩
          refine post_ite hm (fun k70 hm => ?_) (fun k70 hm => ?_)
          · skip
            have w72 : W F62 _ ((a_state, .lst vs44) :: os) := w69.drop (pre := [])
            exact q64 _ (post_ok hm) _ _ ⟨rfl, _, Same.refl _, w72⟩
          · skip
            have h73 : A2 (rep K F62) [v62] ([y62] : (List IoS)) := .cons r62 (.nil)
            refine ⟨_, rfl, (by show 1 ≤ sizeLine; decide), fun p74 n74 => ?_⟩
            have w74 : W F62 _ ((p74, .lst [v62]) :: (p69, .lst [(.ref a35), (.ref a45)]) :: (a_state, .lst vs44) :: os) := w69.new n74
            have h75 : A2 (rep K F62) [(.str "none")] ([(IoS.s ⟨("none" : Str), by decide +kernel⟩)] : (List IoS)) := .cons rep_ioS (.nil)
            refine ⟨_, rfl, (by show 1 ≤ sizeLine; decide), fun p76 n76 => ?_⟩
            have w76 : W F62 _ ((p76, .lst [(.str "none")]) :: (p74, .lst [v62]) :: (p69, .lst [(.ref a35), (.ref a45)]) :: (a_state, .lst vs44) :: os) := w74.new n76
            obtain ⟨l77, z77, e77, hm⟩ := pn_extend hm
            have h77 : A2 (rep K F62) (vs47 ++ [(.str "none")]) l77 := e77 ▸ A2.append (a2_io h47) h75
            refine ⟨_, _, _, _, rfl, rfl, (w76.same _ _ q47), (w76.get (pre := [])), (A2.le2 (a2_io h47) h75 z77), fun p78 n78 => ?_⟩
            have w78 : W F62 _ ((p78, .lst (vs47 ++ [(.str "none")])) :: (p76, .lst [(.str "none")]) :: (p74, .lst [v62]) :: (p69, .lst [(.ref a35), (.ref a45)]) :: (a_state, .lst vs44) :: os) := w76.new n78
            have h79 : A2 (rep K F62) (cutV (vs47 ++ [(.str "none")]) none (some (1 : Int))) (cutL l77 none (some (1 : Int))) := sl_cut h77 _ _
            refine ⟨_, rfl, _, _, rfl, SqL.of (w78.get (pre := [])), fun p80 n80 => ?_⟩
            have w80 : W F62 _ ((p80, .lst (cutV (vs47 ++ [(.str "none")]) none (some (1 : Int)))) :: (p78, .lst (vs47 ++ [(.str "none")])) :: (p76, .lst [(.str "none")]) :: (p74, .lst [v62]) :: (p69, .lst [(.ref a35), (.ref a45)]) :: (a_state, .lst vs44) :: os) := w78.new n80
            have w82 : W F62 _ ((p78, .lst (vs47 ++ [(.str "none")])) :: (p76, .lst [(.str "none")]) :: (p74, .lst [v62]) :: (p69, .lst [(.ref a35), (.ref a45)]) :: (a_state, .lst vs44) :: os) := w80.drop (pre := [])
            have w83 : W F62 _ ((p76, .lst [(.str "none")]) :: (p74, .lst [v62]) :: (p69, .lst [(.ref a35), (.ref a45)]) :: (a_state, .lst vs44) :: os) := w82.drop (pre := [])
            have w84 : W F62 _ ((p74, .lst [v62]) :: (p69, .lst [(.ref a35), (.ref a45)]) :: (a_state, .lst vs44) :: os) := w83.drop (pre := [])
            have w85 : W F62 _ ((p69, .lst [(.ref a35), (.ref a45)]) :: (a_state, .lst vs44) :: os) := w84.drop (pre := [])
            have w86 : W F62 _ ((a_state, .lst vs44) :: os) := w85.drop (pre := [])
            exact ⟨(([y62] : (List IoS)) : (List IoS)), ((cutL l77 none (some (1 : Int))) : (List IoS)), (rep_own (pre := [_, _, _]) w80 h73), (rep_own (pre := []) w80 h79), _, rfl, q64 _ (post_ok hm) _ _ ⟨rfl, _, Same.refl _, w86⟩⟩
      intro j64 c64 H64 hc64 hm
      obtain ⟨rfl, F64, s64, w64⟩ := hc64
      replace h35 := A2.mono s64 h35
      replace q35 := s64 _ _ q35
      replace h45 := A2.mono s64 h45
      replace q45 := s64 _ _ q45
      replace h47 := A2.mono s64 h47
      replace q47 := s64 _ _ q47
      replace h54 := A2.mono s64 h54
      replace q56 := s64 _ _ q56
      replace r62 := Rep.mono s64 r62
      replace h44 := A2.mono s64 h44
      replace sF := sF.trans s64
      refine post_ite hm (fun k87 hm => ?_) (fun k87 hm => ?_)
      · skip
        have hm := hZ36 _ (post_ok hm)
        exact (post_ok hm) _ _ _ _ w64 sF rep_b h44
      · skip
        exact hN36 _ (post_ok hm) _ _ ⟨_, _, _, _, _, _, _, _, rfl, (s36.trans (s40.trans (s41.trans (s42.trans (s44.trans (s46.trans (s52.trans (s53.trans (s56.trans (s61.trans (s62.trans s64))))))))))), w64, h44⟩
    intro g36 σ36 H36 hI hm
    obtain ⟨F36, vs36_0, o36_5, o36_6, o36_7, o36_8, o36_3, o36_4, rfl, s36, w36, h36_0⟩ := hI
    replace h35 := A2.mono s36 h35
    replace q35 := s36 _ _ q35
    replace h37 := A2.mono s36 h37
    replace q39 := s36 _ _ q39
    replace sF := sF.trans s36
    exact (post_ok hm) _ _ _ _ w36 sF rep_b h36_0
def sp_law_side (K : Fg) : Sp := fun vs H Q E => ∃ (F : Hp) (os : List (Addr × HO)) (a_state : Addr) (vs_state : List V) (x_state : (List Int)) (x_wide : Int) (x_high : Int), vs = [.ref a_state, .int x_wide, .int x_high] ∧ W F H ((a_state, .lst vs_state) :: os) ∧ A2 (rep K F) vs_state x_state ∧ Post (law_side x_state x_wide x_high) (RetLM K F a_state os Q) noX
theorem sc_law_side : FnScope ["state", "wide", "high", "way", "ends"] ["state", "wide", "high"] (defScope s_law_side) := ⟨rfl, rfl, rfl, by decide +kernel, rfl, by decide +kernel, by decide +kernel⟩
theorem ok_law_side (T : Tx K mg A FD) : FnOk P w K mg base CX0 2 (A 24) (FD 24) ["state", "wide", "high"] (sp_law_side K) := by
  refine T.d24.fn.ok sc_law_side (fun vs H Q E h => ?_) (fun cdv Ar outer s H vs Q E hr h => ?_)
  · obtain ⟨F, os, a_state, vs_state, x_state, x_wide, x_high, rfl, _⟩ := h
    rfl
  · obtain ⟨F0, os, a_state, vs_state, x_state, x_wide, x_high, rfl, w0, h_state, hm⟩ := h
    have sF : Same F0 F0 := Same.refl _
    refine ⟨_, (pss_cons (ps_set (i := 3) sc_law_side.nd rfl (Or.inl rfl) (pe_call (ok_law_next T) (hr.mono (by decide)) (by rfl) T.d15.mg T.d15.fn.kp T.d15.b .nil pass0 (pa_cons (pv 0) (pa_cons pe_int pa_nil)))) (pss_cons (ps_set (i := 4) sc_law_side.nd rfl (Or.inl rfl) (pe_ix (ix_listK (K := K) rfl) (pe_lst (pa_cons (pe_lst (pa_cons (pe_tup (pa_cons pe_int (pa_cons pe_int pa_nil))) (pa_cons (pe_tup (pa_cons (pe_op op_sub (pv 1) pe_int) (pa_cons pe_int pa_nil))) pa_nil))) (pa_cons (pe_lst (pa_cons (pe_tup (pa_cons pe_int (pa_cons (pe_op op_sub (pv 2) pe_int) pa_nil))) (pa_cons (pe_tup (pa_cons (pe_op op_sub (pv 1) pe_int) (pa_cons (pe_op op_sub (pv 2) pe_int) pa_nil))) pa_nil))) (pa_cons (pe_lst (pa_cons (pe_tup (pa_cons pe_int (pa_cons pe_int pa_nil))) (pa_cons (pe_tup (pa_cons pe_int (pa_cons (pe_op op_sub (pv 2) pe_int) pa_nil))) pa_nil))) (pa_cons (pe_lst (pa_cons (pe_tup (pa_cons (pe_op op_sub (pv 1) pe_int) (pa_cons pe_int pa_nil))) (pa_cons (pe_tup (pa_cons (pe_op op_sub (pv 1) pe_int) (pa_cons (pe_op op_sub (pv 2) pe_int) pa_nil))) pa_nil))) pa_nil))))) (pv 3) (fun _ _ => rfl))) (pss_cons (ps_if (pt_cmp (pc_eqI (pe_call (ok_law_next T) (hr.mono (by decide)) (by rfl) T.d15.mg T.d15.fn.kp T.d15.b .nil pass0 (pa_cons (pv 0) (pa_cons pe_int pa_nil))) pe_int)) (pss_one (ps_expr (pe_bm0 PySem.F.plainAttrs_list PySem.F.slot_list_reverse PySem.F.type_list_reverse mt_reverse (pv 4)))) pss_nil) (pss_one (ps_ret (pv 4)))))), ?_⟩
    refine ⟨_, rfl, _, _, _, _, _, _, rfl, w0, h_state, ?_⟩
    refine (post_bind hm).mono (fun y2 hm v2 vs2 F2 H2 w2 s2 r2 h2 => ?_) (fun _ z => z)
    replace sF := sF.trans s2
    obtain rfl : v2 = V.int y2.1 := r2
    have h3 : A2 (rep K F2) [(.int 0), (.int 0)] (Tup.mk [(0 : Int), (0 : Int)] : (Tup Int)).l := .cons rep_i (.cons rep_i (.nil))
    refine ⟨(by show 2 ≤ sizeLine; decide), fun p4 n4 => ?_⟩
    obtain ⟨F4, s4, w4, q4⟩ := w2.frzE (o := .tup [(.int 0), (.int 0)]) n4
    replace h2 := A2.mono s4 h2
    replace h3 := A2.mono s4 h3
    replace sF := sF.trans s4
    have h5 : A2 (rep K F4) [(.int (x_wide - (1 : Int))), (.int 0)] (Tup.mk [(x_wide - (1 : Int)), (0 : Int)] : (Tup Int)).l := .cons rep_i (.cons rep_i (.nil))
    refine ⟨_, rfl, _, _, rfl, rfl, (by show 2 ≤ sizeLine; decide), fun p6 n6 => ?_⟩
    obtain ⟨F6, s6, w6, q6⟩ := w4.frzE (o := .tup [(.int (x_wide - (1 : Int))), (.int 0)]) n6
    replace h2 := A2.mono s6 h2
    replace h3 := A2.mono s6 h3
    replace q4 := s6 _ _ q4
    replace h5 := A2.mono s6 h5
    replace sF := sF.trans s6
    have h7 : A2 (rep K F6) [(.ref p4), (.ref p6)] ([(Tup.mk [(0 : Int), (0 : Int)] : (Tup Int)), (Tup.mk [(x_wide - (1 : Int)), (0 : Int)] : (Tup Int))] : (List (Tup Int))) := .cons (rep_tup q4 h3) (.cons (rep_tup q6 h5) (.nil))
    refine ⟨(by show 2 ≤ sizeLine; decide), fun p8 n8 => ?_⟩
    have w8 : W F6 _ ((p8, .lst [(.ref p4), (.ref p6)]) :: (a_state, .lst vs2) :: os) := w6.new n8
    have h9 : A2 (rep K F6) [(.int 0), (.int (x_high - (1 : Int)))] (Tup.mk [(0 : Int), (x_high - (1 : Int))] : (Tup Int)).l := .cons rep_i (.cons rep_i (.nil))
    refine ⟨_, rfl, _, _, rfl, rfl, (by show 2 ≤ sizeLine; decide), fun p10 n10 => ?_⟩
    obtain ⟨F10, s10, w10, q10⟩ := w8.frzE (o := .tup [(.int 0), (.int (x_high - (1 : Int)))]) n10
    replace h2 := A2.mono s10 h2
    replace h3 := A2.mono s10 h3
    replace q4 := s10 _ _ q4
    replace h5 := A2.mono s10 h5
    replace q6 := s10 _ _ q6
    replace h7 := A2.mono s10 h7
    replace h9 := A2.mono s10 h9
    replace sF := sF.trans s10
    have h11 : A2 (rep K F10) [(.int (x_wide - (1 : Int))), (.int (x_high - (1 : Int)))] (Tup.mk [(x_wide - (1 : Int)), (x_high - (1 : Int))] : (Tup Int)).l := .cons rep_i (.cons rep_i (.nil))
    refine ⟨_, rfl, _, _, rfl, rfl, _, rfl, _, _, rfl, rfl, (by show 2 ≤ sizeLine; decide), fun p12 n12 => ?_⟩
    obtain ⟨F12, s12, w12, q12⟩ := w10.frzE (o := .tup [(.int (x_wide - (1 : Int))), (.int (x_high - (1 : Int)))]) n12
    replace h2 := A2.mono s12 h2
    replace h3 := A2.mono s12 h3
    replace q4 := s12 _ _ q4
    replace h5 := A2.mono s12 h5
    replace q6 := s12 _ _ q6
    replace h7 := A2.mono s12 h7
    replace h9 := A2.mono s12 h9
    replace q10 := s12 _ _ q10
    replace h11 := A2.mono s12 h11
    replace sF := sF.trans s12
    have h13 : A2 (rep K F12) [(.ref p10), (.ref p12)] ([(Tup.mk [(0 : Int), (x_high - (1 : Int))] : (Tup Int)), (Tup.mk [(x_wide - (1 : Int)), (x_high - (1 : Int))] : (Tup Int))] : (List (Tup Int))) := .cons (rep_tup q10 h9) (.cons (rep_tup q12 h11) (.nil))
    refine ⟨(by show 2 ≤ sizeLine; decide), fun p14 n14 => ?_⟩
    have w14 : W F12 _ ((p14, .lst [(.ref p10), (.ref p12)]) :: (p8, .lst [(.ref p4), (.ref p6)]) :: (a_state, .lst vs2) :: os) := w12.new n14
    have h15 : A2 (rep K F12) [(.int 0), (.int 0)] (Tup.mk [(0 : Int), (0 : Int)] : (Tup Int)).l := .cons rep_i (.cons rep_i (.nil))
    refine ⟨(by show 2 ≤ sizeLine; decide), fun p16 n16 => ?_⟩
    obtain ⟨F16, s16, w16, q16⟩ := w14.frzE (o := .tup [(.int 0), (.int 0)]) n16
    replace h2 := A2.mono s16 h2
    replace h3 := A2.mono s16 h3
    replace q4 := s16 _ _ q4
    replace h5 := A2.mono s16 h5
    replace q6 := s16 _ _ q6
    replace h7 := A2.mono s16 h7
    replace h9 := A2.mono s16 h9
    replace q10 := s16 _ _ q10
    replace h11 := A2.mono s16 h11
    replace q12 := s16 _ _ q12
    replace h13 := A2.mono s16 h13
    replace h15 := A2.mono s16 h15
    replace sF := sF.trans s16
    have h17 : A2 (rep K F16) [(.int 0), (.int (x_high - (1 : Int)))] (Tup.mk [(0 : Int), (x_high - (1 : Int))] : (Tup Int)).l := .cons rep_i (.cons rep_i (.nil))
    refine ⟨_, rfl, _, _, rfl, rfl, (by show 2 ≤ sizeLine; decide), fun p18 n18 => ?_⟩
    obtain ⟨F18, s18, w18, q18⟩ := w16.frzE (o := .tup [(.int 0), (.int (x_high - (1 : Int)))]) n18
    replace h2 := A2.mono s18 h2
    replace h3 := A2.mono s18 h3
    replace q4 := s18 _ _ q4
    replace h5 := A2.mono s18 h5
    replace q6 := s18 _ _ q6
    replace h7 := A2.mono s18 h7
    replace h9 := A2.mono s18 h9
    replace q10 := s18 _ _ q10
    replace h11 := A2.mono s18 h11
    replace q12 := s18 _ _ q12
    replace h13 := A2.mono s18 h13
    replace h15 := A2.mono s18 h15
    replace q16 := s18 _ _ q16
    replace h17 := A2.mono s18 h17
    replace sF := sF.trans s18
    have h19 : A2 (rep K F18) [(.ref p16), (.ref p18)] ([(Tup.mk [(0 : Int), (0 : Int)] : (Tup Int)), (Tup.mk [(0 : Int), (x_high - (1 : Int))] : (Tup Int))] : (List (Tup Int))) := .cons (rep_tup q16 h15) (.cons (rep_tup q18 h17) (.nil))
    refine ⟨(by show 2 ≤ sizeLine; decide), fun p20 n20 => ?_⟩
    have w20 : W F18 _ ((p20, .lst [(.ref p16), (.ref p18)]) :: (p14, .lst [(.ref p10), (.ref p12)]) :: (p8, .lst [(.ref p4), (.ref p6)]) :: (a_state, .lst vs2) :: os) := w18.new n20
    have h21 : A2 (rep K F18) [(.int (x_wide - (1 : Int))), (.int 0)] (Tup.mk [(x_wide - (1 : Int)), (0 : Int)] : (Tup Int)).l := .cons rep_i (.cons rep_i (.nil))
    refine ⟨_, rfl, _, _, rfl, rfl, (by show 2 ≤ sizeLine; decide), fun p22 n22 => ?_⟩
    obtain ⟨F22, s22, w22, q22⟩ := w20.frzE (o := .tup [(.int (x_wide - (1 : Int))), (.int 0)]) n22
    replace h2 := A2.mono s22 h2
    replace h3 := A2.mono s22 h3
    replace q4 := s22 _ _ q4
    replace h5 := A2.mono s22 h5
    replace q6 := s22 _ _ q6
    replace h7 := A2.mono s22 h7
    replace h9 := A2.mono s22 h9
    replace q10 := s22 _ _ q10
    replace h11 := A2.mono s22 h11
    replace q12 := s22 _ _ q12
    replace h13 := A2.mono s22 h13
    replace h15 := A2.mono s22 h15
    replace q16 := s22 _ _ q16
    replace h17 := A2.mono s22 h17
    replace q18 := s22 _ _ q18
    replace h19 := A2.mono s22 h19
    replace h21 := A2.mono s22 h21
    replace sF := sF.trans s22
    have h23 : A2 (rep K F22) [(.int (x_wide - (1 : Int))), (.int (x_high - (1 : Int)))] (Tup.mk [(x_wide - (1 : Int)), (x_high - (1 : Int))] : (Tup Int)).l := .cons rep_i (.cons rep_i (.nil))
    refine ⟨_, rfl, _, _, rfl, rfl, _, rfl, _, _, rfl, rfl, (by show 2 ≤ sizeLine; decide), fun p24 n24 => ?_⟩
    obtain ⟨F24, s24, w24, q24⟩ := w22.frzE (o := .tup [(.int (x_wide - (1 : Int))), (.int (x_high - (1 : Int)))]) n24
    replace h2 := A2.mono s24 h2
    replace h3 := A2.mono s24 h3
    replace q4 := s24 _ _ q4
    replace h5 := A2.mono s24 h5
    replace q6 := s24 _ _ q6
    replace h7 := A2.mono s24 h7
    replace h9 := A2.mono s24 h9
    replace q10 := s24 _ _ q10
    replace h11 := A2.mono s24 h11
    replace q12 := s24 _ _ q12
    replace h13 := A2.mono s24 h13
    replace h15 := A2.mono s24 h15
    replace q16 := s24 _ _ q16
    replace h17 := A2.mono s24 h17
    replace q18 := s24 _ _ q18
    replace h19 := A2.mono s24 h19
    replace h21 := A2.mono s24 h21
    replace q22 := s24 _ _ q22
    replace h23 := A2.mono s24 h23
    replace sF := sF.trans s24
    have h25 : A2 (rep K F24) [(.ref p22), (.ref p24)] ([(Tup.mk [(x_wide - (1 : Int)), (0 : Int)] : (Tup Int)), (Tup.mk [(x_wide - (1 : Int)), (x_high - (1 : Int))] : (Tup Int))] : (List (Tup Int))) := .cons (rep_tup q22 h21) (.cons (rep_tup q24 h23) (.nil))
    refine ⟨(by show 2 ≤ sizeLine; decide), fun p26 n26 => ?_⟩
    have w26 : W F24 _ ((p26, .lst [(.ref p22), (.ref p24)]) :: (p20, .lst [(.ref p16), (.ref p18)]) :: (p14, .lst [(.ref p10), (.ref p12)]) :: (p8, .lst [(.ref p4), (.ref p6)]) :: (a_state, .lst vs2) :: os) := w24.new n26
    refine ⟨(by show 4 ≤ sizeLine; decide), fun p27 n27 => ?_⟩
    obtain ⟨F27, s27, w27, q27⟩ := w26.frzE (o := .lst [(.ref p8), (.ref p14), (.ref p20), (.ref p26)]) n27
    replace h2 := A2.mono s27 h2
    replace h3 := A2.mono s27 h3
    replace q4 := s27 _ _ q4
    replace h5 := A2.mono s27 h5
    replace q6 := s27 _ _ q6
    replace h7 := A2.mono s27 h7
    replace h9 := A2.mono s27 h9
    replace q10 := s27 _ _ q10
    replace h11 := A2.mono s27 h11
    replace q12 := s27 _ _ q12
    replace h13 := A2.mono s27 h13
    replace h15 := A2.mono s27 h15
    replace q16 := s27 _ _ q16
    replace h17 := A2.mono s27 h17
    replace q18 := s27 _ _ q18
    replace h19 := A2.mono s27 h19
    replace h21 := A2.mono s27 h21
    replace q22 := s27 _ _ q22
    replace h23 := A2.mono s27 h23
    replace q24 := s27 _ _ q24
    replace h25 := A2.mono s27 h25
    replace sF := sF.trans s27
    obtain ⟨l27, e27, hm⟩ := pb_get hm
    have hp27 : A2 (Pick K F27 _ ((a_state, .lst vs2) :: os)) [V.ref p8, V.ref p14, V.ref p20, V.ref p26] [([(Tup.mk [(0 : Int), (0 : Int)] : (Tup Int)), (Tup.mk [(x_wide - (1 : Int)), (0 : Int)] : (Tup Int))] : (List (Tup Int))), ([(Tup.mk [(0 : Int), (x_high - (1 : Int))] : (Tup Int)), (Tup.mk [(x_wide - (1 : Int)), (x_high - (1 : Int))] : (Tup Int))] : (List (Tup Int))), ([(Tup.mk [(0 : Int), (0 : Int)] : (Tup Int)), (Tup.mk [(0 : Int), (x_high - (1 : Int))] : (Tup Int))] : (List (Tup Int))), ([(Tup.mk [(x_wide - (1 : Int)), (0 : Int)] : (Tup Int)), (Tup.mk [(x_wide - (1 : Int)), (x_high - (1 : Int))] : (Tup Int))] : (List (Tup Int)))] := .cons (pick_mk w27 (.cons _ (.cons _ (.cons _ (.cons₂ _ (.cons₂ _ (List.Sublist.refl _)))))) h7) (.cons (pick_mk w27 (.cons _ (.cons _ (.cons₂ _ (.cons _ (.cons₂ _ (List.Sublist.refl _)))))) h13) (.cons (pick_mk w27 (.cons _ (.cons₂ _ (.cons _ (.cons _ (.cons₂ _ (List.Sublist.refl _)))))) h19) (.cons (pick_mk w27 (.cons₂ _ (.cons _ (.cons _ (.cons _ (.cons₂ _ (List.Sublist.refl _)))))) h25) (.nil))))
    obtain ⟨u27, f27, a27, us27, ua27, w27p, h27⟩ := A2.at hp27 e27
    subst ua27
    refine ⟨_, rfl, _, _, _, _, rfl, rfl, SqL.of (w27.same _ _ q27), f27, ?_⟩
    refine stepN ?_
    try dsimp only
    refine joinS hm (fun (g29 : (List (Tup Int)) × (List Int)) σ H' => ∃ (F' : Hp) (vs29_0 : List V) (vs29_1 : List V), σ = [some (.ref a_state), some (.int x_wide), some (.int x_high), some (.int y2.1), some (.ref a27)] ∧ Same F27 F' ∧ W F' H' ((a27, .lst vs29_0) :: (a_state, .lst vs29_1) :: os) ∧ A2 (rep K F') vs29_0 g29.1 ∧ A2 (rep K F') vs29_1 g29.2) ?_ ?_
    · intro N29 P29 hN29 hm
      have w30 : W F27 _ ((a_state, .lst vs2) :: (a27, .lst us27) :: os) := w27p.front (pre := [_])
      refine ⟨_, rfl, _, _, _, _, _, _, rfl, w30, h2, ?_⟩
      refine (post_bind hm).mono (fun y31 hm v31 vs31 F31 H31 w31 s31 r31 h31 => ?_) (fun _ z => z)
      replace h27 := A2.mono s31 h27
      replace sF := sF.trans s31
      obtain rfl : v31 = V.int y31.1 := r31
      refine ⟨_, _, rfl, rfl, _, rfl, ?_⟩
      refine post_ite hm (fun k32 hm => ?_) (fun k32 hm => ?_)
      · skip
        refine ⟨_, rfl, .inl ⟨rfl, _, SqL.of (w31.get (pre := [_]))⟩, _, _, rfl, rfl, (w31.get (pre := [_])), ?_⟩
        have h33 : A2 (rep K F31) (us27.reverse) l27.reverse := A2.reverse h27
        have w34 : W F31 _ ((a_state, .lst vs31) :: (a27, .lst (us27.reverse)) :: os) := w31.set (pre := [_])
        have w35 : W F31 _ ((a27, .lst (us27.reverse)) :: (a_state, .lst vs31) :: os) := w34.front (pre := [_])
        exact hN29 _ (post_ok hm) _ _ ⟨_, _, _, rfl, s31, w35, h33, h31⟩
      · skip
        have w36 : W F31 _ ((a27, .lst us27) :: (a_state, .lst vs31) :: os) := w31.front (pre := [_])
        exact hN29 _ (post_ok hm) _ _ ⟨_, _, _, rfl, s31, w36, h27, h31⟩
    intro g29 σ29 H29 hI hm
    obtain ⟨F29, vs29_0, vs29_1, rfl, s29, w29, h29_0, h29_1⟩ := hI
    replace sF := sF.trans s29
    exact ⟨_, rfl, (post_ok hm) _ _ _ _ _ w29 sF h29_0 h29_1⟩
def sp_law_spans (K : Fg) : Sp := fun vs H Q E => ∃ (F : Hp) (os : List (Addr × HO)) (v_one : V) (x_one : (Tup Int)) (v_spot : V) (x_spot : (Tup Int)), vs = [v_one, v_spot] ∧ W F H (os) ∧ rep K F v_one x_one ∧ rep K F v_spot x_spot ∧ Post (law_spans x_one x_spot) (Ret K F os Q) noX
theorem sc_law_spans : FnScope ["one", "spot"] ["one", "spot"] (defScope s_law_spans) := ⟨rfl, rfl, rfl, by decide +kernel, rfl, by decide +kernel, by decide +kernel⟩
theorem ok_law_spans (T : Tx K mg A FD) : FnOk P w K mg base CX0 1 (A 25) (FD 25) ["one", "spot"] (sp_law_spans K) := by
  refine T.d25.fn.ok sc_law_spans (fun vs H Q E h => ?_) (fun cdv Ar outer s H vs Q E hr h => ?_)
  · obtain ⟨F, os, v_one, x_one, v_spot, x_spot, rfl, _⟩ := h
    rfl
  · obtain ⟨F0, os, v_one, x_one, v_spot, x_spot, rfl, w0, r_one, r_spot, hm⟩ := h
    have sF : Same F0 F0 := Same.refl _
    obtain ⟨a1, vs1, rfl, q1, h1⟩ := r_one
    obtain ⟨a2, vs2, rfl, q2, h2⟩ := r_spot
    refine ⟨_, (pss_one (ps_ret (pe_op op_add (pe_callB call_abs (by rfl) T.n_abs (by decide +kernel) (pa_cons (pe_op op_sub (pe_ix (ix_tupK (K := K) rfl) (pv 0) pe_int (fun _ _ => rfl)) (pe_ix (ix_tupK (K := K) rfl) (pv 1) pe_int (fun _ _ => rfl))) pa_nil)) (pe_callB call_abs (by rfl) T.n_abs (by decide +kernel) (pa_cons (pe_op op_sub (pe_ix (ix_tupK (K := K) rfl) (pv 0) pe_int (fun _ _ => rfl)) (pe_ix (ix_tupK (K := K) rfl) (pv 1) pe_int (fun _ _ => rfl))) pa_nil))))), ?_⟩
    obtain ⟨t3, e3, hm⟩ := pb_get hm
    obtain ⟨u3, f3, r3⟩ := A2.at h1 e3
    obtain rfl : u3 = V.int t3 := r3
    obtain ⟨t4, e4, hm⟩ := pb_get hm
    obtain ⟨u4, f4, r4⟩ := A2.at h2 e4
    obtain rfl : u4 = V.int t4 := r4
    obtain ⟨t5, e5, hm⟩ := pb_get hm
    obtain ⟨u5, f5, r5⟩ := A2.at h1 e5
    obtain rfl : u5 = V.int t5 := r5
    obtain ⟨t6, e6, hm⟩ := pb_get hm
    obtain ⟨u6, f6, r6⟩ := A2.at h2 e6
    obtain rfl : u6 = V.int t6 := r6
    exact ⟨_, rfl, _, _, _, _, rfl, rfl, SqT.of (w0.same _ _ q1), f3, _, rfl, _, _, _, _, rfl, rfl, SqT.of (w0.same _ _ q2), f4, _, _, rfl, rfl, _, rfl, _, rfl, _, _, _, _, rfl, rfl, SqT.of (w0.same _ _ q1), f5, _, rfl, _, _, _, _, rfl, rfl, SqT.of (w0.same _ _ q2), f6, _, _, rfl, rfl, _, rfl, _, _, rfl, rfl, (post_ok hm) _ _ _ w0 sF rep_i⟩
def sp_law_spansl (K : Fg) : Sp := fun vs H Q E => ∃ (F : Hp) (os : List (Addr × HO)) (v_one : V) (x_one : (Tup Int)) (v_spot : V) (x_spot : (List Int)), vs = [v_one, v_spot] ∧ W F H (os) ∧ rep K F v_one x_one ∧ rep K F v_spot x_spot ∧ Post (law_spansl x_one x_spot) (Ret K F os Q) noX
theorem ok_law_spansl (T : Tx K mg A FD) : FnOk P w K mg base CX0 1 (A 25) (FD 25) ["one", "spot"] (sp_law_spansl K) := by
  refine T.d25.fn.ok sc_law_spans (fun vs H Q E h => ?_) (fun cdv Ar outer s H vs Q E hr h => ?_)
  · obtain ⟨F, os, v_one, x_one, v_spot, x_spot, rfl, _⟩ := h
    rfl
  · obtain ⟨F0, os, v_one, x_one, v_spot, x_spot, rfl, w0, r_one, r_spot, hm⟩ := h
    have sF : Same F0 F0 := Same.refl _
    obtain ⟨a1, vs1, rfl, q1, h1⟩ := r_one
    obtain ⟨a2, vs2, rfl, q2, h2⟩ := r_spot
    refine ⟨_, (pss_one (ps_ret (pe_op op_add (pe_callB call_abs (by rfl) T.n_abs (by decide +kernel) (pa_cons (pe_op op_sub (pe_ix (ix_tupK (K := K) rfl) (pv 0) pe_int (fun _ _ => rfl)) (pe_ix (ix_listK (K := K) rfl) (pv 1) pe_int (fun _ _ => rfl))) pa_nil)) (pe_callB call_abs (by rfl) T.n_abs (by decide +kernel) (pa_cons (pe_op op_sub (pe_ix (ix_tupK (K := K) rfl) (pv 0) pe_int (fun _ _ => rfl)) (pe_ix (ix_listK (K := K) rfl) (pv 1) pe_int (fun _ _ => rfl))) pa_nil))))), ?_⟩
    obtain ⟨t3, e3, hm⟩ := pb_get hm
    obtain ⟨u3, f3, r3⟩ := A2.at h1 e3
    obtain rfl : u3 = V.int t3 := r3
    obtain ⟨t4, e4, hm⟩ := pb_get hm
    obtain ⟨u4, f4, r4⟩ := A2.at h2 e4
    obtain rfl : u4 = V.int t4 := r4
    obtain ⟨t5, e5, hm⟩ := pb_get hm
    obtain ⟨u5, f5, r5⟩ := A2.at h1 e5
    obtain rfl : u5 = V.int t5 := r5
    obtain ⟨t6, e6, hm⟩ := pb_get hm
    obtain ⟨u6, f6, r6⟩ := A2.at h2 e6
    obtain rfl : u6 = V.int t6 := r6
    exact ⟨_, rfl, _, _, _, _, rfl, rfl, SqT.of (w0.same _ _ q1), f3, _, rfl, _, _, _, _, rfl, rfl, SqL.of (w0.same _ _ q2), f4, _, _, rfl, rfl, _, rfl, _, rfl, _, _, _, _, rfl, rfl, SqT.of (w0.same _ _ q1), f5, _, rfl, _, _, _, _, rfl, rfl, SqL.of (w0.same _ _ q2), f6, _, _, rfl, rfl, _, rfl, _, _, rfl, rfl, (post_ok hm) _ _ _ w0 sF rep_i⟩
def sp_law_by_halves (K : Fg) : Sp := fun vs H Q E => ∃ (F : Hp) (os : List (Addr × HO)) (x_wide : Int) (x_high : Int) (v_one : V) (x_one : (Tup Int)) (v_other : V) (x_other : (Tup Int)) (v_told : V) (x_told : (List Int)), vs = [.int x_wide, .int x_high, v_one, v_other, v_told] ∧ W F H (os) ∧ rep K F v_one x_one ∧ rep K F v_other x_other ∧ rep K F v_told x_told ∧ Post (law_by_halves x_wide x_high x_one x_other x_told) (Ret K F os Q) noX
theorem sc_law_by_halves : FnScope ["wide", "high", "one", "other", "told", "at", "low", "beyond", "last", "spot"] ["wide", "high", "one", "other", "told"] (defScope s_law_by_halves) := ⟨rfl, rfl, rfl, by decide +kernel, rfl, by decide +kernel, by decide +kernel⟩
set_option maxHeartbeats 40000000 in
theorem ok_law_by_halves (T : Tx K mg A FD) : FnOk P w K mg base CX0 2 (A 26) (FD 26) ["wide", "high", "one", "other", "told"] (sp_law_by_halves K) := by
  refine T.d26.fn.ok sc_law_by_halves (fun vs H Q E h => ?_) (fun cdv Ar outer s H vs Q E hr h => ?_)
  · obtain ⟨F, os, x_wide, x_high, v_one, x_one, v_other, x_other, v_told, x_told, rfl, _⟩ := h
    rfl
  · obtain ⟨F0, os, x_wide, x_high, v_one, x_one, v_other, x_other, v_told, x_told, rfl, w0, r_one, r_other, r_told, hm⟩ := h
    have sF : Same F0 F0 := Same.refl _
    obtain ⟨a1, vs1, rfl, q1, h1⟩ := r_one
    obtain ⟨a2, vs2, rfl, q2, h2⟩ := r_other
    obtain ⟨a3, vs3, rfl, q3, h3⟩ := r_told
    refine ⟨_, (pss_cons (ps_set (i := 5) sc_law_by_halves.nd rfl (Or.inl rfl) (pe_callTy call_intB (by rfl) T.n_int (by decide +kernel) (pa_cons (pe_cmp (pc_eqI (pe_ix (ix_tupK (K := K) rfl) (pv 2) pe_int (fun _ _ => rfl)) (pe_ix (ix_tupK (K := K) rfl) (pv 3) pe_int (fun _ _ => rfl)))) pa_nil))) (pss_cons (ps_asg (pv 4) (pg_k (K := K) (t := fun K => gUnl K 2 _) rfl (pg_unl (n := 2) rfl (pgs_cons (pg_name (i := 6) sc_law_by_halves.nd rfl (Or.inl rfl)) (pgs_cons (pg_name (i := 7) sc_law_by_halves.nd rfl (Or.inl rfl)) pgs_nil))))) (pss_cons (ps_if (pt_cmp (pc_gt (pe_ix (ix_tupK (K := K) rfl) (pv 2) (pv 5) (fun _ _ => rfl)) (pe_ix (ix_tupK (K := K) rfl) (pv 3) (pv 5) (fun _ _ => rfl)))) (pss_one (ps_par (i := 6) (j := 7) rfl sc_law_by_halves.nd rfl rfl (by decide) rfl rfl (pa_cons (pv 7) (pa_cons (pv 6) pa_nil)) rfl)) pss_nil) (pss_cons (ps_set (i := 8) sc_law_by_halves.nd rfl (Or.inl rfl) (pe_callB (call_max2 rfl) (by rfl) T.n_max (by decide +kernel) (pa_cons (pe_ix (ix_tupK (K := K) rfl) (pv 2) (pv 5) (fun _ _ => rfl)) (pa_cons (pe_ix (ix_tupK (K := K) rfl) (pv 3) (pv 5) (fun _ _ => rfl)) pa_nil)))) (pss_cons (ps_set (i := 9) sc_law_by_halves.nd rfl (Or.inl rfl) (pe_lst (pa_cons (pe_op op_fdiv (pe_op op_add (pe_op op_sub (pv 6) (pv 7)) (pv 8)) pe_int) (pa_cons (pe_op op_fdiv (pe_op op_sub (pe_op op_add (pv 6) (pv 7)) (pv 8)) pe_int) pa_nil)))) (pss_cons (ps_if (pt_cmp (pc_gt (pe_ix (ix_tupK (K := K) rfl) (pv 2) (pe_op op_sub pe_int (pv 5)) (fun _ _ => rfl)) pe_int)) (pss_one (ps_asg (pe_op op_sub (pe_ix (ix_tupK (K := K) rfl) (pv 2) (pe_op op_sub pe_int (pv 5)) (fun _ _ => rfl)) (pe_ix (ix_listK (K := K) rfl) (pv 9) pe_int (fun _ _ => rfl))) (pg_sub (pv 9) pe_int set_list))) pss_nil) (pss_cons (ps_if (pt_cmp (pc_eqI (pv 5) pe_int)) (pss_one (ps_set (i := 9) sc_law_by_halves.nd rfl (Or.inl rfl) (pe_k (K := K) (t := fun K => tRevL K _) rfl (pe_revL (pv 9))))) pss_nil) (pss_cons (ps_if (PW.pt (pw_or (pt_not (pt_chain op_le op_lt pe_int (pe_ix (ix_listK (K := K) rfl) (pv 9) pe_int (fun _ _ => rfl)) (pv 0))) (pw_or1 (pt_not (pt_chain op_le op_lt pe_int (pe_ix (ix_listK (K := K) rfl) (pv 9) pe_int (fun _ _ => rfl)) (pv 1)))))) (pss_one (ps_ret pe_str)) pss_nil) (pss_cons (ps_if (pt_cmpR (op_neDt (K := K) rfl (List Int) (by decide) hr.units) (pe_lst (pa_cons (pe_call (ok_law_spansl T) (hr.mono (by decide)) (by rfl) T.d25.mg T.d25.fn.kp T.d25.b .nil pass0 (pa_cons (pv 2) (pa_cons (pv 9) pa_nil))) (pa_cons (pe_call (ok_law_spansl T) (hr.mono (by decide)) (by rfl) T.d25.mg T.d25.fn.kp T.d25.b .nil pass0 (pa_cons (pv 3) (pa_cons (pv 9) pa_nil))) pa_nil))) (pv 4) (nomark _)) (pss_one (ps_ret pe_str)) pss_nil) (pss_one (ps_ret (pe_callTy (call_tuple_ofK (K := K) rfl) (by rfl) T.n_tuple (by decide +kernel) (pa_cons (pv 9) pa_nil))))))))))))), ?_⟩
    obtain ⟨t4, e4, hm⟩ := pb_get hm
    obtain ⟨u4, f4, r4⟩ := A2.at h1 e4
    obtain rfl : u4 = V.int t4 := r4
    obtain ⟨t5, e5, hm⟩ := pb_get hm
    obtain ⟨u5, f5, r5⟩ := A2.at h2 e5
    obtain rfl : u5 = V.int t5 := r5
    obtain ⟨a6, b6, e6, hm⟩ := pb_un2 hm
    have ev6 : vs3 = [.int a6, .int b6] := two_ints h3 e6
    refine ⟨_, rfl, _, _, _, _, rfl, rfl, SqT.of (w0.same _ _ q1), f4, _, rfl, _, _, _, _, rfl, rfl, SqT.of (w0.same _ _ q2), f5, _, _, rfl, rfl, _, rfl, _, rfl, _, [.int a6, .int b6], rfl, (ev6 ▸ SqL.of (w0.same _ _ q3)), rfl, _, _, rfl, _, _, rfl, rfl, ?_⟩
    try dsimp only
    refine joinS hm (fun (g7 : Int × Int) σ H' => ∃ (F' : Hp), σ = [some (.int x_wide), some (.int x_high), some (.ref a1), some (.ref a2), some (.ref a3), some (.int (b2i (decide (t4 = t5)))), some (.int g7.1), some (.int g7.2), none, none] ∧ Same F0 F' ∧ W F' H' (os)) ?_ ?_
    · intro N7 P7 hN7 hm
      obtain ⟨t8, e8, hm⟩ := pb_get hm
      obtain ⟨u8, f8, r8⟩ := A2.at h1 e8
      obtain rfl : u8 = V.int t8 := r8
      obtain ⟨t9, e9, hm⟩ := pb_get hm
      obtain ⟨u9, f9, r9⟩ := A2.at h2 e9
      obtain rfl : u9 = V.int t9 := r9
      refine ⟨_, rfl, _, rfl, _, _, _, _, rfl, rfl, SqT.of (w0.same _ _ q1), f8, _, rfl, _, rfl, _, _, _, _, rfl, rfl, SqT.of (w0.same _ _ q2), f9, _, _, rfl, rfl, _, rfl, ?_⟩
      refine post_ite hm (fun k10 hm => ?_) (fun k10 hm => ?_)
      · skip
        exact ⟨_, rfl, _, rfl, _, _, rfl, hN7 _ (post_ok hm) _ _ ⟨_, rfl, Same.refl _, w0⟩⟩
      · skip
        exact hN7 _ (post_ok hm) _ _ ⟨_, rfl, Same.refl _, w0⟩
    intro g7 σ7 H7 hI hm
    obtain ⟨F7, rfl, s7, w7⟩ := hI
    replace h1 := A2.mono s7 h1
    replace q1 := s7 _ _ q1
    replace h2 := A2.mono s7 h2
    replace q2 := s7 _ _ q2
    replace h3 := A2.mono s7 h3
    replace q3 := s7 _ _ q3
    replace sF := sF.trans s7
    obtain ⟨t11, e11, hm⟩ := pb_get hm
    obtain ⟨u11, f11, r11⟩ := A2.at h1 e11
    obtain rfl : u11 = V.int t11 := r11
    obtain ⟨t12, e12, hm⟩ := pb_get hm
    obtain ⟨u12, f12, r12⟩ := A2.at h2 e12
    obtain rfl : u12 = V.int t12 := r12
    have h15 : A2 (rep K F7) [(.int (((g7.1 - g7.2) + (max2 t11 t12)) / (2 : Int))), (.int (((g7.1 + g7.2) - (max2 t11 t12)) / (2 : Int)))] ([(((g7.1 - g7.2) + (max2 t11 t12)) / (2 : Int)), (((g7.1 + g7.2) - (max2 t11 t12)) / (2 : Int))] : (List Int)) := .cons rep_i (.cons rep_i (.nil))
    refine ⟨_, rfl, _, rfl, _, _, _, _, rfl, rfl, SqT.of (w7.same _ _ q1), f11, _, rfl, _, rfl, _, _, _, _, rfl, rfl, SqT.of (w7.same _ _ q2), f12, _, _, rfl, _, rfl, _, rfl, _, _, rfl, rfl, _, rfl, _, _, rfl, rfl, _, _, rfl, rfl, (by constructor <;> decide), _, rfl, _, rfl, _, _, rfl, rfl, _, rfl, _, _, rfl, rfl, _, _, rfl, rfl, (by constructor <;> decide), (by show 2 ≤ sizeLine; decide), fun p16 n16 => ?_⟩
    have w16 : W F7 _ ((p16, .lst [(.int (((g7.1 - g7.2) + (max2 t11 t12)) / (2 : Int))), (.int (((g7.1 + g7.2) - (max2 t11 t12)) / (2 : Int)))]) :: os) := w7.new n16
    refine stepN ?_
    try dsimp only
    refine joinS hm (fun (g17 : (List Int)) σ H' => ∃ (F' : Hp) (vs17_0 : List V), σ = [some (.int x_wide), some (.int x_high), some (.ref a1), some (.ref a2), some (.ref a3), some (.int (b2i (decide (t4 = t5)))), some (.int g7.1), some (.int g7.2), some (.int (max2 t11 t12)), some (.ref p16)] ∧ Same F7 F' ∧ W F' H' ((p16, .lst vs17_0) :: os) ∧ A2 (rep K F') vs17_0 g17) ?_ ?_
    · intro N17 P17 hN17 hm
      obtain ⟨t18, e18, hm⟩ := pb_get hm
      obtain ⟨u18, f18, r18⟩ := A2.at h1 e18
      obtain rfl : u18 = V.int t18 := r18
      refine ⟨_, rfl, _, rfl, _, _, rfl, rfl, _, _, _, _, rfl, rfl, SqT.of (w16.same _ _ q1), f18, _, _, rfl, rfl, _, rfl, ?_⟩
      refine post_ite hm (fun k19 hm => ?_) (fun k19 hm => ?_)
      · skip
        obtain ⟨t20, e20, hm⟩ := pb_get hm
        obtain ⟨u20, f20, r20⟩ := A2.at h1 e20
        obtain rfl : u20 = V.int t20 := r20
        obtain ⟨t21, e21, hm⟩ := pb_get hm
        obtain ⟨u21, f21, r21⟩ := A2.at h15 e21
        obtain rfl : u21 = V.int t21 := r21
        obtain ⟨j22, l22, z22, e22, hm⟩ := pn_set hm
        refine ⟨_, rfl, _, rfl, _, _, rfl, rfl, _, _, _, _, rfl, rfl, SqT.of (w16.same _ _ q1), f20, _, rfl, _, _, _, _, rfl, rfl, SqL.of (w16.get (pre := [])), f21, _, _, rfl, rfl, _, rfl, _, _, _, _, rfl, rfl, (w16.get (pre := [])), (A2.ix h15 z22), ?_⟩
        have h22 : A2 (rep K F7) ([(.int (((g7.1 - g7.2) + (max2 t11 t12)) / (2 : Int))), (.int (((g7.1 + g7.2) - (max2 t11 t12)) / (2 : Int)))].set j22 (V.int (t20 - t21))) l22 := e22 ▸ A2.set rep_i j22 h15
        have w23 : W F7 _ ((p16, .lst ([(.int (((g7.1 - g7.2) + (max2 t11 t12)) / (2 : Int))), (.int (((g7.1 + g7.2) - (max2 t11 t12)) / (2 : Int)))].set j22 (V.int (t20 - t21)))) :: os) := w16.set (pre := [])
        exact hN17 _ (post_ok hm) _ _ ⟨_, _, rfl, Same.refl _, w23, h22⟩
      · skip
        exact hN17 _ (post_ok hm) _ _ ⟨_, _, rfl, Same.refl _, w16, h15⟩
    intro g17 σ17 H17 hI hm
    obtain ⟨F17, vs17_0, rfl, s17, w17, h17_0⟩ := hI
    replace h1 := A2.mono s17 h1
    replace q1 := s17 _ _ q1
    replace h2 := A2.mono s17 h2
    replace q2 := s17 _ _ q2
    replace h3 := A2.mono s17 h3
    replace q3 := s17 _ _ q3
    replace sF := sF.trans s17
    try dsimp only
    refine joinS hm (fun (g24 : (List Int)) σ H' => ∃ (F' : Hp) (ao24_9 : Addr) (uo24_9 : List V), σ = [some (.int x_wide), some (.int x_high), some (.ref a1), some (.ref a2), some (.ref a3), some (.int (b2i (decide (t4 = t5)))), some (.int g7.1), some (.int g7.2), some (.int (max2 t11 t12)), some (.ref ao24_9)] ∧ Same F17 F' ∧ W F' H' ((ao24_9, .lst uo24_9) :: os) ∧ A2 (rep K F') uo24_9 g24) ?_ ?_
    · intro N24 P24 hN24 hm
      refine ⟨_, rfl, _, _, rfl, rfl, _, rfl, ?_⟩
      refine post_ite hm (fun k25 hm => ?_) (fun k25 hm => ?_)
      · skip
        have h26 : A2 (rep K F17) (vs17_0).reverse g17.reverse := A2.reverse h17_0
        refine ⟨_, rfl, _, _, rfl, SqL.of (w17.get (pre := [])), fun p27 n27 => ?_⟩
        have w27 : W F17 _ ((p27, .lst (vs17_0).reverse) :: (p16, .lst vs17_0) :: os) := w17.new n27
        have w28 : W F17 _ ((p27, .lst (vs17_0).reverse) :: os) := w27.drop (pre := [_])
        exact hN24 _ (post_ok hm) _ _ ⟨_, _, _, rfl, Same.refl _, w28, h26⟩
      · skip
        exact hN24 _ (post_ok hm) _ _ ⟨_, _, _, rfl, Same.refl _, w17, h17_0⟩
    intro g24 σ24 H24 hI hm
    obtain ⟨F24, ao24_9, uo24_9, rfl, s24, w24, ko24_9⟩ := hI
    replace h1 := A2.mono s24 h1
    replace q1 := s24 _ _ q1
    replace h2 := A2.mono s24 h2
    replace q2 := s24 _ _ q2
    replace h3 := A2.mono s24 h3
    replace q3 := s24 _ _ q3
    replace sF := sF.trans s24
    try dsimp only
    refine stepSeq (stepIf ?_)
    refine joinT hm (fun (j30 : Bool) c H' => c = j30 ∧ ∃ (F' : Hp), Same F24 F' ∧ W F' H' ((ao24_9, .lst uo24_9) :: os)) ?_ ?_
    · intro Q30 P30 q30 hm
      refine stepOr ?_
      refine stepNot ?_
      refine joinT hm (fun (j31 : Bool) c H' => c = j31 ∧ ∃ (F' : Hp), Same F24 F' ∧ W F' H' ((ao24_9, .lst uo24_9) :: os)) ?_ ?_
      · intro Q31 P31 q31 hm
        obtain ⟨t32, e32, hm⟩ := pb_get hm
        obtain ⟨u32, f32, r32⟩ := A2.at ko24_9 e32
        obtain rfl : u32 = V.int t32 := r32
        refine ⟨_, rfl, _, _, _, _, rfl, rfl, SqL.of (w24.get (pre := [])), f32, _, _, rfl, rfl, _, rfl, ?_⟩
        refine post_ite hm (fun k33 hm => ?_) (fun k33 hm => ?_)
        · skip
          exact ⟨_, rfl, _, _, rfl, rfl, _, rfl, q31 _ (post_ok hm) _ _ ⟨rfl, _, Same.refl _, w24⟩⟩
        · skip
          exact ⟨_, rfl, q31 _ (post_ok hm) _ _ ⟨rfl, _, Same.refl _, w24⟩⟩
      intro j31 c31 H31 hc31 hm
      obtain ⟨rfl, F31, s31, w31⟩ := hc31
      replace h1 := A2.mono s31 h1
      replace q1 := s31 _ _ q1
      replace h2 := A2.mono s31 h2
      replace q2 := s31 _ _ q2
      replace h3 := A2.mono s31 h3
      replace q3 := s31 _ _ q3
      replace ko24_9 := A2.mono s31 ko24_9
      replace sF := sF.trans s31
      refine post_ite hm (fun k36 hm => ?_) (fun k36 hm => ?_)
      · skip
        exact q30 _ (post_ok hm) _ _ ⟨rfl, _, s31, w31⟩
      · skip
        refine stepNot ?_
        refine joinT hm (fun (j38 : Bool) c H' => c = j38 ∧ ∃ (F' : Hp), Same F31 F' ∧ W F' H' ((ao24_9, .lst uo24_9) :: os)) ?_ ?_
        · intro Q38 P38 q38 hm
          obtain ⟨t39, e39, hm⟩ := pb_get hm
          obtain ⟨u39, f39, r39⟩ := A2.at ko24_9 e39
          obtain rfl : u39 = V.int t39 := r39
          refine ⟨_, rfl, _, _, _, _, rfl, rfl, SqL.of (w31.get (pre := [])), f39, _, _, rfl, rfl, _, rfl, ?_⟩
          refine post_ite hm (fun k40 hm => ?_) (fun k40 hm => ?_)
          · skip
            exact ⟨_, rfl, _, _, rfl, rfl, _, rfl, q38 _ (post_ok hm) _ _ ⟨rfl, _, Same.refl _, w31⟩⟩
          · skip
            exact ⟨_, rfl, q38 _ (post_ok hm) _ _ ⟨rfl, _, Same.refl _, w31⟩⟩
        intro j38 c38 H38 hc38 hm
        obtain ⟨rfl, F38, s38, w38⟩ := hc38
        replace h1 := A2.mono s38 h1
        replace q1 := s38 _ _ q1
        replace h2 := A2.mono s38 h2
        replace q2 := s38 _ _ q2
        replace h3 := A2.mono s38 h3
        replace q3 := s38 _ _ q3
        replace ko24_9 := A2.mono s38 ko24_9
        replace sF := sF.trans s38
        exact q30 _ (post_ok hm) _ _ ⟨rfl, _, (s31.trans s38), w38⟩
    intro j30 c30 H30 hc30 hm
    obtain ⟨rfl, F30, s30, w30⟩ := hc30
    replace h1 := A2.mono s30 h1
    replace q1 := s30 _ _ q1
    replace h2 := A2.mono s30 h2
    replace q2 := s30 _ _ q2
    replace h3 := A2.mono s30 h3
    replace q3 := s30 _ _ q3
    replace ko24_9 := A2.mono s30 ko24_9
    replace sF := sF.trans s30
    refine post_ite hm (fun k44 hm => ?_) (fun k44 hm => ?_)
    · skip
      have w45 : W F30 _ (os) := w30.drop (pre := [])
      exact (post_ok hm) _ _ _ w45 sF rep_tuS
    · skip
      have b46_h1 := h1
      have b46_q1 := q1
      have b46_h2 := h2
      have b46_q2 := q2
      have b46_h3 := h3
      have b46_q3 := q3
      have b46_ko24_9 := ko24_9
      have b46_sF := sF
      obtain ⟨F47, s47, w47, q47⟩ : ∃ F', Same F30 F' ∧ W F' _ (os) ∧ F' ao24_9 = some (.lst uo24_9) := w30.freezeE (pre := [])
      replace h1 := A2.mono s47 h1
      replace q1 := s47 _ _ q1
      replace h2 := A2.mono s47 h2
      replace q2 := s47 _ _ q2
      replace h3 := A2.mono s47 h3
      replace q3 := s47 _ _ q3
      replace ko24_9 := A2.mono s47 ko24_9
      replace sF := sF.trans s47
      refine ⟨_, rfl, _, rfl, _, _, _, (x_one : (Tup Int)), _, (g24 : (List Int)), rfl, w47, (rep_tup q1 h1), (rep_lst q47 ko24_9), ?_⟩
      refine (post_bind hm).mono (fun y48 hm v48 F48 H48 w48 s48 r48 => ?_) (fun _ z => z)
      replace h1 := A2.mono s48 h1
      replace q1 := s48 _ _ q1
      replace h2 := A2.mono s48 h2
      replace q2 := s48 _ _ q2
      replace h3 := A2.mono s48 h3
      replace q3 := s48 _ _ q3
      replace ko24_9 := A2.mono s48 ko24_9
      replace q47 := s48 _ _ q47
      replace sF := sF.trans s48
      obtain rfl : v48 = V.int y48 := r48
      obtain ⟨F49, s49, w49⟩ : ∃ F', Same F30 F' ∧ W F' _ ((ao24_9, .lst uo24_9) :: (os)) := W.lent (as := []) (vss := []) w30 (.cons₂ _ (List.nil_sublist _)) s47 (s48) q47 (fun j b vs h => by simp at h) w48
      have h1 := b46_h1
      have q1 := b46_q1
      have h2 := b46_h2
      have q2 := b46_q2
      have h3 := b46_h3
      have q3 := b46_q3
      have ko24_9 := b46_ko24_9
      have sF := b46_sF
      replace h1 := A2.mono s49 h1
      replace q1 := s49 _ _ q1
      replace h2 := A2.mono s49 h2
      replace q2 := s49 _ _ q2
      replace h3 := A2.mono s49 h3
      replace q3 := s49 _ _ q3
      replace ko24_9 := A2.mono s49 ko24_9
      replace sF := sF.trans s49
      have b51_h1 := h1
      have b51_q1 := q1
      have b51_h2 := h2
      have b51_q2 := q2
      have b51_h3 := h3
      have b51_q3 := q3
      have b51_ko24_9 := ko24_9
      have b51_sF := sF
      obtain ⟨F52, s52, w52, q52⟩ : ∃ F', Same F49 F' ∧ W F' _ (os) ∧ F' ao24_9 = some (.lst uo24_9) := w49.freezeE (pre := [])
      replace h1 := A2.mono s52 h1
      replace q1 := s52 _ _ q1
      replace h2 := A2.mono s52 h2
      replace q2 := s52 _ _ q2
      replace h3 := A2.mono s52 h3
      replace q3 := s52 _ _ q3
      replace ko24_9 := A2.mono s52 ko24_9
      replace sF := sF.trans s52
      refine ⟨_, rfl, _, rfl, _, _, _, (x_other : (Tup Int)), _, (g24 : (List Int)), rfl, w52, (rep_tup q2 h2), (rep_lst q52 ko24_9), ?_⟩
      refine (post_bind hm).mono (fun y53 hm v53 F53 H53 w53 s53 r53 => ?_) (fun _ z => z)
      replace h1 := A2.mono s53 h1
      replace q1 := s53 _ _ q1
      replace h2 := A2.mono s53 h2
      replace q2 := s53 _ _ q2
      replace h3 := A2.mono s53 h3
      replace q3 := s53 _ _ q3
      replace ko24_9 := A2.mono s53 ko24_9
      replace q52 := s53 _ _ q52
      replace sF := sF.trans s53
      obtain rfl : v53 = V.int y53 := r53
      obtain ⟨F54, s54, w54⟩ : ∃ F', Same F49 F' ∧ W F' _ ((ao24_9, .lst uo24_9) :: (os)) := W.lent (as := []) (vss := []) w49 (.cons₂ _ (List.nil_sublist _)) s52 (s53) q52 (fun j b vs h => by simp at h) w53
      have h1 := b51_h1
      have q1 := b51_q1
      have h2 := b51_h2
      have q2 := b51_q2
      have h3 := b51_h3
      have q3 := b51_q3
      have ko24_9 := b51_ko24_9
      have sF := b51_sF
      replace h1 := A2.mono s54 h1
      replace q1 := s54 _ _ q1
      replace h2 := A2.mono s54 h2
      replace q2 := s54 _ _ q2
      replace h3 := A2.mono s54 h3
      replace q3 := s54 _ _ q3
      replace ko24_9 := A2.mono s54 ko24_9
      replace sF := sF.trans s54
      have h56 : A2 (rep K F54) [(.int y48), (.int y53)] ([y48, y53] : (List Int)) := .cons rep_i (.cons rep_i (.nil))
      refine ⟨(by show 2 ≤ sizeLine; decide), fun p57 n57 => ?_⟩
      have w57 : W F54 _ ((p57, .lst [(.int y48), (.int y53)]) :: (ao24_9, .lst uo24_9) :: os) := w54.new n57
      refine ⟨_, rfl, (([y48, y53] : (List Int)) : (List Int)), (x_told : (List Int)), (rep_own (pre := []) w57 h56), (Rep.mono w57.same (rep_lst q3 h3)), _, rfl, ?_⟩
      have w58 : W F54 _ ((ao24_9, .lst uo24_9) :: os) := w57.drop (pre := [])
      refine post_ite hm (fun k59 hm => ?_) (fun k59 hm => ?_)
      · skip
        have w60 : W F54 _ (os) := w58.drop (pre := [])
        exact (post_ok hm) _ _ _ w60 sF rep_tuS
      · skip
        have h61 : A2 (rep K F54) uo24_9 g24 := ko24_9
        refine ⟨_, rfl, _, _, rfl, .inl ⟨SqL.of (w58.get (pre := [])), fun p62 n62 => ?_⟩⟩
        obtain ⟨F62, s62, w62, q62⟩ := w58.frzE (o := .tup uo24_9) n62
        replace h1 := A2.mono s62 h1
        replace q1 := s62 _ _ q1
        replace h2 := A2.mono s62 h2
        replace q2 := s62 _ _ q2
        replace h3 := A2.mono s62 h3
        replace q3 := s62 _ _ q3
        replace ko24_9 := A2.mono s62 ko24_9
        replace h61 := A2.mono s62 h61
        replace sF := sF.trans s62
        have w63 : W F62 _ (os) := w62.drop (pre := [])
        exact (post_ok hm) _ _ _ w63 sF (rep_tuT (rep_tup q62 h61))
def sp_law_grid_right (K : Fg) : Sp := fun vs H Q E => ∃ (F : Hp) (os : List (Addr × HO)) (a_state : Addr) (vs_state : List V) (x_state : (List Int)), vs = [.ref a_state] ∧ W F H ((a_state, .lst vs_state) :: os) ∧ A2 (rep K F) vs_state x_state ∧ Post (law_grid_right x_state) (RetM K F a_state os Q) noX
theorem sc_law_grid_right : FnScope ["state", "sizes", "wide", "high", "one", "other", "spot", "code", "handed", "told", "due", "every", "x", "y"] ["state"] (defScope s_law_grid_right) := ⟨rfl, rfl, rfl, by decide +kernel, rfl, by decide +kernel, by decide +kernel⟩
set_option maxHeartbeats 40000000 in
theorem ok_law_grid_right (T : Tx K mg A FD) : FnOk P w K mg base CX0 4 (A 27) (FD 27) ["state"] (sp_law_grid_right K) := by
  refine T.d27.fn.ok sc_law_grid_right (fun vs H Q E h => ?_) (fun cdv Ar outer s H vs Q E hr h => ?_)
  · obtain ⟨F, os, a_state, vs_state, x_state, rfl, _⟩ := h
    rfl
  · obtain ⟨F0, os, a_state, vs_state, x_state, rfl, w0, h_state, hm⟩ := h
    have sF : Same F0 F0 := Same.refl _
    refine ⟨_, (pss_cons (ps_set (i := 1) sc_law_grid_right.nd rfl (Or.inl rfl) (pe_ix (ix_listK (K := K) rfl) (pe_lst (pa_cons pe_int (pa_cons (pe_op op_pow pe_int pe_int) pa_nil))) (pe_call (ok_law_next T) (hr.mono (by decide)) (by rfl) T.d15.mg T.d15.fn.kp T.d15.b .nil pass0 (pa_cons (pv 0) (pa_cons pe_int pa_nil))) (fun _ _ => rfl))) (pss_cons (ps_par (i := 2) (j := 3) rfl sc_law_grid_right.nd rfl rfl (by decide) rfl rfl (pa_cons (pe_op op_add pe_int (pe_call (ok_law_great T) (hr.mono (by decide)) (by rfl) T.d16.mg T.d16.fn.kp T.d16.b .nil pass0 (pa_cons (pv 0) (pa_cons (pe_op op_sub (pv 1) pe_int) pa_nil)))) (pa_cons (pe_op op_add pe_int (pe_call (ok_law_great T) (hr.mono (by decide)) (by rfl) T.d16.mg T.d16.fn.kp T.d16.b .nil pass0 (pa_cons (pv 0) (pa_cons (pe_op op_sub (pv 1) pe_int) pa_nil)))) pa_nil)) rfl) (pss_cons (ps_asg (pe_call (ok_law_side T) (hr.mono (by decide)) (by rfl) T.d24.mg T.d24.fn.kp T.d24.b .nil pass0 (pa_cons (pv 0) (pa_cons (pv 2) (pa_cons (pv 3) pa_nil)))) (pg_k (K := K) (t := fun K => gUnl K 2 _) rfl (pg_unl (n := 2) rfl (pgs_cons (pg_name (i := 4) sc_law_grid_right.nd rfl (Or.inr rfl)) (pgs_cons (pg_name (i := 5) sc_law_grid_right.nd rfl (Or.inr rfl)) pgs_nil))))) (pss_cons (ps_set (i := 6) sc_law_grid_right.nd rfl (Or.inl rfl) (pe_tup (pa_cons (pe_call (ok_law_great T) (hr.mono (by decide)) (by rfl) T.d16.mg T.d16.fn.kp T.d16.b .nil pass0 (pa_cons (pv 0) (pa_cons (pv 2) pa_nil))) (pa_cons (pe_call (ok_law_great T) (hr.mono (by decide)) (by rfl) T.d16.mg T.d16.fn.kp T.d16.b .nil pass0 (pa_cons (pv 0) (pa_cons (pv 3) pa_nil))) pa_nil)))) (pss_cons (ps_set (i := 7) sc_law_grid_right.nd rfl (Or.inl rfl) (pe_lst (pa_cons (pe_call (ok_law_spans T) (hr.mono (by decide)) (by rfl) T.d25.mg T.d25.fn.kp T.d25.b .nil pass0 (pa_cons (pv 4) (pa_cons (pv 6) pa_nil))) (pa_cons (pe_call (ok_law_spans T) (hr.mono (by decide)) (by rfl) T.d25.mg T.d25.fn.kp T.d25.b .nil pass0 (pa_cons (pv 5) (pa_cons (pv 6) pa_nil))) pa_nil)))) (pss_cons (ps_set (i := 8) sc_law_grid_right.nd rfl (Or.inl rfl) (pe_callTy (call_list_ofK (K := K) rfl) (by rfl) T.n_list (by decide +kernel) (pa_cons (pv 7) pa_nil))) (pss_cons (ps_if (PW.pt (pw_or (pt_cmpR (op_neDt (K := K) rfl TuS (by decide) hr.units) (pe_call (ok_law_toldgrid T) (hr.mono (by decide)) (by rfl) T.d22.mg T.d22.fn.kp T.d22.b .nil pass0 (pa_cons pe_int (pa_cons (pe_tup (pa_cons (pv 2) (pa_cons (pv 3) (pa_cons (pv 4) (pa_cons (pv 5) (pa_cons (pv 8) pa_nil)))))) pa_nil))) (pv 6) (nomark _)) (pw_or1 (pt_cmpR (op_neDt (K := K) rfl (List Int) (by decide) hr.units) (pv 8) (pv 7) (nomark _))))) (pss_one (ps_ret pe_bl)) pss_nil) (pss_cons (ps_set (i := 9) sc_law_grid_right.nd rfl (Or.inr rfl) (pe_call (ok_law_other T) (hr.mono (by decide)) (by rfl) T.d21.mg T.d21.fn.kp T.d21.b .nil pass0 (pa_cons (pv 0) (pa_cons (pv 7) pa_nil)))) (pss_cons (ps_set (i := 8) sc_law_grid_right.nd rfl (Or.inl rfl) (pe_callTy (call_list_ofK (K := K) rfl) (by rfl) T.n_list (by decide +kernel) (pa_cons (pv 9) pa_nil))) (pss_cons (ps_set (i := 10) sc_law_grid_right.nd rfl (Or.inl rfl) (pe_call (ok_law_by_halves T) (hr.mono (by decide)) (by rfl) T.d26.mg T.d26.fn.kp T.d26.b .nil pass0 (pa_cons (pv 2) (pa_cons (pv 3) (pa_cons (pv 4) (pa_cons (pv 5) (pa_cons (pv 9) pa_nil))))))) (pss_cons (ps_if (pt_cmp (pc_lt (pe_callB (call_max2 rfl) (by rfl) T.n_max (by decide +kernel) (pa_cons (pv 2) (pa_cons (pv 3) pa_nil))) pe_int)) (pss_cons (ps_set (i := 11) sc_law_grid_right.nd rfl (Or.inl rfl) (pe_lst pa_nil)) (pss_cons (ps_for PassesOwn.never rfl (pi_range1 (by rfl) T.n_range (pa_cons (pv 2) pa_nil)) (pg_name (i := 12) sc_law_grid_right.nd rfl (Or.inr rfl)) (pss_one (ps_expr (pe_bm PySem.F.plainAttrs_list PySem.F.slot_list_extend PySem.F.type_list_extend mt_extend (pv 11) (pa_cons (pe_lc (own := [("y", 13)]) (g := gName 13) (by rfl) sc_law_grid_right.nd (pi_range1 (by rfl) T.n_range (pa_cons (pv 3) pa_nil)) (blkOk_by (own := [("y", 13)]) (N := ["state", "sizes", "wide", "high", "one", "other", "spot", "code", "handed", "told", "due", "every", "x", "y"]) (sc := defScope s_law_grid_right) (by decide +kernel)) (fun _ _ _ _ _ => (pg_name (i := 13) sc_law_grid_right.nd rfl (Or.inl rfl))) (fun _ _ _ _ _ => pts_nil) (fun _ _ _ _ _ => (pe_tup (pa_cons (pv 12) (pa_cons (pv 13) pa_nil))))) pa_nil))))) (pss_one (ps_set (i := 10) sc_law_grid_right.nd rfl (Or.inl rfl) (pe_ix (ix_listK (K := K) rfl) (pe_op op_cat (pe_lc (own := [("spot", 6)]) (g := gName 6) (by rfl) sc_law_grid_right.nd (pi_listK (K := K) rfl (pv 11)) (blkOk_by (own := [("spot", 6)]) (N := ["state", "sizes", "wide", "high", "one", "other", "spot", "code", "handed", "told", "due", "every", "x", "y"]) (sc := defScope s_law_grid_right) (by decide +kernel)) (fun _ _ _ _ _ => (pg_name (i := 6) sc_law_grid_right.nd rfl (Or.inl rfl))) (fun _ _ _ _ _ => (pts_one (pt_cmpR (op_eqDt (K := K) rfl (List Int) (by decide) hr.units) (pe_lst (pa_cons (pe_call (ok_law_spans T) (hr.mono (by decide)) (by rfl) T.d25.mg T.d25.fn.kp T.d25.b .nil pass0 (pa_cons (pv 4) (pa_cons (pv 6) pa_nil))) (pa_cons (pe_call (ok_law_spans T) (hr.mono (by decide)) (by rfl) T.d25.mg T.d25.fn.kp T.d25.b .nil pass0 (pa_cons (pv 5) (pa_cons (pv 6) pa_nil))) pa_nil))) (pv 9) (nomark _)))) (fun _ _ _ _ _ => (pv 6))) (pe_lst (pa_cons pe_str pa_nil))) pe_int (fun _ _ => rfl)))))) pss_nil) (pss_one (ps_ret (pe_and (pe_cmpR (op_eqDt (K := K) rfl TuS (by decide) hr.units) (pe_call (ok_law_toldgrid T) (hr.mono (by decide)) (by rfl) T.d22.mg T.d22.fn.kp T.d22.b .nil pass0 (pa_cons pe_int (pa_cons (pe_tup (pa_cons (pv 2) (pa_cons (pv 3) (pa_cons (pv 4) (pa_cons (pv 5) (pa_cons (pv 8) pa_nil)))))) pa_nil))) (pv 10) (nomark _)) (pe_one (pe_cmpR (op_eqDt (K := K) rfl (List Int) (by decide) hr.units) (pv 8) (pv 9) (nomark _))))))))))))))))), ?_⟩
    have h3 : A2 (rep K F0) [(.int 5), (.int ((10 : Int) ^ ((60 : Int) : Int).toNat))] ([(5 : Int), ((10 : Int) ^ ((60 : Int) : Int).toNat)] : (List Int)) := .cons rep_i (.cons rep_i (.nil))
    refine ⟨_, _, rfl, rfl, (by refine ⟨?_, ?_, ?_⟩ <;> decide), (by show 2 ≤ sizeLine; decide), fun p4 n4 => ?_⟩
    have w4 : W F0 _ ((p4, .lst [(.int 5), (.int ((10 : Int) ^ ((60 : Int) : Int).toNat))]) :: (a_state, .lst vs_state) :: os) := w0.new n4
    have w5 : W F0 _ ((a_state, .lst vs_state) :: (p4, .lst [(.int 5), (.int ((10 : Int) ^ ((60 : Int) : Int).toNat))]) :: os) := w4.front (pre := [_])
    refine ⟨_, rfl, _, _, _, _, _, _, rfl, w5, h_state, ?_⟩
    refine (post_bind hm).mono (fun y6 hm v6 vs6 F6 H6 w6 s6 r6 h6 => ?_) (fun _ z => z)
    replace h3 := A2.mono s6 h3
    replace sF := sF.trans s6
    obtain rfl : v6 = V.int y6.1 := r6
    obtain ⟨t7, e7, hm⟩ := pb_get hm
    obtain ⟨u7, f7, r7⟩ := A2.at h3 e7
    obtain rfl : u7 = V.int t7 := r7
    have w8 : W F6 _ ((a_state, .lst vs6) :: os) := w6.drop (pre := [_])
    refine ⟨_, _, _, _, rfl, rfl, SqL.of (w6.get (pre := [_])), f7, _, rfl, _, rfl, _, _, rfl, rfl, _, _, _, _, _, _, rfl, w8, h6, ?_⟩
    refine (post_bind hm).mono (fun y9 hm v9 vs9 F9 H9 w9 s9 r9 h9 => ?_) (fun _ z => z)
    replace sF := sF.trans s9
    obtain rfl : v9 = V.int y9.1 := r9
    refine ⟨_, _, rfl, rfl, _, rfl, _, rfl, _, _, rfl, rfl, _, _, _, _, _, _, rfl, w9, h9, ?_⟩
    refine (post_bind hm).mono (fun y10 hm v10 vs10 F10 H10 w10 s10 r10 h10 => ?_) (fun _ z => z)
    replace sF := sF.trans s10
    obtain rfl : v10 = V.int y10.1 := r10
    refine ⟨_, _, rfl, rfl, _, _, rfl, _, rfl, _, rfl, _, rfl, _, _, _, _, _, _, _, rfl, w10, h10, ?_⟩
    refine (post_bind hm).mono (fun y11 hm p11 us11 vs11 F11 H11 w11 s11 g11 h11 => ?_) (fun _ z => z)
    replace sF := sF.trans s11
    obtain ⟨a13, b13, e13, hm⟩ := pb_un2 hm
    obtain ⟨u13, w13v, ev13, ra13, rb13⟩ := two_any g11 e13
    obtain ⟨a14, vs14, rfl, q14, h14⟩ := ra13
    obtain ⟨a15, vs15, rfl, q15, h15⟩ := rb13
    have w16 : W F11 _ ((a_state, .lst vs11) :: (p11, .lst us11) :: os) := w11.front (pre := [_])
    refine ⟨_, [(V.ref a14), (V.ref a15)], rfl, (ev13 ▸ SqL.of (w11.get (pre := []))), rfl, _, _, rfl, _, _, rfl, rfl, _, rfl, _, rfl, _, _, _, _, _, _, rfl, w16, h11, ?_⟩
    refine (post_bind hm).mono (fun y17 hm v17 vs17 F17 H17 w17 s17 r17 h17 => ?_) (fun _ z => z)
    replace h14 := A2.mono s17 h14
    replace q14 := s17 _ _ q14
    replace h15 := A2.mono s17 h15
    replace q15 := s17 _ _ q15
    replace g11 := A2.mono s17 g11
    replace sF := sF.trans s17
    obtain rfl : v17 = V.int y17.1 := r17
    refine ⟨_, rfl, _, rfl, _, _, _, _, _, _, rfl, w17, h17, ?_⟩
    refine (post_bind hm).mono (fun y18 hm v18 vs18 F18 H18 w18 s18 r18 h18 => ?_) (fun _ z => z)
    replace h14 := A2.mono s18 h14
    replace q14 := s18 _ _ q14
    replace h15 := A2.mono s18 h15
    replace q15 := s18 _ _ q15
    replace g11 := A2.mono s18 g11
    replace sF := sF.trans s18
    obtain rfl : v18 = V.int y18.1 := r18
    have h19 : A2 (rep K F18) [(.int y17.1), (.int y18.1)] (Tup.mk [y17.1, y18.1] : (Tup Int)).l := .cons rep_i (.cons rep_i (.nil))
    refine ⟨(by show 2 ≤ sizeLine; decide), fun p20 n20 => ?_⟩
    obtain ⟨F20, s20, w20, q20⟩ := w18.frzE (o := .tup [(.int y17.1), (.int y18.1)]) n20
    replace h14 := A2.mono s20 h14
    replace q14 := s20 _ _ q14
    replace h15 := A2.mono s20 h15
    replace q15 := s20 _ _ q15
    replace g11 := A2.mono s20 g11
    replace h18 := A2.mono s20 h18
    replace h19 := A2.mono s20 h19
    replace sF := sF.trans s20
    have w21 : W F20 _ ((a_state, .lst vs18) :: os) := w20.drop (pre := [_])
    refine ⟨_, rfl, _, rfl, _, _, _, (a13 : (Tup Int)), _, ((Tup.mk [y17.1, y18.1] : (Tup Int)) : (Tup Int)), rfl, w21, (rep_tup q14 h14), (rep_tup q20 h19), ?_⟩
    refine (post_bind hm).mono (fun y22 hm v22 F22 H22 w22 s22 r22 => ?_) (fun _ z => z)
    replace h14 := A2.mono s22 h14
    replace q14 := s22 _ _ q14
    replace h15 := A2.mono s22 h15
    replace q15 := s22 _ _ q15
    replace h19 := A2.mono s22 h19
    replace q20 := s22 _ _ q20
    replace h18 := A2.mono s22 h18
    replace sF := sF.trans s22
    obtain rfl : v22 = V.int y22 := r22
    refine ⟨_, rfl, _, rfl, _, _, _, (b13 : (Tup Int)), _, ((Tup.mk [y17.1, y18.1] : (Tup Int)) : (Tup Int)), rfl, w22, (rep_tup q15 h15), (rep_tup q20 h19), ?_⟩
    refine (post_bind hm).mono (fun y23 hm v23 F23 H23 w23 s23 r23 => ?_) (fun _ z => z)
    replace h14 := A2.mono s23 h14
    replace q14 := s23 _ _ q14
    replace h15 := A2.mono s23 h15
    replace q15 := s23 _ _ q15
    replace h19 := A2.mono s23 h19
    replace q20 := s23 _ _ q20
    replace h18 := A2.mono s23 h18
    replace sF := sF.trans s23
    obtain rfl : v23 = V.int y23 := r23
    have h24 : A2 (rep K F23) [(.int y22), (.int y23)] ([y22, y23] : (List Int)) := .cons rep_i (.cons rep_i (.nil))
    refine ⟨(by show 2 ≤ sizeLine; decide), fun p25 n25 => ?_⟩
    have w25 : W F23 _ ((p25, .lst [(.int y22), (.int y23)]) :: (a_state, .lst vs18) :: os) := w23.new n25
    obtain ⟨F26, s26, w26, q26⟩ : ∃ F', Same F23 F' ∧ W F' _ ((a_state, .lst vs18) :: os) ∧ F' p25 = some (.lst [(.int y22), (.int y23)]) := w25.freezeE (pre := [])
    replace h14 := A2.mono s26 h14
    replace q14 := s26 _ _ q14
    replace h15 := A2.mono s26 h15
    replace q15 := s26 _ _ q15
    replace h19 := A2.mono s26 h19
    replace q20 := s26 _ _ q20
    replace h18 := A2.mono s26 h18
    replace h24 := A2.mono s26 h24
    replace sF := sF.trans s26
    have h27 : A2 (rep K F26) [(.int y22), (.int y23)] ([y22, y23] : (List Int)) := h24
    refine ⟨_, rfl, _, _, rfl, .inl (SqL.of (w26.same _ _ q26)), fun p28 n28 => ?_⟩
    have w28 : W F26 _ ((p28, .lst [(.int y22), (.int y23)]) :: (a_state, .lst vs18) :: os) := w26.new n28
    obtain ⟨F29, s29, w29, q29⟩ : ∃ F', Same F26 F' ∧ W F' _ ((a_state, .lst vs18) :: os) ∧ F' p28 = some (.lst [(.int y22), (.int y23)]) := w28.freezeE (pre := [])
    replace h14 := A2.mono s29 h14
    replace q14 := s29 _ _ q14
    replace h15 := A2.mono s29 h15
    replace q15 := s29 _ _ q15
    replace h19 := A2.mono s29 h19
    replace q20 := s29 _ _ q20
    replace h24 := A2.mono s29 h24
    replace q26 := s29 _ _ q26
    replace h18 := A2.mono s29 h18
    replace h27 := A2.mono s29 h27
    replace sF := sF.trans s29
    refine stepN ?_
    try dsimp only
    refine stepSeq (stepIf ?_)
    refine joinT hm (fun (j30 : Bool) c H' => c = j30 ∧ ∃ (F' : Hp), Same F29 F' ∧ W F' H' ((a_state, .lst vs18) :: os)) ?_ ?_
    · intro Q30 P30 q30 hm
      refine ⟨_, rfl, _, rfl, _, rfl, _, rfl, _, rfl, (by show 5 ≤ sizeLine; decide), fun p31 n31 => ?_⟩
      obtain ⟨F31, s31, w31, q31⟩ := w29.frzE (o := .tup [(.int ((2 : Int) + y9.1)), (.int ((2 : Int) + y10.1)), (.ref a14), (.ref a15), (.ref p28)]) n31
      replace h14 := A2.mono s31 h14
      replace q14 := s31 _ _ q14
      replace h15 := A2.mono s31 h15
      replace q15 := s31 _ _ q15
      replace h19 := A2.mono s31 h19
      replace q20 := s31 _ _ q20
      replace h24 := A2.mono s31 h24
      replace q26 := s31 _ _ q26
      replace h27 := A2.mono s31 h27
      replace q29 := s31 _ _ q29
      replace h18 := A2.mono s31 h18
      replace sF := sF.trans s31
      refine ⟨_, _, _, _, ((Nt.mk (((2 : Int) + y9.1), ((2 : Int) + y10.1), a13, b13, ([y22, y23] : (List Int)), ()) : (Nt (Int × Int × (Tup Int) × (Tup Int) × (List Int) × Unit))) : (Nt (Int × Int × (Tup Int) × (Tup Int) × (List Int) × Unit))), rfl, w31, (rep_nt5 q31 rep_i rep_i (rep_tup q14 h14) (rep_tup q15 h15) (rep_lst q29 h27)), ?_⟩
      refine (post_bind hm).mono (fun y32 hm v32 F32 H32 w32 s32 r32 => ?_) (fun _ z => z)
      replace h14 := A2.mono s32 h14
      replace q14 := s32 _ _ q14
      replace h15 := A2.mono s32 h15
      replace q15 := s32 _ _ q15
      replace h19 := A2.mono s32 h19
      replace q20 := s32 _ _ q20
      replace h24 := A2.mono s32 h24
      replace q26 := s32 _ _ q26
      replace h27 := A2.mono s32 h27
      replace q29 := s32 _ _ q29
      replace h18 := A2.mono s32 h18
      replace q31 := s32 _ _ q31
      replace sF := sF.trans s32
      refine ⟨_, rfl, (y32 : TuS), ((TuS.t (Tup.mk [y17.1, y18.1] : (Tup Int))) : TuS), (Rep.mono w32.same r32), (Rep.mono w32.same ((rep_tuT (rep_tup q20 h19)) : rep K _ (V.ref p20) (TuS.t (Tup.mk [y17.1, y18.1] : (Tup Int))))), _, rfl, ?_⟩
      refine post_ite hm (fun k34 hm => ?_) (fun k34 hm => ?_)
      · skip
        exact q30 _ (post_ok hm) _ _ ⟨rfl, _, (s31.trans s32), w32⟩
      · skip
        exact ⟨_, rfl, _, rfl, (([y22, y23] : (List Int)) : (List Int)), (([y22, y23] : (List Int)) : (List Int)), (Rep.mono w32.same (rep_lst q29 h27)), (Rep.mono w32.same (rep_lst q26 h24)), _, rfl, q30 _ (post_ok hm) _ _ ⟨rfl, _, (s31.trans s32), w32⟩⟩
    intro j30 c30 H30 hc30 hm
    obtain ⟨rfl, F30, s30, w30⟩ := hc30
    replace h14 := A2.mono s30 h14
    replace q14 := s30 _ _ q14
    replace h15 := A2.mono s30 h15
    replace q15 := s30 _ _ q15
    replace h19 := A2.mono s30 h19
    replace q20 := s30 _ _ q20
    replace h24 := A2.mono s30 h24
    replace q26 := s30 _ _ q26
    replace h27 := A2.mono s30 h27
    replace q29 := s30 _ _ q29
    replace h18 := A2.mono s30 h18
    replace sF := sF.trans s30
    refine post_ite hm (fun k37 hm => ?_) (fun k37 hm => ?_)
    · skip
      exact (post_ok hm) _ _ _ _ w30 sF rep_b h18
    · skip
      refine ⟨_, rfl, _, rfl, _, _, _, _, _, _, (([y22, y23] : (List Int)) : (List Int)), rfl, w30, h18, (rep_lst q26 h24), ?_⟩
      refine (post_bind hm).mono (fun y38 hm v38 vs38 F38 H38 w38 s38 r38 h38 => ?_) (fun _ z => z)
      replace h14 := A2.mono s38 h14
      replace q14 := s38 _ _ q14
      replace h15 := A2.mono s38 h15
      replace q15 := s38 _ _ q15
      replace h19 := A2.mono s38 h19
      replace q20 := s38 _ _ q20
      replace h24 := A2.mono s38 h24
      replace q26 := s38 _ _ q26
      replace h27 := A2.mono s38 h27
      replace q29 := s38 _ _ q29
      replace sF := sF.trans s38
      obtain ⟨a39, vs39, rfl, q39, h39⟩ := r38
      have h40 : A2 (rep K F38) vs39 y38.1 := h39
      refine ⟨_, rfl, _, _, rfl, .inl (SqL.of (w38.same _ _ q39)), fun p41 n41 => ?_⟩
      have w41 : W F38 _ ((p41, .lst vs39) :: (a_state, .lst vs38) :: os) := w38.new n41
      obtain ⟨F42, s42, w42, q42⟩ : ∃ F', Same F38 F' ∧ W F' _ ((a_state, .lst vs38) :: os) ∧ F' p41 = some (.lst vs39) := w41.freezeE (pre := [])
      replace h14 := A2.mono s42 h14
      replace q14 := s42 _ _ q14
      replace h15 := A2.mono s42 h15
      replace q15 := s42 _ _ q15
      replace h19 := A2.mono s42 h19
      replace q20 := s42 _ _ q20
      replace h24 := A2.mono s42 h24
      replace q26 := s42 _ _ q26
      replace h27 := A2.mono s42 h27
      replace q29 := s42 _ _ q29
      replace h39 := A2.mono s42 h39
      replace q39 := s42 _ _ q39
      replace h38 := A2.mono s42 h38
      replace h40 := A2.mono s42 h40
      replace sF := sF.trans s42
      refine ⟨_, rfl, _, rfl, _, rfl, _, rfl, _, rfl, _, _, _, _, _, (a13 : (Tup Int)), _, (b13 : (Tup Int)), _, (y38.1 : (List Int)), rfl, w42, (rep_tup q14 h14), (rep_tup q15 h15), (rep_lst q39 h39), ?_⟩
      refine (post_bind hm).mono (fun y43 hm v43 F43 H43 w43 s43 r43 => ?_) (fun _ z => z)
      replace h14 := A2.mono s43 h14
      replace q14 := s43 _ _ q14
      replace h15 := A2.mono s43 h15
      replace q15 := s43 _ _ q15
      replace h19 := A2.mono s43 h19
      replace q20 := s43 _ _ q20
      replace h24 := A2.mono s43 h24
      replace q26 := s43 _ _ q26
      replace h40 := A2.mono s43 h40
      replace q42 := s43 _ _ q42
      replace h39 := A2.mono s43 h39
      replace q39 := s43 _ _ q39
      replace h38 := A2.mono s43 h38
      replace sF := sF.trans s43
      refine stepN ?_
      try dsimp only
      refine joinS hm (fun (g45 : TuS) σ H' => ∃ (F' : Hp) (v45_10 : V) (o45_11 : Option V) (o45_12 : Option V), σ = [some (.ref a_state), some (.int t7), some (.int ((2 : Int) + y9.1)), some (.int ((2 : Int) + y10.1)), some (.ref a14), some (.ref a15), some (.ref p20), some (.ref p25), some (.ref p41), some (.ref a39), some v45_10, o45_11, o45_12, none] ∧ Same F43 F' ∧ W F' H' ((a_state, .lst vs38) :: os) ∧ rep K F' v45_10 (g45 : TuS)) ?_ ?_
      · intro N45 P45 hN45 hm
        refine ⟨_, rfl, _, rfl, _, _, rfl, _, _, rfl, rfl, _, rfl, ?_⟩
        refine post_ite hm (fun k46 hm => ?_) (fun k46 hm => ?_)
        · skip
          have h47 : A2 (rep K F43) [] ([] : (List (Tup Int))) := .nil
          refine ⟨(by show 0 ≤ sizeLine; decide), fun p48 n48 => ?_⟩
          have w48 : W F43 _ ((p48, .lst []) :: (a_state, .lst vs38) :: os) := w43.new n48
          obtain ⟨c50, hm⟩ := pb_rng hm
          refine ⟨_, rfl, _, rfl, c50.2.2.1, c50.2.2.2, ?_⟩
          refine forS (tw_rng0 (j := ((2 : Int) + y9.1))) hm (fun (g49 : (List (Tup Int))) σ H' => ∃ (F' : Hp) (vs49_0 : List V) (o49_12 : Option V), σ = [some (.ref a_state), some (.int t7), some (.int ((2 : Int) + y9.1)), some (.int ((2 : Int) + y10.1)), some (.ref a14), some (.ref a15), some (.ref p20), some (.ref p25), some (.ref p41), some (.ref a39), some v43, some (.ref p48), o49_12, none] ∧ Same F43 F' ∧ W F' H' ((p48, .lst vs49_0) :: (a_state, .lst vs38) :: os) ∧ A2 (rep K F') vs49_0 g49) ⟨_, _, _, rfl, Same.refl _, w48, h47⟩ (fun _ _ _ _ => trivial) ?_ ?_
          · -- a turn
            intro b49 g49 x49 σ49 H49 H49' N49 P49 hI hy hN49 hm
            obtain ⟨F49, vs49_0, o49_12, rfl, s49, w49, h49_0⟩ := hI
            replace h14 := A2.mono s49 h14
            replace q14 := s49 _ _ q14
            replace h15 := A2.mono s49 h15
            replace q15 := s49 _ _ q15
            replace h19 := A2.mono s49 h19
            replace q20 := s49 _ _ q20
            replace h24 := A2.mono s49 h24
            replace q26 := s49 _ _ q26
            replace h40 := A2.mono s49 h40
            replace q42 := s49 _ _ q42
            replace h39 := A2.mono s49 h39
            replace q39 := s49 _ _ q39
            replace r43 := Rep.mono s49 r43
            replace h38 := A2.mono s49 h38
            replace sF := sF.trans s49
            obtain ⟨rfl, rfl⟩ := hy
            obtain ⟨c51, hm⟩ := pb_rng hm
            refine ⟨_, rfl, .inl ⟨rfl, _, SqL.of (w49.get (pre := []))⟩, _, rfl, _, rfl, c51.2.2.1, c51.2.2.2, fun D52 nD52 => ?_⟩
            refine lcM (K := K) (tw_rng0 (j := ((2 : Int) + y10.1))) hm w49 nD52 (fun F' H' acc s w => trivial) ?_ ?_
            · -- one turn
              intro b52 x52 F52 H52 H52' acc52 N52 P52 s52 w52 y52 hN52 hm
              replace h14 := A2.mono s52 h14
              replace q14 := s52 _ _ q14
              replace h15 := A2.mono s52 h15
              replace q15 := s52 _ _ q15
              replace h19 := A2.mono s52 h19
              replace q20 := s52 _ _ q20
              replace h24 := A2.mono s52 h24
              replace q26 := s52 _ _ q26
              replace h40 := A2.mono s52 h40
              replace q42 := s52 _ _ q42
              replace h39 := A2.mono s52 h39
              replace q39 := s52 _ _ q39
              replace r43 := Rep.mono s52 r43
              replace h49_0 := A2.mono s52 h49_0
              replace h38 := A2.mono s52 h38
              replace sF := sF.trans s52
              obtain ⟨rfl, rfl⟩ := y52
              have h54 : A2 (rep K F52) [(.int b49), (.int b52)] (Tup.mk [b49, b52] : (Tup Int)).l := .cons rep_i (.cons rep_i (.nil))
              refine ⟨rfl, _, rfl, _, rfl, (by show 2 ≤ sizeLine; decide), fun p55 n55 => ?_⟩
              obtain ⟨F55, s55, w55, q55⟩ := w52.frzE (o := .tup [(.int b49), (.int b52)]) n55
              replace h14 := A2.mono s55 h14
              replace q14 := s55 _ _ q14
              replace h15 := A2.mono s55 h15
              replace q15 := s55 _ _ q15
              replace h19 := A2.mono s55 h19
              replace q20 := s55 _ _ q20
              replace h24 := A2.mono s55 h24
              replace q26 := s55 _ _ q26
              replace h40 := A2.mono s55 h40
              replace q42 := s55 _ _ q42
              replace h39 := A2.mono s55 h39
              replace q39 := s55 _ _ q39
              replace r43 := Rep.mono s55 r43
              replace h49_0 := A2.mono s55 h49_0
              replace h38 := A2.mono s55 h38
              replace h54 := A2.mono s55 h54
              replace sF := sF.trans s55
              exact hN52 _ (post_ok hm) _ _ _ w55 s55 (rep_tup q55 h54)
            intro us52 F52 H52 ys52 s52 w52 gg52 hm
            replace h14 := A2.mono s52 h14
            replace q14 := s52 _ _ q14
            replace h15 := A2.mono s52 h15
            replace q15 := s52 _ _ q15
            replace h19 := A2.mono s52 h19
            replace q20 := s52 _ _ q20
            replace h24 := A2.mono s52 h24
            replace q26 := s52 _ _ q26
            replace h40 := A2.mono s52 h40
            replace q42 := s52 _ _ q42
            replace h39 := A2.mono s52 h39
            replace q39 := s52 _ _ q39
            replace r43 := Rep.mono s52 r43
            replace h49_0 := A2.mono s52 h49_0
            replace h38 := A2.mono s52 h38
            replace sF := sF.trans s52
            obtain ⟨l57, z57, e57, hm⟩ := pn_extend hm
            refine ⟨_, _, _, _, rfl, rfl, (w52.get (pre := [_])), (w52.get (pre := [])), (A2.le2 h49_0 gg52 z57), ?_⟩
            have h57 : A2 (rep K F52) (vs49_0 ++ us52) l57 := e57 ▸ A2.append h49_0 gg52
            have w58 : W F52 _ ((D52, .lst us52) :: (p48, .lst (vs49_0 ++ us52)) :: (a_state, .lst vs38) :: os) := w52.set (pre := [_])
            have w59 : W F52 _ ((p48, .lst (vs49_0 ++ us52)) :: (a_state, .lst vs38) :: os) := w58.drop (pre := [])
            exact hN49 _ (post_ok hm) _ _ ⟨_, _, _, rfl, (s49.trans s52), w59, h57⟩
          intro g49 σ49 H49 hI hm
          obtain ⟨F49, vs49_0, o49_12, rfl, s49, w49, h49_0⟩ := hI
          replace h14 := A2.mono s49 h14
          replace q14 := s49 _ _ q14
          replace h15 := A2.mono s49 h15
          replace q15 := s49 _ _ q15
          replace h19 := A2.mono s49 h19
          replace q20 := s49 _ _ q20
          replace h24 := A2.mono s49 h24
          replace q26 := s49 _ _ q26
          replace h40 := A2.mono s49 h40
          replace q42 := s49 _ _ q42
          replace h39 := A2.mono s49 h39
          replace q39 := s49 _ _ q39
          replace r43 := Rep.mono s49 r43
          replace h38 := A2.mono s49 h38
          replace sF := sF.trans s49
          refine ⟨_, rfl, _, rfl, ⟨_, SqL.of (w49.get (pre := []))⟩, fun D60 nD60 => ?_⟩
          refine lcF (K := K) (tw_list (a := p48) h49_0) hm w49 nD60 (fun F' H' acc s w => SqL.of (w.get (pre := [_]))) ?_ ?_
          · -- one turn
            intro b60 x60 F60 H60 H60' acc60 N60 M60 P60 s60 w60 y60 hN60 hM60 hm
            replace h14 := A2.mono s60 h14
            replace q14 := s60 _ _ q14
            replace h15 := A2.mono s60 h15
            replace q15 := s60 _ _ q15
            replace h19 := A2.mono s60 h19
            replace q20 := s60 _ _ q20
            replace h24 := A2.mono s60 h24
            replace q26 := s60 _ _ q26
            replace h40 := A2.mono s60 h40
            replace q42 := s60 _ _ q42
            replace h39 := A2.mono s60 h39
            replace q39 := s60 _ _ q39
            replace r43 := Rep.mono s60 r43
            replace h49_0 := A2.mono s60 h49_0
            replace h38 := A2.mono s60 h38
            replace sF := sF.trans s60
            obtain ⟨rfl, r62⟩ := y60
            replace r62 := Rep.mono s60 r62
            obtain ⟨a63, vs63, rfl, q63, h63⟩ := r62
            refine ⟨rfl, _, rfl, _, rfl, _, _, _, (a13 : (Tup Int)), _, (b60 : (Tup Int)), rfl, w60, (rep_tup q14 h14), (rep_tup q63 h63), ?_⟩
            refine (post_bind hm).mono (fun y64 hm v64 F64 H64 w64 s64 r64 => ?_) (fun _ z => z)
            replace h14 := A2.mono s64 h14
            replace q14 := s64 _ _ q14
            replace h15 := A2.mono s64 h15
            replace q15 := s64 _ _ q15
            replace h19 := A2.mono s64 h19
            replace q20 := s64 _ _ q20
            replace h24 := A2.mono s64 h24
            replace q26 := s64 _ _ q26
            replace h40 := A2.mono s64 h40
            replace q42 := s64 _ _ q42
            replace h39 := A2.mono s64 h39
            replace q39 := s64 _ _ q39
            replace r43 := Rep.mono s64 r43
            replace h49_0 := A2.mono s64 h49_0
            replace h38 := A2.mono s64 h38
            replace q63 := s64 _ _ q63
            replace h63 := A2.mono s64 h63
            replace sF := sF.trans s64
            obtain rfl : v64 = V.int y64 := r64
            refine ⟨_, rfl, _, rfl, _, _, _, (b13 : (Tup Int)), _, (b60 : (Tup Int)), rfl, w64, (rep_tup q15 h15), (rep_tup q63 h63), ?_⟩
            refine (post_bind hm).mono (fun y65 hm v65 F65 H65 w65 s65 r65 => ?_) (fun _ z => z)
            replace h14 := A2.mono s65 h14
            replace q14 := s65 _ _ q14
            replace h15 := A2.mono s65 h15
            replace q15 := s65 _ _ q15
            replace h19 := A2.mono s65 h19
            replace q20 := s65 _ _ q20
            replace h24 := A2.mono s65 h24
            replace q26 := s65 _ _ q26
            replace h40 := A2.mono s65 h40
            replace q42 := s65 _ _ q42
            replace h39 := A2.mono s65 h39
            replace q39 := s65 _ _ q39
            replace r43 := Rep.mono s65 r43
            replace h49_0 := A2.mono s65 h49_0
            replace h38 := A2.mono s65 h38
            replace q63 := s65 _ _ q63
            replace h63 := A2.mono s65 h63
            replace sF := sF.trans s65
            obtain rfl : v65 = V.int y65 := r65
            have h66 : A2 (rep K F65) [(.int y64), (.int y65)] ([y64, y65] : (List Int)) := .cons rep_i (.cons rep_i (.nil))
            refine ⟨(by show 2 ≤ sizeLine; decide), fun p67 n67 => ?_⟩
            have w67 : W F65 _ ((p67, .lst [(.int y64), (.int y65)]) :: (D60, .lst acc60) :: (p48, .lst vs49_0) :: (a_state, .lst vs38) :: os) := w65.new n67
            refine ⟨_, rfl, (([y64, y65] : (List Int)) : (List Int)), (y38.1 : (List Int)), (rep_own (pre := []) w67 h66), (Rep.mono w67.same (rep_lst q39 h39)), _, rfl, ?_⟩
            refine post_ite hm (fun k68 hm => ?_) (fun k68 hm => ?_)
            · skip
              have w69 : W F65 _ ((D60, .lst acc60) :: (p48, .lst vs49_0) :: (a_state, .lst vs38) :: os) := w67.drop (pre := [])
              exact ⟨_, rfl, hN60 _ (post_ok hm) _ _ _ w69 (s64.trans s65) (rep_tup q63 h63)⟩
            · skip
              have w70 : W F65 _ ((D60, .lst acc60) :: (p48, .lst vs49_0) :: (a_state, .lst vs38) :: os) := w67.drop (pre := [])
              exact hM60 (post_ok hm) _ _ w70 (s64.trans s65)
          intro us60 F60 H60 ys60 s60 w60 gg60 hm
          replace h14 := A2.mono s60 h14
          replace q14 := s60 _ _ q14
          replace h15 := A2.mono s60 h15
          replace q15 := s60 _ _ q15
          replace h19 := A2.mono s60 h19
          replace q20 := s60 _ _ q20
          replace h24 := A2.mono s60 h24
          replace q26 := s60 _ _ q26
          replace h40 := A2.mono s60 h40
          replace q42 := s60 _ _ q42
          replace h39 := A2.mono s60 h39
          replace q39 := s60 _ _ q39
          replace r43 := Rep.mono s60 r43
          replace h49_0 := A2.mono s60 h49_0
          replace h38 := A2.mono s60 h38
          replace sF := sF.trans s60
          have h72 : A2 (rep K F60) [(.str "none")] ([(TuS.s ⟨("none" : Str), by decide +kernel⟩)] : (List TuS)) := .cons rep_tuS (.nil)
          refine ⟨(by show 1 ≤ sizeLine; decide), fun p73 n73 => ?_⟩
          have w73 : W F60 _ ((p73, .lst [(.str "none")]) :: (D60, .lst us60) :: (p48, .lst vs49_0) :: (a_state, .lst vs38) :: os) := w60.new n73
          obtain ⟨l74, z74, e74, hm⟩ := pn_extend hm
          have h74 : A2 (rep K F60) (us60 ++ [(.str "none")]) l74 := e74 ▸ A2.append (a2_tu gg60) h72
          refine ⟨_, _, _, _, rfl, rfl, (w73.get (pre := [_])), (w73.get (pre := [])), (A2.le2 (a2_tu gg60) h72 z74), fun p75 n75 => ?_⟩
          have w75 : W F60 _ ((p75, .lst (us60 ++ [(.str "none")])) :: (p73, .lst [(.str "none")]) :: (D60, .lst us60) :: (p48, .lst vs49_0) :: (a_state, .lst vs38) :: os) := w73.new n75
          obtain ⟨t76, e76, hm⟩ := pb_get hm
          obtain ⟨u76, f76, r76⟩ := A2.at h74 e76
          have w78 : W F60 _ ((p73, .lst [(.str "none")]) :: (D60, .lst us60) :: (p48, .lst vs49_0) :: (a_state, .lst vs38) :: os) := w75.drop (pre := [])
          have w79 : W F60 _ ((D60, .lst us60) :: (p48, .lst vs49_0) :: (a_state, .lst vs38) :: os) := w78.drop (pre := [])
          have w80 : W F60 _ ((p48, .lst vs49_0) :: (a_state, .lst vs38) :: os) := w79.drop (pre := [])
          have w81 : W F60 _ ((a_state, .lst vs38) :: os) := w80.drop (pre := [])
          exact ⟨_, _, _, _, rfl, rfl, SqL.of (w75.get (pre := [])), f76, hN45 _ (post_ok hm) _ _ ⟨_, _, _, _, rfl, (s49.trans s60), w81, r76⟩⟩
        · skip
          exact hN45 _ (post_ok hm) _ _ ⟨_, _, _, _, rfl, Same.refl _, w43, r43⟩
      intro g45 σ45 H45 hI hm
      obtain ⟨F45, v45_10, o45_11, o45_12, rfl, s45, w45, r45_10⟩ := hI
      replace h14 := A2.mono s45 h14
      replace q14 := s45 _ _ q14
      replace h15 := A2.mono s45 h15
      replace q15 := s45 _ _ q15
      replace h19 := A2.mono s45 h19
      replace q20 := s45 _ _ q20
      replace h24 := A2.mono s45 h24
      replace q26 := s45 _ _ q26
      replace h40 := A2.mono s45 h40
      replace q42 := s45 _ _ q42
      replace h39 := A2.mono s45 h39
      replace q39 := s45 _ _ q39
      replace r43 := Rep.mono s45 r43
      replace h38 := A2.mono s45 h38
      replace sF := sF.trans s45
      try dsimp only
      refine stepRet ?_
      refine joinE hm (fun (j83 : Bool) c H' => c = V.bl j83 ∧ ∃ (F' : Hp), Same F45 F' ∧ W F' H' ((a_state, .lst vs38) :: os)) ?_ ?_
      · intro Q83 P83 q83 hm
        refine ⟨_, rfl, _, rfl, _, rfl, _, rfl, _, rfl, (by show 5 ≤ sizeLine; decide), fun p84 n84 => ?_⟩
        obtain ⟨F84, s84, w84, q84⟩ := w45.frzE (o := .tup [(.int ((2 : Int) + y9.1)), (.int ((2 : Int) + y10.1)), (.ref a14), (.ref a15), (.ref p41)]) n84
        replace h14 := A2.mono s84 h14
        replace q14 := s84 _ _ q14
        replace h15 := A2.mono s84 h15
        replace q15 := s84 _ _ q15
        replace h19 := A2.mono s84 h19
        replace q20 := s84 _ _ q20
        replace h24 := A2.mono s84 h24
        replace q26 := s84 _ _ q26
        replace h40 := A2.mono s84 h40
        replace q42 := s84 _ _ q42
        replace h39 := A2.mono s84 h39
        replace q39 := s84 _ _ q39
        replace r45_10 := Rep.mono s84 r45_10
        replace h38 := A2.mono s84 h38
        replace sF := sF.trans s84
        refine ⟨_, _, _, _, ((Nt.mk (((2 : Int) + y9.1), ((2 : Int) + y10.1), a13, b13, y38.1, ()) : (Nt (Int × Int × (Tup Int) × (Tup Int) × (List Int) × Unit))) : (Nt (Int × Int × (Tup Int) × (Tup Int) × (List Int) × Unit))), rfl, w84, (rep_nt5 q84 rep_i rep_i (rep_tup q14 h14) (rep_tup q15 h15) (rep_lst q42 h40)), ?_⟩
        refine (post_bind hm).mono (fun y85 hm v85 F85 H85 w85 s85 r85 => ?_) (fun _ z => z)
        replace h14 := A2.mono s85 h14
        replace q14 := s85 _ _ q14
        replace h15 := A2.mono s85 h15
        replace q15 := s85 _ _ q15
        replace h19 := A2.mono s85 h19
        replace q20 := s85 _ _ q20
        replace h24 := A2.mono s85 h24
        replace q26 := s85 _ _ q26
        replace h40 := A2.mono s85 h40
        replace q42 := s85 _ _ q42
        replace h39 := A2.mono s85 h39
        replace q39 := s85 _ _ q39
        replace r45_10 := Rep.mono s85 r45_10
        replace h38 := A2.mono s85 h38
        replace q84 := s85 _ _ q84
        replace sF := sF.trans s85
        refine ⟨_, rfl, (y85 : TuS), (g45 : TuS), (Rep.mono w85.same r85), (Rep.mono w85.same r45_10), _, rfl, ?_⟩
        refine post_ite hm (fun k87 hm => ?_) (fun k87 hm => ?_)
        · skip
          exact ⟨_, rfl, _, rfl, (y38.1 : (List Int)), (y38.1 : (List Int)), (Rep.mono w85.same (rep_lst q42 h40)), (Rep.mono w85.same (rep_lst q39 h39)), q83 _ (post_ok hm) _ _ ⟨rfl, _, (s84.trans s85), w85⟩⟩
        · skip
          exact q83 _ (post_ok hm) _ _ ⟨rfl, _, (s84.trans s85), w85⟩
      intro j83 c83 H83 hc83 hm
      obtain ⟨rfl, F83, s83, w83⟩ := hc83
      replace h14 := A2.mono s83 h14
      replace q14 := s83 _ _ q14
      replace h15 := A2.mono s83 h15
      replace q15 := s83 _ _ q15
      replace h19 := A2.mono s83 h19
      replace q20 := s83 _ _ q20
      replace h24 := A2.mono s83 h24
      replace q26 := s83 _ _ q26
      replace h40 := A2.mono s83 h40
      replace q42 := s83 _ _ q42
      replace h39 := A2.mono s83 h39
      replace q39 := s83 _ _ q39
      replace r45_10 := Rep.mono s83 r45_10
      replace h38 := A2.mono s83 h38
      replace sF := sF.trans s83
      exact (post_ok hm) _ _ _ _ w83 sF rep_b h38
def sp_law (K : Fg) : Sp := fun vs H Q E => ∃ (F : Hp) (os : List (Addr × HO)) (v_script : V) (x_script : Scr), vs = [v_script] ∧ W F H (os) ∧ rep K F v_script x_script ∧ Post (law x_script) (Ret K F os Q) noX
theorem sc_law : FnScope ["script", "cell", "state"] ["script"] (defScope s_law) := ⟨rfl, rfl, rfl, by decide +kernel, rfl, by decide +kernel, by decide +kernel⟩
theorem ok_law (T : Tx K mg A FD) : FnOk P w K mg base CX0 6 (A 28) (FD 28) ["script"] (sp_law K) := by
  refine T.d28.fn.ok sc_law (fun vs H Q E h => ?_) (fun cdv Ar outer s H vs Q E hr h => ?_)
  · obtain ⟨F, os, v_script, x_script, rfl, _⟩ := h
    rfl
  · obtain ⟨F0, os, v_script, x_script, rfl, w0, r_script, hm⟩ := h
    have sF : Same F0 F0 := Same.refl _
    obtain ⟨a1, rfl, q1⟩ := r_script
    have h1 : A2 (rep K F0) (x_script.l.map V.int) x_script.l := A2.of_ints
    refine ⟨_, (pss_cons (ps_for PassesOwn.never rfl (pi_listK (K := K) rfl (pe_call (ok_law_folded T) (hr.mono (by decide)) (by rfl) T.d13.mg T.d13.fn.kp T.d13.b .nil pass0 (pa_cons (pv 0) (pa_cons pe_int pa_nil)))) (pg_name (i := 1) sc_law.nd rfl (Or.inl rfl)) (pss_cons (ps_set (i := 2) sc_law.nd rfl (Or.inl rfl) (pe_call (ok_law_state T) (hr.mono (by decide)) (by rfl) T.d14.mg T.d14.fn.kp T.d14.b .nil pass0 (pa_cons (pv 1) pa_nil))) (pss_one (ps_if (PW.pt (pw_or (pt_not (pt_val (pe_call (ok_law_ring_right T) (hr.mono (by decide)) (by rfl) T.d23.mg T.d23.fn.kp T.d23.b .nil pass0 (pa_cons (pv 2) pa_nil)))) (pw_or1 (pt_not (pt_val (pe_call (ok_law_grid_right T) (hr.mono (by decide)) (by rfl) T.d27.mg T.d27.fn.kp T.d27.b .nil pass0 (pa_cons (pv 2) pa_nil))))))) (pss_one (ps_ret pe_bl)) pss_nil)))) (pss_one (ps_ret pe_bl))), ?_⟩
    refine ⟨_, rfl, _, _, _, (x_script : Scr), _, rfl, w0, ⟨_, rfl, q1⟩, ?_⟩
    refine (post_bind hm).mono (fun y3 hm p3 us3 F3 H3 w3 s3 g3 => ?_) (fun _ z => z)
    replace q1 := s3.seq q1
    replace h1 := A2.mono s3 h1
    replace sF := sF.trans s3
    obtain ⟨F5, s5, w5, q5⟩ : ∃ F', Same F3 F' ∧ W F' _ (os) ∧ F' p3 = some (.lst us3) := w3.freezeE (pre := [])
    replace q1 := s5.seq q1
    replace h1 := A2.mono s5 h1
    replace g3 := A2.mono s5 g3
    replace sF := sF.trans s5
    refine ⟨_, rfl, ⟨_, SqL.of (w5.same _ _ q5)⟩, ?_⟩
    refine forX (tw_list (a := p3) g3) hm (fun (g2 : Unit) σ H' => ∃ (F' : Hp) (o2_2 : Option V) (o2_1 : Option V), σ = [some (.ref a1), o2_1, o2_2] ∧ Same F5 F' ∧ W F' H' (os)) ⟨_, _, _, rfl, Same.refl _, w5⟩ (fun g σ H' hI => by obtain ⟨F', _, _, _, s, w⟩ := hI; exact SqL.of (w.same _ _ (s _ _ q5))) ?_ ?_
    · -- a turn
      intro b2 g2 x2 σ2 H2 H2' N2 B2 P2 hI hy hN2 hB2 hZ2 hm
      obtain ⟨F2, o2_2, o2_1, rfl, s2, w2⟩ := hI
      replace q1 := s2.seq q1
      replace h1 := A2.mono s2 h1
      replace g3 := A2.mono s2 g3
      replace q5 := s2 _ _ q5
      replace sF := sF.trans s2
      obtain ⟨rfl, r6⟩ := hy
      obtain rfl : x2 = V.int b2 := r6
      refine ⟨_, rfl, _, _, _, rfl, w2, ?_⟩
      refine (post_bind hm).mono (fun y7 hm p7 us7 F7 H7 w7 s7 g7 => ?_) (fun _ z => z)
      replace h1 := A2.mono s7 h1
      replace q1 := s7.seq q1
      replace sF := sF.trans s7
      refine stepN ?_
      try dsimp only
      refine stepIf ?_
      refine joinT hm (fun (j9 : Bool × (List Int)) c H' => c = j9.1 ∧ ∃ (F' : Hp) (vs9_0 : List V), Same F7 F' ∧ W F' H' ((p7, .lst vs9_0) :: os) ∧ A2 (rep K F') vs9_0 j9.2) ?_ ?_
      · intro Q9 P9 q9 hm
        refine ⟨_, rfl, _, _, _, _, _, rfl, w7, g7, ?_⟩
        refine (post_bind hm).mono (fun y10 hm v10 vs10 F10 H10 w10 s10 r10 h10 => ?_) (fun _ z => z)
        replace h1 := A2.mono s10 h1
        replace q1 := s10.seq q1
        replace sF := sF.trans s10
        obtain rfl : v10 = V.bl y10.1 := r10
        refine ⟨_, rfl, ?_⟩
        refine post_ite hm (fun k11 hm => ?_) (fun k11 hm => ?_)
        · skip
          exact q9 _ (post_ok hm) _ _ ⟨rfl, _, _, s10, w10, h10⟩
        · skip
          refine ⟨_, rfl, _, _, _, _, _, rfl, w10, h10, ?_⟩
          refine (post_bind hm).mono (fun y13 hm v13 vs13 F13 H13 w13 s13 r13 h13 => ?_) (fun _ z => z)
          replace h1 := A2.mono s13 h1
          replace q1 := s13.seq q1
          replace sF := sF.trans s13
          obtain rfl : v13 = V.bl y13.1 := r13
          exact ⟨_, rfl, q9 _ (post_ok hm) _ _ ⟨rfl, _, _, (s10.trans s13), w13, h13⟩⟩
      intro j9 c9 H9 hc9 hm
      obtain ⟨rfl, F9, vs9_0, s9, w9, h9_0⟩ := hc9
      replace h1 := A2.mono s9 h1
      replace q1 := s9.seq q1
      replace sF := sF.trans s9
      refine post_ite hm (fun k15 hm => ?_) (fun k15 hm => ?_)
      · skip
        have hm := hZ2 _ (post_ok hm)
        have w16 : W F9 _ (os) := w9.drop (pre := [])
        exact (post_ok hm) _ _ _ w16 sF rep_b
      · skip
        have w17 : W F9 _ (os) := w9.drop (pre := [])
        exact hN2 _ (post_ok hm) _ _ ⟨_, _, _, rfl, (s2.trans (s7.trans s9)), w17⟩
    intro g2 σ2 H2 hI hm
    obtain ⟨F2, o2_2, o2_1, rfl, s2, w2⟩ := hI
    replace q1 := s2.seq q1
    replace h1 := A2.mono s2 h1
    replace g3 := A2.mono s2 g3
    replace q5 := s2 _ _ q5
    replace sF := sF.trans s2
    exact (post_ok hm) _ _ _ w2 sF rep_b
end
end G
namespace G
open PySem L2 Z
/-! ### draws -/
def Ok2 (s : List Int) : Prop := ∃ a b, s = [a, b] ∧ 0 ≤ a ∧ 0 ≤ b ∧ b < 2147483647
theorem next_ok {s : List Int} {m : Int} (h : Ok2 s) (h0 : 0 < m) (h1 : m < 1073741824) : Post (law_next s m) (fun p => 0 ≤ p.1 ∧ p.1 < m ∧ Ok2 p.2) noX := by
  obtain ⟨a, b, rfl, ha, hb, hb2⟩ := h
  unfold law_next
  refine po_getE (x := a) rfl ?_
  refine po_if (fun c => ?_) (fun c => ?_)
  · have c' : 0 < a := of_decide_eq_true c
    refine po_getE (x := a) rfl (po_mod h0 fun r0 r1 => po_getE (x := a) rfl (po_div h0 h1 (po_set (Int.le_refl 0) (by show (0 : Int) < 2; decide) ?_)))
    exact ⟨r0, r1, _, _, rfl, Int.ediv_nonneg ha (by omega), hb, hb2⟩
  · refine po_getE (x := b) rfl (po_set (by decide) (by show (1 : Int) < 2; decide) ?_)
    refine po_getE (x := (b * 69621 + 40692) % 2147483647) rfl (po_getE (x := (b * 69621 + 40692) % 2147483647) rfl ?_)
    have h2 : 0 ≤ (b * 69621 + 40692) % 2147483647 := Int.emod_nonneg _ (by decide)
    have h3 : (b * 69621 + 40692) % 2147483647 < 2147483647 := Int.emod_lt_of_pos _ (by decide)
    exact po_mul (by left; omega) (po_mod h0 fun r0 r1 => ⟨r0, r1, _, _, rfl, ha, h2, h3⟩)
theorem great_ok {s : List Int} {m : Int} (h : Ok2 s) (h0 : 0 < m) : Post (law_great s m) (fun p => 0 ≤ p.1 ∧ p.1 < m ∧ Ok2 p.2) noX := by
  unfold law_great
  refine po_bind (po_fold (fun g => Ok2 g.2) h fun g x hg _ => ?_) fun g hg => po_mod h0 fun r0 r1 => ⟨r0, r1, hg⟩
  exact po_bind (next_ok hg (by decide) (by decide)) fun y hy => hy.2.2
/-- looks as drawn: rising, among the places, at most so many -/
def Looks (m k : Int) (l : List Int) : Prop := l.Pairwise (· < ·) ∧ (∀ x ∈ l, 0 ≤ x ∧ x < m) ∧ (l.length : Int) ≤ k
theorem lt_of_sort {l : List Int} (h : l.Pairwise (· ≤ ·)) (n : l.Nodup) : l.Pairwise (· < ·) := by
  induction l with
  | nil => exact .nil
  | cons x l ih =>
    rw [List.pairwise_cons] at h ⊢
    rw [List.nodup_cons] at n
    exact ⟨fun y hy => by
      have := h.1 y hy
      have hne : x ≠ y := fun e => n.1 (e ▸ hy)
      omega, ih h.2 n.2⟩
theorem drawn_looks {s : List Int} {m k : Int} (h : Ok2 s) (h0 : 0 < m) (hk : 0 ≤ k) (hk2 : k < 1000) : Post (law_looks s m k) (fun p => Looks m k p.1 ∧ Ok2 p.2) noX := by
  unfold law_looks
  refine po_bind (next_ok (m := k + 1) h (by omega) (by omega)) fun y6 ⟨r0, r1, h1⟩ => ?_
  refine po_rng (by decide) (by decide) (by omega) (by omega) ?_
  refine po_bind (po_foldN (fun n g => Ok2 g.1 ∧ g.2.Nodup ∧ (∀ x ∈ g.2, 0 ≤ x ∧ x < m) ∧ g.2.length ≤ n) ⟨h1, List.nodup_nil, (fun _ z => nomatch z), Nat.le_refl _⟩ fun n g x hn ⟨g1, g2, g3, g4⟩ _ => ?_) fun g ⟨g1, g2, g3, g4⟩ => ?_
  · have hn' : n < 1000 := by rw [rng_length] at hn; omega
    refine po_bind (great_ok g1 h0) fun y9 ⟨_, _, h9⟩ => po_bind (next_ok h9 (by decide) (by decide)) fun y13 ⟨a0, a1, h13⟩ => ?_
    refine po_get (by unfold min2; split <;> omega) (by unfold min2; show _ < (6 : Int); split <;> omega) fun t14 _ _ => ?_
    refine po_bind (Q := fun p => Ok2 p.2) (po_bind (Q := fun j => Ok2 j.2 ∧ (j.1 = true → g.2 ≠ [])) ?_ fun j ⟨hj, hj2⟩ => ?_) fun g16 h16 => ?_
    · refine po_if (fun c => po_bind (next_ok h13 (by decide) (by decide)) fun y22 ⟨_, _, h22⟩ => ⟨h22, fun _ e => ?_⟩) fun c => ⟨h13, fun z => nomatch z⟩
      rw [e] at c
      exact absurd c (by decide)
    · refine po_if (fun c => po_last (hj2 c) fun t28 _ => po_bind (next_ok hj (by decide) (by decide)) fun y30 ⟨_, _, h30⟩ => h30) fun c => hj
    · refine po_mod h0 fun r0 r1 => po_if (fun c => po_mod h0 fun _ _ => po_app (by omega) ?_) fun c => ⟨h16, g2, g3, Nat.le_succ_of_le g4⟩
      have c' : ¬ (g16.1 % m ∈ g.2) := by simpa using c
      refine ⟨h16, ?_, fun x hx => ?_, by rw [List.length_append, List.length_singleton]; omega⟩
      · rw [List.nodup_append]
        refine ⟨g2, by simp, fun a ha b hb => ?_⟩
        rw [List.mem_singleton] at hb
        rw [hb]
        exact fun e => c' (e ▸ ha)
      · rcases List.mem_append.mp hx with hx | hx
        · exact g3 x hx
        · rw [List.mem_singleton] at hx
          rw [hx]
          exact ⟨r0, r1⟩
  · have hp := sortI_perm g.2
    refine ⟨⟨lt_of_sort (sortI_sorted _) (hp.symm.nodup g2), fun x hx => g3 x (hp.mem_iff.mp hx), ?_⟩, g1⟩
    rw [hp.length_eq]
    rw [rng_length] at g4
    omega
theorem cell_ok {sc : List Int} {k : Int} (h0 : 0 ≤ k) : Post (law_cell_at ⟨sc⟩ k) (fun _ => True) noX := by
  unfold law_cell_at
  refine po_if (fun c => po_get h0 (of_decide_eq_true c) fun _ _ _ => trivial) fun c => ?_
  refine po_bind (Q := fun _ => True) (po_if (fun c => ?_) fun _ => trivial) fun _ _ => trivial
  have hne : sc ≠ [] := fun e => by
    subst e
    exact absurd c (by decide)
  have hl : 0 < (sc.length : Int) := by
    have := List.length_pos_iff.mpr hne
    omega
  exact po_mod hl fun r0 r1 => po_get r0 r1 fun _ _ _ => trivial
theorem folded_ok {sc : List Int} {N : Int} (h : sc.length ≤ 63) (n0 : 0 < N) (n1 : N ≤ 100) : Post (law_folded ⟨sc⟩ N) (fun l => (l.length : Int) = N) noX := by
  unfold law_folded
  refine po_rng (by omega) (by omega) (by omega) (by omega) ?_
  have hN : ((rng 0 N).length : Int) = N := by rw [rng_length]; omega
  have hx : ∀ x ∈ rng 0 N, 0 ≤ x := fun x hx => (rng_mem.mp hx).1
  generalize hl : rng 0 N = l at hN hx ⊢
  refine po_bind (po_mapG (fun _ => True) (by omega) fun x h => po_bind (cell_ok (hx x h)) fun _ _ => po_ok trivial) fun l3 h3 => ?_
  have e : rngI N ((⟨sc⟩ : Scr).l.length : Int) = R.ok (rng N sc.length) := by
    unfold rngI
    rw [if_pos]
    exact ⟨by omega, by omega, by show _ ≤ (sc.length : Int); omega, by show (sc.length : Int) < _; omega⟩
  rw [e, ok_bind]
  have h3' : (l3.length : Int) = N := by rw [h3.1]; exact hN
  refine po_bind (po_fold (fun g => (g.length : Int) = N) h3' fun g x hg hx => ?_) fun g hg => po_ok hg
  obtain ⟨hx0, hx1⟩ := rng_mem.mp hx
  refine po_mod n0 fun r0 r1 => po_get r0 (by omega) fun _ _ _ => po_get (by omega) hx1 fun _ _ _ => po_set r0 (by omega) ?_
  show ((List.set _ _ _).length : Int) = N
  rw [List.length_set]
  exact hg
theorem state_ok (c : Int) : Post (law_state c) Ok2 noX := by
  unfold law_state
  refine po_bind (Q := fun g => 0 ≤ g) (po_if (fun k => ?_) fun _ => Int.le_refl 0) fun g hg => ?_
  · have : (10 : Int) ^ (18 : Int).toNat ≤ c := of_decide_eq_true k
    have h2 : (0 : Int) ≤ (10 : Int) ^ (18 : Int).toNat := by decide
    show 0 ≤ c
    omega
  · exact ⟨_, _, rfl, hg, Int.emod_nonneg _ (by decide), Int.emod_lt_of_pos _ (by decide)⟩
theorem po_ssL {δ : Type} {xs : List Int} {f : List Int → R δ} {S : δ → Prop} {X : Exn → Prop} (hl : xs.length < 64) (hk : Post (f (ssI xs)) S X) : Post (ssR xs >>= f) S X := by
  have h2 : (nub xs).length < 64 := Nat.lt_of_le_of_lt (nodup_le (nub_nodup xs) fun x hx => nub_mem.mp hx) hl
  unfold ssR
  rw [decide_eq_true (show xs.length < 4000 by omega), decide_eq_true h2]
  exact hk
/-! ### rings -/
theorem mm (a b : Int) : (min2 a b = a ∧ a ≤ b) ∨ (min2 a b = b ∧ b ≤ a) := by
  unfold min2
  split <;> omega
theorem emod_up {n x : Int} (h0 : 0 ≤ x) (h1 : x < n) : x % n = x := Int.emod_eq_of_lt h0 h1
theorem emod_lo {n x : Int} (h0 : -n ≤ x) (h1 : x < 0) : x % n = x + n := by
  have : x = (x + n) + n * (-1) := by omega
  rw [this, Int.add_mul_emod_self_left, Int.emod_eq_of_lt (by omega) (by omega)]
  omega
theorem emod_hi {n x : Int} (h0 : n ≤ x) (h1 : x < 2 * n) : x % n = x - n := by
  have : x = (x - n) + n * 1 := by omega
  rw [this, Int.add_mul_emod_self_left, Int.emod_eq_of_lt (by omega) (by omega)]
  omega
theorem gm_cases {n a t : Int} (a0 : 0 ≤ a) (a1 : a < n) (t0 : 0 ≤ t) (t1 : t < n) : (a ≤ t ∧ (t - a) % n = t - a) ∨ (t < a ∧ (t - a) % n = t - a + n) := by
  by_cases q : a ≤ t
  · exact .inl ⟨q, emod_up (by omega) (by omega)⟩
  · exact .inr ⟨by omega, emod_lo (by omega) (by omega)⟩
/-- how far a look is from a place, or from a tie -/
def cd (tie : Bool) (n a t : Int) : Int := min2 ((t - a) % n) (n - (b2i tie) - (t - a) % n)
def sh (tie : Bool) : Int := b2i tie
theorem b2i_c (b : Bool) : b2i b = 0 ∨ b2i b = 1 := by cases b <;> decide
section
variable {n a t : Int} {tie : Bool} (a0 : 0 ≤ a) (a1 : a < n) (t0 : 0 ≤ t) (t1 : t < n)
include a0 a1 t0 t1
theorem cand {x : Int} (h : cd tie n a t = x) : t = (a + x) % n ∨ t = (a - x - b2i tie) % n := by
  unfold cd at h
  have hb := b2i_c tie
  rcases gm_cases a0 a1 t0 t1 with ⟨q, e⟩ | ⟨q, e⟩ <;> rw [e] at h
  · rcases mm (t - a) (n - b2i tie - (t - a)) with ⟨m, l⟩ | ⟨m, l⟩ <;> rw [m] at h
    · left
      rw [emod_up (by omega) (by omega)]
      omega
    · right
      rw [emod_lo (by omega) (by omega)]
      omega
  · rcases mm (t - a + n) (n - b2i tie - (t - a + n)) with ⟨m, l⟩ | ⟨m, l⟩ <;> rw [m] at h
    · left
      rw [emod_hi (by omega) (by omega)]
      omega
    · right
      rw [emod_up (by omega) (by omega)]
      omega
theorem same_cd {u : Int} (u0 : 0 ≤ u) (u1 : u < n) (h : cd tie n a t = cd tie n a u) : t = u ∨ (t + u + b2i tie = 2 * a - n ∨ t + u + b2i tie = 2 * a ∨ t + u + b2i tie = 2 * a + n) := by
  unfold cd at h
  have hb := b2i_c tie
  rcases gm_cases a0 a1 t0 t1 with ⟨q, e⟩ | ⟨q, e⟩ <;> rcases gm_cases a0 a1 u0 u1 with ⟨q2, e2⟩ | ⟨q2, e2⟩ <;> rw [e, e2] at h
  · rcases mm (t - a) (n - b2i tie - (t - a)) with ⟨m, l⟩ | ⟨m, l⟩ <;> rcases mm (u - a) (n - b2i tie - (u - a)) with ⟨m2, l2⟩ | ⟨m2, l2⟩ <;> rw [m, m2] at h <;> omega
  · rcases mm (t - a) (n - b2i tie - (t - a)) with ⟨m, l⟩ | ⟨m, l⟩ <;> rcases mm (u - a + n) (n - b2i tie - (u - a + n)) with ⟨m2, l2⟩ | ⟨m2, l2⟩ <;> rw [m, m2] at h <;> omega
  · rcases mm (t - a + n) (n - b2i tie - (t - a + n)) with ⟨m, l⟩ | ⟨m, l⟩ <;> rcases mm (u - a) (n - b2i tie - (u - a)) with ⟨m2, l2⟩ | ⟨m2, l2⟩ <;> rw [m, m2] at h <;> omega
  · rcases mm (t - a + n) (n - b2i tie - (t - a + n)) with ⟨m, l⟩ | ⟨m, l⟩ <;> rcases mm (u - a + n) (n - b2i tie - (u - a + n)) with ⟨m2, l2⟩ | ⟨m2, l2⟩ <;> rw [m, m2] at h <;> omega
theorem tie_min : min2 (cd false n a t) (min2 ((t + 1 - a) % n) (n - (t + 1 - a) % n)) = cd true n a t := by
  unfold cd
  show min2 (min2 ((t - a) % n) (n - 0 - (t - a) % n)) _ = min2 ((t - a) % n) (n - 1 - (t - a) % n)
  have hn : 0 < n := by omega
  have e2 : (t + 1 - a) % n = if (t - a) % n = n - 1 then 0 else (t - a) % n + 1 := by
    rcases gm_cases a0 a1 t0 t1 with ⟨q, e⟩ | ⟨q, e⟩ <;> rw [e]
    · by_cases z : t - a = n - 1
      · rw [if_pos z, show t + 1 - a = n by omega, Int.emod_self]
      · rw [if_neg z, emod_up (by omega) (by omega)]
        omega
    · by_cases z : t - a + n = n - 1
      · rw [if_pos z, show t + 1 - a = 0 by omega, Int.zero_emod]
      · rw [if_neg z, emod_lo (by omega) (by omega)]
        omega
  have g0 := Int.emod_nonneg (t - a) (show n ≠ 0 by omega)
  have g1 := Int.emod_lt_of_pos (t - a) hn
  rw [e2]
  generalize (t - a) % n = g at g0 g1
  unfold min2
  by_cases z : g = n - 1
  · rw [if_pos z]
    repeat' split
    all_goals omega
  · rw [if_neg z]
    repeat' split
    all_goals omega
end
/-- two looks that are not opposite know all -/
theorem uniq {tie : Bool} {n a b t u : Int} (a0 : 0 ≤ a) (ab : a < b) (b1 : b < n) (hne : 2 * (b - a) ≠ n) (t0 : 0 ≤ t) (t1 : t < n) (u0 : 0 ≤ u) (u1 : u < n) (ha : cd tie n a t = cd tie n a u) (hb : cd tie n b t = cd tie n b u) : t = u := by
  have x := same_cd a0 (by omega) t0 t1 u0 u1 ha
  have y := same_cd (by omega) b1 t0 t1 u0 u1 hb
  have hb := b2i_c tie
  omega
/-! ### the mirrors -/
theorem neg_emod {n z : Int} (hn : 0 < n) : (-z) % n = if z % n = 0 then 0 else n - z % n := by
  have h1 := Int.emod_nonneg z (show n ≠ 0 by omega)
  have h2 := Int.emod_lt_of_pos z hn
  have h3 := Int.mul_ediv_add_emod z n
  by_cases c : z % n = 0
  · rw [if_pos c]
    have : -z = n * (-(z / n)) := by rw [Int.mul_neg]; omega
    rw [this, Int.mul_emod_right]
  · rw [if_neg c]
    have : -z = (n - z % n) + n * (-(z / n) - 1) := by
      rw [Int.mul_sub, Int.mul_neg, Int.mul_one]
      omega
    rw [this, Int.add_mul_emod_self_left, Int.emod_eq_of_lt (by omega) (by omega)]
theorem ring_far_eq {n a t : Int} (hn : 0 < n) : ring_far n a t = R.ok (min2 ((t - a) % n) (n - (t - a) % n)) := by
  unfold ring_far
  rw [modI_ok hn, ok_bind, show a - t = -(t - a) by omega, neg_emod hn]
  have h1 := Int.emod_nonneg (t - a) (show n ≠ 0 by omega)
  have h2 := Int.emod_lt_of_pos (t - a) hn
  congr 1
  generalize (t - a) % n = g at h1 h2
  by_cases z : g = 0
  · rw [if_pos z, z]
  · rw [if_neg z]
    unfold min2
    repeat' split
    all_goals omega
theorem law_far_eq {n a t : Int} (hn : 0 < n) : law_far n a t = R.ok (min2 ((t - a) % n) (n - (t - a) % n)) := by
  unfold law_far
  rw [modI_ok hn, ok_bind]
theorem cd_false {n a t : Int} : min2 ((t - a) % n) (n - (t - a) % n) = cd false n a t := by
  unfold cd
  show _ = min2 ((t - a) % n) (n - 0 - (t - a) % n)
  rw [Int.sub_zero]
theorem tie_far_eq {n a t : Int} (hn : 0 < n) (a0 : 0 ≤ a) (a1 : a < n) (t0 : 0 ≤ t) (t1 : t < n) : ring_tie_far n a t = R.ok (cd true n a t) := by
  unfold ring_tie_far
  rw [ring_far_eq hn, ok_bind, modI_ok hn, ok_bind, ring_far_eq hn, ok_bind, ← tie_min a0 a1 t0 t1, cd_false, Int.emod_sub_emod]
/-- the code of a thing -/
def codeR (tie : Bool) (n : Int) (L : List Int) (t : Int) : List Int := L.map fun l => cd tie n l t
theorem law_code_eq {n t : Int} {L : List Int} {k : Str} (hn : 0 < n) (hL : ∀ l ∈ L, 0 ≤ l ∧ l < n) (hl : L.length < 1000) (t0 : 0 ≤ t) (t1 : t < n) : law_code n L t k = R.ok (codeR (decide (k = ("ties" : Str))) n L t) := by
  unfold law_code
  rw [mapG_ok (g := fun b => cd false n b t) (by omega) fun b _ => by rw [law_far_eq hn, ok_bind, cd_false], ok_bind]
  by_cases c : k = ("ties" : Str)
  · rw [decide_eq_true c, if_pos rfl]
    have ez : (L.map fun b => cd false n b t).zip L = L.map fun b => (cd false n b t, b) := by
      rw [List.zip_map_left]
      have : L.zip L = L.map fun b => (b, b) := by
        clear hL hl
        induction L with
        | nil => rfl
        | cons x l ih => rw [List.zip_cons_cons, ih]; rfl
      rw [this, List.map_map]
      rfl
    rw [ez, mapG_ok (g := fun p : Int × Int => min2 p.1 (min2 ((t + 1 - p.2) % n) (n - (t + 1 - p.2) % n))) (by rw [List.length_map]; omega) fun b _ => by rw [law_far_eq hn, ok_bind], ok_bind, ok_bind, List.map_map]
    unfold codeR
    congr 1
    refine List.map_congr_left fun b hb => ?_
    have := hL b hb
    exact tie_min this.1 this.2 t0 t1
  · rw [decide_eq_false c, if_neg (by decide), ok_bind]
    rfl
/-- what the program tells -/
def foundR (tie : Bool) (n : Int) (L T : List Int) (c1 c2 : Int) : R Int := if codeR tie n L c1 = T then R.ok c1 else if codeR tie n L c2 = T then R.ok c2 else R.exc ⟨"NoCode", 0⟩
theorem loop2 {f : Int → R (List Int)} {g : Int → List Int} {c1 c2 : Int} {T : List Int} (h1 : f c1 = R.ok (g c1)) (h2 : f c2 = R.ok (g c2)) : (foldX (fun (g3 : Unit) (b3 : Int) => do
      let l14 ← f b3
      if (decide (l14 = T)) = true then do
        R.ok (.inl b3)
      else do
        R.ok (.inr (true, ()))) () ([c1, c2] : (List Int)) >>= fun r3 => match r3 with
  | .inl z => R.ok z
  | .inr g3 => (raiseR "NoCode" : R Int)) = (if g c1 = T then R.ok c1 else if g c2 = T then R.ok c2 else R.exc ⟨"NoCode", 0⟩) := by
  unfold foldX
  rw [h1, ok_bind]
  by_cases q1 : g c1 = T
  · rw [if_pos (decide_eq_true q1), if_pos q1]
    rfl
  · rw [if_neg (fun z => q1 (of_decide_eq_true z)), if_neg q1, ok_bind]
    unfold foldX
    dsimp only
    rw [h2, ok_bind]
    by_cases q2 : g c2 = T
    · rw [if_pos (decide_eq_true q2), if_pos q2]
      rfl
    · rw [if_neg (fun z => q2 (of_decide_eq_true z)), if_neg q2]
      rfl
section
variable {n : Int} {L T : List Int} {l0 x0 : Int} (hn : 0 < n) (hL : ∀ l ∈ L, 0 ≤ l ∧ l < n) (hl : L.length < 1000) (h0 : getI L 0 = R.ok l0) (g0 : getI T 0 = R.ok x0)
include hn hL hl h0 g0
theorem place_eq : ring_placeX n L T = foundR false n L T ((l0 + x0) % n) ((l0 - x0) % n) := by
  have key : ∀ c, 0 ≤ c → c < n → mapG (fun (b14 : Int) => do
      let y17 ← nx (ring_far n b14 c)
      R.ok y17) L = R.ok (codeR false n L c) := fun c c0 c1 => mapG_ok (by omega) fun b _ => by rw [ring_far_eq hn, cd_false]; rfl
  unfold ring_placeX
  rw [h0, ok_bind, g0, ok_bind, modI_ok hn, ok_bind, ok_bind, ok_bind, modI_ok hn, ok_bind]
  exact loop2 (key _ (Int.emod_nonneg _ (by omega)) (Int.emod_lt_of_pos _ hn)) (key _ (Int.emod_nonneg _ (by omega)) (Int.emod_lt_of_pos _ hn))
theorem tie_eq : ring_tieX n L T = foundR true n L T ((l0 + x0) % n) ((l0 - x0 - 1) % n) := by
  have key : ∀ c, 0 ≤ c → c < n → mapG (fun (b14 : Int) => do
      let y17 ← nx (ring_tie_far n b14 c)
      R.ok y17) L = R.ok (codeR true n L c) := fun c c0 c1 => mapG_ok (by omega) fun b hb => by rw [tie_far_eq hn (hL b hb).1 (hL b hb).2 c0 c1]; rfl
  unfold ring_tieX
  rw [h0, ok_bind, g0, ok_bind, modI_ok hn, ok_bind, ok_bind, ok_bind, modI_ok hn, ok_bind]
  exact loop2 (key _ (Int.emod_nonneg _ (by omega)) (Int.emod_lt_of_pos _ hn)) (key _ (Int.emod_nonneg _ (by omega)) (Int.emod_lt_of_pos _ hn))
end
end G
namespace G
open PySem L2 Z
theorem fil_ite {α : Type} (l : List α) (P : α → Bool) : l.filterMap (fun b => if P b = true then some b else none) = l.filter P := by
  induction l with
  | nil => rfl
  | cons x l ih =>
    rw [List.filterMap_cons, List.filter_cons]
    cases h : P x
    · simpa using ih
    · simpa using ih
theorem isC_t {tn : List Str} {c : Str} {i : Int} {b : Bool} (h : c ∈ names) (hb : decide (c ∈ tn) = b) : isC names tn ⟨c, i⟩ = R.ok b := by
  unfold isC
  rw [if_pos h, hb]
theorem nc_in : ("NoCode" : Str) ∈ names := by decide +kernel
theorem tryX {α : Type} {names : List Str} {e : Exn} {f : Exn → R α} (h : e.cls ∈ names) : tryWith names (R.exc e) f = f e := if_pos h
def noneI : IoS := IoS.s ⟨("none" : Str), by decide +kernel⟩
/-- what is told of what the program tells -/
def ansR (x : R Int) : IoS := match x with
  | .ok c => .i c
  | _ => noneI
theorem told_eq {way : Int} {tie : Bool} {n : Int} {L T : List Int} {x : R Int} (hw : (way = 0 ∧ tie = false) ∨ (way = 1 ∧ tie = true)) (hx : (if tie = true then ring_tieX n L T else ring_placeX n L T) = x) (hs : (∃ c, x = R.ok c) ∨ x = R.exc ⟨"NoCode", 0⟩) : law_told way (Nt.mk (n, L, T, ())) = R.ok (ansR x) := by
  have ey : ∀ t : Int, getI ([0, 1] : List Int) way = R.ok t → (if t = 0 then ring_placeX n L T else ring_tieX n L T) = x := fun t ht => by
    rcases hw with ⟨rfl, rfl⟩ | ⟨rfl, rfl⟩
    · have : t = 0 := by
        have e : getI ([0, 1] : List Int) 0 = R.ok 0 := getI_eq (by decide) rfl
        rw [e] at ht
        injection ht with ht
        exact ht.symm
      rw [if_pos this]
      exact hx
    · have : t = 1 := by
        have e : getI ([0, 1] : List Int) 1 = R.ok 1 := getI_eq (by decide) rfl
        rw [e] at ht
        injection ht with ht
        exact ht.symm
      rw [if_neg (by omega)]
      exact hx
  have eg : ∃ t, getI ([0, 1] : List Int) way = R.ok t := by
    rcases hw with ⟨rfl, _⟩ | ⟨rfl, _⟩
    · exact ⟨0, getI_eq (by decide) rfl⟩
    · exact ⟨1, getI_eq (by decide) rfl⟩
  obtain ⟨t, et⟩ := eg
  have e2 : ¬ way = 2 := by omega
  unfold law_told
  rw [if_neg (show ¬ decide (way = 2) = true from fun z => e2 (of_decide_eq_true z)), et, ok_bind]
  dsimp only
  rw [ey t et]
  rcases hs with ⟨c, rfl⟩ | rfl
  · rfl
  · rw [exc_bind, tryX nc_in, ok_bind]
    dsimp only
    rw [if_neg (show ¬ (some (⟨"NoCode", 0⟩ : Exn) : Option Exn).isNone = true from fun z => Bool.noConfusion (show false = true from z))]
    show ((ofO (some (⟨"NoCode", 0⟩ : Exn)) >>= _) >>= _) = _
    have i1 : isC names [("NoCode" : Str)] ⟨"NoCode", 0⟩ = R.ok true := isC_t nc_in (by decide +kernel)
    have i2 : isC names [] ⟨"NoCode", 0⟩ = R.ok false := isC_t nc_in (by decide +kernel)
    show ((R.ok (⟨"NoCode", 0⟩ : Exn) >>= _) >>= _) = _
    rw [ok_bind, i1, ok_bind, if_neg (by decide), ok_bind, if_neg (by decide), i2, ok_bind, ok_bind, if_neg (by decide)]
    rfl
theorem found_is {tie : Bool} {n : Int} {L T : List Int} {c1 c2 : Int} : (∃ c, foundR tie n L T c1 c2 = R.ok c ∧ (c = c1 ∨ c = c2) ∧ codeR tie n L c = T) ∨ (foundR tie n L T c1 c2 = R.exc ⟨"NoCode", 0⟩ ∧ codeR tie n L c1 ≠ T ∧ codeR tie n L c2 ≠ T) := by
  unfold foundR
  by_cases q1 : codeR tie n L c1 = T
  · rw [if_pos q1]
    exact .inl ⟨c1, rfl, .inl rfl, q1⟩
  · rw [if_neg q1]
    by_cases q2 : codeR tie n L c2 = T
    · rw [if_pos q2]
      exact .inl ⟨c2, rfl, .inr rfl, q2⟩
    · rw [if_neg q2]
      exact .inr ⟨rfl, q1, q2⟩
theorem cut_from {α : Type} (xs : List α) (k : Nat) : cutL xs (some (k : Int)) none = xs.drop k := by
  unfold cutL
  have e0 : HT.sIx xs.length 0 (some (k : Int)) = min k xs.length := HT.sIx_nat xs.length 0 k
  have e : HT.sIx xs.length xs.length none = xs.length := rfl
  rw [e, e0]
  by_cases h : k ≤ xs.length
  · rw [Nat.min_eq_left h, List.take_of_length_le (by rw [List.length_drop]; exact Nat.le_refl _)]
  · rw [Nat.min_eq_right (by omega), List.drop_of_length_le (Nat.le_refl _), List.drop_of_length_le (by omega), List.take_nil]
theorem cut_fromI {α : Type} (xs : List α) {k : Int} (k0 : 0 ≤ k) : cutL xs (some k) none = xs.drop k.toNat := by
  have := cut_from xs k.toNat
  rw [show ((k.toNat : Nat) : Int) = k by omega] at this
  exact this
theorem cut_nat {α : Type} (xs : List α) {k : Int} (k0 : 0 ≤ k) : cutL xs none (some k) = xs.take k.toNat := by
  have := cut_take xs k.toNat
  rw [show ((k.toNat : Nat) : Int) = k by omega] at this
  exact this
theorem cut_len {α : Type} {xs : List α} {i j : Option Int} : (cutL xs i j).length ≤ xs.length := by
  unfold cutL
  rw [List.length_take, List.length_drop]
  omega
theorem cut_sub {α : Type} {xs : List α} {i j : Option Int} {x : α} (h : x ∈ cutL xs i j) : x ∈ xs := by
  unfold cutL at h
  exact List.mem_of_mem_drop (List.mem_of_mem_take h)
/-! ### what has a code -/
theorem last_get {l : List Int} (h : l ≠ []) : ∃ x, getI l (-1) = R.ok x ∧ ∀ (f : Int → Int) (m : List Int), l.map f = m → ∃ y, getI m (-1) = R.ok y ∧ y = f x ∧ x ∈ l := by
  have hp := List.length_pos_iff.mpr h
  have g : ∀ (k : List Int), k.length = l.length → ∃ y, k[l.length - 1]? = some y ∧ getI k (-1) = R.ok y := fun k hk => by
    have hlt : l.length - 1 < k.length := by omega
    refine ⟨k[l.length - 1], List.getElem?_eq_getElem hlt, ?_⟩
    unfold getI atI
    have e : ixN k.length (-1) = some (l.length - 1) := by
      unfold ixN
      rw [if_neg (by decide), if_pos (by omega)]
      congr 1
      omega
    rw [e]
    show ofO (k[l.length - 1]?) = _
    rw [List.getElem?_eq_getElem hlt]
    rfl
  obtain ⟨x, ex, gx⟩ := g l rfl
  refine ⟨x, gx, fun f m em => ?_⟩
  obtain ⟨y, ey, gy⟩ := g m (by rw [← em, List.length_map])
  refine ⟨y, gy, ?_, List.mem_of_getElem? ex⟩
  rw [← em, List.getElem?_map, ex] at ey
  exact (Option.some.inj ey).symm
theorem ss_mem {xs : List Int} {x : Int} : x ∈ ssI xs ↔ x ∈ xs := by
  unfold ssI
  rw [(sortI_perm _).mem_iff, nub_mem]
theorem having_ok {n : Int} {L T : List Int} {k : Str} (hn : 3 ≤ n) (hL : ∀ l ∈ L, 0 ≤ l ∧ l < n) (hl : L.length < 1000) (hne : L ≠ []) (hT : T.length = L.length) : Post (law_having n L T k) (fun H => (∀ t ∈ H, (0 ≤ t ∧ t < n) ∧ codeR (decide (k = ("ties" : Str))) n L t = T) ∧ (∀ t, 0 ≤ t → t < n → codeR (decide (k = ("ties" : Str))) n L t = T → t ∈ H) ∧ H.length < 100) noX := by
  have hn0 : 0 < n := by omega
  unfold law_having
  have hm : 3 ≤ min2 n 12 ∧ min2 n 12 ≤ 12 := by rcases mm n 12 with ⟨e, _⟩ | ⟨e, _⟩ <;> rw [e] <;> omega
  refine po_listRng (by decide) (by decide) (by omega) (by omega) (by omega) ?_
  generalize htie : decide (k = ("ties" : Str)) = tie
  refine po_bind (Q := fun g => g.length ≤ 12 ∧ ∀ t, 0 ≤ t → t < n → codeR tie n L t = T → ∃ x ∈ g, x % n = t) (po_if (fun c => ?_) fun c => ?_) fun g6 ⟨gl, hg⟩ => ?_
  · obtain ⟨a, ea, ha⟩ := last_get hne
    have hTne : T ≠ [] := fun z => hne (List.length_eq_zero_iff.mp (by rw [← hT, z]; rfl))
    obtain ⟨x, ex, _⟩ := last_get hTne
    rw [ea, ok_bind, ex, ok_bind, ok_bind, ok_bind]
    refine ⟨by show 3 ≤ 12; decide, fun t t0 t1 hc => ?_⟩
    obtain ⟨y, gy, ey, am⟩ := ha (fun l => cd tie n l t) T hc
    rw [ex] at gy
    injection gy with gy
    have ar := hL a am
    rcases cand ar.1 ar.2 t0 t1 (x := x) (by rw [gy, ey]) with q | q
    · exact ⟨a + x, by simp, q.symm⟩
    · rcases b2i_c tie with z | z <;> rw [z] at q
      · exact ⟨a - x, by simp, by rw [q, Int.sub_zero]⟩
      · exact ⟨a - x - 1, by simp, q.symm⟩
  · have h12 : n ≤ 12 := by
      apply Classical.byContradiction
      intro z
      exact c (decide_eq_true (by omega))
    have e : min2 n 12 = n := by rcases mm n 12 with ⟨e, _⟩ | ⟨e, _⟩ <;> omega
    rw [e]
    refine ⟨by rw [rng_length]; omega, fun t t0 t1 _ => ⟨t, rng_mem.mpr ⟨t0, t1⟩, emod_up t0 t1⟩⟩
  · refine po_mapGE (g := fun b => b % n) (by omega) (fun b _ => by rw [modI_ok hn0]; rfl) ?_
    refine po_ssL (by rw [List.length_map]; omega) ?_
    have hr : ∀ b ∈ ssI (g6.map fun b => b % n), 0 ≤ b ∧ b < n := fun b hb => by
      obtain ⟨x, _, rfl⟩ := List.mem_map.mp (ss_mem.mp hb)
      exact ⟨Int.emod_nonneg _ (by omega), Int.emod_lt_of_pos _ hn0⟩
    have hsl : (ssI (g6.map fun b => b % n)).length < 100 := by
      have := nodup_le (show (ssI (g6.map fun b => b % n)).Nodup from (sortI_perm _).nodup_iff.mpr (nub_nodup _)) (ys := g6.map fun b => b % n) fun y hy => ss_mem.mp hy
      rw [List.length_map] at this
      omega
    rw [filG_ok (g := fun b => if decide (codeR tie n L b = T) = true then some b else none) (by omega) fun b hb => by
      rw [law_code_eq hn0 hL hl (hr b hb).1 (hr b hb).2, ok_bind, htie]
      split <;> rfl, ok_bind, fil_ite]
    refine ⟨fun t ht => ?_, fun t t0 t1 hc => ?_, ?_⟩
    · obtain ⟨a, b⟩ := List.mem_filter.mp ht
      exact ⟨hr t a, of_decide_eq_true b⟩
    · obtain ⟨x, hx, e⟩ := hg t t0 t1 hc
      exact List.mem_filter.mpr ⟨ss_mem.mpr (List.mem_map.mpr ⟨x, hx, e⟩), decide_eq_true hc⟩
    · exact Nat.lt_of_le_of_lt (List.length_filter_le _ _) hsl
theorem other_ok {s : List Int} {T : List Int} (h : Ok2 s) (hT : T ≠ []) (hl : T.length < 1000) : Post (law_other s T) (fun r => r.1.length = T.length ∧ Ok2 r.2) noX := by
  have hp := List.length_pos_iff.mpr hT
  have b60 : (0 : Int) < (10 : Int) ^ ((60 : Int) : Int).toNat := by decide +kernel
  unfold law_other
  refine po_bind (next_ok h (by omega) (by omega)) fun y3 ⟨a0, a1, h3⟩ => po_bind (next_ok h3 (by decide) (by decide)) fun y4 ⟨b0, b1, h4⟩ => po_bind (great_ok h4 b60) fun y6 ⟨_, _, h6⟩ => ?_
  refine po_get a0 a1 fun t7 _ _ => po_get a0 a1 fun t13 _ _ => po_get b0 b1 fun t14 _ _ => ?_
  rw [cut_nat _ a0, cut_fromI _ (show 0 ≤ y3.1 + 1 by omega)]
  refine po_extend (by rw [List.length_take]; show _ + 1 < 100000; omega) (po_extend (by rw [List.length_append, List.length_take, List.length_drop, List.length_singleton]; omega) ⟨?_, h6⟩)
  show ((T.take y3.1.toNat ++ [t13 + t14]) ++ T.drop (y3.1 + 1).toNat).length = _
  rw [List.length_append, List.length_append, List.length_take, List.length_drop, List.length_singleton]
  omega
theorem ring_right_ok {s : List Int} (h : Ok2 s) : Post (law_ring_right s) (fun r => r.1 = true ∧ Ok2 r.2) noX := by
  have b60 : (0 : Int) < (10 : Int) ^ ((60 : Int) : Int).toNat - 2 := by decide +kernel
  unfold law_ring_right
  refine po_bind (next_ok h (by decide) (by decide)) fun y6 ⟨a0, a1, h6⟩ => po_get a0 a1 fun t7 m7 _ => ?_
  have t7p : 0 < t7 := by
    rcases List.mem_cons.mp m7 with rfl | m
    · decide
    · rw [List.mem_singleton.mp m]; exact b60
  refine po_bind (great_ok h6 t7p) fun y8 ⟨c0, c1, h8⟩ => ?_
  generalize hn : (3 : Int) + y8.1 = n
  have n3 : 3 ≤ n := by omega
  refine po_bind (next_ok h8 (by decide) (by decide)) fun y13 ⟨d0, d1, h13⟩ => po_get (by unfold b2i; split <;> decide) (by unfold b2i; split <;> decide) fun t14 m14 _ => ?_
  have t14r : 0 ≤ t14 ∧ t14 ≤ 20 := by
    rcases List.mem_cons.mp m14 with rfl | m
    · decide
    · rw [List.mem_singleton.mp m]; decide
  refine po_bind (drawn_looks h13 (by omega) t14r.1 (by omega)) fun y15 ⟨⟨l1, l2, l3⟩, h15⟩ => ?_
  -- two looks that are not opposite
  refine po_bind (Q := fun L : List Int => (∀ l ∈ L, 0 ≤ l ∧ l < n) ∧ L.length < 1000 ∧ ∃ a ∈ L, ∃ b ∈ L, 0 ≤ a ∧ a < b ∧ b < n ∧ 2 * (b - a) ≠ n) ?_ fun L ⟨hL, hl, a, ha, b, hb, ab⟩ => ?_
  · refine po_bind (Q := fun j => j = false → ∃ a ∈ y15.1, ∃ b ∈ y15.1, 0 ≤ a ∧ a < b ∧ b < n ∧ 2 * (b - a) ≠ n) ?_ fun j hj => po_if (fun _ => ?_) fun c => ?_
    · refine po_if (fun _ z => absurd z (by decide)) fun c2 => po_bind (Q := fun j => j = false → ∃ a ∈ y15.1, ∃ b ∈ y15.1, 0 ≤ a ∧ a < b ∧ b < n ∧ 2 * (b - a) ≠ n) ?_ fun j hj => hj
      have hl2 : 2 ≤ y15.1.length := by
        apply Classical.byContradiction
        intro z
        exact c2 (decide_eq_true (by omega))
      match hy : y15.1, hl2 with
      | x :: y :: rest, _ =>
        rw [hy] at l1 l2
        have hxy := (List.pairwise_cons.mp l1).1 y List.mem_cons_self
        have rx := l2 x List.mem_cons_self
        have ry := l2 y (List.mem_cons_of_mem _ List.mem_cons_self)
        by_cases q : 2 * (y - x) = n
        · cases rest with
          | nil =>
            refine po_if (fun _ => ?_) fun c => absurd (show decide (((([x, y] : List Int).length : Nat) : Int) = 2) = true from rfl) c
            refine po_getE (getI_eq (x := y) (by decide) rfl) (po_getE (getI_eq (x := x) (by decide) rfl) ?_)
            show decide (2 * (y - x) = n) = false → _
            rw [decide_eq_true q]
            exact fun z => absurd z (by decide)
          | cons w rest =>
            have hyw := (List.pairwise_cons.mp (List.pairwise_cons.mp l1).2).1 w List.mem_cons_self
            have rw_ := l2 w (by simp)
            refine Post.mono (P := fun _ => True) ?_ (fun j _ _ => ⟨x, by simp, w, by simp, rx.1, by omega, rw_.2, by omega⟩) fun _ z => z
            refine po_if (fun c => ?_) fun _ => trivial
            have := of_decide_eq_true c
            rw [List.length_cons, List.length_cons, List.length_cons] at this
            omega
        · refine Post.mono (P := fun _ => True) ?_ (fun j _ _ => ⟨x, by simp, y, by simp, rx.1, hxy, ry.2, q⟩) fun _ z => z
          refine po_if (fun _ => ?_) fun _ => trivial
          exact po_getE (getI_eq (x := y) (by decide) rfl) (po_getE (getI_eq (x := x) (by decide) rfl) trivial)
    · exact ⟨fun l hl => by rcases List.mem_cons.mp hl with rfl | hl; · omega
                            · rw [List.mem_singleton.mp hl]; omega, by decide, 0, by simp, 1, by simp, by decide, by decide, by omega, by omega⟩
    · have ej : j = false := by cases j with | false => rfl | true => exact absurd rfl c
      exact ⟨l2, by omega, hj ej⟩
  have hne : L ≠ [] := fun z => by rw [z] at ha; cases ha
  have hp := List.length_pos_iff.mpr hne
  obtain ⟨l0, hl0⟩ : ∃ l0, L[0]? = some l0 := ⟨L[0], List.getElem?_eq_getElem hp⟩
  refine po_bind (po_foldX (fun g => Ok2 g) h15 fun g x hg hx => ?_) fun r ⟨g, e, hg⟩ => by rw [e]; exact ⟨rfl, hg⟩
  have hxc : ∃ tie : Bool, decide (x.2 = ("ties" : Str)) = tie ∧ ((x.1 = 0 ∧ tie = false) ∨ (x.1 = 1 ∧ tie = true)) := by
    have : x ∈ [((0 : Int), ("places" : Str)), ((1 : Int), ("ties" : Str))] := hx
    rcases List.mem_cons.mp this with rfl | m
    · exact ⟨false, by decide +kernel, .inl ⟨rfl, rfl⟩⟩
    · rw [List.mem_singleton.mp m]
      exact ⟨true, by decide +kernel, .inr ⟨rfl, rfl⟩⟩
  obtain ⟨tie, etie, hw⟩ := hxc
  refine po_bind (great_ok hg (show 0 < n by omega)) fun y41 ⟨p0, p1, h41⟩ => ?_
  rw [law_code_eq (by omega) hL hl p0 p1, ok_bind]
  have hcl : (codeR (decide (x.2 = ("ties" : Str))) n L y41.1).length = L.length := List.length_map _
  refine po_bind (other_ok h41 (fun z => hne (List.length_eq_zero_iff.mp (by rw [← hcl, z]; rfl))) (by rw [hcl]; exact hl)) fun y44 ⟨e44, h44⟩ => ?_
  rw [hcl] at e44
  refine po_bind (having_ok n3 hL hl hne e44) fun H ⟨H1, H2, H3⟩ => ?_
  rw [etie] at H1 H2
  refine po_getE (getI_eq (x := L) (by decide) rfl) (po_getE (getI_eq (x := y44.1) (by decide) rfl) ?_)
  obtain ⟨x0, hx0⟩ : ∃ x0, y44.1[0]? = some x0 := ⟨y44.1[0], List.getElem?_eq_getElem (by omega)⟩
  have gl0 : getI L 0 = R.ok l0 := getI_eq (by decide) hl0
  have gx0 : getI y44.1 0 = R.ok x0 := getI_eq (by decide) hx0
  have lm0 : l0 ∈ L := List.mem_of_getElem? hl0
  have r0 := hL l0 lm0
  have hn0 : 0 < n := by omega
  generalize hc2 : (if tie = true then (l0 - x0 - 1) % n else (l0 - x0) % n) = c2
  have ep : (if tie = true then ring_tieX n L y44.1 else ring_placeX n L y44.1) = foundR tie n L y44.1 ((l0 + x0) % n) c2 := by
    rw [← hc2]
    cases tie with
    | true => rw [if_pos rfl, if_pos rfl]; exact tie_eq hn0 hL hl gl0 gx0
    | false => rw [if_neg (by decide), if_neg (by decide)]; exact place_eq hn0 hL hl gl0 gx0
  have hc2' : c2 = (l0 - x0 - b2i tie) % n := by
    rw [← hc2]
    cases tie with
    | true => rfl
    | false => show (l0 - x0) % n = (l0 - x0 - 0) % n; rw [Int.sub_zero]
  have first : ∀ t, codeR tie n L t = y44.1 → cd tie n l0 t = x0 := fun t hc => by
    have : (codeR tie n L t)[0]? = some x0 := by rw [hc]; exact hx0
    unfold codeR at this
    rw [List.getElem?_map, hl0] at this
    exact Option.some.inj this
  have only : ∀ t u, 0 ≤ t → t < n → 0 ≤ u → u < n → codeR tie n L t = y44.1 → codeR tie n L u = y44.1 → t = u := fun t u t0 t1 u0 u1 ht hu => by
    have e := List.map_inj_left.mp (show L.map (fun l => cd tie n l t) = L.map (fun l => cd tie n l u) from ht.trans hu.symm)
    exact uniq ab.1 ab.2.1 ab.2.2.1 ab.2.2.2 t0 t1 u0 u1 (e a ha) (e b hb)
  have fi := found_is (tie := tie) (n := n) (L := L) (T := y44.1) (c1 := (l0 + x0) % n) (c2 := c2)
  have hs : (∃ c, foundR tie n L y44.1 ((l0 + x0) % n) c2 = R.ok c) ∨ foundR tie n L y44.1 ((l0 + x0) % n) c2 = R.exc ⟨"NoCode", 0⟩ := by
    rcases fi with ⟨c, e, _⟩ | ⟨e, _⟩
    · exact .inl ⟨c, e⟩
    · exact .inr e
  rw [told_eq hw ep hs, ok_bind]
  have cr : ∀ c, c = (l0 + x0) % n ∨ c = c2 → 0 ≤ c ∧ c < n := fun c hc => by
    rcases hc with rfl | rfl
    · exact ⟨Int.emod_nonneg _ (by omega), Int.emod_lt_of_pos _ hn0⟩
    · rw [hc2']
      exact ⟨Int.emod_nonneg _ (by omega), Int.emod_lt_of_pos _ hn0⟩
  refine po_bind (Q := fun j => j = false) ?_ fun j hj => by rw [hj]; exact po_if (fun c => absurd c (by decide)) fun _ => ⟨_, rfl, h44⟩
  refine po_if (fun c => absurd c (by decide)) fun _ => po_if (fun c => ?_) fun _ => ?_
  · rw [decide_eq_true rfl] at c
    cases c
  refine po_extend (by rw [List.length_map]; show H.length + 1 < 100000; omega) ?_
  rw [cut_nat _ (show (0 : Int) ≤ 1 by decide)]
  show (!decide (([ansR (foundR tie n L y44.1 ((l0 + x0) % n) c2)] : List IoS) = (H.map IoS.i ++ [noneI]).take 1)) = false
  rcases fi with ⟨c, e, hc, hcode⟩ | ⟨e, n1, n2⟩
  · rw [e]
    have r := cr c hc
    have hm := H2 c r.1 r.2 hcode
    cases H with
    | nil => cases hm
    | cons t H =>
      have h1 := H1 t List.mem_cons_self
      have : t = c := only t c h1.1.1 h1.1.2 r.1 r.2 h1.2 hcode
      subst this
      rw [decide_eq_true (show ([ansR (R.ok t)] : List IoS) = ((t :: H).map IoS.i ++ [noneI]).take 1 from rfl)]
      rfl
  · rw [e]
    cases H with
    | nil =>
      rw [decide_eq_true (show ([ansR (R.exc ⟨"NoCode", 0⟩)] : List IoS) = (([] : List Int).map IoS.i ++ [noneI]).take 1 from rfl)]
      rfl
    | cons t H =>
      exfalso
      have h1 := H1 t List.mem_cons_self
      rcases cand r0.1 r0.2 h1.1.1 h1.1.2 (first t h1.2) with q | q
      · exact n1 (q ▸ h1.2)
      · rw [← hc2'] at q
        exact n2 (q ▸ h1.2)
end G
namespace G
open PySem L2 Z
/-! ### grids -/
theorem ab (i : Int) : (0 ≤ i ∧ absI i = i) ∨ (i < 0 ∧ absI i = -i) := by
  unfold absI
  split <;> omega
abbrev T2 (a b : Int) : Tup Int := Tup.mk [a, b]
theorem g20 {a b : Int} : getI ([a, b] : List Int) 0 = R.ok a := getI_eq (by decide) rfl
theorem g21 {a b : Int} : getI ([a, b] : List Int) 1 = R.ok b := getI_eq (by decide) rfl
theorem g2a {a b : Int} : getI ([a, b] : List Int) ((1 : Int) - 0) = R.ok b := getI_eq (by decide) rfl
theorem g2b {a b : Int} : getI ([a, b] : List Int) ((1 : Int) - 1) = R.ok a := getI_eq (by decide) rfl
theorem spans_eq {a b x y : Int} : law_spans (T2 a b) (T2 x y) = R.ok (absI (a - x) + absI (b - y)) := by
  unfold law_spans
  rw [g20, g20, g21, g21]
  rfl
theorem spansl_eq {a b x y : Int} : law_spansl (T2 a b) [x, y] = R.ok (absI (a - x) + absI (b - y)) := by
  unfold law_spansl
  rw [g20, g20, g21, g21]
  rfl
/-- the ends of a side, along and across -/
structure Side (last m o o' c : Int) : Prop where
  l1 : 1 ≤ last
  m2 : 2 ≤ m
  ends : (o = 0 ∧ o' = last) ∨ (o = last ∧ o' = 0)
  acr : c = 0 ∨ c = m - 1
theorem sort2 {last m o o' c : Int} (S : Side last m o o' c) : sortI [o, o'] = [0, last] := by
  have := S.l1
  rcases S.ends with ⟨rfl, rfl⟩ | ⟨rfl, rfl⟩
  · exact (sortI_eq (List.Perm.refl _) (by simp; omega)).symm
  · exact (sortI_eq (List.Perm.swap _ _ _) (by simp; omega)).symm
/-- a place so far from both ends: a along, b across -/
def Good (last m o o' c p q a b : Int) : Prop := ((0 ≤ a ∧ a ≤ last) ∧ (0 ≤ b ∧ b < m)) ∧ absI (o - a) + absI (c - b) = p ∧ absI (o' - a) + absI (c - b) = q
theorem good_uniq {last m o o' c p q a b a' b' : Int} (S : Side last m o o' c) (h : Good last m o o' c p q a b) (h' : Good last m o o' c p q a' b') : a = a' ∧ b = b' := by
  obtain ⟨l1, m2, he, hc⟩ := S
  obtain ⟨⟨r1, r2⟩, e1, e2⟩ := h
  obtain ⟨⟨r3, r4⟩, e3, e4⟩ := h'
  rcases ab (o - a) with ⟨x1, y1⟩ | ⟨x1, y1⟩ <;> rcases ab (c - b) with ⟨x2, y2⟩ | ⟨x2, y2⟩ <;> rcases ab (o' - a) with ⟨x3, y3⟩ | ⟨x3, y3⟩ <;> rcases ab (o - a') with ⟨x4, y4⟩ | ⟨x4, y4⟩ <;> rcases ab (c - b') with ⟨x5, y5⟩ | ⟨x5, y5⟩ <;> rcases ab (o' - a') with ⟨x6, y6⟩ | ⟨x6, y6⟩ <;> rw [y1, y2] at e1 <;> rw [y3, y2] at e2 <;> rw [y4, y5] at e3 <;> rw [y6, y5] at e4 <;> omega
/-- near and beyond -/
def nb (o o' p q : Int) : Int × Int := if o' < o then (q, p) else (p, q)
/-- what is reckoned: along and across -/
def al (last o o' p q : Int) : Int := (nb o o' p q).1 - (nb o o' p q).2 + last
def aw (last o o' p q : Int) : Int := (nb o o' p q).1 + (nb o o' p q).2 - last
def spotB (c : Int) (w : Int) : Int := if 0 < c then c - w / 2 else w / 2
theorem reckon {last m o o' c p q : Int} (S : Side last m o o' c) : (al last o o' p q % 2 = 0 ∧ (0 ≤ al last o o' p q ∧ al last o o' p q ≤ 2 * last) ∧ (0 ≤ aw last o o' p q ∧ aw last o o' p q ≤ 2 * (m - 1))) ↔ Good last m o o' c p q (al last o o' p q / 2) (spotB c (aw last o o' p q)) := by
  obtain ⟨l1, m2, he, hc⟩ := S
  unfold Good spotB
  have e : (o = 0 ∧ o' = last ∧ al last o o' p q = p - q + last ∧ aw last o o' p q = p + q - last) ∨ (o = last ∧ o' = 0 ∧ al last o o' p q = q - p + last ∧ aw last o o' p q = q + p - last) := by
    unfold al aw nb
    rcases he with ⟨rfl, rfl⟩ | ⟨rfl, rfl⟩
    · rw [if_neg (by omega)]
      exact .inl ⟨rfl, rfl, rfl, rfl⟩
    · rw [if_pos (by omega)]
      exact .inr ⟨rfl, rfl, rfl, rfl⟩
  generalize al last o o' p q = A at e
  generalize aw last o o' p q = B at e
  by_cases c0 : 0 < c
  · rw [if_pos c0]
    rcases ab (o - A / 2) with ⟨x1, y1⟩ | ⟨x1, y1⟩ <;> rcases ab (c - (c - B / 2)) with ⟨x2, y2⟩ | ⟨x2, y2⟩ <;> rcases ab (o' - A / 2) with ⟨x3, y3⟩ | ⟨x3, y3⟩ <;> rw [y1, y2, y3] <;> omega
  · rw [if_neg c0]
    rcases ab (o - A / 2) with ⟨x1, y1⟩ | ⟨x1, y1⟩ <;> rcases ab (c - B / 2) with ⟨x2, y2⟩ | ⟨x2, y2⟩ <;> rcases ab (o' - A / 2) with ⟨x3, y3⟩ | ⟨x3, y3⟩ <;> rw [y1, y2, y3] <;> omega
/-- whatever is good is reckoned -/
theorem good_reckon {last m o o' c p q a b : Int} (S : Side last m o o' c) (h : Good last m o o' c p q a b) : Good last m o o' c p q (al last o o' p q / 2) (spotB c (aw last o o' p q)) := by
  refine (reckon S).mp ?_
  obtain ⟨l1, m2, he, hc⟩ := S
  obtain ⟨⟨r1, r2⟩, e1, e2⟩ := h
  unfold al aw nb
  rcases he with ⟨rfl, rfl⟩ | ⟨rfl, rfl⟩
  · rw [if_neg (by omega)]
    dsimp only
    rcases ab (0 - a) with ⟨x1, y1⟩ | ⟨x1, y1⟩ <;> rcases ab (c - b) with ⟨x2, y2⟩ | ⟨x2, y2⟩ <;> rcases ab (o' - a) with ⟨x3, y3⟩ | ⟨x3, y3⟩ <;> rw [y1, y2] at e1 <;> rw [y3, y2] at e2 <;> omega
  · rw [if_pos (by omega)]
    dsimp only
    rcases ab (o - a) with ⟨x1, y1⟩ | ⟨x1, y1⟩ <;> rcases ab (c - b) with ⟨x2, y2⟩ | ⟨x2, y2⟩ <;> rcases ab (0 - a) with ⟨x3, y3⟩ | ⟨x3, y3⟩ <;> rw [y1, y2] at e1 <;> rw [y3, y2] at e2 <;> omega
/-- which way the side lies: along x, or along y -/
def pt (ax : Bool) (a b : Int) : Tup Int := if ax = true then T2 a b else T2 b a
def szs (ax : Bool) (last m : Int) : Int × Int := if ax = true then (last + 1, m) else (m, last + 1)
theorem side_eq {ax : Bool} {last m o o' c : Int} (S : Side last m o o' c) : side_number (T2 (szs ax last m).1 (szs ax last m).2) (pt ax o c) (pt ax o' c) = R.ok (some (b2i ax)) := by
  have hs := sort2 S
  have hne : o ≠ o' := by
    have := S.l1
    rcases S.ends with ⟨e1, e2⟩ | ⟨e1, e2⟩ <;> omega
  have hi : inB c ([0, m - 1] : List Int) = true := inB_t.mpr (by rcases S.acr with e | e <;> rw [e] <;> simp)
  have er : rng 0 2 = [0, 1] := by decide
  have e1 : last + 1 - 1 = last := by omega
  unfold side_number
  rw [er]
  cases ax with
  | true =>
    show ((foldX _ () [0, 1]) >>= _) = _
    unfold foldX pt szs
    simp only [if_true]
    rw [g2a, ok_bind, g20, ok_bind, g20, ok_bind, if_neg (show ¬ decide (o = o') = true from fun z => hne (of_decide_eq_true z)), ok_bind, if_neg (by decide), ok_bind]
    unfold foldX
    dsimp only
    rw [g2b, ok_bind, g21, ok_bind, g21, ok_bind, if_pos (decide_eq_true rfl), ok_bind, g21, ok_bind, hi, ok_bind, if_pos rfl, g2b, ok_bind, g2b, ok_bind, e1, hs, if_pos (decide_eq_true rfl)]
    rfl
  | false =>
    show ((foldX _ () [0, 1]) >>= _) = _
    unfold foldX pt szs
    simp only [Bool.false_eq_true, if_false]
    rw [g2a, ok_bind, g20, ok_bind, g20, ok_bind, if_pos (decide_eq_true rfl), ok_bind, g20, ok_bind, hi, ok_bind, if_pos rfl, g2a, ok_bind, g2a, ok_bind, e1, hs, if_pos (decide_eq_true rfl)]
    rfl
end G
namespace G
open PySem L2 Z
theorem un2_eq {p q : Int} : un2 [p, q] = R.ok (p, q) := rfl
theorem set20 {a b z : Int} : setI ([a, b] : List Int) 0 z = R.ok [z, b] := by
  rw [setI_nat (by decide) (by show (0 : Int) < 2; decide)]
  rfl
theorem set21 {a b z : Int} : setI ([a, b] : List Int) 1 z = R.ok [a, z] := by
  rw [setI_nat (by decide) (by show (1 : Int) < 2; decide)]
  rfl
def Cond (last m A B : Int) : Prop := A % 2 = 0 ∧ (0 ≤ A ∧ A ≤ 2 * last) ∧ (0 ≤ B ∧ B ≤ 2 * (m - 1))
instance (last m A B : Int) : Decidable (Cond last m A B) := by unfold Cond; infer_instance
theorem cond_j {last m A B : Int} : (do
    if (!decide (A % (2 : Int) = (0 : Int))) = true then do
      R.ok true
    else do
      if (!((decide ((0 : Int) ≤ A)) && (decide (A ≤ ((2 : Int) * last))))) = true then do
        R.ok true
      else do
        let j26 ← (do
          if (decide ((0 : Int) ≤ B)) = true then do
            R.ok (decide (B ≤ ((2 : Int) * (m - (1 : Int)))))
          else do
            R.ok false : R (Bool))
        R.ok (!j26) : R (Bool)) = R.ok (!decide (Cond last m A B)) := by
  unfold Cond
  by_cases h1 : A % 2 = 0
  · rw [decide_eq_true h1, if_neg (by decide)]
    by_cases h2 : 0 ≤ A ∧ A ≤ 2 * last
    · rw [decide_eq_true h2.1, decide_eq_true h2.2, if_neg (by decide)]
      by_cases h3 : 0 ≤ B
      · rw [decide_eq_true h3, if_pos rfl, ok_bind]
        by_cases h4 : B ≤ 2 * (m - 1)
        · rw [decide_eq_true h4, decide_eq_true (show A % 2 = 0 ∧ (0 ≤ A ∧ A ≤ 2 * last) ∧ 0 ≤ B ∧ B ≤ 2 * (m - 1) from ⟨h1, h2, h3, h4⟩)]
        · rw [decide_eq_false h4, decide_eq_false (show ¬ (A % 2 = 0 ∧ (0 ≤ A ∧ A ≤ 2 * last) ∧ 0 ≤ B ∧ B ≤ 2 * (m - 1)) from fun z => h4 z.2.2.2)]
      · rw [decide_eq_false h3, if_neg (by decide), ok_bind, decide_eq_false (show ¬ (A % 2 = 0 ∧ (0 ≤ A ∧ A ≤ 2 * last) ∧ 0 ≤ B ∧ B ≤ 2 * (m - 1)) from fun z => h3 z.2.2.1)]
    · rw [if_pos, decide_eq_false (show ¬ (A % 2 = 0 ∧ (0 ≤ A ∧ A ≤ 2 * last) ∧ 0 ≤ B ∧ B ≤ 2 * (m - 1)) from fun z => h2 z.2.1)]
      · rfl
      · rw [← Bool.decide_and, decide_eq_false h2]
        rfl
  · rw [decide_eq_false h1, if_pos (show (!false) = true from rfl), decide_eq_false (show ¬ (A % 2 = 0 ∧ (0 ≤ A ∧ A ≤ 2 * last) ∧ 0 ≤ B ∧ B ≤ 2 * (m - 1)) from fun z => h1 z.1)]
    rfl
theorem nb_eq {o o' p q : Int} : (if (decide (o' < o)) = true then (R.ok (q, p) : R (Int × Int)) else R.ok (p, q)) = R.ok (nb o o' p q) := by
  unfold nb
  by_cases c : o' < o
  · rw [if_pos (decide_eq_true c), if_pos c]
  · rw [if_neg (fun z => c (of_decide_eq_true z)), if_neg c]
section
variable {ax : Bool} {last m o o' c p q : Int} (S : Side last m o o' c)
include S
theorem prog_eq : grid_placeX (szs ax last m).1 (szs ax last m).2 (pt ax o c) (pt ax o' c) [p, q] = if Cond last m (al last o o' p q) (aw last o o' p q) then R.ok (pt ax (al last o o' p q / 2) (spotB c (aw last o o' p q))) else R.exc ⟨"NoCode", 0⟩ := by
  have e1 : last + 1 - 1 = last := by omega
  have hsp : ∀ B, (if (decide (0 < c)) = true then m - 1 - B / 2 else B / 2) = spotB c B := fun B => by
    unfold spotB
    by_cases q : 0 < c
    · rw [if_pos (decide_eq_true q), if_pos q]
      rcases S.acr with e | e <;> omega
    · rw [if_neg (fun z => q (of_decide_eq_true z)), if_neg q]
  have tail : ∀ {A B : Int} {f : List Int → R (Tup Int)} {y : R (Tup Int)}, (f [spotB c B, A / 2] = y) → ((do
      if (decide ((0 : Int) < c)) = true then do
        let l43 ← setI ([B / 2, A / 2] : (List Int)) (0 : Int) ((m - (1 : Int)) - B / 2)
        R.ok l43
      else do
        R.ok ([B / 2, A / 2] : (List Int)) : R ((List Int))) >>= f) = y := fun {A B f y} hy => by
    by_cases c0 : 0 < c
    · rw [if_pos (decide_eq_true c0), set20, ok_bind, ok_bind, ← hy, ← hsp B, if_pos (decide_eq_true c0)]
    · rw [if_neg (fun z => c0 (of_decide_eq_true z)), ok_bind, ← hy, ← hsp B, if_neg (fun z => c0 (of_decide_eq_true z))]
  cases ax with
  | true =>
    show grid_placeX (last + 1) m (T2 o c) (T2 o' c) [p, q] = _
    have se : side_number (T2 (last + 1) m) (T2 o c) (T2 o' c) = R.ok (some 1) := side_eq (ax := true) S
    unfold grid_placeX
    rw [se]
    rw [show nx (R.ok (some (1 : Int))) = R.ok (some 1) from rfl, ok_bind, show ofO (some (1 : Int)) = R.ok 1 from rfl, ok_bind, g2b, ok_bind, un2_eq, ok_bind, g2b, ok_bind, g2b, ok_bind]
    dsimp only
    rw [nb_eq, ok_bind, e1, show (nb o o' p q).1 - (nb o o' p q).2 + last = al last o o' p q from rfl, show (nb o o' p q).1 + (nb o o' p q).2 - last = aw last o o' p q from rfl]
    generalize al last o o' p q = A
    generalize aw last o o' p q = B
    rw [g21 (a := last + 1) (b := m), ok_bind, cond_j, ok_bind]
    by_cases h : Cond last m A B
    · rw [decide_eq_true h, if_neg (by decide), if_pos h, g21 (a := o) (b := c), ok_bind, ok_bind]
      refine tail ?_
      rw [if_pos (decide_eq_true rfl), ok_bind]
      rfl
    · rw [decide_eq_false h, if_pos (show (!false) = true from rfl), if_neg h]
      rfl
  | false =>
    show grid_placeX m (last + 1) (T2 c o) (T2 c o') [p, q] = _
    have se : side_number (T2 m (last + 1)) (T2 c o) (T2 c o') = R.ok (some 0) := side_eq (ax := false) S
    unfold grid_placeX
    rw [se]
    rw [show nx (R.ok (some (0 : Int))) = R.ok (some 0) from rfl, ok_bind, show ofO (some (0 : Int)) = R.ok 0 from rfl, ok_bind, g2a, ok_bind, un2_eq, ok_bind, g2a, ok_bind, g2a, ok_bind]
    dsimp only
    rw [nb_eq, ok_bind, e1, show (nb o o' p q).1 - (nb o o' p q).2 + last = al last o o' p q from rfl, show (nb o o' p q).1 + (nb o o' p q).2 - last = aw last o o' p q from rfl]
    generalize al last o o' p q = A
    generalize aw last o o' p q = B
    rw [g20 (a := m) (b := last + 1), ok_bind, cond_j, ok_bind]
    by_cases h : Cond last m A B
    · rw [decide_eq_true h, if_neg (by decide), if_pos h, g20 (a := c) (b := o), ok_bind, ok_bind]
      refine tail ?_
      rw [if_neg (show ¬ decide ((0 : Int) = 1) = true by decide), ok_bind]
      rfl
    · rw [decide_eq_false h, if_pos (show (!false) = true from rfl), if_neg h]
      rfl
end
def noneT : TuS := TuS.s ⟨("none" : Str), by decide +kernel⟩
instance (last m o o' c p q a b : Int) : Decidable (Good last m o o' c p q a b) := by unfold Good; infer_instance
theorem rng_j {u W : Int} : (do
      if (decide ((0 : Int) ≤ u)) = true then do
        R.ok (decide (u < W))
      else do
        R.ok false : R (Bool)) = R.ok (decide (0 ≤ u ∧ u < W)) := by
  by_cases h : 0 ≤ u
  · rw [decide_eq_true h, if_pos rfl]
    by_cases h2 : u < W
    · rw [decide_eq_true h2, decide_eq_true (show 0 ≤ u ∧ u < W from ⟨h, h2⟩)]
    · rw [decide_eq_false h2, decide_eq_false (show ¬ (0 ≤ u ∧ u < W) from fun z => h2 z.2)]
  · rw [decide_eq_false h, if_neg (by decide), decide_eq_false (show ¬ (0 ≤ u ∧ u < W) from fun z => h z.1)]
theorem fin_eq {W H p q o0 o1 n0 n1 u v : Int} {P : Prop} [Decidable P] (hP : P ↔ ((0 ≤ u ∧ u < W) ∧ (0 ≤ v ∧ v < H)) ∧ absI (o0 - u) + absI (o1 - v) = p ∧ absI (n0 - u) + absI (n1 - v) = q) : (do
  let j30 ← (do
    let j31 ← (do
      let t32 ← getI ([u, v] : List Int) (0 : Int)
      if (decide ((0 : Int) ≤ t32)) = true then do
        R.ok (decide (t32 < W))
      else do
        R.ok false : R (Bool))
    if (!j31) = true then do
      R.ok true
    else do
      let j38 ← (do
        let t39 ← getI ([u, v] : List Int) (1 : Int)
        if (decide ((0 : Int) ≤ t39)) = true then do
          R.ok (decide (t39 < H))
        else do
          R.ok false : R (Bool))
      R.ok (!j38) : R (Bool))
  if j30 = true then do
    R.ok (TuS.s ⟨("none" : Str), by decide +kernel⟩)
  else do
    let y48 ← law_spansl (T2 o0 o1) [u, v]
    let y53 ← law_spansl (T2 n0 n1) [u, v]
    if (!decide (([y48, y53] : (List Int)) = [p, q])) = true then do
      R.ok (TuS.s ⟨("none" : Str), by decide +kernel⟩)
    else do
      R.ok (TuS.t (Tup.mk [u, v])) : R TuS) = R.ok (if P then TuS.t (T2 u v) else noneT) := by
  rw [g20, g21, ok_bind, ok_bind, rng_j, rng_j, ok_bind]
  by_cases h1 : 0 ≤ u ∧ u < W
  · rw [decide_eq_true h1, if_neg (by decide), ok_bind]
    by_cases h2 : 0 ≤ v ∧ v < H
    · rw [decide_eq_true h2, ok_bind, if_neg (by decide), spansl_eq, ok_bind, spansl_eq, ok_bind]
      by_cases h3 : absI (o0 - u) + absI (o1 - v) = p ∧ absI (n0 - u) + absI (n1 - v) = q
      · rw [decide_eq_true (show ([absI (o0 - u) + absI (o1 - v), absI (n0 - u) + absI (n1 - v)] : List Int) = [p, q] by rw [h3.1, h3.2]), if_neg (by decide), if_pos (hP.mpr ⟨⟨h1, h2⟩, h3⟩)]
      · rw [decide_eq_false (show ¬ ([absI (o0 - u) + absI (o1 - v), absI (n0 - u) + absI (n1 - v)] : List Int) = [p, q] from fun z => h3 (by injection z with z1 z2; injection z2 with z2 _; exact ⟨z1, z2⟩)), if_pos (show (!false) = true from rfl), if_neg (fun z => h3 (hP.mp z).2)]
        rfl
    · rw [decide_eq_false h2, ok_bind, if_pos (show (!false) = true from rfl), if_neg (fun z => h2 (hP.mp z).1.2)]
      rfl
  · rw [decide_eq_false h1, if_pos (show (!false) = true from rfl), ok_bind, if_pos rfl, if_neg (fun z => h1 (hP.mp z).1.1)]
    rfl
section
variable {ax : Bool} {last m o o' c p q : Int} (S : Side last m o o' c)
include S
theorem halves_eq : law_by_halves (szs ax last m).1 (szs ax last m).2 (pt ax o c) (pt ax o' c) [p, q] = R.ok (if Good last m o o' c p q (al last o o' p q / 2) (spotB c (aw last o o' p q)) then TuS.t (pt ax (al last o o' p q / 2) (spotB c (aw last o o' p q))) else noneT) := by
  have hne : o ≠ o' := by
    have := S.l1
    rcases S.ends with ⟨e1, e2⟩ | ⟨e1, e2⟩ <;> omega
  have hmax : max2 o o' = last := by
    have := S.l1
    unfold max2
    rcases S.ends with ⟨e1, e2⟩ | ⟨e1, e2⟩ <;> split <;> omega
  have tail : ∀ {A B : Int} {f : List Int → R TuS} {y : R TuS}, (f [A / 2, spotB c B] = y) → ((do
      if (decide ((0 : Int) < c)) = true then do
        let l22 ← setI ([A / 2, B / 2] : (List Int)) (1 : Int) (c - B / 2)
        R.ok l22
      else do
        R.ok ([A / 2, B / 2] : (List Int)) : R ((List Int))) >>= f) = y := fun {A B f y} hy => by
    by_cases c0 : 0 < c
    · rw [if_pos (decide_eq_true c0), set21, ok_bind, ok_bind, ← hy]
      unfold spotB
      rw [if_pos c0]
    · rw [if_neg (fun z => c0 (of_decide_eq_true z)), ok_bind, ← hy]
      unfold spotB
      rw [if_neg c0]
  cases ax with
  | true =>
    show law_by_halves (last + 1) m (T2 o c) (T2 o' c) [p, q] = _
    unfold law_by_halves
    rw [g20 (a := o) (b := c), ok_bind, g20 (a := o') (b := c), ok_bind, un2_eq, ok_bind]
    rw [show b2i (decide (o = o')) = 0 by rw [decide_eq_false hne]; rfl, g20 (a := o) (b := c), ok_bind, g20 (a := o') (b := c), ok_bind]
    dsimp only
    rw [nb_eq, ok_bind, ok_bind, ok_bind, hmax, show (nb o o' p q).1 - (nb o o' p q).2 + last = al last o o' p q from rfl, show (nb o o' p q).1 + (nb o o' p q).2 - last = aw last o o' p q from rfl]
    generalize al last o o' p q = A
    generalize aw last o o' p q = B
    rw [g2a (a := o) (b := c), ok_bind, ok_bind, g21 (a := A / 2) (b := B / 2), ok_bind]
    refine tail ?_
    rw [if_neg (show ¬ decide ((0 : Int) = 1) = true by decide), ok_bind]
    refine fin_eq ?_
    unfold Good
    constructor
    · rintro ⟨⟨x, y⟩, z1, z2⟩
      exact ⟨⟨⟨x.1, by omega⟩, y⟩, z1, z2⟩
    · rintro ⟨⟨x, y⟩, z1, z2⟩
      exact ⟨⟨⟨x.1, by omega⟩, y⟩, z1, z2⟩
  | false =>
    show law_by_halves m (last + 1) (T2 c o) (T2 c o') [p, q] = _
    unfold law_by_halves
    rw [g20 (a := c) (b := o), ok_bind, g20 (a := c) (b := o'), ok_bind, un2_eq, ok_bind]
    rw [show b2i (decide (c = c)) = 1 by rw [decide_eq_true rfl]; rfl, g21 (a := c) (b := o), ok_bind, g21 (a := c) (b := o'), ok_bind]
    dsimp only
    rw [nb_eq, ok_bind, ok_bind, ok_bind, hmax, show (nb o o' p q).1 - (nb o o' p q).2 + last = al last o o' p q from rfl, show (nb o o' p q).1 + (nb o o' p q).2 - last = aw last o o' p q from rfl]
    generalize al last o o' p q = A
    generalize aw last o o' p q = B
    rw [g2b (a := c) (b := o), ok_bind, ok_bind, g21 (a := A / 2) (b := B / 2), ok_bind]
    refine tail ?_
    rw [if_pos (show decide ((1 : Int) = 1) = true by decide), ok_bind]
    refine fin_eq (u := spotB c B) (v := A / 2) ?_
    unfold Good
    constructor
    · rintro ⟨⟨x, y⟩, z1, z2⟩
      exact ⟨⟨y, ⟨x.1, by omega⟩⟩, by omega, by omega⟩
    · rintro ⟨⟨x, y⟩, z1, z2⟩
      exact ⟨⟨⟨y.1, by omega⟩, x⟩, by omega, by omega⟩
end
/-- what is told of a code -/
def resG (ax : Bool) (last m o o' c p q : Int) : TuS := if Good last m o o' c p q (al last o o' p q / 2) (spotB c (aw last o o' p q)) then TuS.t (pt ax (al last o o' p q / 2) (spotB c (aw last o o' p q))) else noneT
theorem toldG_ok {W H : Int} {one other t : Tup Int} {T : List Int} (h : grid_placeX W H one other T = R.ok t) : law_toldgrid 2 (Nt.mk (W, H, one, other, T, ())) = R.ok (TuS.t t) := by
  unfold law_toldgrid
  rw [if_pos (show decide ((2 : Int) = 2) = true by decide)]
  dsimp only
  rw [h]
  rfl
theorem toldG_no {W H : Int} {one other : Tup Int} {T : List Int} (h : grid_placeX W H one other T = R.exc ⟨"NoCode", 0⟩) : law_toldgrid 2 (Nt.mk (W, H, one, other, T, ())) = R.ok noneT := by
  unfold law_toldgrid
  rw [if_pos (show decide ((2 : Int) = 2) = true by decide)]
  dsimp only
  rw [h, exc_bind, tryX nc_in, ok_bind]
  dsimp only
  rw [if_neg (show ¬ (some (⟨"NoCode", 0⟩ : Exn) : Option Exn).isNone = true from fun z => Bool.noConfusion (show false = true from z))]
  have i1 : isC names [("NoCode" : Str)] ⟨"NoCode", 0⟩ = R.ok true := isC_t nc_in (by decide +kernel)
  have i2 : isC names [] ⟨"NoCode", 0⟩ = R.ok false := isC_t nc_in (by decide +kernel)
  show ((R.ok (⟨"NoCode", 0⟩ : Exn) >>= _) >>= _) = _
  rw [ok_bind, i1, ok_bind, if_neg (by decide), ok_bind, if_neg (by decide), i2, ok_bind, ok_bind, if_neg (by decide)]
  rfl
section
variable {ax : Bool} {last m o o' c p q : Int} (S : Side last m o o' c)
include S
theorem toldG_eq : law_toldgrid 2 (Nt.mk ((szs ax last m).1, (szs ax last m).2, pt ax o c, pt ax o' c, [p, q], ())) = R.ok (resG ax last m o o' c p q) := by
  have e := prog_eq (ax := ax) (p := p) (q := q) S
  unfold resG
  by_cases h : Cond last m (al last o o' p q) (aw last o o' p q)
  · rw [if_pos h] at e
    rw [if_pos ((reckon S).mp h)]
    exact toldG_ok e
  · rw [if_neg h] at e
    rw [if_neg (fun z => h ((reckon S).mpr z))]
    exact toldG_no e
theorem res_good {a b : Int} (h : Good last m o o' c p q a b) : resG ax last m o o' c p q = TuS.t (pt ax a b) := by
  have g := good_reckon S h
  obtain ⟨e1, e2⟩ := good_uniq S h g
  unfold resG
  rw [if_pos g, ← e1, ← e2]
theorem res_none (h : ∀ a b, ¬ Good last m o o' c p q a b) : resG ax last m o o' c p q = noneT := if_neg (h _ _)
end
def spT (u b : Tup Int) : Int := absI (u.l.getD 0 0 - b.l.getD 0 0) + absI (u.l.getD 1 0 - b.l.getD 1 0)
theorem spT_eq {a b x y : Int} : law_spans (T2 a b) (T2 x y) = R.ok (spT (T2 a b) (T2 x y)) := spans_eq
theorem pt_T2 (ax : Bool) (a b : Int) : ∃ x y, pt ax a b = T2 x y := by
  cases ax with
  | true => exact ⟨a, b, rfl⟩
  | false => exact ⟨b, a, rfl⟩
theorem spT_pt {ax : Bool} {o c a b : Int} : spT (pt ax o c) (pt ax a b) = absI (o - a) + absI (c - b) := by
  cases ax with
  | true => rfl
  | false =>
    show absI (c - b) + absI (o - a) = _
    omega
theorem sp_eq {ax : Bool} {o c x y : Int} : law_spans (pt ax o c) (T2 x y) = R.ok (spT (pt ax o c) (T2 x y)) := by
  obtain ⟨u, v, e⟩ := pt_T2 ax o c
  rw [e]
  exact spT_eq
/-- a place of the grid, along and across -/
theorem place_pt {ax : Bool} {last m x y : Int} (x0 : 0 ≤ x) (x1 : x < (szs ax last m).1) (y0 : 0 ≤ y) (y1 : y < (szs ax last m).2) : ∃ a b, T2 x y = pt ax a b ∧ (0 ≤ a ∧ a ≤ last) ∧ (0 ≤ b ∧ b < m) := by
  cases ax with
  | true =>
    have x1' : x < last + 1 := x1
    exact ⟨x, y, rfl, ⟨x0, by omega⟩, y0, y1⟩
  | false =>
    have y1' : y < last + 1 := y1
    exact ⟨y, x, rfl, ⟨y0, by omega⟩, x0, x1⟩
theorem pt_place {ax : Bool} {last m a b : Int} (ha : 0 ≤ a ∧ a ≤ last) (hb : 0 ≤ b ∧ b < m) : ∃ x y, pt ax a b = T2 x y ∧ (0 ≤ x ∧ x < (szs ax last m).1) ∧ (0 ≤ y ∧ y < (szs ax last m).2) := by
  cases ax with
  | true => exact ⟨a, b, rfl, ⟨ha.1, by show a < last + 1; omega⟩, hb⟩
  | false => exact ⟨b, a, rfl, hb, ⟨ha.1, by show a < last + 1; omega⟩⟩
theorem side_ok {s : List Int} {W H : Int} (h : Ok2 s) (w2 : 2 ≤ W) (h2 : 2 ≤ H) : Post (law_side s W H) (fun r => ∃ (ax : Bool) (last m o o' c : Int), Side last m o o' c ∧ W = (szs ax last m).1 ∧ H = (szs ax last m).2 ∧ r.1 = [pt ax o c, pt ax o' c] ∧ Ok2 r.2) noX := by
  unfold law_side
  refine po_bind (next_ok h (by decide) (by decide)) fun y2 ⟨a0, a1, p2⟩ => po_get a0 a1 fun l27 m27 _ => ?_
  have key : ∃ (ax : Bool) (last m o o' c : Int), Side last m o o' c ∧ W = (szs ax last m).1 ∧ H = (szs ax last m).2 ∧ l27 = [pt ax o c, pt ax o' c] := by
    rcases List.mem_cons.mp m27 with rfl | q
    · exact ⟨true, W - 1, H, 0, W - 1, 0, ⟨by omega, h2, .inl ⟨rfl, rfl⟩, .inl rfl⟩, by show W = W - 1 + 1; omega, rfl, rfl⟩
    · rcases List.mem_cons.mp q with rfl | q
      · exact ⟨true, W - 1, H, 0, W - 1, H - 1, ⟨by omega, h2, .inl ⟨rfl, rfl⟩, .inr rfl⟩, by show W = W - 1 + 1; omega, rfl, rfl⟩
      · rcases List.mem_cons.mp q with rfl | q
        · exact ⟨false, H - 1, W, 0, H - 1, 0, ⟨by omega, w2, .inl ⟨rfl, rfl⟩, .inl rfl⟩, rfl, by show H = H - 1 + 1; omega, rfl⟩
        · rw [List.mem_singleton.mp q]
          exact ⟨false, H - 1, W, 0, H - 1, W - 1, ⟨by omega, w2, .inl ⟨rfl, rfl⟩, .inr rfl⟩, rfl, by show H = H - 1 + 1; omega, rfl⟩
  obtain ⟨ax, last, m, o, o', c, S, eW, eH, el⟩ := key
  refine po_bind (Q := fun g => (g.1 = l27 ∨ g.1 = l27.reverse) ∧ Ok2 g.2) (po_bind (next_ok p2 (by decide) (by decide)) fun y31 ⟨_, _, p31⟩ => po_if (fun _ => ⟨.inr rfl, p31⟩) fun _ => ⟨.inl rfl, p31⟩) fun g ⟨hg, pg⟩ => ?_
  rcases hg with e | e
  · exact ⟨ax, last, m, o, o', c, S, eW, eH, by rw [e, el], pg⟩
  · exact ⟨ax, last, m, o', o, c, ⟨S.l1, S.m2, S.ends.elim (fun z => .inr ⟨z.2, z.1⟩) fun z => .inl ⟨z.2, z.1⟩, S.acr⟩, eW, eH, by show g.1 = _; rw [e, el]; rfl, pg⟩
theorem grid_right_ok {s : List Int} (h : Ok2 s) : Post (law_grid_right s) (fun r => r.1 = true ∧ Ok2 r.2) noX := by
  have b60 : (1 : Int) < (10 : Int) ^ ((60 : Int) : Int).toNat := by decide +kernel
  unfold law_grid_right
  refine po_bind (next_ok h (by decide) (by decide)) fun y6 ⟨a0, a1, h6⟩ => po_get a0 a1 fun t7 m7 _ => ?_
  have t7p : 0 < t7 - 1 := by
    rcases List.mem_cons.mp m7 with rfl | m
    · decide
    · rw [List.mem_singleton.mp m]; omega
  refine po_bind (great_ok h6 t7p) fun y9 ⟨c0, c1, h9⟩ => po_bind (great_ok h9 t7p) fun y10 ⟨d0, d1, h10⟩ => ?_
  generalize hW : (2 : Int) + y9.1 = W
  generalize hH : (2 : Int) + y10.1 = H
  have w2 : 2 ≤ W := by omega
  have h2 : 2 ≤ H := by omega
  refine po_bind (side_ok h10 w2 h2) fun y11 ⟨ax, last, m, o, o', c, S, eW, eH, el, h11⟩ => ?_
  rw [el, show un2 [pt ax o c, pt ax o' c] = R.ok (pt ax o c, pt ax o' c) from rfl, ok_bind]
  refine po_bind (great_ok h11 (show 0 < W by omega)) fun y17 ⟨x0, x1, h17⟩ => po_bind (great_ok h17 (show 0 < H by omega)) fun y18 ⟨z0, z1, h18⟩ => ?_
  show Post (law_spans (pt ax o c) (T2 y17.1 y18.1) >>= _) _ _
  rw [sp_eq, ok_bind, sp_eq, ok_bind]
  obtain ⟨a, b, eab, ra, rb⟩ := place_pt (ax := ax) (last := last) (m := m) x0 (eW ▸ x1) z0 (eH ▸ z1)
  have g0 : Good last m o o' c (spT (pt ax o c) (T2 y17.1 y18.1)) (spT (pt ax o' c) (T2 y17.1 y18.1)) a b := ⟨⟨ra, rb⟩, by rw [eab, spT_pt], by rw [eab, spT_pt]⟩
  have tg : ∀ p q, law_toldgrid 2 (Nt.mk (W, H, pt ax o c, pt ax o' c, [p, q], ())) = R.ok (resG ax last m o o' c p q) := fun p q => by
    rw [eW, eH]
    exact toldG_eq S
  refine po_bind (Q := fun j => j = false) ?_ fun j hj => ?_
  · show Post (law_toldgrid 2 (Nt.mk (W, H, pt ax o c, pt ax o' c, _, ())) >>= _) _ _
    rw [tg, ok_bind, res_good S g0, ← eab]
    refine po_if (fun z => ?_) fun _ => ?_
    · rw [decide_eq_true rfl] at z
      cases z
    · rw [decide_eq_true rfl]
      rfl
  rw [hj]
  refine po_if (fun z => absurd z (by decide)) fun _ => ?_
  refine po_bind (other_ok h18 (List.cons_ne_nil _ _) (by show 2 < 1000; decide)) fun y38 ⟨e38, h38⟩ => ?_
  obtain ⟨T, s38⟩ := y38
  have e38' : T.length = 2 := e38
  match T, e38' with
  | [p, q], _ =>
    have hh : law_by_halves W H (pt ax o c) (pt ax o' c) [p, q] = R.ok (resG ax last m o o' c p q) := by
      rw [eW, eH]
      exact halves_eq S
    show Post (law_by_halves W H (pt ax o c) (pt ax o' c) [p, q] >>= _) _ _
    rw [hh, ok_bind]
    refine po_bind (Q := fun g => g = resG ax last m o o' c p q) (po_if (fun cm => ?_) fun _ => rfl) fun g45 hg => ?_
    · have cm' := of_decide_eq_true cm
      have w7 : W ≤ 6 ∧ H ≤ 6 := by
        unfold max2 at cm'
        split at cm' <;> omega
      refine po_rng (by decide) (by decide) (by omega) (by omega) ?_
      refine po_bind (po_foldP (fun pre (g : List (Tup Int)) => (∀ t ∈ g, ∃ x y, t = T2 x y ∧ (0 ≤ x ∧ x < W) ∧ (0 ≤ y ∧ y < H)) ∧ (∀ x ∈ pre, ∀ y, 0 ≤ y → y < H → T2 x y ∈ g) ∧ g.length ≤ 6 * pre.length) ⟨fun _ z => (nomatch z), fun _ z => (nomatch z), Nat.le_refl _⟩ ?_) fun g49 ⟨k1, k2, k3⟩ => ?_
      · rintro pre g x post e ⟨k1, k2, k3⟩
        obtain ⟨_, r0, r1⟩ := rng_split e
        have hpl := congrArg List.length e
        rw [rng_length, List.length_append, List.length_cons] at hpl
        refine po_rng (by decide) (by decide) (by omega) (by omega) ?_
        refine po_mapGE (g := fun y => T2 x y) (by rw [rng_length]; omega) (fun _ _ => rfl) ?_
        refine po_extend (by rw [List.length_map, rng_length]; omega) ⟨fun t ht => ?_, fun x' hx' y y0 y1 => ?_, ?_⟩
        · rcases List.mem_append.mp ht with ht | ht
          · exact k1 t ht
          · obtain ⟨y, hy, rfl⟩ := List.mem_map.mp ht
            have := rng_mem.mp hy
            exact ⟨x, y, rfl, ⟨r0, r1⟩, this⟩
        · rcases List.mem_append.mp hx' with hx' | hx'
          · exact List.mem_append_left _ (k2 x' hx' y y0 y1)
          · rw [List.mem_singleton.mp hx']
            exact List.mem_append_right _ (List.mem_map.mpr ⟨y, rng_mem.mpr ⟨y0, y1⟩, rfl⟩)
        · rw [List.length_append, List.length_map, rng_length, List.length_append, List.length_singleton]
          omega
      · rw [rng_length] at k3
        rw [filG_ok (g := fun t => if decide (([spT (pt ax o c) t, spT (pt ax o' c) t] : List Int) = [p, q]) = true then some t else none) (by omega) fun t ht => by
          obtain ⟨x, y, rfl, _⟩ := k1 t ht
          show (law_spans (pt ax o c) (T2 x y) >>= _) = _
          rw [sp_eq, ok_bind]
          show (law_spans (pt ax o' c) (T2 x y) >>= _) = _
          rw [sp_eq, ok_bind]
          show (if decide (([spT (pt ax o c) (T2 x y), spT (pt ax o' c) (T2 x y)] : List Int) = [p, q]) = true then R.ok (some (T2 x y)) else R.ok none) = _
          split <;> rfl, ok_bind, fil_ite]
        have mem : ∀ t ∈ g49.filter (fun t => decide (([spT (pt ax o c) t, spT (pt ax o' c) t] : List Int) = [p, q])), TuS.t t = resG ax last m o o' c p q := fun t ht => by
          obtain ⟨m1, m2⟩ := List.mem_filter.mp ht
          obtain ⟨x, y, rfl, rx, ry⟩ := k1 t m1
          obtain ⟨a', b', e', ra', rb'⟩ := place_pt (ax := ax) (last := last) (m := m) rx.1 (eW ▸ rx.2) ry.1 (eH ▸ ry.2)
          have m2' := of_decide_eq_true m2
          injection m2' with e1 m3
          injection m3 with e2 _
          rw [e', spT_pt] at e1 e2
          rw [res_good S (show Good last m o o' c p q a' b' from ⟨⟨ra', rb'⟩, e1, e2⟩), e']
        have has : ∀ a' b', Good last m o o' c p q a' b' → g49.filter (fun t => decide (([spT (pt ax o c) t, spT (pt ax o' c) t] : List Int) = [p, q])) ≠ [] := fun a' b' g' => by
          obtain ⟨x, y, e', rx, ry⟩ := pt_place (ax := ax) (last := last) (m := m) g'.1.1 g'.1.2
          rw [← eW] at rx
          rw [← eH] at ry
          refine List.ne_nil_of_mem (a := T2 x y) (List.mem_filter.mpr ⟨k2 x (rng_mem.mpr rx) y ry.1 ry.2, decide_eq_true ?_⟩)
          rw [← e', spT_pt, spT_pt, g'.2.1, g'.2.2]
        have fl := List.length_filter_le (fun t => decide (([spT (pt ax o c) t, spT (pt ax o' c) t] : List Int) = [p, q])) g49
        generalize g49.filter (fun t => decide (([spT (pt ax o c) t, spT (pt ax o' c) t] : List Int) = [p, q])) = F at mem has fl
        refine po_extend (by rw [List.length_map]; show F.length + 1 < 100000; omega) ?_
        cases F with
        | nil =>
          refine po_getE (getI_eq (x := noneT) (by decide) rfl) ?_
          exact (res_none S fun a' b' g' => has a' b' g' rfl).symm
        | cons t F =>
          refine po_getE (getI_eq (x := TuS.t t) (by decide) rfl) ?_
          exact mem t List.mem_cons_self
    · refine po_bind (Q := fun j => j = true) ?_ fun j hj => ⟨hj, h38⟩
      show Post (law_toldgrid 2 (Nt.mk (W, H, pt ax o c, pt ax o' c, [p, q], ())) >>= _) _ _
      rw [tg, ok_bind, hg, if_pos (decide_eq_true rfl), decide_eq_true rfl]
      rfl
theorem law_true (ns : List Int) (h : ns.length ≤ 63) : law ⟨ns⟩ = R.ok true := by
  refine po_iff ?_
  unfold law
  refine po_bind (folded_ok h (by decide) (by decide)) fun y3 _ => po_bind (po_foldX (fun _ => True) trivial fun _ x _ _ => ?_) fun r ⟨_, e, _⟩ => by rw [e]; exact rfl
  refine po_bind (state_ok x) fun y7 h7 => ?_
  refine po_bind (Q := fun j => j.1 = false) ?_ fun j hj => ?_
  · refine po_bind (ring_right_ok h7) fun y10 ⟨e10, h10⟩ => ?_
    rw [e10]
    refine po_if (fun z => absurd z (by decide)) fun _ => po_bind (grid_right_ok h10) fun y13 ⟨e13, h13⟩ => ?_
    show (!y13.1) = false
    rw [e13]
    rfl
  · rw [hj]
    exact po_if (fun z => absurd z (by decide)) fun _ => ⟨(), rfl, trivial⟩
end G
namespace G
open PySem L2 Z
open Rep (rep)
theorem dn_mk {K : Fg} {h : Heap} {mg : Str → Option Value} (X : K.In h) (G : h.Ns mainGlobals mg) {x y : Str} {st : Stmt} {ps : List Str} {f : Addr} {od an : Option Addr} {sl : Array (Option Value)} {oc kV dc pm cd ct : Value}
    (a : PySem.W.nsIn K mainGlobals x = some (some (.ref f))) (l : K.lookup f = some ⟨oc, od, .func (PySem.W.fnOf y y (defArgs st) (defBody st) (defScope st) .none kV dc pm an cd ct), sl⟩) (c : PySem.W.codeIn K cd y = true) (k : PySem.W.keepIn K (.ref f) = true)
    (b : ∀ (kV doc pm : Value) (an : Option Addr) (cdv ct : Value) (us : List Value), us.length = ps.length → bindArgs (PySem.W.fnOf y y (defArgs st) (defBody st) (defScope st) .none kV doc pm an cdv ct) ⟨us, []⟩ = pure (ps.zip us)) :
    Dn K mg x y st ps f (PySem.W.fnOf y y (defArgs st) (defBody st) (defScope st) .none kV dc pm an cd ct) := ⟨fun_mk l c k, PySem.W.mg_of X G a, (fun_mk l c k).binds b⟩
theorem all_mk {l : PySem.W.OpenLaw} {w : World} {K : PySem.W.Frag} {h : Heap} {mg : Str → Option Value} {fa : Addr} (X : K.In h) (G : h.Ns mainGlobals mg) (hfa : mg "law" = some (.ref fa))
    {f5 : Addr} {od5 an5 : Option Addr} {sl5 : Array (Option Value)} {oc5 kV5 dc5 pm5 cd5 ct5 : Value}
    {f6 : Addr} {od6 an6 : Option Addr} {sl6 : Array (Option Value)} {oc6 kV6 dc6 pm6 cd6 ct6 : Value}
    {f7 : Addr} {od7 an7 : Option Addr} {sl7 : Array (Option Value)} {oc7 kV7 dc7 pm7 cd7 ct7 : Value}
    {f8 : Addr} {od8 an8 : Option Addr} {sl8 : Array (Option Value)} {oc8 kV8 dc8 pm8 cd8 ct8 : Value}
    {f9 : Addr} {od9 an9 : Option Addr} {sl9 : Array (Option Value)} {oc9 kV9 dc9 pm9 cd9 ct9 : Value}
    {f10 : Addr} {od10 an10 : Option Addr} {sl10 : Array (Option Value)} {oc10 kV10 dc10 pm10 cd10 ct10 : Value}
    {f12 : Addr} {od12 an12 : Option Addr} {sl12 : Array (Option Value)} {oc12 kV12 dc12 pm12 cd12 ct12 : Value}
    {f13 : Addr} {od13 an13 : Option Addr} {sl13 : Array (Option Value)} {oc13 kV13 dc13 pm13 cd13 ct13 : Value}
    {f14 : Addr} {od14 an14 : Option Addr} {sl14 : Array (Option Value)} {oc14 kV14 dc14 pm14 cd14 ct14 : Value}
    {f15 : Addr} {od15 an15 : Option Addr} {sl15 : Array (Option Value)} {oc15 kV15 dc15 pm15 cd15 ct15 : Value}
    {f16 : Addr} {od16 an16 : Option Addr} {sl16 : Array (Option Value)} {oc16 kV16 dc16 pm16 cd16 ct16 : Value}
    {f17 : Addr} {od17 an17 : Option Addr} {sl17 : Array (Option Value)} {oc17 kV17 dc17 pm17 cd17 ct17 : Value}
    {f18 : Addr} {od18 an18 : Option Addr} {sl18 : Array (Option Value)} {oc18 kV18 dc18 pm18 cd18 ct18 : Value}
    {f19 : Addr} {od19 an19 : Option Addr} {sl19 : Array (Option Value)} {oc19 kV19 dc19 pm19 cd19 ct19 : Value}
    {f20 : Addr} {od20 an20 : Option Addr} {sl20 : Array (Option Value)} {oc20 kV20 dc20 pm20 cd20 ct20 : Value}
    {f21 : Addr} {od21 an21 : Option Addr} {sl21 : Array (Option Value)} {oc21 kV21 dc21 pm21 cd21 ct21 : Value}
    {f22 : Addr} {od22 an22 : Option Addr} {sl22 : Array (Option Value)} {oc22 kV22 dc22 pm22 cd22 ct22 : Value}
    {f23 : Addr} {od23 an23 : Option Addr} {sl23 : Array (Option Value)} {oc23 kV23 dc23 pm23 cd23 ct23 : Value}
    {f24 : Addr} {od24 an24 : Option Addr} {sl24 : Array (Option Value)} {oc24 kV24 dc24 pm24 cd24 ct24 : Value}
    {f25 : Addr} {od25 an25 : Option Addr} {sl25 : Array (Option Value)} {oc25 kV25 dc25 pm25 cd25 ct25 : Value}
    {f26 : Addr} {od26 an26 : Option Addr} {sl26 : Array (Option Value)} {oc26 kV26 dc26 pm26 cd26 ct26 : Value}
    {f27 : Addr} {od27 an27 : Option Addr} {sl27 : Array (Option Value)} {oc27 kV27 dc27 pm27 cd27 ct27 : Value}
    {f28 : Addr} {od28 an28 : Option Addr} {sl28 : Array (Option Value)} {oc28 kV28 dc28 pm28 cd28 ct28 : Value}
    {g1 : Addr}
    {g2 : Addr}
    {g3 : Addr}
    (a5 : PySem.W.nsIn K mainGlobals "side_number" = some (some (.ref f5))) (l5 : K.lookup f5 = some ⟨oc5, od5, .func (PySem.W.fnOf "side_number" "side_number" (defArgs s_side_number) (defBody s_side_number) (defScope s_side_number) .none kV5 dc5 pm5 an5 cd5 ct5), sl5⟩) (c5 : PySem.W.codeIn K cd5 "side_number" = true) (k5 : PySem.W.keepIn K (.ref f5) = true)
    (a6 : PySem.W.nsIn K mainGlobals "ring_far" = some (some (.ref f6))) (l6 : K.lookup f6 = some ⟨oc6, od6, .func (PySem.W.fnOf "ring_far" "ring_far" (defArgs s_ring_far) (defBody s_ring_far) (defScope s_ring_far) .none kV6 dc6 pm6 an6 cd6 ct6), sl6⟩) (c6 : PySem.W.codeIn K cd6 "ring_far" = true) (k6 : PySem.W.keepIn K (.ref f6) = true)
    (a7 : PySem.W.nsIn K mainGlobals "ring_tie_far" = some (some (.ref f7))) (l7 : K.lookup f7 = some ⟨oc7, od7, .func (PySem.W.fnOf "ring_tie_far" "ring_tie_far" (defArgs s_ring_tie_far) (defBody s_ring_tie_far) (defScope s_ring_tie_far) .none kV7 dc7 pm7 an7 cd7 ct7), sl7⟩) (c7 : PySem.W.codeIn K cd7 "ring_tie_far" = true) (k7 : PySem.W.keepIn K (.ref f7) = true)
    (a8 : PySem.W.nsIn K mainGlobals "ring_place" = some (some (.ref f8))) (l8 : K.lookup f8 = some ⟨oc8, od8, .func (PySem.W.fnOf "ring_place" "ring_place" (defArgs s_ring_place) (defBody s_ring_place) (defScope s_ring_place) .none kV8 dc8 pm8 an8 cd8 ct8), sl8⟩) (c8 : PySem.W.codeIn K cd8 "ring_place" = true) (k8 : PySem.W.keepIn K (.ref f8) = true)
    (a9 : PySem.W.nsIn K mainGlobals "ring_tie" = some (some (.ref f9))) (l9 : K.lookup f9 = some ⟨oc9, od9, .func (PySem.W.fnOf "ring_tie" "ring_tie" (defArgs s_ring_tie) (defBody s_ring_tie) (defScope s_ring_tie) .none kV9 dc9 pm9 an9 cd9 ct9), sl9⟩) (c9 : PySem.W.codeIn K cd9 "ring_tie" = true) (k9 : PySem.W.keepIn K (.ref f9) = true)
    (a10 : PySem.W.nsIn K mainGlobals "grid_place" = some (some (.ref f10))) (l10 : K.lookup f10 = some ⟨oc10, od10, .func (PySem.W.fnOf "grid_place" "grid_place" (defArgs s_grid_place) (defBody s_grid_place) (defScope s_grid_place) .none kV10 dc10 pm10 an10 cd10 ct10), sl10⟩) (c10 : PySem.W.codeIn K cd10 "grid_place" = true) (k10 : PySem.W.keepIn K (.ref f10) = true)
    (a12 : PySem.W.nsIn K mainGlobals "_law_cell_at" = some (some (.ref f12))) (l12 : K.lookup f12 = some ⟨oc12, od12, .func (PySem.W.fnOf "_law_cell_at" "_law_cell_at" (defArgs s_law_cell_at) (defBody s_law_cell_at) (defScope s_law_cell_at) .none kV12 dc12 pm12 an12 cd12 ct12), sl12⟩) (c12 : PySem.W.codeIn K cd12 "_law_cell_at" = true) (k12 : PySem.W.keepIn K (.ref f12) = true)
    (a13 : PySem.W.nsIn K mainGlobals "_law_folded" = some (some (.ref f13))) (l13 : K.lookup f13 = some ⟨oc13, od13, .func (PySem.W.fnOf "_law_folded" "_law_folded" (defArgs s_law_folded) (defBody s_law_folded) (defScope s_law_folded) .none kV13 dc13 pm13 an13 cd13 ct13), sl13⟩) (c13 : PySem.W.codeIn K cd13 "_law_folded" = true) (k13 : PySem.W.keepIn K (.ref f13) = true)
    (a14 : PySem.W.nsIn K mainGlobals "_law_state" = some (some (.ref f14))) (l14 : K.lookup f14 = some ⟨oc14, od14, .func (PySem.W.fnOf "_law_state" "_law_state" (defArgs s_law_state) (defBody s_law_state) (defScope s_law_state) .none kV14 dc14 pm14 an14 cd14 ct14), sl14⟩) (c14 : PySem.W.codeIn K cd14 "_law_state" = true) (k14 : PySem.W.keepIn K (.ref f14) = true)
    (a15 : PySem.W.nsIn K mainGlobals "_law_next" = some (some (.ref f15))) (l15 : K.lookup f15 = some ⟨oc15, od15, .func (PySem.W.fnOf "_law_next" "_law_next" (defArgs s_law_next) (defBody s_law_next) (defScope s_law_next) .none kV15 dc15 pm15 an15 cd15 ct15), sl15⟩) (c15 : PySem.W.codeIn K cd15 "_law_next" = true) (k15 : PySem.W.keepIn K (.ref f15) = true)
    (a16 : PySem.W.nsIn K mainGlobals "_law_great" = some (some (.ref f16))) (l16 : K.lookup f16 = some ⟨oc16, od16, .func (PySem.W.fnOf "_law_great" "_law_great" (defArgs s_law_great) (defBody s_law_great) (defScope s_law_great) .none kV16 dc16 pm16 an16 cd16 ct16), sl16⟩) (c16 : PySem.W.codeIn K cd16 "_law_great" = true) (k16 : PySem.W.keepIn K (.ref f16) = true)
    (a17 : PySem.W.nsIn K mainGlobals "_law_looks" = some (some (.ref f17))) (l17 : K.lookup f17 = some ⟨oc17, od17, .func (PySem.W.fnOf "_law_looks" "_law_looks" (defArgs s_law_looks) (defBody s_law_looks) (defScope s_law_looks) .none kV17 dc17 pm17 an17 cd17 ct17), sl17⟩) (c17 : PySem.W.codeIn K cd17 "_law_looks" = true) (k17 : PySem.W.keepIn K (.ref f17) = true)
    (a18 : PySem.W.nsIn K mainGlobals "_law_far" = some (some (.ref f18))) (l18 : K.lookup f18 = some ⟨oc18, od18, .func (PySem.W.fnOf "_law_far" "_law_far" (defArgs s_law_far) (defBody s_law_far) (defScope s_law_far) .none kV18 dc18 pm18 an18 cd18 ct18), sl18⟩) (c18 : PySem.W.codeIn K cd18 "_law_far" = true) (k18 : PySem.W.keepIn K (.ref f18) = true)
    (a19 : PySem.W.nsIn K mainGlobals "_law_code" = some (some (.ref f19))) (l19 : K.lookup f19 = some ⟨oc19, od19, .func (PySem.W.fnOf "_law_code" "_law_code" (defArgs s_law_code) (defBody s_law_code) (defScope s_law_code) .none kV19 dc19 pm19 an19 cd19 ct19), sl19⟩) (c19 : PySem.W.codeIn K cd19 "_law_code" = true) (k19 : PySem.W.keepIn K (.ref f19) = true)
    (a20 : PySem.W.nsIn K mainGlobals "_law_having" = some (some (.ref f20))) (l20 : K.lookup f20 = some ⟨oc20, od20, .func (PySem.W.fnOf "_law_having" "_law_having" (defArgs s_law_having) (defBody s_law_having) (defScope s_law_having) .none kV20 dc20 pm20 an20 cd20 ct20), sl20⟩) (c20 : PySem.W.codeIn K cd20 "_law_having" = true) (k20 : PySem.W.keepIn K (.ref f20) = true)
    (a21 : PySem.W.nsIn K mainGlobals "_law_other" = some (some (.ref f21))) (l21 : K.lookup f21 = some ⟨oc21, od21, .func (PySem.W.fnOf "_law_other" "_law_other" (defArgs s_law_other) (defBody s_law_other) (defScope s_law_other) .none kV21 dc21 pm21 an21 cd21 ct21), sl21⟩) (c21 : PySem.W.codeIn K cd21 "_law_other" = true) (k21 : PySem.W.keepIn K (.ref f21) = true)
    (a22 : PySem.W.nsIn K mainGlobals "_law_told" = some (some (.ref f22))) (l22 : K.lookup f22 = some ⟨oc22, od22, .func (PySem.W.fnOf "_law_told" "_law_told" (defArgs s_law_told) (defBody s_law_told) (defScope s_law_told) .none kV22 dc22 pm22 an22 cd22 ct22), sl22⟩) (c22 : PySem.W.codeIn K cd22 "_law_told" = true) (k22 : PySem.W.keepIn K (.ref f22) = true)
    (a23 : PySem.W.nsIn K mainGlobals "_law_ring_right" = some (some (.ref f23))) (l23 : K.lookup f23 = some ⟨oc23, od23, .func (PySem.W.fnOf "_law_ring_right" "_law_ring_right" (defArgs s_law_ring_right) (defBody s_law_ring_right) (defScope s_law_ring_right) .none kV23 dc23 pm23 an23 cd23 ct23), sl23⟩) (c23 : PySem.W.codeIn K cd23 "_law_ring_right" = true) (k23 : PySem.W.keepIn K (.ref f23) = true)
    (a24 : PySem.W.nsIn K mainGlobals "_law_side" = some (some (.ref f24))) (l24 : K.lookup f24 = some ⟨oc24, od24, .func (PySem.W.fnOf "_law_side" "_law_side" (defArgs s_law_side) (defBody s_law_side) (defScope s_law_side) .none kV24 dc24 pm24 an24 cd24 ct24), sl24⟩) (c24 : PySem.W.codeIn K cd24 "_law_side" = true) (k24 : PySem.W.keepIn K (.ref f24) = true)
    (a25 : PySem.W.nsIn K mainGlobals "_law_spans" = some (some (.ref f25))) (l25 : K.lookup f25 = some ⟨oc25, od25, .func (PySem.W.fnOf "_law_spans" "_law_spans" (defArgs s_law_spans) (defBody s_law_spans) (defScope s_law_spans) .none kV25 dc25 pm25 an25 cd25 ct25), sl25⟩) (c25 : PySem.W.codeIn K cd25 "_law_spans" = true) (k25 : PySem.W.keepIn K (.ref f25) = true)
    (a26 : PySem.W.nsIn K mainGlobals "_law_by_halves" = some (some (.ref f26))) (l26 : K.lookup f26 = some ⟨oc26, od26, .func (PySem.W.fnOf "_law_by_halves" "_law_by_halves" (defArgs s_law_by_halves) (defBody s_law_by_halves) (defScope s_law_by_halves) .none kV26 dc26 pm26 an26 cd26 ct26), sl26⟩) (c26 : PySem.W.codeIn K cd26 "_law_by_halves" = true) (k26 : PySem.W.keepIn K (.ref f26) = true)
    (a27 : PySem.W.nsIn K mainGlobals "_law_grid_right" = some (some (.ref f27))) (l27 : K.lookup f27 = some ⟨oc27, od27, .func (PySem.W.fnOf "_law_grid_right" "_law_grid_right" (defArgs s_law_grid_right) (defBody s_law_grid_right) (defScope s_law_grid_right) .none kV27 dc27 pm27 an27 cd27 ct27), sl27⟩) (c27 : PySem.W.codeIn K cd27 "_law_grid_right" = true) (k27 : PySem.W.keepIn K (.ref f27) = true)
    (a28 : PySem.W.nsIn K mainGlobals "law" = some (some (.ref f28))) (l28 : K.lookup f28 = some ⟨oc28, od28, .func (PySem.W.fnOf "law" "law" (defArgs s_law) (defBody s_law) (defScope s_law) .none kV28 dc28 pm28 an28 cd28 ct28), sl28⟩) (c28 : PySem.W.codeIn K cd28 "law" = true) (k28 : PySem.W.keepIn K (.ref f28) = true)
    (ns_HailError : PySem.W.nsIn K mainGlobals "HailError" = some (some (.ref g1)))
    (ns_NoLooks : PySem.W.nsIn K mainGlobals "NoLooks" = some (some (.ref g2)))
    (ns_NoCode : PySem.W.nsIn K mainGlobals "NoCode" = some (some (.ref g3)))
    (xc_NoCode : PySem.W.excIn K g3 [.type "ValueError", .type "Exception", .type "BaseException", .type "object"] "ValueError.__new__" = true)
    (kp_NoCode : PySem.W.keepIn K (.ref g3) = true)
    (b_NoCode : PySem.W.subIn K (.ref g3) (.type "BaseException") = some true)
    (t_NoCode : PySem.W.typeIn K (.ref g3) = some (.type "type"))
    (hg_NoCode : PySem.W.findIn K (.ref g3) "__getattribute__" = some (some (.builtin "BaseException.__getattribute__")))
    (hk_NoCode : PySem.W.findIn K (.ref g3) "__getattr__" = some none)
    (hd_NoCode : PySem.W.hasDictIn K g3 = true)
    (ha_NoCode : PySem.W.findIn K (.ref g3) "__class__" = some (some (.builtin "object.__class__")))
    (hm_NoCode : PySem.W.mroIn K g3 (.type "object") = some true)
    (eh_NoCode : PySem.W.subIn K (.ref g3) (.ref g1) = some true)
    (ks_NoCode_NoCode : PySem.W.subIn K (.ref g3) (.ref g3) = some true)
    (ks_NoCode_NoLooks : PySem.W.subIn K (.ref g3) (.ref g2) = some false)
    (ne_NoCode_NoLooks : (Value.ref g3 == Value.ref g2) = false)
    (ks_NoCode_ValueError : PySem.W.subIn K (.ref g3) (.type "ValueError") = some true)
    (ic_NoCode : PySem.W.isClsIn K g3 = true)
    (tc_NoCode : PySem.W.typeIn K (.ref g3) = some (.type "type"))
    (ic_NoLooks : PySem.W.isClsIn K g2 = true)
    (tc_NoLooks : PySem.W.typeIn K (.ref g2) = some (.type "type"))
    (hb_HailError : PySem.W.subIn K (.ref g1) (.type "BaseException") = some true)
    (hh_HailError : PySem.W.hasDictIn K g1 = true)
    (ht_HailError : PySem.W.typeIn K (.ref g1) = some (.type "type"))
    (hn_ : PySem.W.specialIn K (.builtin "object.__class__") "__get__" = some (some (.builtin "getset_descriptor.__get__")))
    (ht_ : PySem.W.takesIn K (.builtin "object.__class__") = some true)
    (z_ValueError : PySem.W.nsIn K mainGlobals "ValueError" = some none)
    (z_abs : PySem.W.nsIn K mainGlobals "abs" = some none)
    (z_bool : PySem.W.nsIn K mainGlobals "bool" = some none)
    (z_enumerate : PySem.W.nsIn K mainGlobals "enumerate" = some none)
    (z_int : PySem.W.nsIn K mainGlobals "int" = some none)
    (z_isinstance : PySem.W.nsIn K mainGlobals "isinstance" = some none)
    (z_len : PySem.W.nsIn K mainGlobals "len" = some none)
    (z_list : PySem.W.nsIn K mainGlobals "list" = some none)
    (z_max : PySem.W.nsIn K mainGlobals "max" = some none)
    (z_min : PySem.W.nsIn K mainGlobals "min" = some none)
    (z_range : PySem.W.nsIn K mainGlobals "range" = some none)
    (z_set : PySem.W.nsIn K mainGlobals "set" = some none)
    (z_sorted : PySem.W.nsIn K mainGlobals "sorted" = some none)
    (z_tuple : PySem.W.nsIn K mainGlobals "tuple" = some none)
    (z_zip : PySem.W.nsIn K mainGlobals "zip" = some none) :
    ∃ fd : FuncData, (∀ (s : Shared) (v : Value), BindsTo s fd ⟨[v], []⟩ [("script", v)]) ∧ ∀ base : Heap, K.In base → base.Ns mainGlobals mg → FnOk l.prog w K mg base CX0 6 fa fd ["script"] (sp_law K) := by
  have e := hfa.symm.trans (PySem.W.mg_of X G a28)
  cases e
  let A : Nat → Addr := fun i => match i with | 5 => f5 | 6 => f6 | 7 => f7 | 8 => f8 | 9 => f9 | 10 => f10 | 12 => f12 | 13 => f13 | 14 => f14 | 15 => f15 | 16 => f16 | 17 => f17 | 18 => f18 | 19 => f19 | 20 => f20 | 21 => f21 | 22 => f22 | 23 => f23 | 24 => f24 | 25 => f25 | 26 => f26 | 27 => f27 | 28 => fa | 1 => g1 | 2 => g2 | 3 => g3 | _ => fa
  let FD : Nat → FuncData := fun i => match i with | 5 => (PySem.W.fnOf "side_number" "side_number" (defArgs s_side_number) (defBody s_side_number) (defScope s_side_number) .none kV5 dc5 pm5 an5 cd5 ct5) | 6 => (PySem.W.fnOf "ring_far" "ring_far" (defArgs s_ring_far) (defBody s_ring_far) (defScope s_ring_far) .none kV6 dc6 pm6 an6 cd6 ct6) | 7 => (PySem.W.fnOf "ring_tie_far" "ring_tie_far" (defArgs s_ring_tie_far) (defBody s_ring_tie_far) (defScope s_ring_tie_far) .none kV7 dc7 pm7 an7 cd7 ct7) | 8 => (PySem.W.fnOf "ring_place" "ring_place" (defArgs s_ring_place) (defBody s_ring_place) (defScope s_ring_place) .none kV8 dc8 pm8 an8 cd8 ct8) | 9 => (PySem.W.fnOf "ring_tie" "ring_tie" (defArgs s_ring_tie) (defBody s_ring_tie) (defScope s_ring_tie) .none kV9 dc9 pm9 an9 cd9 ct9) | 10 => (PySem.W.fnOf "grid_place" "grid_place" (defArgs s_grid_place) (defBody s_grid_place) (defScope s_grid_place) .none kV10 dc10 pm10 an10 cd10 ct10) | 12 => (PySem.W.fnOf "_law_cell_at" "_law_cell_at" (defArgs s_law_cell_at) (defBody s_law_cell_at) (defScope s_law_cell_at) .none kV12 dc12 pm12 an12 cd12 ct12) | 13 => (PySem.W.fnOf "_law_folded" "_law_folded" (defArgs s_law_folded) (defBody s_law_folded) (defScope s_law_folded) .none kV13 dc13 pm13 an13 cd13 ct13) | 14 => (PySem.W.fnOf "_law_state" "_law_state" (defArgs s_law_state) (defBody s_law_state) (defScope s_law_state) .none kV14 dc14 pm14 an14 cd14 ct14) | 15 => (PySem.W.fnOf "_law_next" "_law_next" (defArgs s_law_next) (defBody s_law_next) (defScope s_law_next) .none kV15 dc15 pm15 an15 cd15 ct15) | 16 => (PySem.W.fnOf "_law_great" "_law_great" (defArgs s_law_great) (defBody s_law_great) (defScope s_law_great) .none kV16 dc16 pm16 an16 cd16 ct16) | 17 => (PySem.W.fnOf "_law_looks" "_law_looks" (defArgs s_law_looks) (defBody s_law_looks) (defScope s_law_looks) .none kV17 dc17 pm17 an17 cd17 ct17) | 18 => (PySem.W.fnOf "_law_far" "_law_far" (defArgs s_law_far) (defBody s_law_far) (defScope s_law_far) .none kV18 dc18 pm18 an18 cd18 ct18) | 19 => (PySem.W.fnOf "_law_code" "_law_code" (defArgs s_law_code) (defBody s_law_code) (defScope s_law_code) .none kV19 dc19 pm19 an19 cd19 ct19) | 20 => (PySem.W.fnOf "_law_having" "_law_having" (defArgs s_law_having) (defBody s_law_having) (defScope s_law_having) .none kV20 dc20 pm20 an20 cd20 ct20) | 21 => (PySem.W.fnOf "_law_other" "_law_other" (defArgs s_law_other) (defBody s_law_other) (defScope s_law_other) .none kV21 dc21 pm21 an21 cd21 ct21) | 22 => (PySem.W.fnOf "_law_told" "_law_told" (defArgs s_law_told) (defBody s_law_told) (defScope s_law_told) .none kV22 dc22 pm22 an22 cd22 ct22) | 23 => (PySem.W.fnOf "_law_ring_right" "_law_ring_right" (defArgs s_law_ring_right) (defBody s_law_ring_right) (defScope s_law_ring_right) .none kV23 dc23 pm23 an23 cd23 ct23) | 24 => (PySem.W.fnOf "_law_side" "_law_side" (defArgs s_law_side) (defBody s_law_side) (defScope s_law_side) .none kV24 dc24 pm24 an24 cd24 ct24) | 25 => (PySem.W.fnOf "_law_spans" "_law_spans" (defArgs s_law_spans) (defBody s_law_spans) (defScope s_law_spans) .none kV25 dc25 pm25 an25 cd25 ct25) | 26 => (PySem.W.fnOf "_law_by_halves" "_law_by_halves" (defArgs s_law_by_halves) (defBody s_law_by_halves) (defScope s_law_by_halves) .none kV26 dc26 pm26 an26 cd26 ct26) | 27 => (PySem.W.fnOf "_law_grid_right" "_law_grid_right" (defArgs s_law_grid_right) (defBody s_law_grid_right) (defScope s_law_grid_right) .none kV27 dc27 pm27 an27 cd27 ct27) | 28 => (PySem.W.fnOf "law" "law" (defArgs s_law) (defBody s_law) (defScope s_law) .none kV28 dc28 pm28 an28 cd28 ct28) | _ => (PySem.W.fnOf "law" "law" (defArgs s_law) (defBody s_law) (defScope s_law) .none kV28 dc28 pm28 an28 cd28 ct28)
  have T : Tx K mg A FD := {
    d5 := dn_mk (st := s_side_number) (ps := ["sizes", "one", "other"]) X G a5 l5 c5 k5 fun _ _ _ _ _ _ us hl => match us, hl with | [_, _, _], _ => rfl
    d6 := dn_mk (st := s_ring_far) (ps := ["many", "one", "other"]) X G a6 l6 c6 k6 fun _ _ _ _ _ _ us hl => match us, hl with | [_, _, _], _ => rfl
    d7 := dn_mk (st := s_ring_tie_far) (ps := ["many", "place", "tie"]) X G a7 l7 c7 k7 fun _ _ _ _ _ _ us hl => match us, hl with | [_, _, _], _ => rfl
    d8 := dn_mk (st := s_ring_place) (ps := ["many", "looks", "told"]) X G a8 l8 c8 k8 fun _ _ _ _ _ _ us hl => match us, hl with | [_, _, _], _ => rfl
    d9 := dn_mk (st := s_ring_tie) (ps := ["many", "looks", "told"]) X G a9 l9 c9 k9 fun _ _ _ _ _ _ us hl => match us, hl with | [_, _, _], _ => rfl
    d10 := dn_mk (st := s_grid_place) (ps := ["wide", "high", "one", "other", "told"]) X G a10 l10 c10 k10 fun _ _ _ _ _ _ us hl => match us, hl with | [_, _, _, _, _], _ => rfl
    d12 := dn_mk (st := s_law_cell_at) (ps := ["script", "k"]) X G a12 l12 c12 k12 fun _ _ _ _ _ _ us hl => match us, hl with | [_, _], _ => rfl
    d13 := dn_mk (st := s_law_folded) (ps := ["script", "many"]) X G a13 l13 c13 k13 fun _ _ _ _ _ _ us hl => match us, hl with | [_, _], _ => rfl
    d14 := dn_mk (st := s_law_state) (ps := ["cell"]) X G a14 l14 c14 k14 fun _ _ _ _ _ _ us hl => match us, hl with | [_], _ => rfl
    d15 := dn_mk (st := s_law_next) (ps := ["state", "many"]) X G a15 l15 c15 k15 fun _ _ _ _ _ _ us hl => match us, hl with | [_, _], _ => rfl
    d16 := dn_mk (st := s_law_great) (ps := ["state", "top"]) X G a16 l16 c16 k16 fun _ _ _ _ _ _ us hl => match us, hl with | [_, _], _ => rfl
    d17 := dn_mk (st := s_law_looks) (ps := ["state", "many", "most"]) X G a17 l17 c17 k17 fun _ _ _ _ _ _ us hl => match us, hl with | [_, _, _], _ => rfl
    d18 := dn_mk (st := s_law_far) (ps := ["many", "one", "other"]) X G a18 l18 c18 k18 fun _ _ _ _ _ _ us hl => match us, hl with | [_, _, _], _ => rfl
    d19 := dn_mk (st := s_law_code) (ps := ["many", "looks", "thing", "kind"]) X G a19 l19 c19 k19 fun _ _ _ _ _ _ us hl => match us, hl with | [_, _, _, _], _ => rfl
    d20 := dn_mk (st := s_law_having) (ps := ["many", "looks", "told", "kind"]) X G a20 l20 c20 k20 fun _ _ _ _ _ _ us hl => match us, hl with | [_, _, _, _], _ => rfl
    d21 := dn_mk (st := s_law_other) (ps := ["state", "told"]) X G a21 l21 c21 k21 fun _ _ _ _ _ _ us hl => match us, hl with | [_, _], _ => rfl
    d22 := dn_mk (st := s_law_told) (ps := ["way", "args"]) X G a22 l22 c22 k22 fun _ _ _ _ _ _ us hl => match us, hl with | [_, _], _ => rfl
    d23 := dn_mk (st := s_law_ring_right) (ps := ["state"]) X G a23 l23 c23 k23 fun _ _ _ _ _ _ us hl => match us, hl with | [_], _ => rfl
    d24 := dn_mk (st := s_law_side) (ps := ["state", "wide", "high"]) X G a24 l24 c24 k24 fun _ _ _ _ _ _ us hl => match us, hl with | [_, _, _], _ => rfl
    d25 := dn_mk (st := s_law_spans) (ps := ["one", "spot"]) X G a25 l25 c25 k25 fun _ _ _ _ _ _ us hl => match us, hl with | [_, _], _ => rfl
    d26 := dn_mk (st := s_law_by_halves) (ps := ["wide", "high", "one", "other", "told"]) X G a26 l26 c26 k26 fun _ _ _ _ _ _ us hl => match us, hl with | [_, _, _, _, _], _ => rfl
    d27 := dn_mk (st := s_law_grid_right) (ps := ["state"]) X G a27 l27 c27 k27 fun _ _ _ _ _ _ us hl => match us, hl with | [_], _ => rfl
    d28 := dn_mk (st := s_law) (ps := ["script"]) X G a28 l28 c28 k28 fun _ _ _ _ _ _ us hl => match us, hl with | [_], _ => rfl
    n_ValueError := PySem.W.mg_none_of X G z_ValueError
    n_abs := PySem.W.mg_none_of X G z_abs
    n_bool := PySem.W.mg_none_of X G z_bool
    n_enumerate := PySem.W.mg_none_of X G z_enumerate
    n_int := PySem.W.mg_none_of X G z_int
    n_isinstance := PySem.W.mg_none_of X G z_isinstance
    n_len := PySem.W.mg_none_of X G z_len
    n_list := PySem.W.mg_none_of X G z_list
    n_max := PySem.W.mg_none_of X G z_max
    n_min := PySem.W.mg_none_of X G z_min
    n_range := PySem.W.mg_none_of X G z_range
    n_set := PySem.W.mg_none_of X G z_set
    n_sorted := PySem.W.mg_none_of X G z_sorted
    n_tuple := PySem.W.mg_none_of X G z_tuple
    n_zip := PySem.W.mg_none_of X G z_zip
    x_NoCode := ⟨ns_NoCode, PySem.W.mg_of X G ns_NoCode, xc_NoCode, kp_NoCode, b_NoCode, t_NoCode, ⟨hg_NoCode, hk_NoCode, b_NoCode, hd_NoCode, ha_NoCode, hn_, ht_, hm_NoCode⟩⟩
    g_HailError := PySem.W.mg_of X G ns_HailError
    g_NoCode := PySem.W.mg_of X G ns_NoCode
    g_NoLooks := PySem.W.mg_of X G ns_NoLooks
    eh_NoCode := PySem.W.exm_ref hb_HailError hh_HailError ht_HailError eh_NoCode
    kt_NoCode_NoCode := kit_ref ic_NoCode tc_NoCode ks_NoCode_NoCode (.inl rfl)
    kt_NoCode_NoLooks := kit_ref ic_NoLooks tc_NoLooks ks_NoCode_NoLooks (.inr ne_NoCode_NoLooks)
    kt_NoCode_ValueError := kit_ty (by decide +kernel) ks_NoCode_ValueError }
  exact ⟨(PySem.W.fnOf "law" "law" (defArgs s_law) (defBody s_law) (defScope s_law) .none kV28 dc28 pm28 an28 cd28 ct28), fun s v => .of_eq rfl, fun base _ _ => ok_law (A := A) (FD := FD) T⟩
theorem walk {l : PySem.W.OpenLaw} {q : Program} {loose : List Str} {XP : (Str → Option Value) → Heap → Prop} {YP : World → Heap → Prop} {d : DefRec} {K : Params → PySem.W.Frag} (hn : l.most = some 63) (hdf : d.params.defaults = [])
    (hY : ∀ (w : World) (h : Heap), YP w h → (K w.params).In h)
    (F : ∀ (w : World) (mg : Str → Option Value) (fa : Addr) (h : Heap), (K w.params).In h → h.Ns mainGlobals mg → mg d.name = some (.ref fa) →
      ∃ fd : FuncData, (∀ (s : Shared) (u : Value), BindsTo s fd ⟨[u], []⟩ [("script", u)]) ∧ ∀ base : Heap, (K w.params).In base → base.Ns mainGlobals mg → FnOk l.prog w (K w.params) mg base CX0 6 fa fd ["script"] (sp_law (K w.params))) :
    PySem.W.WalkO q loose XP YP l.row.toRowW d [] (fun f vs => PySem.call f vs) :=
  L2.walk_of (n := 63) (k := 6) (x := "script") (CX := fun _ => CX0) (sp := fun w => sp_law (K w.params)) hn (by decide) hdf ⟨rfl, by decide, by decide⟩ hY F
    (fun _ H a ns hl _ hS => ⟨H, [], .ref a, ⟨ns⟩, rfl, ⟨Same.refl _, (fun _ z => nomatch z), List.Pairwise.nil, (fun _ z => nomatch z)⟩, ⟨a, rfl, hS⟩, by rw [law_true ns hl]; exact fun v F2 H2 w s r => r⟩) fun _ _ _ _ _ z => z
end G
open PySem PySem.W PyProof.Rows
set_option maxRecDepth 100000 in
set_option maxHeartbeats 0 in
theorem PySem.Challenge.cw_farhail_k33_things_by_their_codes_holds : PySem.Challenge.rw_farhail_k33_things_by_their_codes.Holds := by
  w_on; o_law; k_head; (case hw => w_witness2)
  k_fill
  refine G.walk (l := PySem.Challenge.rw_farhail_k33_things_by_their_codes) rfl rfl (fun w h Y => PySem.W.kIn_of Y) ?F
  case F =>
    intro w mg fa h KX Gn hmg
    refine' G.all_mk KX Gn hmg ?a5 ?l5 ?c5 ?k5 ?a6 ?l6 ?c6 ?k6 ?a7 ?l7 ?c7 ?k7 ?a8 ?l8 ?c8 ?k8 ?a9 ?l9 ?c9 ?k9 ?a10 ?l10 ?c10 ?k10 ?a12 ?l12 ?c12 ?k12 ?a13 ?l13 ?c13 ?k13 ?a14 ?l14 ?c14 ?k14 ?a15 ?l15 ?c15 ?k15 ?a16 ?l16 ?c16 ?k16 ?a17 ?l17 ?c17 ?k17 ?a18 ?l18 ?c18 ?k18 ?a19 ?l19 ?c19 ?k19 ?a20 ?l20 ?c20 ?k20 ?a21 ?l21 ?c21 ?k21 ?a22 ?l22 ?c22 ?k22 ?a23 ?l23 ?c23 ?k23 ?a24 ?l24 ?c24 ?k24 ?a25 ?l25 ?c25 ?k25 ?a26 ?l26 ?c26 ?k26 ?a27 ?l27 ?c27 ?k27 ?a28 ?l28 ?c28 ?k28 ?ns_HailError ?ns_NoLooks ?ns_NoCode ?xc_NoCode ?kp_NoCode ?b_NoCode ?t_NoCode ?hg_NoCode ?hk_NoCode ?hd_NoCode ?ha_NoCode ?hm_NoCode ?eh_NoCode ?ks_NoCode_NoCode ?ks_NoCode_NoLooks ?ne_NoCode_NoLooks ?ks_NoCode_ValueError ?ic_NoCode ?tc_NoCode ?ic_NoLooks ?tc_NoLooks ?hb_HailError ?hh_HailError ?ht_HailError ?hn_ ?ht_ ?z_ValueError ?z_abs ?z_bool ?z_enumerate ?z_int ?z_isinstance ?z_len ?z_list ?z_max ?z_min ?z_range ?z_set ?z_sorted ?z_tuple ?z_zip
    (case a5 => k_is); (case l5 => k_is); (case c5 => k_is); (case k5 => k_is)
    (case a6 => k_is); (case l6 => k_is); (case c6 => k_is); (case k6 => k_is)
    (case a7 => k_is); (case l7 => k_is); (case c7 => k_is); (case k7 => k_is)
    (case a8 => k_is); (case l8 => k_is); (case c8 => k_is); (case k8 => k_is)
    (case a9 => k_is); (case l9 => k_is); (case c9 => k_is); (case k9 => k_is)
    (case a10 => k_is); (case l10 => k_is); (case c10 => k_is); (case k10 => k_is)
    (case a12 => k_is); (case l12 => k_is); (case c12 => k_is); (case k12 => k_is)
    (case a13 => k_is); (case l13 => k_is); (case c13 => k_is); (case k13 => k_is)
    (case a14 => k_is); (case l14 => k_is); (case c14 => k_is); (case k14 => k_is)
    (case a15 => k_is); (case l15 => k_is); (case c15 => k_is); (case k15 => k_is)
    (case a16 => k_is); (case l16 => k_is); (case c16 => k_is); (case k16 => k_is)
    (case a17 => k_is); (case l17 => k_is); (case c17 => k_is); (case k17 => k_is)
    (case a18 => k_is); (case l18 => k_is); (case c18 => k_is); (case k18 => k_is)
    (case a19 => k_is); (case l19 => k_is); (case c19 => k_is); (case k19 => k_is)
    (case a20 => k_is); (case l20 => k_is); (case c20 => k_is); (case k20 => k_is)
    (case a21 => k_is); (case l21 => k_is); (case c21 => k_is); (case k21 => k_is)
    (case a22 => k_is); (case l22 => k_is); (case c22 => k_is); (case k22 => k_is)
    (case a23 => k_is); (case l23 => k_is); (case c23 => k_is); (case k23 => k_is)
    (case a24 => k_is); (case l24 => k_is); (case c24 => k_is); (case k24 => k_is)
    (case a25 => k_is); (case l25 => k_is); (case c25 => k_is); (case k25 => k_is)
    (case a26 => k_is); (case l26 => k_is); (case c26 => k_is); (case k26 => k_is)
    (case a27 => k_is); (case l27 => k_is); (case c27 => k_is); (case k27 => k_is)
    (case a28 => k_is); (case l28 => k_is); (case c28 => k_is); (case k28 => k_is)
    (case ns_HailError => k_is)
    (case ns_NoLooks => k_is)
    (case ns_NoCode => k_is)
    (case xc_NoCode => k_exc)
    (case kp_NoCode => k_is)
    (case b_NoCode => k_is)
    (case t_NoCode => k_is)
    (case hg_NoCode => k_is)
    (case hk_NoCode => k_is)
    (case hd_NoCode => k_is)
    (case ha_NoCode => k_is)
    (case hm_NoCode => k_is)
    (case eh_NoCode => first | rfl | k_is)
    (case ks_NoCode_NoCode => first | rfl | k_is)
    (case ks_NoCode_NoLooks => first | rfl | k_is)
    (case ne_NoCode_NoLooks => first | rfl | decide +kernel)
    (case ks_NoCode_ValueError => first | rfl | k_is)
    (case ic_NoCode => k_is)
    (case tc_NoCode => k_is)
    (case ic_NoLooks => k_is)
    (case tc_NoLooks => k_is)
    (case hb_HailError => k_is)
    (case hh_HailError => k_is)
    (case ht_HailError => k_is)
    (case hn_ => k_is)
    (case ht_ => k_is)
    (case z_ValueError => k_is)
    (case z_abs => k_is)
    (case z_bool => k_is)
    (case z_enumerate => k_is)
    (case z_int => k_is)
    (case z_isinstance => k_is)
    (case z_len => k_is)
    (case z_list => k_is)
    (case z_max => k_is)
    (case z_min => k_is)
    (case z_range => k_is)
    (case z_set => k_is)
    (case z_sorted => k_is)
    (case z_tuple => k_is)
    (case z_zip => k_is)
#print axioms PySem.Challenge.cw_farhail_k33_things_by_their_codes_holds
