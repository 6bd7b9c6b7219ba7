import PyProof.Rows.All
import Wide.All
import OpenK.AllK
import Wide.FinOn
import HandS.ForMost
import HandS.Wide
import HandS.Walk
import HandS.Deep
import HandS.SortInts
import HandS.Flow
import HandS.IsInst
import PyProof.P3In
import HandS.TupSets
import HandS.Dict
import HandS.Conv
import HandS.SortRule
import KE.KIsAll
import HandS.Base
import HandS.Call
import HandS.Exc
import HandS.ExcOwn
import HandS.ExcIs
import HandS.ExcValue
import HandS.TryOnly
import HandS.WordsExc
import HandS.TupAny
import HandS.DictTup
import KE.KDictWalk
import HandS.SetFor
import HandS.Strs
import HandS.More
import HandS.Sort
import HandS.SortOrd
import HandS.Iter
import KE.DataCmp
import KE.SortData
import PySem.Challenge.RW_farhail_k27_whole_numbered_in_order
set_option Elab.async false
set_option linter.all false
set_option maxRecDepth 100000
set_option maxHeartbeats 4000000
/-! Z0: results with refusals, data as it stands in a heap, the heap in a frozen part and cells of one's own -/
namespace Z
open PySem L2

abbrev Fg := PySem.W.Frag

/-! ### results -/
structure Exn where
  cls : Str
  arg : Int
  deriving DecidableEq

inductive R (α : Type) where
  | ok (a : α)
  | exc (e : Exn)
  | bad

def R.bind {α β : Type} (m : R α) (f : α → R β) : R β :=
  match m with
  | .ok a => f a
  | .exc e => .exc e
  | .bad => .bad
instance : Monad R where
  pure := R.ok
  bind := R.bind
section
variable {α β γ : Type}
theorem ok_bind (a : α) (f : α → R β) : (R.ok a >>= f) = f a := rfl
theorem pure_bind' (a : α) (f : α → R β) : ((pure a : R α) >>= f) = f a := rfl
theorem exc_bind (e : Exn) (f : α → R β) : ((R.exc e : R α) >>= f) = R.exc e := rfl
theorem bad_bind (f : α → R β) : ((R.bad : R α) >>= f) = R.bad := rfl
theorem pure_ok (a : α) : (pure a : R α) = R.ok a := rfl
theorem bind_bind (m : R α) (f : α → R β) (g : β → R γ) : ((m >>= f) >>= g) = (m >>= fun a => f a >>= g) := by
  cases m <;> rfl
theorem bind_ok_iff {m : R α} {f : α → R β} {b : β} : (m >>= f) = R.ok b ↔ ∃ a, m = R.ok a ∧ f a = R.ok b := by
  cases m with
  | ok a => exact ⟨fun h => ⟨a, rfl, h⟩, fun ⟨_, h1, h2⟩ => by cases h1; exact h2⟩
  | exc e => exact ⟨fun h => (nomatch (show R.exc e = R.ok b from h)), fun ⟨_, h1, _⟩ => nomatch h1⟩
  | bad => exact ⟨fun h => (nomatch (show R.bad = R.ok b from h)), fun ⟨_, h1, _⟩ => nomatch h1⟩
def grd (b : Bool) : R Unit := if b = true then .ok () else .bad
theorem grd_t {b : Bool} (h : b = true) : grd b = R.ok () := by rw [h]; rfl
def ofO (o : Option α) : R α :=
  match o with
  | some a => .ok a
  | none => .bad
theorem ofO_some (a : α) : ofO (some a) = R.ok a := rfl
/-- the item at an index of any sign -/
def getI (xs : List α) (i : Int) : R α := ofO (atI xs i)
/-- the list with another item at an index -/
def setI (xs : List α) (i : Int) (x : α) : R (List α) :=
  match ixN xs.length i with
  | some j => .ok (xs.set j x)
  | none => .bad
/-- a list of at most a thousand items grows by one -/
def app (xs : List α) (x : α) : R (List α) := if xs.length < 100000 then .ok (xs ++ [x]) else .bad
def extend (xs ys : List α) : R (List α) := if xs.length + ys.length < 100000 then .ok (xs ++ ys) else .bad
@[irreducible] def mulI (i j : Int) : R Int := if (-(2 ^ 64) < i ∧ i < 2 ^ 64) ∨ (-(2 ^ 64) < j ∧ j < 2 ^ 64) then .ok (i * j) else .bad
@[irreducible] def modI (i j : Int) : R Int := if 0 < j then .ok (i % j) else .bad
@[irreducible] def divI (i j : Int) : R Int := if 0 < j ∧ j.natAbs.log2 < 9000 then .ok (i / j) else .bad
@[irreducible] def powI (i j : Int) : R Int := if 0 ≤ j ∧ j ≤ 1000000 ∧ i.natAbs < 2 ^ 64 then .ok (i ^ j.toNat) else .bad
/-- the ints from i on below j -/
def rng (i j : Int) : List Int := (List.range (j - i).toNat).map fun (k : Nat) => i + (k : Int)
@[irreducible] def rngI (i j : Int) : R (List Int) := if -(2 ^ 62) ≤ i ∧ i < 2 ^ 62 ∧ -(2 ^ 62) ≤ j ∧ j < 2 ^ 62 then .ok (rng i j) else .bad
/-- items for items -/
def mapR (f : α → R β) : List α → R (List β)
  | [] => .ok []
  | x :: xs => do
    let y ← f x
    let ys ← mapR f xs
    pure (y :: ys)
/-- a fold whose turn may leave -/
def foldR (f : β → α → R β) : β → List α → R β
  | s, [] => .ok s
  | s, x :: xs => f s x >>= fun s' => foldR f s' xs
/-- a fold whose turn may end the whole with a value (inl), or the loop alone (inr inl) -/
def foldX {ρ : Type} (f : β → α → R (Sum ρ (Bool × β))) : β → List α → R (Sum ρ β)
  | s, [] => .ok (.inr s)
  | s, x :: xs => f s x >>= fun r =>
    match r with
    | .inl z => .ok (.inl z)
    | .inr (true, s') => foldX f s' xs
    | .inr (false, s') => .ok (.inr s')
/-- what holds of a result -/
def Post (m : R α) (P : α → Prop) (E : Exn → Prop) : Prop :=
  match m with
  | .ok a => P a
  | .exc e => E e
  | .bad => False
variable {P P' : α → Prop} {Q : β → Prop} {E E' : Exn → Prop}
theorem Post.mono {m : R α} (h : Post m P E) (hP : ∀ a, P a → P' a) (hE : ∀ e, E e → E' e) : Post m P' E' := by
  cases m with
  | ok a => exact hP a h
  | exc e => exact hE e h
  | bad => exact h
theorem post_bind {m : R α} {f : α → R β} (h : Post (m >>= f) Q E) : Post m (fun a => Post (f a) Q E) E := by
  cases m <;> exact h
theorem post_ok {a : α} (h : Post (R.ok a) P E) : P a := h
theorem pb_ok {a : α} {f : α → R β} (h : Post (R.ok a >>= f) Q E) : Post (f a) Q E := h
theorem pb_pure {a : α} {f : α → R β} (h : Post ((pure a : R α) >>= f) Q E) : Post (f a) Q E := h
theorem pb_assoc {m : R α} {f : α → R β} {g : β → R γ} {Q : γ → Prop} (h : Post ((m >>= f) >>= g) Q E) : Post (m >>= fun a => f a >>= g) Q E := by
  rw [bind_bind] at h
  exact h
theorem pb_grd {b : Bool} {f : Unit → R β} (h : Post (grd b >>= f) Q E) : b = true ∧ Post (f ()) Q E := by
  cases b with
  | true => exact ⟨rfl, h⟩
  | false => exact (show False from h).elim
theorem pb_ofO {o : Option α} {f : α → R β} (h : Post (ofO o >>= f) Q E) : ∃ a, o = some a ∧ Post (f a) Q E := by
  cases o with
  | some a => exact ⟨a, rfl, h⟩
  | none => exact (show False from h).elim
theorem pb_get {xs : List α} {i : Int} {f : α → R β} (h : Post (getI xs i >>= f) Q E) : ∃ a, atI xs i = some a ∧ Post (f a) Q E := pb_ofO h
theorem pb_set {xs : List α} {i : Int} {x : α} {f : List α → R β} (h : Post (setI xs i x >>= f) Q E) : ∃ j, ixN xs.length i = some j ∧ Post (f (xs.set j x)) Q E := by
  unfold setI at h
  cases e : ixN xs.length i with
  | some j => rw [e] at h; exact ⟨j, rfl, h⟩
  | none => rw [e] at h; exact (show False from h).elim
theorem pb_if {c : Prop} [Decidable c] {a : α} {f : α → R β} (h : Post ((if c then R.ok a else R.bad) >>= f) Q E) : c ∧ Post (f a) Q E := by
  by_cases hc : c
  · rw [if_pos hc] at h
    exact ⟨hc, h⟩
  · rw [if_neg hc] at h
    exact (show False from h).elim
theorem line5 : 100000 ≤ sizeLine := by decide
theorem pb_app {xs : List α} {x : α} {f : List α → R β} (h : Post (app xs x >>= f) Q E) : xs.length < sizeLine ∧ Post (f (xs ++ [x])) Q E :=
  let ⟨a, b⟩ := pb_if h
  ⟨Nat.lt_of_lt_of_le a line5, b⟩
theorem pb_extend {xs ys : List α} {f : List α → R β} (h : Post (extend xs ys >>= f) Q E) : xs.length + ys.length ≤ sizeLine ∧ Post (f (xs ++ ys)) Q E :=
  let ⟨a, b⟩ := pb_if h
  ⟨Nat.le_of_lt (Nat.lt_of_lt_of_le a line5), b⟩
theorem pb_mul {i j : Int} {f : Int → R β} (h : Post (mulI i j >>= f) Q E) : CMul i j ∧ Post (f (i * j)) Q E := by
  unfold mulI at h
  exact let ⟨a, b⟩ := pb_if (c := (-(2 ^ 64) < i ∧ i < 2 ^ 64) ∨ (-(2 ^ 64) < j ∧ j < 2 ^ 64)) h
  ⟨a, b⟩
theorem pb_mod {i j : Int} {f : Int → R β} (h : Post (modI i j >>= f) Q E) : 0 < j ∧ Post (f (i % j)) Q E := by
  unfold modI at h
  exact pb_if h
theorem pb_div {i j : Int} {f : Int → R β} (h : Post (divI i j >>= f) Q E) : CDivW i j ∧ Post (f (i / j)) Q E := by
  unfold divI at h
  exact let ⟨a, b⟩ := pb_if (c := 0 < j ∧ j.natAbs.log2 < 9000) h
  ⟨a, b⟩
theorem pb_pow {i j : Int} {f : Int → R β} (h : Post (powI i j >>= f) Q E) : CPow i j ∧ Post (f (i ^ j.toNat)) Q E := by
  unfold powI at h
  exact let ⟨a, b⟩ := pb_if (c := 0 ≤ j ∧ j ≤ 1000000 ∧ i.natAbs < 2 ^ 64) h
  ⟨a, b⟩
theorem pb_rng {i j : Int} {f : List Int → R β} (h : Post (rngI i j >>= f) Q E) : (-(2 ^ 62) ≤ i ∧ i < 2 ^ 62 ∧ -(2 ^ 62) ≤ j ∧ j < 2 ^ 62) ∧ Post (f (rng i j)) Q E := by
  unfold rngI at h
  exact pb_if h
theorem post_ite {c : Bool} {m n : R α} {A B : Prop} (h : Post (if c = true then m else n) P E) (ht : c = true → Post m P E → A) (hf : c = false → Post n P E → B) : if c = true then A else B := by
  cases c with
  | true => exact ht rfl h
  | false => exact hf rfl h
theorem post_ite2 {c : Bool} {m n : R α} {A : Prop} (h : Post (if c = true then m else n) P E) (ht : c = true → Post m P E → A) (hf : c = false → Post n P E → A) : A := by
  cases c with
  | true => exact ht rfl h
  | false => exact hf rfl h
theorem pb_ite {c : Bool} {m n : R α} {f : α → R β} (h : Post ((if c = true then m else n) >>= f) Q E) : Post (if c = true then m >>= f else n >>= f) Q E := by
  cases c <;> exact h
theorem pb_foldR {f : γ → α → R γ} {s : γ} {x : α} {xs : List α} {g : γ → R β} (h : Post (foldR f s (x :: xs) >>= g) Q E) : Post (f s x >>= fun s' => foldR f s' xs >>= g) Q E := by
  have h' : Post ((f s x >>= fun s' => foldR f s' xs) >>= g) Q E := h
  rw [bind_bind] at h'
  exact h'
end

/-! ### lists of values and what they stand for -/
inductive A2 {α : Type} (r : V → α → Prop) : List V → List α → Prop
  | nil : A2 r [] []
  | cons {v : V} {x : α} {vs : List V} {xs : List α} : r v x → A2 r vs xs → A2 r (v :: vs) (x :: xs)
section
variable {α : Type} {r r' : V → α → Prop} {vs us : List V} {xs ys : List α} {v : V} {x : α}
theorem A2.length : ∀ {vs : List V} {xs : List α}, A2 r vs xs → vs.length = xs.length
  | _, _, .nil => rfl
  | _, _, .cons _ t => by rw [List.length_cons, List.length_cons, A2.length t]
theorem A2.imp (f : ∀ v x, r v x → r' v x) : ∀ {vs : List V} {xs : List α}, A2 r vs xs → A2 r' vs xs
  | _, _, .nil => .nil
  | _, _, .cons h t => .cons (f _ _ h) (A2.imp f t)
theorem A2.append : ∀ {vs us : List V} {xs ys : List α}, A2 r vs xs → A2 r us ys → A2 r (vs ++ us) (xs ++ ys)
  | _, _, _, _, .nil, h => h
  | _, _, _, _, .cons a t, h => .cons a (A2.append t h)
theorem A2.snoc (h : A2 r vs xs) (a : r v x) : A2 r (vs ++ [v]) (xs ++ [x]) := h.append (.cons a .nil)
theorem A2.get : ∀ {vs : List V} {xs : List α} {i : Nat} {x : α}, A2 r vs xs → xs[i]? = some x → ∃ v, vs[i]? = some v ∧ r v x
  | _, _, _, _, .nil, e => by simp at e
  | _, _, 0, _, .cons a _, e => by simp at e; subst e; exact ⟨_, rfl, a⟩
  | _, _, i + 1, x, .cons _ t, e => by
    obtain ⟨v, h1, h2⟩ := A2.get (i := i) (x := x) t (by simpa using e)
    exact ⟨v, by simpa using h1, h2⟩
theorem A2.getV : ∀ {vs : List V} {xs : List α} {i : Nat} {v : V}, A2 r vs xs → vs[i]? = some v → ∃ x, xs[i]? = some x ∧ r v x
  | _, _, _, _, .nil, e => by simp at e
  | _, _, 0, _, .cons a _, e => by simp at e; subst e; exact ⟨_, rfl, a⟩
  | _, _, i + 1, x, .cons _ t, e => by
    obtain ⟨v, h1, h2⟩ := A2.getV (i := i) (v := x) t (by simpa using e)
    exact ⟨v, by simpa using h1, h2⟩
theorem A2.at {i : Int} (h : A2 r vs xs) (e : atI xs i = some x) : ∃ v, atI vs i = some v ∧ r v x := by
  unfold atI at e ⊢
  rw [h.length]
  cases q : ixN xs.length i with
  | none => rw [q] at e; cases e
  | some j =>
    rw [q] at e
    exact h.get e
theorem A2.set (a : r v x) : ∀ {vs : List V} {xs : List α} (i : Nat), A2 r vs xs → A2 r (vs.set i v) (xs.set i x)
  | _, _, _, .nil => .nil
  | _, _, 0, .cons _ t => .cons a t
  | _, _, i + 1, .cons q t => .cons q (A2.set a i t)
theorem A2.take : ∀ {vs : List V} {xs : List α} (n : Nat), A2 r vs xs → A2 r (vs.take n) (xs.take n)
  | _, _, 0, _ => .nil
  | _, _, _ + 1, .nil => .nil
  | _, _, n + 1, .cons a t => .cons a (A2.take n t)
theorem A2.drop : ∀ {vs : List V} {xs : List α} (n : Nat), A2 r vs xs → A2 r (vs.drop n) (xs.drop n)
  | _, _, 0, h => h
  | _, _, _ + 1, .nil => .nil
  | _, _, n + 1, .cons _ t => A2.drop n t
theorem A2.reverse : ∀ {vs : List V} {xs : List α}, A2 r vs xs → A2 r vs.reverse xs.reverse
  | _, _, .nil => .nil
  | _, _, .cons a t => by
    rw [List.reverse_cons, List.reverse_cons]
    exact (A2.reverse t).snoc a
theorem A2.eraseIdx : ∀ {vs : List V} {xs : List α} (i : Nat), A2 r vs xs → A2 r (vs.eraseIdx i) (xs.eraseIdx i)
  | _, _, _, .nil => .nil
  | _, _, 0, .cons _ t => t
  | _, _, i + 1, .cons a t => .cons a (A2.eraseIdx i t)
theorem A2.dropLast : ∀ {vs : List V} {xs : List α}, A2 r vs xs → A2 r vs.dropLast xs.dropLast
  | _, _, .nil => .nil
  | _, _, .cons _ .nil => .nil
  | _, _, .cons a (.cons b t) => .cons a (A2.dropLast (.cons b t))
theorem A2.repl {n : Nat} (a : r v x) : A2 r (List.replicate n v) (List.replicate n x) := by
  induction n with
  | zero => exact .nil
  | succ n ih => exact .cons a ih
end

/-! ### data in a heap -/
theorem Same.seqT {K : Fg} {H H' : Hp} {a : Addr} {xs : List V} (e : Same H H') (h : SqT K H a xs) : SqT K H' a xs := by
  rcases h with (h | ⟨o, h⟩) | h
  · exact .inl (.inl (e _ _ h))
  · exact .inl (.inr ⟨o, e _ _ h⟩)
  · exact .inr h
class Rep (α : Type) where
  rep : Fg → Hp → V → α → Prop
  mono : ∀ {K : Fg} {H H' : Hp} {v : V} {x : α}, Same H H' → rep K H v x → rep K H' v x
open Rep (rep)
section
variable {α β : Type} [Rep α] [Rep β] {K : Fg} {H H' : Hp} {v : V}
theorem A2.mono {vs : List V} {xs : List α} (s : Same H H') (h : A2 (rep K H) vs xs) : A2 (rep K H') vs xs := h.imp fun _ _ => Rep.mono s
instance : Rep Int := ⟨fun _ _ v x => v = .int x, fun _ h => h⟩
instance : Rep Bool := ⟨fun _ _ v x => v = .bl x, fun _ h => h⟩
instance : Rep Unit := ⟨fun _ _ v _ => v = .non, fun _ h => h⟩
instance : Rep Str := ⟨fun _ _ v x => v = .str x, fun _ h => h⟩
instance repOpt : Rep (Option α) := ⟨fun K H v x => match x with
  | none => v = .non
  | some y => rep K H v y, fun {_ _ _ _ x} s h => by
    cases x with
    | none => exact h
    | some y => exact Rep.mono (α := α) s h⟩
instance repPair : Rep (α × β) := ⟨fun K H v x => ∃ a u w, v = .ref a ∧ H a = some (.tup [u, w]) ∧ rep K H u x.1 ∧ rep K H w x.2,
  fun s ⟨a, u, w, e, q, h1, h2⟩ => ⟨a, u, w, e, s _ _ q, Rep.mono s h1, Rep.mono s h2⟩⟩
instance repList : Rep (List α) := ⟨fun K H v xs => ∃ a vs, v = .ref a ∧ H a = some (.lst vs) ∧ A2 (rep K H) vs xs,
  fun s ⟨a, vs, e, q, h⟩ => ⟨a, vs, e, s _ _ q, h.mono s⟩⟩
/-- the script -/
structure Scr where
  l : List Int
  deriving DecidableEq
instance repScr : Rep Scr := ⟨fun K H v xs => ∃ a, v = .ref a ∧ SqL K H a (xs.l.map V.int), fun s ⟨a, e, q⟩ => ⟨a, e, s.seq q⟩⟩
/-- a tuple of any number of like things -/
structure Tup (α : Type) where
  l : List α
  deriving DecidableEq
instance repTup : Rep (Tup α) := ⟨fun K H v xs => ∃ a vs, v = .ref a ∧ H a = some (.tup vs) ∧ A2 (rep K H) vs xs.l,
  fun s ⟨a, vs, e, q, h⟩ => ⟨a, vs, e, s _ _ q, h.mono s⟩⟩
/-- a place, or a pair -/
inductive Thing where
  | pl (i : Int)
  | ti (a b : Int)
  deriving DecidableEq
instance repThing : Rep Thing := ⟨fun K H v x => match x with
  | .pl i => v = .int i
  | .ti a b => rep K H v (a, b), fun {_ _ _ _ x} s h => by
    cases x with
    | pl i => exact h
    | ti a b => exact Rep.mono (α := Int × Int) s h⟩
theorem A2.ints {vs : List V} {xs : List Int} (h : A2 (rep K H) vs xs) : vs = xs.map V.int := by
  induction h with
  | nil => rfl
  | cons a _ ih =>
    have a' : _ = V.int _ := a
    rw [a', ih]
    rfl
theorem A2.of_ints {xs : List Int} : A2 (rep K H) (xs.map V.int) xs := by
  induction xs with
  | nil => exact .nil
  | cons x xs ih => exact .cons rfl ih
theorem A2.bools {vs : List V} {xs : List Bool} (h : A2 (rep K H) vs xs) : vs = xs.map V.bl := by
  induction h with
  | nil => rfl
  | cons a _ ih =>
    have a' : _ = V.bl _ := a
    rw [a', ih]
    rfl
end

/-! ### the heap: F, frozen, is read alone; the cells os are one's own, not in F -/
structure W (F H : Hp) (os : List (Addr × HO)) : Prop where
  same : Same F H
  own : ∀ p ∈ os, H p.1 = some p.2 ∧ F p.1 = none
  nd : os.Pairwise fun p q => p.1 ≠ q.1
  nt : ∀ p ∈ os, ∀ vs, p.2 ≠ .tup vs
theorem same_new {H : Hp} {p : Addr} {o : HO} (h : H p = none) : Same H (upd H p o) := fun a u e => by
  rw [upd_ne (ne_of_none e h)]
  exact e
section
variable {F H : Hp} {os pre post : List (Addr × HO)} {a p : Addr} {o o' : HO}
theorem W.free (w : W F H os) (n : H p = none) : F p = none := w.same.free n
theorem W.get (w : W F H (pre ++ (a, o) :: post)) : H a = some o := (w.own (a, o) (List.mem_append_right _ List.mem_cons_self)).1
theorem W.no (w : W F H (pre ++ (a, o) :: post)) : F a = none := (w.own (a, o) (List.mem_append_right _ List.mem_cons_self)).2
theorem W.ne (w : W F H os) (n : H p = none) : ∀ q ∈ os, q.1 ≠ p := fun q hq e => by
  have h := (w.own q hq).1
  rw [e, n] at h
  cases h
/-- a new thing, never to be written -/
theorem W.frz (w : W F H os) (n : H p = none) : W (upd F p o) (upd H p o) os where
  same := fun b u e => by
    by_cases hb : b = p
    · subst hb
      rw [upd_same] at e ⊢
      exact e
    · rw [upd_ne hb] at e ⊢
      exact w.same b u e
  own := fun q hq => by
    have hne := w.ne n q hq
    rw [upd_ne hne, upd_ne hne]
    exact w.own q hq
  nd := w.nd
  nt := w.nt
theorem W.frzS (w : W F H os) (n : H p = none) : Same F (upd F p o) := same_new (w.free n)
/-- a new cell of one's own -/
theorem W.new (w : W F H os) (n : H p = none) (ho : ∀ vs, o ≠ .tup vs := by exact fun _ h => nomatch h) : W F (upd H p o) ((p, o) :: os) where
  same := w.same.trans (same_new n)
  own := fun q hq => by
    rcases List.mem_cons.mp hq with rfl | hq
    · exact ⟨upd_same, w.free n⟩
    · rw [upd_ne (w.ne n q hq)]
      exact w.own q hq
  nd := List.pairwise_cons.mpr ⟨fun q hq => fun e => w.ne n q hq e.symm, w.nd⟩
  nt := fun q hq => by
    rcases List.mem_cons.mp hq with rfl | hq
    · exact ho
    · exact w.nt q hq
/-- a cell of one's own is written -/
theorem W.set (w : W F H (pre ++ (a, o) :: post)) (ho : ∀ vs, o' ≠ .tup vs := by exact fun _ h => nomatch h) : W F (upd H a o') (pre ++ (a, o') :: post) where
  same := fun b u e => by
    have hn := w.no
    rw [upd_ne (ne_of_none e hn)]
    exact w.same b u e
  own := fun q hq => by
    have nd := w.nd
    rw [List.pairwise_append] at nd
    obtain ⟨_, n2, n3⟩ := nd
    rw [List.pairwise_cons] at n2
    rcases List.mem_append.mp hq with hq | hq
    · have hne : q.1 ≠ a := n3 q hq (a, o) List.mem_cons_self
      rw [upd_ne hne]
      exact w.own q (List.mem_append_left _ hq)
    · rcases List.mem_cons.mp hq with rfl | hq
      · exact ⟨upd_same, w.no⟩
      · have hne : q.1 ≠ a := fun e => n2.1 q hq e.symm
        rw [upd_ne hne]
        exact w.own q (List.mem_append_right _ (List.mem_cons_of_mem _ hq))
  nd := by
    have nd := w.nd
    rw [List.pairwise_append] at nd ⊢
    obtain ⟨n1, n2, n3⟩ := nd
    rw [List.pairwise_cons] at n2 ⊢
    refine ⟨n1, ⟨n2.1, n2.2⟩, fun x hx y hy => ?_⟩
    rcases List.mem_cons.mp hy with rfl | hy
    · exact n3 x hx (a, o) List.mem_cons_self
    · exact n3 x hx y (List.mem_cons_of_mem _ hy)
  nt := fun q hq => by
    rcases List.mem_append.mp hq with hq | hq
    · exact w.nt q (List.mem_append_left _ hq)
    · rcases List.mem_cons.mp hq with rfl | hq
      · exact ho
      · exact w.nt q (List.mem_append_right _ (List.mem_cons_of_mem _ hq))
/-- a cell is forgotten -/
theorem W.drop (w : W F H (pre ++ (a, o) :: post)) : W F H (pre ++ post) where
  same := w.same
  own := fun q hq => w.own q (by
    rcases List.mem_append.mp hq with h | h
    · exact List.mem_append_left _ h
    · exact List.mem_append_right _ (List.mem_cons_of_mem _ h))
  nd := by
    have nd := w.nd
    rw [List.pairwise_append] at nd ⊢
    obtain ⟨n1, n2, n3⟩ := nd
    rw [List.pairwise_cons] at n2
    exact ⟨n1, n2.2, fun x hx y hy => n3 x hx y (List.mem_cons_of_mem _ hy)⟩
  nt := fun q hq => w.nt q (by
    rcases List.mem_append.mp hq with h | h
    · exact List.mem_append_left _ h
    · exact List.mem_append_right _ (List.mem_cons_of_mem _ h))
/-- a cell of one's own is never written again -/
theorem W.freeze (w : W F H (pre ++ (a, o) :: post)) : W (upd F a o) H (pre ++ post) where
  same := fun b u e => by
    by_cases hb : b = a
    · subst hb
      rw [upd_same] at e
      rw [← e]
      exact w.get
    · rw [upd_ne hb] at e
      exact w.same b u e
  own := fun q hq => by
    have nd := w.nd
    rw [List.pairwise_append] at nd
    obtain ⟨n1, n2, n3⟩ := nd
    rw [List.pairwise_cons] at n2
    have hne : q.1 ≠ a := by
      rcases List.mem_append.mp hq with h | h
      · exact n3 q h (a, o) List.mem_cons_self
      · exact fun e => n2.1 q h e.symm
    have h := w.drop.own q hq
    rw [upd_ne hne]
    exact h
  nd := w.drop.nd
  nt := w.drop.nt
theorem W.freezeS (w : W F H (pre ++ (a, o) :: post)) : Same F (upd F a o) := same_new w.no
/-- a cell is told first -/
theorem W.front (w : W F H (pre ++ (a, o) :: post)) : W F H ((a, o) :: (pre ++ post)) where
  same := w.same
  own := fun x hx => w.own x (by
    rcases List.mem_cons.mp hx with rfl | h
    · exact List.mem_append_right _ List.mem_cons_self
    · rcases List.mem_append.mp h with h | h
      · exact List.mem_append_left _ h
      · exact List.mem_append_right _ (List.mem_cons_of_mem _ h))
  nd := by
    have nd := w.nd
    have nd' := w.drop.nd
    rw [List.pairwise_append] at nd
    obtain ⟨n1, n2, n3⟩ := nd
    rw [List.pairwise_cons] at n2
    refine List.pairwise_cons.mpr ⟨fun x hx => ?_, nd'⟩
    rcases List.mem_append.mp hx with h | h
    · exact fun e => n3 x h (a, o) List.mem_cons_self e.symm
    · exact n2.1 x h
  nt := fun x hx => w.nt x (by
    rcases List.mem_cons.mp hx with rfl | h
    · exact List.mem_append_right _ List.mem_cons_self
    · rcases List.mem_append.mp h with h | h
      · exact List.mem_append_left _ h
      · exact List.mem_append_right _ (List.mem_cons_of_mem _ h))
end

/-! ### what a call hands back -/
section
variable {α β : Type} [Rep α] [Rep β]
/-- a value of the frozen part -/
def Ret (K : Fg) (F : Hp) (os : List (Addr × HO)) (Q : VK) (y : α) : Prop := ∀ v F' H', W F' H' os → Same F F' → rep K F' v y → Q v H'
/-- a new list, the caller's own -/
def RetL (K : Fg) (F : Hp) (os : List (Addr × HO)) (Q : VK) (ys : List α) : Prop := ∀ p vs F' H', W F' H' ((p, .lst vs) :: os) → Same F F' → A2 (rep K F') vs ys → Q (.ref p) H'
/-- a value, and what the list at a holds now -/
def RetM (K : Fg) (F : Hp) (a : Addr) (os : List (Addr × HO)) (Q : VK) (y : α × List β) : Prop :=
  ∀ v vs F' H', W F' H' ((a, .lst vs) :: os) → Same F F' → rep K F' v y.1 → A2 (rep K F') vs y.2 → Q v H'
/-- a new list, the caller's own, and what the list at a holds now -/
def RetLM (K : Fg) (F : Hp) (a : Addr) (os : List (Addr × HO)) (Q : VK) (y : List α × List β) : Prop :=
  ∀ p us vs F' H', W F' H' ((p, .lst us) :: (a, .lst vs) :: os) → Same F F' → A2 (rep K F') us y.1 → A2 (rep K F') vs y.2 → Q (.ref p) H'
def noX : Exn → Prop := fun _ => False
end
end Z
/-! Z1: loops, comprehensions and joins against their mirrors; calls by typed data -/
namespace Z
open PySem L2
open Rep (rep)

/-! ### ways that join -/
section
variable {γ δ : Type} {m : R γ} {k : γ → R δ} {P : δ → Prop} {X : Exn → Prop}
theorem joinS {t u : TS} {D : Ends} {σ : St} {H : Hp} (hm : Post (m >>= k) P X) (J : γ → St → Hp → Prop)
    (h : ∀ (N : St → Hp → Prop) (P' : γ → Prop), (∀ g, P' g → ∀ σ' H', J g σ' H' → N σ' H') → Post m P' X → t { D with nx := N } σ H)
    (h2 : ∀ g σ' H', J g σ' H' → Post (k g) P X → u D σ' H') : tSeq t u D σ H :=
  h _ _ (fun g p σ' H' j => h2 g σ' H' j p) (post_bind hm)
theorem joinT {t : TT} {σ : St} {H : Hp} {Q : Bool → Hp → Prop} (hm : Post (m >>= k) P X) (J : γ → Bool → Hp → Prop)
    (h : ∀ (Q' : Bool → Hp → Prop) (P' : γ → Prop), (∀ g, P' g → ∀ c H', J g c H' → Q' c H') → Post m P' X → t σ H Q')
    (h2 : ∀ g c H', J g c H' → Post (k g) P X → Q c H') : t σ H Q :=
  h _ _ (fun g p c H' j => h2 g c H' j p) (post_bind hm)
theorem joinE {t : TE} {σ : St} {H : Hp} {Q : VK} (hm : Post (m >>= k) P X) (J : γ → V → Hp → Prop)
    (h : ∀ (Q' : VK) (P' : γ → Prop), (∀ g, P' g → ∀ c H', J g c H' → Q' c H') → Post m P' X → t σ H Q')
    (h2 : ∀ g c H', J g c H' → Post (k g) P X → Q c H') : t σ H Q :=
  h _ _ (fun g p c H' j => h2 g c H' j p) (post_bind hm)
/-- a test of a value that is told -/
theorem cutT {t : TT} {σ : St} {H : Hp} {Q : Bool → Hp → Prop} (J : Bool → Hp → Prop) (h : ∀ Q' : Bool → Hp → Prop, (∀ c H', J c H' → Q' c H') → t σ H Q') (h2 : ∀ c H', J c H' → Q c H') : t σ H Q := h _ h2
theorem cutE {t : TE} {σ : St} {H : Hp} {Q : VK} (J : V → Hp → Prop) (h : ∀ Q' : VK, (∀ c H', J c H' → Q' c H') → t σ H Q') (h2 : ∀ c H', J c H' → Q c H') : t σ H Q := h _ h2
theorem ifB {c : Bool} {A B : Prop} (h1 : c = true → A) (h2 : c = false → B) : if c = true then A else B := by
  cases c with
  | true => exact h1 rfl
  | false => exact h2 rfl
end

/-! ### what is walked, typed -/
structure TW (J : It) {β : Type} (items : List β) (G : Hp → Prop) (Y : β → Hp → V → Hp → Prop) : Prop where
  walk : Walk J items.length G (fun i H x H' => ∃ b, items[i]? = some b ∧ Y b H x H')
section
variable {K : Fg} {F : Hp} {a : Addr} {α β : Type} [Rep α] [Rep β] {vs us : List V} {xs : List α} {ys : List β}
theorem tw_list (h : A2 (rep K F) vs xs) : TW (Itl K a) xs (fun H => SqL K H a vs) (fun b H x H' => H' = H ∧ rep K F x b) := ⟨by
  rw [← h.length]
  exact walk_list.mono (fun _ g => g) fun i H x H' _ _ y => by
    obtain ⟨y1, y2⟩ := y
    obtain ⟨b, h1, h2⟩ := h.getV y2
    exact ⟨b, h1, y1, h2⟩⟩
theorem tw_tup (h : A2 (rep K F) vs xs) : TW (Itt K a) xs (fun H => SqT K H a vs) (fun b H x H' => H' = H ∧ rep K F x b) := ⟨by
  rw [← h.length]
  exact walk_tup.mono (fun _ g => g) fun i H x H' _ _ y => by
    obtain ⟨y1, y2⟩ := y
    obtain ⟨b, h1, h2⟩ := h.getV y2
    exact ⟨b, h1, y1, h2⟩⟩
theorem rng_length (i j : Int) : (rng i j).length = (j - i).toNat := by
  unfold rng
  rw [List.length_map, List.length_range]
theorem rng_get {i j : Int} {n : Nat} (h : n < (j - i).toNat) : (rng i j)[n]? = some (i + (n : Int)) := by
  unfold rng
  rw [List.getElem?_map, List.getElem?_range h]
  rfl
theorem tw_rng {i j : Int} : TW (Itr i (j - i).toNat) (rng i j) (fun _ => True) (fun b H x H' => H' = H ∧ x = .int b) := ⟨by
  rw [rng_length]
  exact walk_range.mono (fun _ g => g) fun n H x H' hn _ y => ⟨_, rng_get hn, y.1, y.2⟩⟩
theorem tw_rng0 {j : Int} : TW (Itr 0 j.toNat) (rng 0 j) (fun _ => True) (fun b H x H' => H' = H ∧ x = .int b) := by
  have h := tw_rng (i := 0) (j := j)
  rw [Int.sub_zero] at h
  exact h
/-- pairs of a place and the item there -/
def enum (xs : List α) : List (Int × α) := (rng 0 xs.length).zip xs
theorem enum_length (xs : List α) : (enum xs).length = xs.length := by
  unfold enum
  rw [List.length_zip, rng_length]
  omega
theorem enum_get {xs : List α} {i : Nat} {x : α} (h : xs[i]? = some x) : (enum xs)[i]? = some ((i : Int), x) := by
  have hl := (List.getElem?_eq_some_iff.mp h).1
  unfold enum
  rw [List.getElem?_zip_eq_some]
  refine ⟨?_, h⟩
  rw [rng_get (by omega)]
  simp
theorem tw_enum (h : A2 (rep K F) vs xs) : TW (Ite K a) (enum xs) (fun H => SqL K H a vs) (fun b H v H' => ∃ T x, v = .ref T ∧ H T = none ∧ H' = upd H T (.tup [.int b.1, x]) ∧ rep K F x b.2) := ⟨by
  rw [enum_length, ← h.length]
  exact walk_enum.mono (fun _ g => g) fun i H x H' _ _ y => by
    obtain ⟨T, u, w, e1, e2, e3, e4, e5⟩ := y
    obtain ⟨b, h1, h2⟩ := h.getV e5
    cases e4
    exact ⟨((i : Int), b), enum_get h1, T, w, e1, e2, e3, h2⟩⟩
theorem tw_zip {b : Addr} (h : A2 (rep K F) vs xs) (h' : A2 (rep K F) us ys) : TW (Itz K a b) (xs.zip ys) (fun H => SqL K H a vs ∧ SqL K H b us) (fun p H v H' => ∃ T x y, v = .ref T ∧ H T = none ∧ H' = upd H T (.tup [x, y]) ∧ rep K F x p.1 ∧ rep K F y p.2) := ⟨by
  rw [List.length_zip, ← h.length, ← h'.length]
  exact (walk_zip rfl).mono (fun _ g => g) fun i H x H' _ _ y => by
    obtain ⟨T, u, w, e1, e2, e3, e4, e5⟩ := y
    obtain ⟨c, h1, h2⟩ := h.getV e4
    obtain ⟨d, h3, h4⟩ := h'.getV e5
    refine ⟨(c, d), ?_, T, u, w, e1, e2, e3, h2, h4⟩
    rw [List.getElem?_zip_eq_some]
    exact ⟨h1, h3⟩⟩
end

/-! ### for -/
section
variable {J : It} {β γ δ ρ : Type} {items : List β} {G : Hp → Prop} {Y : β → Hp → V → Hp → Prop} {g : TG} {tb : TS} {D : Ends} {σ : St} {H : Hp} {P : δ → Prop} {X : Exn → Prop}
theorem drop_cons {l : List β} {i : Nat} {b : β} (h : l[i]? = some b) : l.drop i = b :: l.drop (i + 1) := by
  obtain ⟨hl, e⟩ := List.getElem?_eq_some_iff.mp h
  rw [List.drop_eq_getElem_cons hl, e]
theorem forS (tw : TW J items G Y) {body : γ → β → R γ} {s0 : γ} {k : γ → R δ} (hm : Post (foldR body s0 items >>= k) P X) (I : γ → St → Hp → Prop) (h0 : I s0 σ H) (hG : ∀ c σ H, I c σ H → G H)
    (hs : ∀ (b : β) (c : γ) (x : V) (σ : St) (H H' : Hp) (N : St → Hp → Prop) (P' : γ → Prop), I c σ H → Y b H x H' → (∀ c', P' c' → ∀ σ' H', I c' σ' H' → N σ' H') → Post (body c b) P' X → g x σ H' fun σ2 H2 => tb { D with nx := N, ct := N, bk := D.nx } σ2 H2)
    (hd : ∀ c σ H, I c σ H → Post (k c) P X → D.nx σ H) :
    ∃ W : Nat → Nat → St → Hp → Prop, (∃ m, W 0 m σ H) ∧ ∀ i m σ H, W i m σ H →
      (J.stop i H ∧ D.nx σ H) ∨ (J.go i H ∧ ∃ N : St → Hp → Prop, (∀ σ' H', N σ' H' → ∃ m', m' < m ∧ W (i + 1) m' σ' H') ∧ ∀ x H', J.yld i H x H' → g x σ H' fun σ2 H2 => tb { D with nx := N, ct := N, bk := D.nx } σ2 H2) := by
  refine for_it tw.walk (fun i σ H => ∃ c, I c σ H ∧ Post (foldR body c (items.drop i) >>= k) P X) ⟨s0, h0, hm⟩ (fun i σ H _ ⟨c, h, _⟩ => hG c σ H h) ?_ ?_
  · rintro i x σ H H' hi ⟨c, h, hm⟩ ⟨b, hb, y⟩
    rw [drop_cons hb] at hm
    exact hs b c x σ H H' _ _ h y (fun c' p' σ' H' h' => ⟨c', h', p'⟩) (post_bind (pb_foldR hm))
  · rintro σ H ⟨c, h, hm⟩
    rw [List.drop_length] at hm
    exact hd c σ H h hm
/-- a for that may end the whole, or itself -/
theorem forX (tw : TW J items G Y) {body : γ → β → R (Sum ρ (Bool × γ))} {s0 : γ} {k : Sum ρ γ → R δ} (hm : Post (foldX body s0 items >>= k) P X) (I : γ → St → Hp → Prop) (h0 : I s0 σ H) (hG : ∀ c σ H, I c σ H → G H)
    (hs : ∀ (b : β) (c : γ) (x : V) (σ : St) (H H' : Hp) (N B : St → Hp → Prop) (P' : Sum ρ (Bool × γ) → Prop), I c σ H → Y b H x H' → (∀ c', P' (.inr (true, c')) → ∀ σ' H', I c' σ' H' → N σ' H') → (∀ c', P' (.inr (false, c')) → ∀ σ' H', I c' σ' H' → B σ' H') →
      (∀ z, P' (.inl z) → Post (k (.inl z)) P X) → Post (body c b) P' X → g x σ H' fun σ2 H2 => tb { D with nx := N, ct := N, bk := B } σ2 H2)
    (hd : ∀ c σ H, I c σ H → Post (k (.inr c)) P X → D.nx σ H) :
    ∃ W : Nat → Nat → St → Hp → Prop, (∃ m, W 0 m σ H) ∧ ∀ i m σ H, W i m σ H →
      (J.stop i H ∧ D.nx σ H) ∨ (J.go i H ∧ ∃ N : St → Hp → Prop, (∀ σ' H', N σ' H' → ∃ m', m' < m ∧ W (i + 1) m' σ' H') ∧ ∀ x H', J.yld i H x H' → g x σ H' fun σ2 H2 => tb { D with nx := N, ct := N, bk := D.nx } σ2 H2) := by
  refine for_it tw.walk (fun i σ H => ∃ c, I c σ H ∧ Post (foldX body c (items.drop i) >>= k) P X) ⟨s0, h0, hm⟩ (fun i σ H _ ⟨c, h, _⟩ => hG c σ H h) ?_ ?_
  · rintro i x σ H H' hi ⟨c, h, hm⟩ ⟨b, hb, y⟩
    rw [drop_cons hb] at hm
    have hm' : Post ((body c b >>= fun r => match r with
      | .inl z => (R.ok (.inl z) : R (Sum ρ γ))
      | .inr (true, s') => foldX body s' (items.drop (i + 1))
      | .inr (false, s') => R.ok (.inr s')) >>= k) P X := hm
    rw [bind_bind] at hm'
    exact hs b c x σ H H' _ _ _ h y (fun c' p' σ' H' h' => ⟨c', h', p'⟩) (fun c' p' σ' H' h' => hd c' σ' H' h' p') (fun z p' => p') (post_bind hm')
  · rintro σ H ⟨c, h, hm⟩
    rw [List.drop_length] at hm
    exact hd c σ H h hm
end
/-! ### comprehensions -/
/-- items for items, of a list that is not too long -/
def mapG {α β : Type} (f : α → R β) (xs : List α) : R (List β) := grd (decide (xs.length < 100000)) >>= fun _ => mapR f xs
/-- items for some items -/
def filR {α β : Type} (f : α → R (Option β)) : List α → R (List β)
  | [] => .ok []
  | x :: xs => f x >>= fun o => filR f xs >>= fun ys => match o with
    | some y => .ok (y :: ys)
    | none => .ok ys
def filG {α β : Type} (f : α → R (Option β)) (xs : List α) : R (List β) := grd (decide (xs.length < 100000)) >>= fun _ => filR f xs
/-- items for items, by a state that turns -/
def mapSt {α β γ : Type} (f : γ → α → R (β × γ)) : γ → List α → R (List β × γ)
  | s, [] => .ok ([], s)
  | s, x :: xs => f s x >>= fun p => mapSt f p.2 xs >>= fun q => .ok (p.1 :: q.1, q.2)
def mapStG {α β γ : Type} (f : γ → α → R (β × γ)) (s : γ) (xs : List α) : R (List β × γ) := grd (decide (xs.length < 100000)) >>= fun _ => mapSt f s xs
/-- items for some items, by a state that turns -/
def filSt {α β γ : Type} (f : γ → α → R (Option β × γ)) : γ → List α → R (List β × γ)
  | s, [] => .ok ([], s)
  | s, x :: xs => f s x >>= fun p => filSt f p.2 xs >>= fun q => match p.1 with
    | some y => .ok (y :: q.1, q.2)
    | none => .ok q
def filStG {α β γ : Type} (f : γ → α → R (Option β × γ)) (s : γ) (xs : List α) : R (List β × γ) := grd (decide (xs.length < 100000)) >>= fun _ => filSt f s xs
section
variable {J : It} {β γ δ ε : Type} {items : List β} {G : Hp → Prop} {Y : β → Hp → V → Hp → Prop} {g : TG} {tt : TT} {te : TE} {P : ε → Prop} {X : Exn → Prop} {K : Fg} {vs : List Nat} {σ : St} {F H1 : Hp} {os : List (Addr × HO)} {D : Addr} {Qd : Hp → Prop}
/-- what is asked of a comprehension's list D behind its walk J: by the readings' own words -/
abbrev LcAsk (J : It) (g : TG) (tt : TT) (te : TE) (vs : List Nat) (σ : St) (H1 : Hp) (D : Addr) (Qd : Hp → Prop) : Prop :=
  ∃ W : Nat → Nat → Hp → Prop, (∃ m, W 0 m (upd H1 D (.lst []))) ∧ ∀ i m H, W i m H →
      (J.stop i H ∧ Qd H) ∨ (J.go i H ∧ ∃ Nx : Hp → Prop, (∀ H', Nx H' → ∃ m', m' < m ∧ W (i + 1) m' H') ∧ ∀ x H', J.yld i H x H' → g x (wipe σ vs) H' fun σ2 H2 => wipe σ2 vs = wipe σ vs ∧ tt σ2 H2 fun b H3 =>
        if b = true then te σ2 H3 fun y H4 => ∃ acc, H4 D = some (.lst acc) ∧ acc.length < sizeLine ∧ Nx (upd H4 D (.lst (acc ++ [y]))) else Nx H3)
/-- the state and the items told of a comprehension: os by the state -/
theorem lcFil [Rep δ] (tw : TW J items G Y) {f : γ → β → R (Option δ × γ)} {s0 : γ} {k : List δ × γ → R ε} (hm : Post (filStG f s0 items >>= k) P X) (O : γ → Hp → List (Addr × HO) → Prop) (w : W F H1 os) (o0 : O s0 F os) (nD : H1 D = none)
    (hG : ∀ c F' H' os' acc, Same F F' → W F' H' ((D, .lst acc) :: os') → O c F' os' → G H')
    (hs : ∀ (b : β) (c : γ) (x : V) (F' H' H'' : Hp) (os' : List (Addr × HO)) (acc : List V) (N : V → Hp → Prop) (N0 : Hp → Prop) (P' : Option δ × γ → Prop), Same F F' → W F' H' ((D, .lst acc) :: os') → O c F' os' → Y b H' x H'' →
      (∀ d c', P' (some d, c') → ∀ y F'' H'' os'', W F'' H'' ((D, .lst acc) :: os'') → Same F' F'' → O c' F'' os'' → rep K F'' y d → N y H'') →
      (∀ c', P' (none, c') → ∀ F'' H'' os'', W F'' H'' ((D, .lst acc) :: os'') → Same F' F'' → O c' F'' os'' → N0 H'') → Post (f c b) P' X →
      g x (wipe σ vs) H'' fun σ2 H2 => wipe σ2 vs = wipe σ vs ∧ tt σ2 H2 fun b H3 => if b = true then te σ2 H3 N else N0 H3)
    (hd : ∀ c us F' H' os' ys, Same F F' → W F' H' ((D, .lst us) :: os') → O c F' os' → A2 (rep K F') us ys → Post (k (ys, c)) P X → Qd H') : LcAsk J g tt te vs σ H1 D Qd := by
  obtain ⟨hlen, hm⟩ := pb_grd (pb_assoc hm)
  have hlen : items.length < sizeLine := Nat.lt_of_lt_of_le (of_decide_eq_true hlen) line5
  refine lc_it tw.walk (fun i H => ∃ c F' os' us ys, i ≤ items.length ∧ Same F F' ∧ W F' H ((D, .lst us) :: os') ∧ O c F' os' ∧ A2 (rep K F') us ys ∧ ys.length ≤ i ∧ Post (filSt f c (items.drop i) >>= fun q => k (ys ++ q.1, q.2)) P X) ?_ ?_ ?_ ?_
  · exact ⟨s0, F, os, [], [], Nat.zero_le _, Same.refl _, w.new nD, o0, .nil, Nat.le_refl _, hm⟩
  · rintro i H _ ⟨c, F', os', us, ys, _, s, w', o, _⟩
    exact hG c F' H os' us s w' o
  · rintro i x H H' hi ⟨c, F', os', us, ys, _, s, w', o, h, hl, hm⟩ ⟨b, hb, y⟩
    rw [drop_cons hb] at hm
    have hm' : Post ((f c b >>= fun p => filSt f p.2 (items.drop (i + 1)) >>= fun q => match p.1 with
      | some y => (R.ok (y :: q.1, q.2) : R (List δ × γ))
      | none => R.ok q) >>= fun q => k (ys ++ q.1, q.2)) P X := hm
    rw [bind_bind] at hm'
    have hm2 := post_bind hm'
    have hul : us.length = ys.length := h.length
    refine hs b c x F' H H' os' us (fun y H4 => ∃ acc, H4 D = some (.lst acc) ∧ acc.length < sizeLine ∧ _) _ _ s w' o y ?_ ?_ hm2
    · intro d c' p2 y F'' H'' os'' w2 s2 o2 r2
      refine ⟨us, w2.get (pre := []), by omega, c', F'', os'', us ++ [y], ys ++ [d], hi, s.trans s2, w2.set (pre := []), o2, (h.mono s2).snoc r2, by rw [List.length_append, List.length_singleton]; omega, ?_⟩
      have p3 : Post ((filSt f c' (items.drop (i + 1)) >>= fun q => (R.ok (d :: q.1, q.2) : R (List δ × γ))) >>= fun q => k (ys ++ q.1, q.2)) P X := p2
      rw [bind_bind] at p3
      have e : (fun q : List δ × γ => (R.ok (d :: q.1, q.2) : R (List δ × γ)) >>= fun q => k (ys ++ q.1, q.2)) = fun q => k (ys ++ [d] ++ q.1, q.2) := by
        funext q
        show k (ys ++ (d :: q.1), q.2) = k (ys ++ [d] ++ q.1, q.2)
        rw [List.append_assoc]
        rfl
      rw [e] at p3
      exact p3
    · intro c' p2 F'' H'' os'' w2 s2 o2
      refine ⟨c', F'', os'', us, ys, hi, s.trans s2, w2, o2, h.mono s2, by omega, ?_⟩
      have p3 : Post ((filSt f c' (items.drop (i + 1)) >>= fun q => (R.ok q : R (List δ × γ))) >>= fun q => k (ys ++ q.1, q.2)) P X := p2
      rw [bind_bind] at p3
      exact p3
  · rintro H ⟨c, F', os', us, ys, _, s, w', o, h, _, hm⟩
    rw [List.drop_length] at hm
    have hm' : Post (k (ys ++ [], c)) P X := hm
    rw [List.append_nil] at hm'
    exact hd c us F' H os' ys s w' o h hm'
/-- without a test -/
theorem lcMap [Rep δ] (tw : TW J items G Y) {f : γ → β → R (δ × γ)} {s0 : γ} {k : List δ × γ → R ε} (hm : Post (mapStG f s0 items >>= k) P X) (O : γ → Hp → List (Addr × HO) → Prop) (w : W F H1 os) (o0 : O s0 F os) (nD : H1 D = none)
    (hG : ∀ c F' H' os' acc, Same F F' → W F' H' ((D, .lst acc) :: os') → O c F' os' → G H')
    (hs : ∀ (b : β) (c : γ) (x : V) (F' H' H'' : Hp) (os' : List (Addr × HO)) (acc : List V) (N : V → Hp → Prop) (P' : δ × γ → Prop), Same F F' → W F' H' ((D, .lst acc) :: os') → O c F' os' → Y b H' x H'' →
      (∀ d c', P' (d, c') → ∀ y F'' H'' os'', W F'' H'' ((D, .lst acc) :: os'') → Same F' F'' → O c' F'' os'' → rep K F'' y d → N y H'') → Post (f c b) P' X →
      g x (wipe σ vs) H'' fun σ2 H2 => wipe σ2 vs = wipe σ vs ∧ te σ2 H2 N)
    (hd : ∀ c us F' H' os' ys, Same F F' → W F' H' ((D, .lst us) :: os') → O c F' os' → A2 (rep K F') us ys → Post (k (ys, c)) P X → Qd H') : LcAsk J g tYes te vs σ H1 D Qd := by
  have e : ∀ (s : γ) (l : List β), filSt (fun c b => f c b >>= fun p => R.ok (some p.1, p.2)) s l = mapSt f s l := by
    intro s l
    induction l generalizing s with
    | nil => rfl
    | cons b l ih =>
      show ((f s b >>= fun p => R.ok (some p.1, p.2)) >>= fun p => filSt (fun c b => f c b >>= fun p => R.ok (some p.1, p.2)) p.2 l >>= fun q => match p.1 with
        | some y => (R.ok (y :: q.1, q.2) : R (List δ × γ))
        | none => R.ok q) = (f s b >>= fun p => mapSt f p.2 l >>= fun q => .ok (p.1 :: q.1, q.2))
      rw [bind_bind]
      refine congrArg (f s b >>= ·) ?_
      funext p
      show (filSt (fun c b => f c b >>= fun p => R.ok (some p.1, p.2)) p.2 l >>= fun q => (R.ok (p.1 :: q.1, q.2) : R (List δ × γ))) = _
      rw [ih]
  have hm' : Post (filStG (fun c b => f c b >>= fun p => R.ok (some p.1, p.2)) s0 items >>= k) P X := by
    unfold filStG
    simp only [e]
    exact hm
  refine lcFil tw hm' O w o0 nD hG (fun b c x F' H' H'' os' acc N N0 P' s w' o y hN hN0 hp => ?_) hd
  exact hs b c x F' H' H'' os' acc N _ s w' o y (fun d c' p2 y F'' H'' os'' w2 s2 o2 r2 => hN d c' p2 y F'' H'' os'' w2 s2 o2 r2) (post_bind hp)
/-- without a state -/
theorem lcM [Rep δ] (tw : TW J items G Y) {f : β → R δ} {k : List δ → R ε} (hm : Post (mapG f items >>= k) P X) (w : W F H1 os) (nD : H1 D = none)
    (hG : ∀ F' H' acc, Same F F' → W F' H' ((D, .lst acc) :: os) → G H')
    (hs : ∀ (b : β) (x : V) (F' H' H'' : Hp) (acc : List V) (N : V → Hp → Prop) (P' : δ → Prop), Same F F' → W F' H' ((D, .lst acc) :: os) → Y b H' x H'' →
      (∀ d, P' d → ∀ y F'' H'', W F'' H'' ((D, .lst acc) :: os) → Same F' F'' → rep K F'' y d → N y H'') → Post (f b) P' X →
      g x (wipe σ vs) H'' fun σ2 H2 => wipe σ2 vs = wipe σ vs ∧ te σ2 H2 N)
    (hd : ∀ us F' H' ys, Same F F' → W F' H' ((D, .lst us) :: os) → A2 (rep K F') us ys → Post (k ys) P X → Qd H') : LcAsk J g tYes te vs σ H1 D Qd := by
  have e : ∀ (l : List β), (mapSt (fun (_ : Unit) b => f b >>= fun d => R.ok (d, ())) () l >>= fun q => R.ok q.1) = mapR f l := by
    intro l
    induction l with
    | nil => rfl
    | cons b l ih =>
      show (((f b >>= fun d => R.ok (d, ())) >>= fun p => mapSt (fun (_ : Unit) b => f b >>= fun d => R.ok (d, ())) p.2 l >>= fun q => (R.ok (p.1 :: q.1, q.2) : R (List δ × Unit))) >>= fun q => R.ok q.1) = (f b >>= fun y => mapR f l >>= fun ys => R.ok (y :: ys))
      rw [bind_bind, bind_bind]
      refine congrArg (f b >>= ·) ?_
      funext d
      show ((mapSt (fun (_ : Unit) b => f b >>= fun d => R.ok (d, ())) () l >>= fun q => (R.ok (d :: q.1, q.2) : R (List δ × Unit))) >>= fun q => R.ok q.1) = _
      rw [bind_bind, ← ih, bind_bind]
      rfl
  have hm' : Post (mapStG (fun (_ : Unit) b => f b >>= fun d => R.ok (d, ())) () items >>= fun q => k q.1) P X := by
    have e2 : (mapStG (fun (_ : Unit) b => f b >>= fun d => R.ok (d, ())) () items >>= fun q => R.ok q.1) = mapG f items := by
      unfold mapStG mapG
      rw [bind_bind]
      simp only [e]
    have h2 : Post ((mapStG (fun (_ : Unit) b => f b >>= fun d => R.ok (d, ())) () items >>= fun q => R.ok q.1) >>= k) P X := by
      rw [e2]
      exact hm
    rw [bind_bind] at h2
    exact h2
  refine lcMap tw hm' (fun _ _ os' => os = os') w rfl nD (fun c F' H' os' acc s w' o => by subst o; exact hG F' H' acc s w') (fun b c x F' H' H'' os' acc N P' s w' o y hN hp => ?_) (fun c us F' H' os' ys s w' o h hm => by subst o; exact hd us F' H' ys s w' h hm)
  subst o
  exact hs b x F' H' H'' acc N _ s w' y (fun d p2 y F'' H'' w2 s2 r2 => hN d () p2 y F'' H'' _ w2 s2 rfl r2) (post_bind hp)
/-- .. with a test -/
theorem lcF [Rep δ] (tw : TW J items G Y) {f : β → R (Option δ)} {k : List δ → R ε} (hm : Post (filG f items >>= k) P X) (w : W F H1 os) (nD : H1 D = none)
    (hG : ∀ F' H' acc, Same F F' → W F' H' ((D, .lst acc) :: os) → G H')
    (hs : ∀ (b : β) (x : V) (F' H' H'' : Hp) (acc : List V) (N : V → Hp → Prop) (N0 : Hp → Prop) (P' : Option δ → Prop), Same F F' → W F' H' ((D, .lst acc) :: os) → Y b H' x H'' →
      (∀ d, P' (some d) → ∀ y F'' H'', W F'' H'' ((D, .lst acc) :: os) → Same F' F'' → rep K F'' y d → N y H'') →
      (P' none → ∀ F'' H'', W F'' H'' ((D, .lst acc) :: os) → Same F' F'' → N0 H'') → Post (f b) P' X →
      g x (wipe σ vs) H'' fun σ2 H2 => wipe σ2 vs = wipe σ vs ∧ tt σ2 H2 fun b H3 => if b = true then te σ2 H3 N else N0 H3)
    (hd : ∀ us F' H' ys, Same F F' → W F' H' ((D, .lst us) :: os) → A2 (rep K F') us ys → Post (k ys) P X → Qd H') : LcAsk J g tt te vs σ H1 D Qd := by
  have e : ∀ (l : List β), (filSt (fun (_ : Unit) b => f b >>= fun d => R.ok (d, ())) () l >>= fun q => R.ok q.1) = filR f l := by
    intro l
    induction l with
    | nil => rfl
    | cons b l ih =>
      show (((f b >>= fun d => R.ok (d, ())) >>= fun p => filSt (fun (_ : Unit) b => f b >>= fun d => R.ok (d, ())) p.2 l >>= fun q => match p.1 with
        | some y => (R.ok (y :: q.1, q.2) : R (List δ × Unit))
        | none => R.ok q) >>= fun q => R.ok q.1) = (f b >>= fun o => filR f l >>= fun ys => match o with
        | some y => .ok (y :: ys)
        | none => .ok ys)
      rw [bind_bind, bind_bind]
      refine congrArg (f b >>= ·) ?_
      funext d
      show ((filSt (fun (_ : Unit) b => f b >>= fun d => R.ok (d, ())) () l >>= fun q => match d with
        | some y => (R.ok (y :: q.1, q.2) : R (List δ × Unit))
        | none => R.ok q) >>= fun q => R.ok q.1) = _
      rw [bind_bind, ← ih, bind_bind]
      cases d <;> rfl
  have hm' : Post (filStG (fun (_ : Unit) b => f b >>= fun d => R.ok (d, ())) () items >>= fun q => k q.1) P X := by
    have e2 : (filStG (fun (_ : Unit) b => f b >>= fun d => R.ok (d, ())) () items >>= fun q => R.ok q.1) = filG f items := by
      unfold filStG filG
      rw [bind_bind]
      simp only [e]
    have h2 : Post ((filStG (fun (_ : Unit) b => f b >>= fun d => R.ok (d, ())) () items >>= fun q => R.ok q.1) >>= k) P X := by
      rw [e2]
      exact hm
    rw [bind_bind] at h2
    exact h2
  refine lcFil tw hm' (fun _ _ os' => os = os') w rfl nD (fun c F' H' os' acc s w' o => by subst o; exact hG F' H' acc s w') (fun b c x F' H' H'' os' acc N N0 P' s w' o y hN hN0 hp => ?_) (fun c us F' H' os' ys s w' o h hm => by subst o; exact hd us F' H' ys s w' h hm)
  subst o
  exact hs b x F' H' H'' acc N N0 _ s w' y (fun d p2 y F'' H'' w2 s2 r2 => hN d () p2 y F'' H'' _ w2 s2 rfl r2) (fun p2 F'' H'' w2 s2 => hN0 () p2 F'' H'' _ w2 s2 rfl) (post_bind hp)
end
end Z
namespace Z
open PySem L2
open Rep (rep)
/-! ### short words for a walk -/
section
variable {F F1 F2 H H1 : Hp} {os os' pre post : List (Addr × HO)} {a p : Addr} {o o' : HO} {K : Fg}
theorem W.frzE (w : W F H os) (n : H p = none) : ∃ F', Same F F' ∧ W F' (upd H p o) os ∧ F' p = some o := ⟨_, w.frzS n, w.frz n, upd_same⟩
theorem W.freezeE (w : W F H (pre ++ (a, o) :: post)) : ∃ F', Same F F' ∧ W F' H (pre ++ post) ∧ F' a = some o := ⟨_, w.freezeS, w.freeze, upd_same⟩
/-- a cell that was lent to a call as frozen comes back -/
theorem W.unfreeze (w : W F1 H os) (s : Same F F1) (n : F a = none) (k : F1 a = some o) (ho : ∀ vs, o ≠ .tup vs := by exact fun _ h => nomatch h) : ∃ F', Same F F' ∧ W F' H ((a, o) :: os) := by
  refine ⟨fun b => if b = a then none else F1 b, fun b u e => ?_, fun b u e => ?_, fun q hq => ?_, ?_, fun q hq => ?_⟩
  · have hb : b ≠ a := ne_of_none e n
    show (if b = a then none else F1 b) = some u
    rw [if_neg hb]
    exact s b u e
  · by_cases hb : b = a
    · have e' : (if b = a then none else F1 b) = some u := e
      rw [if_pos hb] at e'
      cases e'
    · have e' : (if b = a then none else F1 b) = some u := e
      rw [if_neg hb] at e'
      exact w.same b u e'
  · rcases List.mem_cons.mp hq with rfl | hq
    · exact ⟨w.same _ _ k, if_pos rfl⟩
    · have h := w.own q hq
      have hb : q.1 ≠ a := fun e => by
        rw [e, k] at h
        cases h.2
      exact ⟨h.1, by show (if q.1 = a then none else F1 q.1) = none; rw [if_neg hb]; exact h.2⟩
  · refine List.pairwise_cons.mpr ⟨fun q hq e => ?_, w.nd⟩
    have h := (w.own q hq).2
    have e' : a = q.1 := e
    rw [← e', k] at h
    cases h
  · rcases List.mem_cons.mp hq with rfl | hq
    · exact ho
    · exact w.nt q hq
theorem rep_own {α : Type} [Rep α] {vs : List V} {xs : List α} (w : W F H (pre ++ (a, .lst vs) :: post)) (h : A2 (rep K F) vs xs) : rep K H (.ref a) xs := ⟨a, vs, rfl, w.get, h.mono w.same⟩
theorem rep_lst {α : Type} [Rep α] {vs : List V} {xs : List α} (q : F a = some (.lst vs)) (h : A2 (rep K F) vs xs) : rep K F (.ref a) xs := ⟨a, vs, rfl, q, h⟩
theorem rep_tup {α : Type} [Rep α] {vs : List V} {xs : List α} (q : F a = some (.tup vs)) (h : A2 (rep K F) vs xs) : rep K F (.ref a) (Tup.mk xs) := ⟨a, vs, rfl, q, h⟩
theorem rep_pair {α β : Type} [Rep α] [Rep β] {u v : V} {x : α} {y : β} (q : F a = some (.tup [u, v])) (h1 : rep K F u x) (h2 : rep K F v y) : rep K F (.ref a) (x, y) := ⟨a, u, v, rfl, q, h1, h2⟩
theorem ints_q {vs : List V} {xs : List Int} (q : SqL K H a vs) (h : A2 (rep K F) vs xs) : SqL K H a (xs.map V.int) := h.ints ▸ q
theorem Room.units65 {k : Nat} {A : Around} (r : Room k A) : A.units + 65 < cLine := by
  have := r.un
  omega
theorem sl_cut {α : Type} {r : V → α → Prop} {vs : List V} {xs : List α} (h : A2 r vs xs) (lo hi : Option Int) : A2 r (cutV vs lo hi) (((xs.drop (HT.sIx xs.length 0 lo)).take (HT.sIx xs.length xs.length hi - HT.sIx xs.length 0 lo))) := by
  unfold cutV
  rw [h.length]
  exact (h.drop _).take _
/-- xs[lo:hi] -/
def cutL {α : Type} (xs : List α) (lo hi : Option Int) : List α := (xs.drop (HT.sIx xs.length 0 lo)).take (HT.sIx xs.length xs.length hi - HT.sIx xs.length 0 lo)
end
end Z
namespace Z
open PySem L2
open Rep (rep)
/-- a while by its fuel -/
def whileR {γ : Type} (c : γ → R Bool) (b : γ → R γ) : Nat → γ → R γ
  | 0, _ => .bad
  | n + 1, s => c s >>= fun t => if t = true then b s >>= fun s' => whileR c b n s' else .ok s
section
variable {γ δ : Type} {P : δ → Prop} {X : Exn → Prop} {tc : TT} {tb : TS} {D : Ends} {σ : St} {H : Hp}
theorem whileS {c : γ → R Bool} {b : γ → R γ} {n : Nat} {s0 : γ} {k : γ → R δ} (hm : Post (whileR c b n s0 >>= k) P X) (I : γ → St → Hp → Prop) (h0 : I s0 σ H)
    (hc : ∀ (g : γ) (σ : St) (H : Hp) (Q' : Bool → Hp → Prop) (P' : Bool → Prop), I g σ H → (∀ t, P' t → ∀ H', I g σ H' → Q' t H') → Post (c g) P' X → tc σ H Q')
    (hs : ∀ (g : γ) (σ : St) (H : Hp) (N : St → Hp → Prop) (P' : γ → Prop), I g σ H → (∀ g', P' g' → ∀ σ' H', I g' σ' H' → N σ' H') → Post (b g) P' X → tb { D with nx := N, ct := N, bk := D.nx } σ H)
    (hd : ∀ g σ H, I g σ H → Post (k g) P X → D.nx σ H) : tWhile tc tb D σ H := by
  refine ⟨fun m σ H => ∃ g, I g σ H ∧ Post (whileR c b m g >>= k) P X, ⟨n, s0, h0, hm⟩, ?_⟩
  rintro m σ H ⟨g, h, hm⟩
  cases m with
  | zero => exact (show False from hm).elim
  | succ m =>
    have hm' : Post ((c g >>= fun t => if t = true then b g >>= fun s' => whileR c b m s' else .ok g) >>= k) P X := hm
    rw [bind_bind] at hm'
    refine hc g σ H _ _ h (fun t p H' h' => ?_) (post_bind hm')
    cases t with
    | false => exact iteF (hd g σ H' h' p)
    | true =>
      refine iteT ?_
      have p' : Post ((b g >>= fun s' => whileR c b m s') >>= k) P X := p
      rw [bind_bind] at p'
      exact ⟨fun σ' H' => ∃ g', I g' σ' H' ∧ Post (whileR c b m g' >>= k) P X, fun σ' H' ⟨g', h1, h2⟩ => ⟨m, Nat.lt_succ_self m, g', h1, h2⟩, hs g σ H' _ _ h' (fun g' p2 σ' H' h2 => ⟨g', h2, p2⟩) (post_bind p')⟩
end
section
variable {α β : Type} {Q : β → Prop} {E : Exn → Prop}
theorem pn_set {xs : List α} {i : Int} {x : α} {f : List α → R β} (h : Post (setI xs i x >>= f) Q E) : ∃ j ys, ixN xs.length i = some j ∧ ys = xs.set j x ∧ Post (f ys) Q E :=
  let ⟨j, a, b⟩ := pb_set h
  ⟨j, _, a, rfl, b⟩
theorem pn_app {xs : List α} {x : α} {f : List α → R β} (h : Post (app xs x >>= f) Q E) : ∃ ys, xs.length < sizeLine ∧ ys = xs ++ [x] ∧ Post (f ys) Q E :=
  let ⟨a, b⟩ := pb_app h
  ⟨_, a, rfl, b⟩
theorem pn_extend {xs ys : List α} {f : List α → R β} (h : Post (extend xs ys >>= f) Q E) : ∃ zs, xs.length + ys.length ≤ sizeLine ∧ zs = xs ++ ys ∧ Post (f zs) Q E :=
  let ⟨a, b⟩ := pb_extend h
  ⟨_, a, rfl, b⟩
theorem A2.lt {r : V → α → Prop} {vs : List V} {xs : List α} {n : Nat} (h : A2 r vs xs) (z : xs.length < n) : vs.length < n := by rw [h.length]; exact z
theorem A2.ix {r : V → α → Prop} {vs : List V} {xs : List α} {i : Int} {j : Nat} (h : A2 r vs xs) (z : ixN xs.length i = some j) : ixN vs.length i = some j := by rw [h.length]; exact z
theorem A2.le2 {γ : Type} {r : V → α → Prop} {r' : V → γ → Prop} {vs us : List V} {xs : List α} {ys : List γ} {n : Nat} (h : A2 r vs xs) (h' : A2 r' us ys) (z : xs.length + ys.length ≤ n) : vs.length + us.length ≤ n := by rw [h.length, h'.length]; exact z
/-- the last item, and the rest -/
def popI (xs : List α) : R (α × List α) := match xs.getLast? with
  | some x => .ok (x, xs.dropLast)
  | none => .bad
def popAt (xs : List α) (i : Int) : R (α × List α) := match ixN xs.length i with
  | some j => match xs[j]? with
    | some x => .ok (x, xs.eraseIdx j)
    | none => .bad
  | none => .bad
theorem pn_popAt {xs : List α} {i : Int} {f : α × List α → R β} (h : Post (popAt xs i >>= f) Q E) : ∃ j x ys, ixN xs.length i = some j ∧ xs[j]? = some x ∧ ys = xs.eraseIdx j ∧ Post (f (x, ys)) Q E := by
  unfold popAt at h
  cases e : ixN xs.length i with
  | none => rw [e] at h; exact (show False from h).elim
  | some j =>
    rw [e] at h
    cases e2 : xs[j]? with
    | none =>
      have h' : Post ((match xs[j]? with
        | some x => (R.ok (x, xs.eraseIdx j) : R (α × List α))
        | none => .bad) >>= f) Q E := h
      rw [e2] at h'
      exact (show False from h').elim
    | some x =>
      have h' : Post ((match xs[j]? with
        | some x => (R.ok (x, xs.eraseIdx j) : R (α × List α))
        | none => .bad) >>= f) Q E := h
      rw [e2] at h'
      exact ⟨j, x, _, rfl, e2, rfl, h'⟩
end
section
variable {K : Fg} {F : Hp}
theorem rep_i {i : Int} : rep K F (.int i) i := rfl
theorem rep_b {i : Bool} : rep K F (.bl i) i := rfl
theorem rep_s {i : Str} : rep K F (.str i) i := rfl
theorem rep_n : rep K F .non () := rfl
end
end Z
namespace Z
open PySem L2
section
variable {X : Cx} {D : Ends} {σ : L2.St} {H : Hp}
def tC1 (v : V) : TE := fun _ H Q => True ∧ Q v H
theorem pe_int1 {i j pos} : PE X (.Constant (.int i) j pos) (tC1 (.int i)) := ⟨fun pins s σ H Q I h => pe_int.run pins s σ H Q I h.2⟩
theorem pe_bl1 {i j pos} : PE X (.Constant (.bool i) j pos) (tC1 (.bl i)) := ⟨fun pins s σ H Q I h => pe_bl.run pins s σ H Q I h.2⟩
theorem pe_str1 {i j pos} : PE X (.Constant (.str i) j pos) (tC1 (.str i)) := ⟨fun pins s σ H Q I h => pe_str.run pins s σ H Q I h.2⟩
theorem pe_non1 {j pos} : PE X (.Constant .none j pos) (tC1 .non) := ⟨fun pins s σ H Q I h => pe_non.run pins s σ H Q I h.2⟩
theorem stepN {i : Nat} {v : V} {Q : L2.St → Hp → Prop} (h : Q (σ.set i (some v)) H) : gName i v σ H Q := h
theorem stepX (h : D.nx σ H) : tNext D σ H := h
theorem stepSeq {t u : TS} (h : t { D with nx := u D } σ H) : tSeq t u D σ H := h
theorem stepIf {c : TT} {a b : TS} (h : c σ H fun t H1 => if t = true then a D σ H1 else b D σ H1) : tIfS c a b D σ H := h
theorem stepRet {te : TE} (h : te σ H D.rt) : tRet te D σ H := h
theorem stepAsg {te : TE} {g : TG} (h : te σ H fun x H1 => g x σ H1 D.nx) : tAsg te g D σ H := h
theorem stepDrop {te : TE} (h : te σ H fun _ H1 => D.nx σ H1) : tDrop te D σ H := h
end
end Z
namespace Z
open PySem L2
open Rep (rep)
section
variable {α : Type} [Rep α] {K : Fg} {F : Hp} {v : V} {x : α}
theorem rep_none : rep K F .non (none : Option α) := rfl
theorem rep_some (h : rep K F v x) : rep K F v (some x) := h
theorem rep_pl {i : Int} : rep K F (.int i) (Thing.pl i) := rfl
theorem rep_ti {a b : Int} (h : rep K F v (a, b)) : rep K F v (Thing.ti a b) := h
end
end Z
/-! Z2: rules by typed data -/
namespace Z
open PySem L2 PySem.Spec PyProof.Rows
open Rep (rep)

/-! ### data that is compared -/
class Dat (α : Type) extends Rep α where
  toD : α → PyData
  dmax : Nat
  dp : ∀ {K : Fg} {H : Hp} {v : V} {x : α}, rep K H v x → Dp K H v (toD x)
  lay : ∀ x : α, (toD x).canLay0 = true
  dep : ∀ x : α, (toD x).depth ≤ dmax
  eqv : ∀ x y : α, PyData.eqv (toD x) (toD y) = true ↔ x = y
section
variable {α β : Type} {K : Fg} {H : Hp}
instance : Dat Int where
  toD := .int
  dmax := 0
  dp := fun h => by
    have h' : _ = V.int _ := h
    subst h'
    exact .int _
  lay := fun x => by simp only [PyData.canLay0]
  dep := fun x => by simp only [PyData.depth, Nat.le_refl]
  eqv := fun x y => by simp [PyData.eqv]
instance : Dat Bool where
  toD := .bool
  dmax := 0
  dp := fun h => by
    have h' : _ = V.bl _ := h
    subst h'
    exact .bl _
  lay := fun x => by simp only [PyData.canLay0]
  dep := fun x => by simp only [PyData.depth, Nat.le_refl]
  eqv := fun x y => by simp [PyData.eqv]
instance datOptInt : Dat (Option Int) where
  toD := fun x => match x with
    | none => .none
    | some i => .int i
  dmax := 0
  dp := fun {K H v x} h => by
    cases x with
    | none =>
      have h' : v = V.non := h
      subst h'
      exact .non
    | some i =>
      have h' : v = V.int i := h
      subst h'
      exact .int _
  lay := fun x => by cases x <;> simp only [PyData.canLay0]
  dep := fun x => by cases x <;> simp only [PyData.depth, Nat.le_refl]
  eqv := fun x y => by cases x <;> cases y <;> simp [PyData.eqv]
instance datPair [Dat α] [Dat β] : Dat (α × β) where
  toD := fun x => .tuple [Dat.toD x.1, Dat.toD x.2]
  dmax := max (Dat.dmax α) (Dat.dmax β) + 1
  dp := fun {K H v x} h => by
    obtain ⟨a, u, w, rfl, q, h1, h2⟩ := h
    exact .tup (SqT.of q) (.cons (Dat.dp h1) (.cons (Dat.dp h2) .nil))
  lay := fun x => by simp only [PyData.canLay0, PyData.canLayAll0, Dat.lay, Bool.and_true]
  dep := fun x => by
    have h1 := Dat.dep x.1
    have h2 := Dat.dep x.2
    simp only [PyData.depth, PyData.depthAll]
    omega
  eqv := fun x y => by
    obtain ⟨x1, x2⟩ := x
    obtain ⟨y1, y2⟩ := y
    simp only [PyData.eqv, PyData.eqvAll, Bool.and_true, Bool.and_eq_true, Dat.eqv, Prod.mk.injEq]
theorem dp_all [Dat α] : ∀ {vs : List V} {xs : List α}, A2 (rep K H) vs xs → DpAll K H vs (xs.map Dat.toD)
  | _, _, .nil => .nil
  | _, _, .cons h t => .cons (Dat.dp h) (dp_all t)
theorem lay_all [Dat α] : ∀ xs : List α, PyData.canLayAll0 (xs.map Dat.toD) = true
  | [] => by simp only [List.map_nil, PyData.canLayAll0]
  | x :: xs => by simp only [List.map_cons, PyData.canLayAll0, Dat.lay, lay_all xs, Bool.and_true]
theorem dep_all [Dat α] : ∀ xs : List α, PyData.depthAll (xs.map Dat.toD) ≤ Dat.dmax α
  | [] => by simp only [List.map_nil, PyData.depthAll, Nat.zero_le]
  | x :: xs => by
    have h1 := dep_all xs
    have h2 := Dat.dep x
    simp only [List.map_cons, PyData.depthAll]
    omega
theorem eqv_all [Dat α] : ∀ xs ys : List α, PyData.eqvAll (xs.map Dat.toD) (ys.map Dat.toD) = true ↔ xs = ys
  | [], [] => by simp [PyData.eqvAll]
  | x :: xs, [] => by simp [PyData.eqvAll]
  | [], y :: ys => by simp [PyData.eqvAll]
  | x :: xs, y :: ys => by simp only [List.map_cons, PyData.eqvAll, Bool.and_eq_true, Dat.eqv, eqv_all xs ys, List.cons.injEq]
instance datList [Dat α] : Dat (List α) where
  toD := fun xs => .list (xs.map Dat.toD)
  dmax := Dat.dmax α + 1
  dp := fun {K H v x} h => by
    obtain ⟨a, vs, rfl, q, h⟩ := h
    exact .lst (SqL.of q) (dp_all h)
  lay := fun x => by
    simp only [PyData.canLay0]
    exact lay_all x
  dep := fun x => by
    have h := dep_all x
    simp only [PyData.depth]
    omega
  eqv := fun x y => by
    simp only [PyData.eqv]
    exact eqv_all x y
instance datTup [Dat α] : Dat (Tup α) where
  toD := fun xs => .tuple (xs.l.map Dat.toD)
  dmax := Dat.dmax α + 1
  dp := fun {K H v x} h => by
    obtain ⟨a, vs, rfl, q, h⟩ := h
    exact .tup (SqT.of q) (dp_all h)
  lay := fun x => by
    simp only [PyData.canLay0]
    exact lay_all x.l
  dep := fun x => by
    have h := dep_all x.l
    simp only [PyData.depth]
    omega
  eqv := fun x y => by
    obtain ⟨x⟩ := x
    obtain ⟨y⟩ := y
    simp only [PyData.eqv, Tup.mk.injEq]
    exact eqv_all x y
instance datThing : Dat Thing where
  toD := fun x => match x with
    | .pl i => .int i
    | .ti a b => .tuple [.int a, .int b]
  dmax := 1
  dp := fun {K H v x} h => by
    cases x with
    | pl i =>
      have h' : v = V.int i := h
      subst h'
      exact .int _
    | ti a b =>
      obtain ⟨p, u, w, rfl, q, h1, h2⟩ := (show rep K H v (a, b) from h)
      have h1' : u = V.int a := h1
      have h2' : w = V.int b := h2
      subst h1' h2'
      exact .tup (SqT.of q) (.cons (.int _) (.cons (.int _) .nil))
  lay := fun x => by cases x <;> simp [PyData.canLay0, PyData.canLayAll0]
  dep := fun x => by cases x <;> simp [PyData.depth, PyData.depthAll]
  eqv := fun x y => by cases x <;> cases y <;> simp [PyData.eqv, PyData.eqvAll]
instance datScr : Dat Scr where
  toD := fun xs => .list (xs.l.map PyData.int)
  dmax := 1
  dp := fun {K H v x} h => by
    obtain ⟨a, rfl, q⟩ := h
    have e : ∀ l : List Int, DpAll K H (l.map V.int) (l.map PyData.int) := fun l => by
      induction l with
      | nil => exact .nil
      | cons x l ih => exact .cons (.int _) ih
    exact .lst q (e x.l)
  lay := fun x => by
    simp only [PyData.canLay0]
    exact lay_all (α := Int) x.l
  dep := fun x => by
    have h := dep_all (α := Int) x.l
    have h' : PyData.depthAll (x.l.map PyData.int) ≤ 0 := h
    simp only [PyData.depth]
    omega
  eqv := fun x y => by
    obtain ⟨x⟩ := x
    obtain ⟨y⟩ := y
    simp only [PyData.eqv, Scr.mk.injEq]
    exact eqv_all (α := Int) x y
theorem shapedD [Dat α] (hd : Dat.dmax α ≤ 60) (x : α) : SeqAt.shaped (Dat.toD x) = true := by
  have h := Dat.dep x
  show ((Dat.toD x).canLay0 && decide ((Dat.toD x).depth ≤ 64)) = true
  rw [Bool.and_eq_true]
  exact ⟨Dat.lay x, decide_eq_true (by omega)⟩
theorem eqvD [Dat α] [DecidableEq α] (x y : α) : PyData.eqv (Dat.toD x) (Dat.toD y) = decide (x = y) := by
  by_cases h : x = y
  · rw [decide_eq_true h]
    exact (Dat.eqv x y).mpr h
  · rw [decide_eq_false h]
    exact Bool.eq_false_iff.mpr fun e => h ((Dat.eqv x y).mp e)
theorem anyD [Dat α] [DecidableEq α] (x : α) : ∀ ys : List α, ((ys.map Dat.toD).any fun z => PyData.eqv z (Dat.toD x)) = decide (x ∈ ys)
  | [] => by simp
  | y :: ys => by
    rw [List.map_cons, List.any_cons, anyD x ys, eqvD]
    by_cases h : y = x
    · subst h; simp
    · have h' : ¬ x = y := fun e => h e.symm
      simp [h, h']
end

section
variable {X : Cx} {α β : Type} {K : Fg}
/-- ==, != of data -/
theorem op_eqDt (hK : X.K = K) (α : Type) [Dat α] [DecidableEq α] (hd : Dat.dmax α ≤ 60) (hu : X.A.units + 64 < cLine) : OpR X (compareOp .Eq) (fun x y H Q => ∃ a b : α, rep K H x a ∧ rep K H y b ∧ Q (.bl (decide (a = b))) H) := by
  subst hK
  intro pins s σ H x y v u Q I rx ry ⟨a, b, h1, h2, q⟩
  exact op_eqD hu pins s σ H x y v u Q I rx ry ⟨Dat.toD a, Dat.toD b, Dat.dp h1, Dat.dp h2, shapedD hd a, shapedD hd b, by rw [eqvD]; exact q⟩
theorem op_neDt (hK : X.K = K) (α : Type) [Dat α] [DecidableEq α] (hd : Dat.dmax α ≤ 60) (hu : X.A.units + 64 < cLine) : OpR X (compareOp .NotEq) (fun x y H Q => ∃ a b : α, rep K H x a ∧ rep K H y b ∧ Q (.bl (!decide (a = b))) H) := by
  subst hK
  intro pins s σ H x y v u Q I rx ry ⟨a, b, h1, h2, q⟩
  exact op_neD hu pins s σ H x y v u Q I rx ry ⟨Dat.toD a, Dat.toD b, Dat.dp h1, Dat.dp h2, shapedD hd a, shapedD hd b, by rw [eqvD]; exact q⟩
/-- in, not in a list, a tuple of data -/
theorem op_inL (hK : X.K = K) (α : Type) [Dat α] [DecidableEq α] (hd : Dat.dmax α ≤ 50) (hu : X.A.units + 65 < cLine) : OpR X (compareOp .In) (fun x y H Q => ∃ (a : α) (b : List α), rep K H x a ∧ rep K H y b ∧ Q (.bl (decide (a ∈ b))) H) := by
  subst hK
  intro pins s σ H x y v u Q I rx ry ⟨a, b, h1, h2, q⟩
  exact op_inD hu pins s σ H x y v u Q I rx ry ⟨Dat.toD a, b.map Dat.toD, Dat.dp h1, Dat.dp h2, shapedD (by omega) a, shapedD (α := List α) (by show Dat.dmax α + 1 ≤ 60; omega) b, by rw [anyD]; exact q⟩
theorem op_notInL (hK : X.K = K) (α : Type) [Dat α] [DecidableEq α] (hd : Dat.dmax α ≤ 50) (hu : X.A.units + 65 < cLine) : OpR X (compareOp .NotIn) (fun x y H Q => ∃ (a : α) (b : List α), rep K H x a ∧ rep K H y b ∧ Q (.bl (!decide (a ∈ b))) H) := by
  subst hK
  intro pins s σ H x y v u Q I rx ry ⟨a, b, h1, h2, q⟩
  exact op_notInD hu pins s σ H x y v u Q I rx ry ⟨Dat.toD a, b.map Dat.toD, Dat.dp h1, Dat.dp h2, shapedD (by omega) a, shapedD (α := List α) (by show Dat.dmax α + 1 ≤ 60; omega) b, by rw [anyD]; exact q⟩
theorem op_inT (hK : X.K = K) (α : Type) [Dat α] [DecidableEq α] (hd : Dat.dmax α ≤ 50) (hu : X.A.units + 65 < cLine) : OpR X (compareOp .In) (fun x y H Q => ∃ (a : α) (b : Tup α), rep K H x a ∧ rep K H y b ∧ Q (.bl (decide (a ∈ b.l))) H) := by
  subst hK
  intro pins s σ H x y v u Q I rx ry ⟨a, b, h1, h2, q⟩
  have sd := shapedD (by omega : Dat.dmax α ≤ 60) a
  have se : SeqAt.shaped (.tuple (b.l.map Dat.toD)) = true := shapedD (α := Tup α) (by show Dat.dmax α + 1 ≤ 60; omega) b
  obtain ⟨as, r1⟩ := Dp.reads I (Dat.toD a) x v (Dat.dp h1) rx
  obtain ⟨bs, r2⟩ := Dp.reads I (.tuple (b.l.map Dat.toD)) y u (Dat.dp h2) ry
  refine SeqAt.in_tuple_reads r2 r1 (SeqAt.canLay_of_shaped se) (SeqAt.canLay_of_shaped sd) (room_in_shaped sd hu) ?_
  rw [anyD]
  exact ⟨.bl _, H, I, rfl, q⟩
theorem op_notInT (hK : X.K = K) (α : Type) [Dat α] [DecidableEq α] (hd : Dat.dmax α ≤ 50) (hu : X.A.units + 65 < cLine) : OpR X (compareOp .NotIn) (fun x y H Q => ∃ (a : α) (b : Tup α), rep K H x a ∧ rep K H y b ∧ Q (.bl (!decide (a ∈ b.l))) H) := by
  subst hK
  intro pins s σ H x y v u Q I rx ry ⟨a, b, h1, h2, q⟩
  have sd := shapedD (by omega : Dat.dmax α ≤ 60) a
  have se : SeqAt.shaped (.tuple (b.l.map Dat.toD)) = true := shapedD (α := Tup α) (by show Dat.dmax α + 1 ≤ 60; omega) b
  obtain ⟨as, r1⟩ := Dp.reads I (Dat.toD a) x v (Dat.dp h1) rx
  obtain ⟨bs, r2⟩ := Dp.reads I (.tuple (b.l.map Dat.toD)) y u (Dat.dp h2) ry
  refine SeqAt.notIn_tuple_reads r2 r1 (SeqAt.canLay_of_shaped se) (SeqAt.canLay_of_shaped sd) (room_in_shaped sd hu) ?_
  rw [anyD]
  exact ⟨.bl _, H, I, rfl, q⟩
/-- == of texts -/
theorem decS (x y : Str) : decide (V.str x = V.str y) = decide (x = y) := by
  by_cases h : x = y
  · subst h; simp
  · rw [decide_eq_false h, decide_eq_false (fun e => h (V.str.inj e))]
theorem op_eqS : OpR X (compareOp .Eq) (fun x y H Q => ∃ a b : Str, x = .str a ∧ y = .str b ∧ Q (.bl (decide (a = b))) H) := by
  intro pins s σ H x y v u Q I rx ry ⟨a, b, h1, h2, q⟩
  subst h1 h2
  exact op_eq pins s σ H _ _ v u Q I rx ry ⟨rfl, by rw [decS]; exact q⟩
theorem op_neS : OpR X (compareOp .NotEq) (fun x y H Q => ∃ a b : Str, x = .str a ∧ y = .str b ∧ Q (.bl (!decide (a = b))) H) := by
  intro pins s σ H x y v u Q I rx ry ⟨a, b, h1, h2, q⟩
  subst h1 h2
  exact op_ne pins s σ H _ _ v u Q I rx ry ⟨rfl, by rw [decS]; exact q⟩
/-- == of truths -/
theorem decB (x y : Bool) : decide (V.bl x = V.bl y) = decide (x = y) := by
  cases x <;> cases y <;> rfl
theorem op_eqB : OpR X (compareOp .Eq) (fun x y H Q => ∃ a b : Bool, x = .bl a ∧ y = .bl b ∧ Q (.bl (decide (a = b))) H) := by
  intro pins s σ H x y v u Q I rx ry ⟨a, b, h1, h2, q⟩
  subst h1 h2
  exact op_eq pins s σ H _ _ v u Q I rx ry ⟨rfl, by rw [decB]; exact q⟩
theorem op_neB : OpR X (compareOp .NotEq) (fun x y H Q => ∃ a b : Bool, x = .bl a ∧ y = .bl b ∧ Q (.bl (!decide (a = b))) H) := by
  intro pins s σ H x y v u Q I rx ry ⟨a, b, h1, h2, q⟩
  subst h1 h2
  exact op_ne pins s σ H _ _ v u Q I rx ry ⟨rfl, by rw [decB]; exact q⟩

/-! ### built-ins -/
theorem call_lenN (hK : X.K = K) : CallR X (.builtin "len") (fun xs H Q => ∃ (p : Addr) (ys : List V) (n : Nat), xs = [.ref p] ∧ (SqL K H p ys ∨ SqT K H p ys) ∧ ys.length = n ∧ Q (.int (n : Int)) H) := by
  subst hK
  intro pins s σ H xs us Q I r ⟨p, ys, n, e, h, hn, q⟩
  subst hn
  exact call_len_seq pins s σ H xs us Q I r ⟨p, ys, e, h, q⟩
def absI (i : Int) : Int := if i < 0 then -i else i
def max2 (i j : Int) : Int := if j > i then j else i
def min2 (i j : Int) : Int := if j < i then j else i
/-- the greatest, the least of a list -/
def maxL (xs : List Int) : R Int := ofO xs.max?
def minL (xs : List Int) : R Int := ofO xs.min?
theorem pb_max {δ : Type} {xs : List Int} {f : Int → R δ} {P : δ → Prop} {E : Exn → Prop} (h : Post (maxL xs >>= f) P E) : ∃ m, xs.max? = some m ∧ Post (f m) P E := pb_ofO h
theorem pb_min {δ : Type} {xs : List Int} {f : Int → R δ} {P : δ → Prop} {E : Exn → Prop} (h : Post (minL xs >>= f) P E) : ∃ m, xs.min? = some m ∧ Post (f m) P E := pb_ofO h
theorem cr_maxI (hK : X.K = K) (hc : X.calm = true) : CallR X (.builtin "max") (fun vs H Q => ∃ (a : Addr) (ns : List Int) (m : Int), vs = [V.ref a] ∧ SqL K H a (ns.map V.int) ∧ ns.max? = some m ∧ Q (.int m) H) := by
  subst hK
  intro pins s σ H xs us Q I r ⟨a, ns, m, e, h, hm, q⟩
  obtain ⟨h1, h2⟩ := List.max?_eq_some_iff.mp hm
  refine cr_max hc pins s σ H xs us Q I r ⟨a, ns, e, h, ?_, fun k h3 h4 => ?_⟩
  · exact List.length_pos_of_mem h1
  · have e1 : k = m := Int.le_antisymm (h2 k h3) (h4 m h1)
    subst e1
    exact q
theorem cr_minI (hK : X.K = K) (hc : X.calm = true) : CallR X (.builtin "min") (fun vs H Q => ∃ (a : Addr) (ns : List Int) (m : Int), vs = [V.ref a] ∧ SqL K H a (ns.map V.int) ∧ ns.min? = some m ∧ Q (.int m) H) := by
  subst hK
  intro pins s σ H xs us Q I r ⟨a, ns, m, e, h, hm, q⟩
  obtain ⟨h1, h2⟩ := List.min?_eq_some_iff.mp hm
  refine cr_min hc pins s σ H xs us Q I r ⟨a, ns, e, h, ?_, fun k h3 h4 => ?_⟩
  · exact List.length_pos_of_mem h1
  · have e1 : k = m := Int.le_antisymm (h4 m h1) (h2 k h3)
    subst e1
    exact q
/-- the ints in order -/
def sortI (xs : List Int) : List Int := xs.mergeSort fun a b => decide (a ≤ b)
theorem sortI_perm (xs : List Int) : (sortI xs).Perm xs := List.mergeSort_perm xs _
theorem sortI_sorted (xs : List Int) : (sortI xs).Pairwise (· ≤ ·) := by
  have h := List.pairwise_mergeSort (le := fun a b : Int => decide (a ≤ b)) (fun a b c h1 h2 => by simp only [decide_eq_true_eq] at *; omega) (fun a b => by simp only [Bool.or_eq_true, decide_eq_true_eq]; omega) xs
  exact h.imp fun h => by simpa using h
theorem sort_uniq {xs ys : List Int} (h : xs.Perm ys) (hx : xs.Pairwise (· ≤ ·)) (hy : ys.Pairwise (· ≤ ·)) : xs = ys := by
  induction xs generalizing ys with
  | nil => exact (List.nil_perm.mp h).symm
  | cons x xs ih =>
    cases ys with
    | nil => exact absurd h.symm (by simp)
    | cons y ys =>
      rw [List.pairwise_cons] at hx hy
      have e : x = y := by
        have h1 : x ∈ y :: ys := h.mem_iff.mp List.mem_cons_self
        have h2 : y ∈ x :: xs := h.mem_iff.mpr List.mem_cons_self
        rcases List.mem_cons.mp h1 with h1 | h1
        · exact h1
        · rcases List.mem_cons.mp h2 with h2 | h2
          · exact h2.symm
          · have := hx.1 y h2
            have := hy.1 x h1
            omega
      subst e
      rw [ih (List.perm_cons x |>.mp h) hx.2 hy.2]
theorem sortI_eq {xs ys : List Int} (h : ys.Perm xs) (hy : ys.Pairwise (· ≤ ·)) : ys = sortI xs := sort_uniq (h.trans (sortI_perm xs).symm) hy (sortI_sorted xs)
theorem cr_sortI (hK : X.K = K) : CallR X (.builtin "sorted") (fun vs H Q => ∃ (a : Addr) (ns : List Int), vs = [V.ref a] ∧ SqL K H a (ns.map V.int) ∧ ∀ p, H p = none → Q (.ref p) (upd H p (.lst ((sortI ns).map V.int)))) := by
  subst hK
  intro pins s σ H xs us Q I r ⟨a, ns, e, h, q⟩
  refine cr_sortedI pins s σ H xs us Q I r ⟨a, ns, e, h, fun ns' p h1 h2 hp => ?_⟩
  rw [sortI_eq h1 h2]
  exact q p hp
theorem ix_listK (hK : X.K = K) : IxR X (rIxL K) := hK ▸ ix_list
theorem ix_tupK (hK : X.K = K) : IxR X (rIxT K) := hK ▸ ix_tup
theorem sl_listK (hK : X.K = K) : SlR X (rSlL K) := hK ▸ sl_list
theorem cr_sumK (hK : X.K = K) (hc : X.calm = true) : CallR X (.builtin "sum") (rSum K) := hK ▸ cr_sum hc
theorem call_list_ofK (hK : X.K = K) : CallR X (.type "list") (fun xs H Q => ∃ p ys, xs = [.ref p] ∧ (SqL K H p ys ∨ SqT K H p ys) ∧ ∀ l, H l = none → Q (.ref l) (upd H l (.lst ys))) := hK ▸ call_list_of
theorem call_tuple_ofK (hK : X.K = K) : CallR X (.type "tuple") (fun xs H Q => ∃ p ys, xs = [.ref p] ∧ ((SqL K H p ys ∧ ∀ l, H l = none → Q (.ref l) (upd H l (.tup ys))) ∨ (SqT K H p ys ∧ Q (.ref p) H))) := hK ▸ call_tuple_of
theorem pi_listK {tg l : Expr} {tl : TE} (hK : X.K = K) (hl : PE X l tl) : PI X tg l (iList K tl) := hK ▸ pi_list hl
theorem pi_tupK {tg l : Expr} {tl : TE} (hK : X.K = K) (hl : PE X l tl) : PI X tg l (iTup K tl) := hK ▸ pi_tup hl
theorem pi_k {tg l : Expr} {wi : Fg → TI} (hK : X.K = K) (h : PI X tg l (wi X.K)) : PI X tg l (wi K) := hK ▸ h
theorem pe_k {e : Expr} {t : Fg → TE} (hK : X.K = K) (h : PE X e (t X.K)) : PE X e (t K) := hK ▸ h
theorem pg_k {tg : Expr} {t : Fg → TG} (hK : X.K = K) (h : PG X tg (t X.K)) : PG X tg (t K) := hK ▸ h
end
end Z
/-! Z3: sets of tuples by their number, isinstance -/
namespace Z
open PySem L2 PySem.Spec PyProof.Rows
open Rep (rep)
/-- each once -/
def nub {α : Type} [DecidableEq α] : List α → List α
  | [] => []
  | x :: xs => if x ∈ xs then nub xs else x :: nub xs
section
variable {α : Type} [DecidableEq α]
theorem nub_mem {y : α} : ∀ {xs : List α}, y ∈ nub xs ↔ y ∈ xs
  | [] => Iff.rfl
  | x :: xs => by
    unfold nub
    by_cases h : x ∈ xs
    · rw [if_pos h, nub_mem]
      exact ⟨List.mem_cons_of_mem _, fun q => (List.mem_cons.mp q).elim (fun e => e ▸ h) id⟩
    · rw [if_neg h, List.mem_cons, List.mem_cons, nub_mem]
theorem nub_nodup : ∀ (xs : List α), (nub xs).Nodup
  | [] => List.nodup_nil
  | x :: xs => by
    unfold nub
    by_cases h : x ∈ xs
    · rw [if_pos h]
      exact nub_nodup xs
    · rw [if_neg h]
      exact List.nodup_cons.mpr ⟨fun q => h (nub_mem.mp q), nub_nodup xs⟩
theorem nub_le : ∀ (xs : List α), (nub xs).length ≤ xs.length
  | [] => Nat.le_refl _
  | x :: xs => by
    unfold nub
    have := nub_le xs
    by_cases h : x ∈ xs
    · rw [if_pos h, List.length_cons]
      omega
    · rw [if_neg h, List.length_cons, List.length_cons]
      omega
theorem nub_len : ∀ {xs : List α}, (nub xs).length = xs.length ↔ xs.Nodup
  | [] => by simp [nub]
  | x :: xs => by
    unfold nub
    by_cases h : x ∈ xs
    · rw [if_pos h, List.length_cons]
      have := nub_le xs
      constructor
      · intro e
        omega
      · intro e
        exact absurd h (List.nodup_cons.mp e).1
    · rw [if_neg h, List.length_cons, List.length_cons, List.nodup_cons]
      constructor
      · intro e
        exact ⟨h, nub_len.mp (by omega)⟩
      · intro e
        rw [nub_len.mpr e.2]
theorem nodup_le : ∀ {xs ys : List α}, xs.Nodup → (∀ y ∈ xs, y ∈ ys) → xs.length ≤ ys.length
  | [], _, _, _ => Nat.zero_le _
  | x :: xs, ys, h, hs => by
    obtain ⟨h1, h2⟩ := List.nodup_cons.mp h
    have hx : x ∈ ys := hs x List.mem_cons_self
    have := nodup_le (xs := xs) (ys := ys.erase x) h2 fun y hy => (List.mem_erase_of_ne (show y ≠ x from fun e => by subst e; exact h1 hy)).mpr (hs y (List.mem_cons_of_mem _ hy))
    rw [List.length_erase_of_mem hx] at this
    have := List.length_pos_of_mem hx
    rw [List.length_cons]
    omega
theorem nodup_len {xs ys : List α} (h1 : xs.Nodup) (h2 : ys.Nodup) (h : ∀ y, y ∈ xs ↔ y ∈ ys) : xs.length = ys.length := by
  refine Nat.le_antisymm ?_ ?_
  · exact nodup_le h1 fun y hy => (h y).mp hy
  · exact nodup_le h2 fun y hy => (h y).mpr hy
end
section
variable {X : Cx} {K : Fg} {P : Program} {w : World} {F H : Hp}
/-- tuples of ints by their places -/
theorem tups_ks : ∀ {vs : List V} {xs : List (Tup Int)}, A2 (rep K H) vs xs → ∃ ks : List (Addr × List Int), vs = ks.map (fun p => V.ref p.1) ∧ ks.map (·.2) = xs.map (·.l) ∧ ∀ p ∈ ks, H p.1 = some (.tup (p.2.map V.int))
  | _, _, .nil => ⟨[], rfl, rfl, fun _ h => nomatch h⟩
  | _, _, .cons (x := x) h t => by
    obtain ⟨ks, h1, h2, h3⟩ := tups_ks t
    obtain ⟨a, us, rfl, q, hu⟩ := h
    refine ⟨(a, x.l) :: ks, by rw [h1]; rfl, by rw [List.map_cons, List.map_cons, h2], fun p hp => ?_⟩
    rcases List.mem_cons.mp hp with rfl | hp
    · rw [← hu.ints]
      exact q
    · exact h3 p hp
theorem setT0_len {pins : List (Addr × Obj)} {σ : L2.St} {s : Shared} {a : Addr} {L : List (Addr × List Int)} {Q : VK} (I : Inv X pins σ H s) (R : SetT0 X.prog X.w s.heap a L) (q : (L.map (·.2)).Nodup → Q (.int (L.length : Nat)) H) :
    wpAny (model X.prog X.w) X.A (call (.builtin "len") [.ref a]) (EP X pins σ Q) X.xe s := by
  obtain ⟨es, ep, t, ⟨o, ho, hex, hd⟩, hr, ht, hn, _, _, _, hf⟩ := R.ex
  have hsz : es.size = L.length := by
    have h := congrArg List.length hr
    unfold rowsOf at h
    rw [Array.length_toList, List.length_map] at h
    exact h
  have hps : t.place.size = L.length := by
    have := ht.sz
    rw [List.length_map] at this
    exact this
  have hroom := R.ex
  obtain ⟨_, _, t', ⟨o', ho', _, hd'⟩, _, _, _, _, _, hm, _⟩ := hroom
  rw [ho] at ho'
  cases ho'
  rw [hd] at hd'
  cases hd'
  have hfit : t.fits es.size = true := by
    unfold SetTable.fits SetTable.fill
    rw [ht.dm, hps, hsz]
    simp
    omega
  exact call_len_set ho hex hd hfit (by rw [hsz]; omega) ⟨.int (L.length : Nat), H, I.tok _, ⟨_, by rw [hsz]⟩, q hn⟩
/-- set(xs) of tuples, then len of it -/
theorem cr_setT (hK : X.K = K) (hP : X.prog = P) (hw : X.w = w) (hc : X.calm = true) (hu : X.A.units + 64 < cLine) : CallR X (.type "set") (fun xs H Q => ∃ (ys : List (Tup Int)) (v : V), xs = [v] ∧ rep K H v ys ∧ ys.length < 64 ∧
    ∀ a L, H a = none → ((L.map (·.2)).Nodup → L.length = (nub ys).length) → Q (.ref a) (upd H a (SetTO P w a L))) := by
  subst hK hP hw
  intro pins s σ H xs us Q I r ⟨ys, v, e, hr, hl, q⟩
  obtain ⟨a, vs, rfl, hq, h⟩ := hr
  obtain ⟨ks, h1, h2, h3⟩ := tups_ks h
  subst h1
  have hks : ks.length = ys.length := by
    have := congrArg List.length h2
    simpa using this
  refine cr_setOfT hc hu pins s σ H xs us Q I r ⟨a, ks, e, SqL.of hq, fun p hp => SqT.of (h3 p hp), by omega, fun b L hb hsub hall => q b L hb fun hn => ?_⟩
  have key : (L.map (·.2)).length = ((nub ys).map (·.l)).length := by
    refine nodup_len hn ?_ fun y => ?_
    · have inj : ∀ x y : Tup Int, x.l = y.l → x = y := fun x y e => by cases x; cases y; simp at e; rw [e]
      refine List.Pairwise.map (R := (· ≠ ·)) _ (fun x y hxy e => hxy (inj x y e)) (nub_nodup ys)
    · constructor
      · intro hy
        obtain ⟨p, hp, rfl⟩ := List.mem_map.mp hy
        have h4 : p.2 ∈ ks.map (·.2) := List.mem_map.mpr ⟨p, hsub p hp, rfl⟩
        rw [h2] at h4
        obtain ⟨z, hz, e⟩ := List.mem_map.mp h4
        exact List.mem_map.mpr ⟨z, nub_mem.mpr hz, e⟩
      · intro hy
        obtain ⟨z, hz, rfl⟩ := List.mem_map.mp hy
        have h4 : z.l ∈ ks.map (·.2) := by
          rw [h2]
          exact List.mem_map.mpr ⟨z, nub_mem.mp hz, rfl⟩
        obtain ⟨p, hp, e⟩ := List.mem_map.mp h4
        rw [← e]
        exact hall p hp
  rw [List.length_map, List.length_map] at key
  exact key
theorem call_lenT (hP : X.prog = P) (hw : X.w = w) : CallR X (.builtin "len") (fun xs H Q => ∃ (a : Addr) (L : List (Addr × List Int)) (n : Nat), xs = [.ref a] ∧ H a = some (SetTO P w a L) ∧ ((L.map (·.2)).Nodup → L.length = n) ∧ Q (.int (n : Nat)) H) := by
  subst hP hw
  intro pins s σ H xs us Q I r ⟨a, L, n, e, ha, hn, q⟩
  subst e
  rw [Vals.ref1 r]
  have R : SetT0 X.prog X.w s.heap a L := (show ObjOk X.prog X.w H s.heap a (SetTO X.prog X.w a L) from I.hok a _ ha).1
  exact setT0_len I R fun nd => by rw [hn nd]; exact q
/-- isinstance of a plain value and a built-in class -/
theorem call_isB (hK : X.K = K) : CallR X (.builtin "isinstance") (fun xs H Q => ∃ (x : V) (a b : String) (r : Bool), xs = [x, .ty b] ∧ TyOf K H x (.type a) ∧ kitB a b = some r ∧ Q (.bl r) H) := by
  subst hK
  intro pins s σ H xs us Q I r ⟨x, a, b, c, e, h1, h2, q⟩
  exact call_isi pins s σ H xs us Q I r ⟨x, .ty b, .type a, .type b, c, e, .ty b, .base h1, kit_ty h2, q⟩
end
end Z
namespace Z
open PySem L2 PySem.Spec PyProof.Rows
open Rep (rep)
section
variable {α : Type}
/-- the first place of an item -/
def fidx [DecidableEq α] (y : α) : List α → Option Nat
  | [] => none
  | x :: xs => if x = y then some 0 else (fidx y xs).map (· + 1)
def idxR [DecidableEq α] (xs : List α) (y : α) : R Int := ofO ((fidx y xs).map fun j => ((j : Nat) : Int))
theorem fidx_spec [DecidableEq α] {y : α} : ∀ {xs : List α} {j : Nat}, fidx y xs = some j → xs[j]? = some y ∧ ∀ m z, m < j → xs[m]? = some z → z ≠ y
  | [], j, h => nomatch h
  | x :: xs, j, h => by
    unfold fidx at h
    by_cases e : x = y
    · rw [if_pos e] at h
      cases h
      subst e
      exact ⟨rfl, fun m z hm => absurd hm (Nat.not_lt_zero _)⟩
    · rw [if_neg e] at h
      cases q : fidx y xs with
      | none => rw [q] at h; cases h
      | some k =>
        rw [q] at h
        cases h
        obtain ⟨h1, h2⟩ := fidx_spec q
        refine ⟨by simpa using h1, fun m z hm hz => ?_⟩
        cases m with
        | zero =>
          simp at hz
          subst hz
          exact e
        | succ m => exact h2 m z (Nat.lt_of_succ_lt_succ hm) (by simpa using hz)
variable {δ : Type} {P : δ → Prop} {E : Exn → Prop}
theorem pb_idx [DecidableEq α] {xs : List α} {y : α} {f : Int → R δ} (h : Post (idxR xs y >>= f) P E) : ∃ j : Nat, fidx y xs = some j ∧ Post (f (j : Int)) P E := by
  unfold idxR at h
  cases q : fidx y xs with
  | none => rw [q] at h; exact (show False from h).elim
  | some j => rw [q] at h; exact ⟨j, rfl, h⟩
end
section
variable {X : Cx} {K : Fg} {F H : Hp}
theorem A2.strs {vs : List V} {xs : List Str} (h : A2 (rep K H) vs xs) : vs = xs.map V.str := by
  induction h with
  | nil => rfl
  | cons a _ ih =>
    have a' : _ = V.str _ := a
    rw [a', ih]
    rfl
theorem bools_q {a : Addr} {vs : List V} {xs : List Bool} (q : SqL K H a vs) (h : A2 (rep K F) vs xs) : SqL K H a (xs.map V.bl) := h.bools ▸ q
theorem strs_q {a : Addr} {vs : List V} {xs : List Str} (q : SqL K H a vs) (h : A2 (rep K F) vs xs) : SqL K H a (xs.map V.str) := h.strs ▸ q
theorem mt_indexS (hK : X.K = K) : MtR X "list.index" (fun x xs H Q => ∃ (a : Addr) (ys : List Str) (y : Str) (j : Nat), x = V.ref a ∧ xs = [.str y] ∧ SqL K H a (ys.map V.str) ∧ fidx y ys = some j ∧ Q (.int (j : Int)) H) := by
  subst hK
  intro pins s σ H x xs v us Q I rx rxs ⟨a, ys, y, j, e1, e2, hs, hj, q⟩
  obtain ⟨h1, h2⟩ := fidx_spec hj
  refine mt_index pins s σ H x xs v us Q I rx rxs ⟨a, _, .str y, j, .str y, e1, e2, hs, rfl, ?_, ?_, ?_, fun m z hm hz => ?_, q⟩
  · rw [List.all_eq_true]
    intro z hz
    obtain ⟨t, _, rfl⟩ := List.mem_map.mp hz
    rfl
  · rw [List.getElem?_map, h1]
    rfl
  · show (y == y) = true
    simp
  · rw [List.getElem?_map] at hz
    cases e : ys[m]? with
    | none => rw [e] at hz; cases hz
    | some t =>
      rw [e] at hz
      cases hz
      have := h2 m t hm e
      show (t == y) = false
      simpa using this
theorem mt_indexI (hK : X.K = K) : MtR X "list.index" (fun x xs H Q => ∃ (a : Addr) (ys : List Int) (y : Int) (j : Nat), x = V.ref a ∧ xs = [.int y] ∧ SqL K H a (ys.map V.int) ∧ fidx y ys = some j ∧ Q (.int (j : Int)) H) := by
  subst hK
  intro pins s σ H x xs v us Q I rx rxs ⟨a, ys, y, j, e1, e2, hs, hj, q⟩
  obtain ⟨h1, h2⟩ := fidx_spec hj
  refine mt_index pins s σ H x xs v us Q I rx rxs ⟨a, _, .int y, j, .int y, e1, e2, hs, rfl, ?_, ?_, ?_, fun m z hm hz => ?_, q⟩
  · rw [List.all_eq_true]
    intro z hz
    obtain ⟨t, _, rfl⟩ := List.mem_map.mp hz
    rfl
  · rw [List.getElem?_map, h1]
    rfl
  · show (y == y) = true
    simp
  · rw [List.getElem?_map] at hz
    cases e : ys[m]? with
    | none => rw [e] at hz; cases hz
    | some t =>
      rw [e] at hz
      cases hz
      have := h2 m t hm e
      show (t == y) = false
      simpa using this
theorem cr_allK (hK : X.K = K) (hc : X.calm = true) : CallR X (.builtin "all") (rAll K) := hK ▸ cr_all hc
theorem cr_anyK (hK : X.K = K) (hc : X.calm = true) : CallR X (.builtin "any") (rAny K) := hK ▸ cr_any hc
end
end Z
namespace HT
open PySem PySem.Spec PyProof.Rows
section
variable {prog : Program} {w : World} {A : Around} {E : Value → Shared → Prop} {s : Shared}
/-- t[::-1] of a tuple of two -/
theorem zrev_two {t sl : Addr} {x y vs : Value} {Q : Value → Shared → Prop} (ht : IsTup s.heap t #[x, y]) (hs : s.heap.IsSliceOf sl .none .none vs) (pl : IsPart .none none) (ps : IsPart vs (some (-1)))
    (h : Q (.ref s.heap.objs.size) { s with heap := s.heap.push { cls := .type "tuple", data := .seq #[y, x] } }) : wpAny (model prog w) A (getItem (.ref t) (.ref sl)) Q E s := by
  have htake : sizeOk (.seq #[y, x]) := by
    show 2 ≤ sizeLine
    decide
  obtain ⟨os, hos, hcs, hds⟩ := id hs
  have hTs : s.TypeIs (.ref sl) "slice" := ⟨os, hos, hcs⟩
  unfold getItem
  try with_reducible refine wpAny_holding ?_
  first | refine wpAny_bind (wpAny_pure ?_) | skip
  refine wpAny_bind (wpAny_sequenceKey ht.typeIs (by decide) ?_)
  refine wpAny_bind (wpAny_callSpecial?_slot (name := Str.ofString "__getitem__") ht.typeIs PyProof.Rows.slot_tuple_getitem
    (wpAny_call_entry PyProof.Rows.slot_tuple_getitem ht.typeIs entry_tuple_getitem ?_ (args_tuple_getitem _ _)))
  show wpAny _ _ (Builtin.Tuple.tupleItemsOf (.ref t) >>= _) _ _ s
  refine wpAny_bind (tupleItemsOf_ ht ?_)
  refine wpAny_bind (wpAny_typeOf hTs ?_)
  rw [if_pos (by decide)]
  have key : ∀ {A' : Around} {E' : Value → Shared → Prop} {R : Int × Int × Nat → Shared → Prop}, R ((1 : Int), -1, 2) s → wpAny (model prog w) A' (Builtin.Slice.sliceApplied (.ref sl) (pure (2 : Int))) R E' s := by
    intro A' E' R hR
    unfold Builtin.Slice.sliceApplied Builtin.Slice.sliceFields
    refine wpAny_bind (wpAny_bind (wpAny_field hos hds (x := .none) rfl (wpAny_bind (wpAny_field hos hds (x := .none) rfl (wpAny_bind (wpAny_field hos hds (x := vs) rfl (wpAny_pure ?_)))))))
    refine wpAny_bind (slicePart_ ps ?_)
    show wpAny _ _ (if ((-1 : Int) == 0) = true then _ else _) _ _ s
    rw [if_neg (by decide)]
    refine wpAny_bind (slicePart_ pl (wpAny_bind (slicePart_ pl (wpAny_bind (wpAny_pure ?_)))))
    show wpAny _ _ (match Builtin.Slice.sliceAdjust none none (-1) (2 : Int) with | (lo, hi) => pure (lo, (-1 : Int), Builtin.Slice.slicePlaces lo hi (-1))) _ _ s
    exact wpAny_pure hR
  refine wpAny_bind (key ?_)
  show wpAny _ _ (if ((1 : Int) == 0 && (-1 : Int) == 1 && (2 : Nat) == 2) = true then _ else _) _ _ s
  rw [if_neg (by decide)]
  first
    | exact wpAny_bind (m := Builtin.Tuple.tupleExact _) (wpAny_newObj_type (wpAny_pure ⟨_, rfl, wpAny_pure h⟩) htake)
    | exact wpAny_bind (m := Builtin.Tuple.tupleExact _) (wpAny_newObj_type (wpAny_bind (wpAny_pure (wpAny_pure ⟨_, rfl, wpAny_pure h⟩))) htake)
    | exact wpAny_bind (wpAny_bind (m := Builtin.Tuple.tupleExact _) (wpAny_newObj_type (wpAny_pure (wpAny_pure ⟨_, rfl, wpAny_pure h⟩)) htake))
    | exact wpAny_bind (wpAny_bind (m := Builtin.Tuple.tupleExact _) (wpAny_newObj_type (wpAny_pure ⟨_, rfl, wpAny_pure h⟩) htake))
end
end HT
namespace Z
open PySem L2 PySem.Spec PyProof.Rows
open Rep (rep)
section
variable {X : Cx} {K : Fg} {F H : Hp}
def tRev2 (te : TE) : TE := fun σ H Q => te σ H fun x H1 => ∃ a u w, x = .ref a ∧ H1 a = some (.tup [u, w]) ∧ ∀ p, H1 p = none → Q (.ref p) (upd H1 p (.tup [w, u]))
theorem pe_rev2 {e : Expr} {te : TE} {k : Nat} {p1 p2 p3 pos : Pos} (he : PE X e te) : PE X (.Subscript e (.Slice none none (some (.UnaryOp .USub (.Constant (.int 1) k p1) p2)) p3) pos) (tRev2 te) := by
  refine ⟨fun pins s σ H Q I h => ?_⟩
  refine Subscript_ (thn (he.run pins s σ H _ I h) fun v s1 ⟨x, H1, I1, r1, q1⟩ => ?_)
  obtain ⟨a, c, d, ex, hx, q⟩ := q1
  subst ex
  cases r1
  have hst : PO X (some (.UnaryOp .USub (.Constant (.int 1) k p1) p2)) (tPart (tUn (rU fun i => .int (-i)) (tC (.int 1)))) := po_some (pe_un un_neg pe_int)
  refine wpAny_Slice (thn (po_none.run pins s1 σ H1 (fun o H2 => o = none ∧ H2 = H1) I1 ⟨rfl, rfl⟩) fun vl s2 ⟨l, H2, I2, pl, el, e2⟩ => ?_)
  subst el e2
  refine thn (po_none.run pins s2 σ H2 (fun o H3 => o = none ∧ H3 = H2) I2 ⟨rfl, rfl⟩) fun vu s3 ⟨u, H3, I3, pu, eu, e3⟩ => ?_
  subst eu e3
  refine thn (hst.run pins s3 σ H3 (fun o H4 => o = some (-1) ∧ H4 = H3) I3 ⟨1, rfl, -1, rfl, rfl, rfl⟩) fun vs s4 ⟨o, H4, I4, ps, eo, e4⟩ => ?_
  subst eo e4
  have I5 : Inv X pins σ H4 { s4 with heap := s4.heap.push { cls := .type "slice", data := .fields #[vl, vu, vs] } } := I4.kept (t' := s4.toks) fun b ob q => Heap.get?_push_of_some _ q
  obtain ⟨its, r, ht, hz⟩ := I5.tuple (SqT.of hx)
  cases r with
  | cons r1 r' =>
    rename_i uu us
    cases r' with
    | cons r2 r'' =>
      rename_i ww ws
      cases r''
      cases pl
      cases pu
      show wpAny (model X.prog X.w) X.A (subscriptTail e (.Slice none none (some (.UnaryOp .USub (.Constant (.int 1) k p1) p2)) p3) (.ref a) (.ref s4.heap.objs.size)) (EP X pins σ Q) X.xe { s4 with heap := s4.heap.push { cls := .type "slice", data := .fields #[.none, .none, vs] } }
      refine tail_any (ops := [.ref a, .ref s4.heap.objs.size]) ht.typeIs (PyProof.Rows.slot_tuple_getitem.lookup) ?_ (by with_unfolding_all rfl)
      refine HT.zrev_two ht (Heap.IsSliceOf.new _ .none .none vs) .none ps ?_
      exact ⟨.ref _, _, I5.laid (t' := s4.toks) (o := .tup [d, c]) (fun b ob q => Heap.get?_push_of_some _ q) (Nat.le_refl _) ⟨by show 2 ≤ sizeLine; decide, [ww, uu], .cons r2 (.cons r1 .nil), IsTup.new _ _⟩, rfl, q _ (I5.hok.fresh (Nat.le_refl _))⟩
/-- two things turned about -/
def rev2 {α : Type} (xs : List α) : R (List α) := match xs with
  | [x, y] => .ok [y, x]
  | _ => .bad
theorem pb_rev2 {α δ : Type} {xs : List α} {f : List α → R δ} {P : δ → Prop} {E : Exn → Prop} (h : Post (rev2 xs >>= f) P E) : ∃ x y, xs = [x, y] ∧ Post (f [y, x]) P E := by
  cases xs with
  | nil => exact (show False from h).elim
  | cons x xs =>
    cases xs with
    | nil => exact (show False from h).elim
    | cons y xs =>
      cases xs with
      | nil => exact ⟨x, y, rfl, h⟩
      | cons z xs => exact (show False from h).elim
theorem A2.two {α : Type} {r : V → α → Prop} {vs : List V} {x y : α} (h : A2 r vs [x, y]) : ∃ u w, vs = [u, w] ∧ r u x ∧ r w y := by
  cases h with
  | cons a t =>
    cases t with
    | cons b t =>
      cases t
      exact ⟨_, _, rfl, a, b⟩
/-- xs * k -/
def repL {α : Type} (xs : List α) (k : Int) : List α := (List.replicate k.toNat xs).flatten
@[irreducible] def repR {α : Type} (xs : List α) (k : Int) : R (List α) := if -(2 ^ 62) ≤ k ∧ k < 2 ^ 62 ∧ xs.length * k.toNat < 100000 then .ok (repL xs k) else .bad
theorem pb_rep {α δ : Type} {xs : List α} {k : Int} {f : List α → R δ} {P : δ → Prop} {E : Exn → Prop} (h : Post (repR xs k >>= f) P E) : ∃ ys, (-(2 ^ 63) ≤ k ∧ k < 2 ^ 63 ∧ xs.length * k.toNat ≤ sizeLine) ∧ ys = repL xs k ∧ Post (f ys) P E := by
  unfold repR at h
  obtain ⟨⟨a, b, c⟩, d⟩ := pb_if h
  exact ⟨_, ⟨by omega, by omega, Nat.le_of_lt (Nat.lt_of_lt_of_le c line5)⟩, rfl, d⟩
theorem A2.flat {α : Type} {r : V → α → Prop} {vs : List V} {xs : List α} (h : A2 r vs xs) (n : Nat) : A2 r (List.replicate n vs).flatten (List.replicate n xs).flatten := by
  induction n with
  | zero => exact .nil
  | succ n ih =>
    rw [List.replicate_succ, List.replicate_succ, List.flatten_cons, List.flatten_cons]
    exact h.append ih
/-! ### None -/
class NonN (α : Type) extends Rep α where
  no : ∀ {K : Fg} {H : Hp} {v : V} {x : α}, rep K H v x → v ≠ .non
instance : NonN Int := ⟨fun h e => by have h' : _ = V.int _ := h; rw [h'] at e; cases e⟩
instance : NonN Bool := ⟨fun h e => by have h' : _ = V.bl _ := h; rw [h'] at e; cases e⟩
instance {α β : Type} [Rep α] [Rep β] : NonN (α × β) := ⟨fun {K H v x} h q => by
  obtain ⟨a, u, w, e, _⟩ := h
  rw [e] at q
  cases q⟩
instance {α : Type} [Rep α] : NonN (List α) := ⟨fun {K H v x} h q => by
  obtain ⟨a, u, e, _⟩ := h
  rw [e] at q
  cases q⟩
instance {α : Type} [Rep α] : NonN (Tup α) := ⟨fun {K H v x} h q => by
  obtain ⟨a, u, e, _⟩ := h
  rw [e] at q
  cases q⟩
theorem isN_eq {α : Type} [NonN α] {v : V} {o : Option α} (h : rep K F v o) : decide (v = .non) = o.isNone := by
  cases o with
  | none =>
    have h' : v = V.non := h
    rw [h']
    rfl
  | some x => exact decide_eq_false (NonN.no (α := α) h)
theorem op_isN2 : OpR X (compareOp .Is) (fun x y H Q => y = V.non ∧ ∃ b, decide (x = .non) = b ∧ Q (.bl b) H) := by
  intro pins s σ H x y v u Q I rx ry ⟨e, b, hb, q⟩
  exact op_isN pins s σ H x y v u Q I rx ry ⟨e, by rw [hb]; exact q⟩
theorem op_notN2 : OpR X (compareOp .IsNot) (fun x y H Q => y = V.non ∧ ∃ b, decide (x = .non) = b ∧ Q (.bl (!b)) H) := by
  intro pins s σ H x y v u Q I rx ry ⟨e, b, hb, q⟩
  exact op_notN pins s σ H x y v u Q I rx ry ⟨e, by rw [hb]; exact q⟩
instance datOptBool : Dat (Option Bool) where
  toD := fun x => match x with
    | none => .none
    | some i => .bool i
  dmax := 0
  dp := fun {K H v x} h => by
    cases x with
    | none =>
      have h' : v = V.non := h
      subst h'
      exact .non
    | some i =>
      have h' : v = V.bl i := h
      subst h'
      exact .bl _
  lay := fun x => by cases x <;> simp only [PyData.canLay0]
  dep := fun x => by cases x <;> simp only [PyData.depth, Nat.le_refl]
  eqv := fun x y => by cases x <;> cases y <;> simp [PyData.eqv]
end
end Z
/-! Z4: statements never reached, tuples into the frozen part, pairs sorted, dicts of scalars, list(range), pop -/
namespace Z
open PySem L2
open Rep (rep)
section
variable {X : Cx}
theorem ps_absurd {st : Stmt} : PS X st (fun _ _ _ => False) := ⟨fun _ _ _ _ _ _ h => h.elim⟩
theorem stepAnd {t u : TT} {σ : L2.St} {H : Hp} {Q : Bool → Hp → Prop} (h : t σ H fun c H1 => if c = true then u σ H1 Q else Q false H1) : tAnd t u σ H Q := h
theorem stepOr {t u : TT} {σ : L2.St} {H : Hp} {Q : Bool → Hp → Prop} (h : t σ H fun c H1 => if c = true then Q true H1 else u σ H1 Q) : tOr t u σ H Q := h
theorem stepNot {t : TT} {σ : L2.St} {H : Hp} {Q : Bool → Hp → Prop} (h : t σ H fun c H1 => Q (!c) H1) : tNot t σ H Q := h
/-- every tuple there is may be read -/
def tupF (F H : Hp) : Hp := fun b => match F b with
  | some u => some u
  | none => match H b with
    | some (.tup vs) => some (.tup vs)
    | _ => none
theorem tupF_some {F H : Hp} {b : Addr} {u : HO} (e : F b = some u) : tupF F H b = some u := by
  unfold tupF
  rw [e]
theorem tupF_none {F H : Hp} {b : Addr} {u : HO} (e : F b = none) (h : tupF F H b = some u) : H b = some u ∧ ∃ vs, u = .tup vs := by
  unfold tupF at h
  rw [e] at h
  dsimp only at h
  split at h
  · rename_i vs e'
    cases h
    exact ⟨e', _, rfl⟩
  · cases h
theorem tupF_tup {F H : Hp} {b : Addr} {vs : List V} (e : F b = none) (h : H b = some (.tup vs)) : tupF F H b = some (.tup vs) := by
  unfold tupF
  rw [e, h]
theorem W.tups {F H : Hp} {os : List (Addr × HO)} (w : W F H os) : ∃ F', Same F F' ∧ W F' H os ∧ ∀ b vs, H b = some (.tup vs) → F' b = some (.tup vs) := by
  refine ⟨tupF F H, fun b u e => tupF_some e, ⟨fun b u e => ?_, fun p hp => ?_, w.nd, w.nt⟩, fun b vs e => ?_⟩
  · cases q : F b with
    | some u' =>
      rw [tupF_some q] at e
      cases e
      exact w.same b _ q
    | none => exact (tupF_none q e).1
  · obtain ⟨h1, h2⟩ := w.own p hp
    refine ⟨h1, ?_⟩
    cases q : tupF F H p.1 with
    | none => rfl
    | some u =>
      obtain ⟨k, vs, rfl⟩ := tupF_none h2 q
      rw [h1] at k
      exact absurd (Option.some.inj k) (w.nt p hp vs)
  · cases q : F b with
    | some u' =>
      have := w.same b _ q
      rw [e] at this
      cases this
      exact tupF_some q
    | none => exact tupF_tup q e
/-! ### sorted, of pairs -/
def leP (p q : Int × Int) : Bool := decide (p.1 < q.1 ∨ (p.1 = q.1 ∧ p.2 ≤ q.2))
def sortP (xs : List (Int × Int)) : List (Int × Int) := xs.mergeSort leP
theorem sortP_perm (xs : List (Int × Int)) : (sortP xs).Perm xs := List.mergeSort_perm xs _
theorem sortP_sorted (xs : List (Int × Int)) : (sortP xs).Pairwise fun p q => leP p q = true := by
  refine List.pairwise_mergeSort (le := leP) (fun a b c h1 h2 => ?_) (fun a b => ?_) xs
  · unfold leP at *
    simp only [decide_eq_true_eq] at *
    omega
  · unfold leP
    simp only [Bool.or_eq_true, decide_eq_true_eq]
    omega
theorem sortP_uniq {xs ys : List (Int × Int)} (h : xs.Perm ys) (hx : xs.Pairwise fun p q => leP p q = true) (hy : ys.Pairwise fun p q => leP p q = true) : xs = ys := by
  induction xs generalizing ys with
  | nil => exact (List.nil_perm.mp h).symm
  | cons x xs ih =>
    cases ys with
    | nil => exact absurd h.length_eq (by simp)
    | cons y ys =>
      rw [List.pairwise_cons] at hx hy
      have e : x = y := by
        have h1 : y ∈ x :: xs := h.mem_iff.mpr List.mem_cons_self
        have h2 : x ∈ y :: ys := h.mem_iff.mp List.mem_cons_self
        rcases List.mem_cons.mp h1 with e | h1
        · exact e.symm
        · rcases List.mem_cons.mp h2 with e | h2
          · exact e
          · have a := hx.1 y h1
            have b := hy.1 x h2
            unfold leP at a b
            simp only [decide_eq_true_eq] at a b
            exact Prod.ext (by omega) (by omega)
      subst e
      rw [ih h.cons_inv hx.2 hy.2]
theorem sortP_eq {xs ys : List (Int × Int)} (h : ys.Perm xs) (hy : ys.Pairwise fun p q => leP p q = true) : ys = sortP xs := sortP_uniq (h.trans (sortP_perm xs).symm) hy (sortP_sorted xs)
/-- which pair stands at a reference -/
def keyP (H : Hp) (v : V) : Int × Int := match v with
  | .ref t => match H t with
    | some (.tup [.int i, .int j]) => (i, j)
    | _ => (0, 0)
  | _ => (0, 0)
theorem keyP_of {K : Fg} {F H : Hp} {v : V} {x : Int × Int} (s : Same F H) (r : rep K F v x) : ∃ t, v = .ref t ∧ F t = some (.tup [.int x.1, .int x.2]) ∧ keyP H v = x := by
  obtain ⟨t, u, z, rfl, q, r1, r2⟩ := r
  obtain rfl : u = V.int x.1 := r1
  obtain rfl : z = V.int x.2 := r2
  refine ⟨t, rfl, q, ?_⟩
  have h := s _ _ q
  unfold keyP
  dsimp only
  rw [h]
theorem keyP_all {K : Fg} {F H : Hp} {vs : List V} {xs : List (Int × Int)} (s : Same F H) (h : A2 (rep K F) vs xs) : xs = vs.map (keyP H) ∧ ∀ v ∈ vs, ∃ t, v = .ref t ∧ F t = some (.tup [.int (keyP H v).1, .int (keyP H v).2]) := by
  induction h with
  | nil => exact ⟨rfl, fun _ z => nomatch z⟩
  | cons a b ih =>
    obtain ⟨t, e, q, k⟩ := keyP_of s a
    refine ⟨by rw [List.map_cons, k, ← ih.1], fun v hv => ?_⟩
    rcases List.mem_cons.mp hv with rfl | hv
    · exact ⟨t, e, by rw [k]; exact q⟩
    · exact ih.2 v hv
theorem rep_keys {K : Fg} {F H : Hp} : ∀ {ys : List V}, (∀ v ∈ ys, ∃ t, v = V.ref t ∧ F t = some (.tup [.int (keyP H v).1, .int (keyP H v).2])) → A2 (rep K F) ys (ys.map (keyP H))
  | [], _ => .nil
  | v :: ys, h => by
    obtain ⟨t, e, q⟩ := h v List.mem_cons_self
    refine .cons ?_ (rep_keys fun y hy => h y (List.mem_cons_of_mem _ hy))
    subst e
    exact ⟨t, _, _, rfl, q, rfl, rfl⟩
theorem cr_sortP {K : Fg} (hK : X.K = K) : CallR X (.builtin "sorted") (fun vs H Q => ∃ (a : Addr) (us : List V) (F : Hp) (xs : List (Int × Int)), vs = [V.ref a] ∧ SqL K H a us ∧ Same F H ∧ A2 (rep K F) us xs ∧
    ∀ p ys, H p = none → A2 (rep K F) ys (sortP xs) → Q (.ref p) (upd H p (.lst ys))) := by
  subst hK
  intro pins s σ H vs us Q I r h
  obtain ⟨a, us', F, xs, rfl, hs, sF, hA, q⟩ := h
  obtain ⟨e1, e2⟩ := keyP_all sF hA
  refine cr_sortedPO pins s σ H _ us Q I r ⟨a, us', keyP H, rfl, hs, fun x hx => ?_, fun ys p h1 h2 hp => q p ys hp ?_⟩
  · obtain ⟨t, e, k⟩ := e2 x hx
    exact ⟨t, e, sF _ _ k⟩
  · have e : ys.map (keyP H) = sortP xs := by
      refine sortP_eq ?_ ?_
      · rw [e1]
        exact h2.perm.map _
      · rw [List.pairwise_map]
        refine h1.imp fun {x y} h => ?_
        have h := SrtO.lexB_no.mp h
        unfold leP
        rw [decide_eq_true_eq]
        omega
    rw [← e]
    exact rep_keys fun v hv => e2 v (h2.perm.mem_iff.mp hv)
end
/-! ### dicts of scalars -/
section
variable {κ β γ δ : Type} [DecidableEq κ]
def mput (m : List (κ × β)) (k : κ) (v : β) : List (κ × β) := if (m.any fun p => decide (p.1 = k)) = true then m.map (fun p => if p.1 = k then (p.1, v) else p) else m ++ [(k, v)]
def mhas (m : List (κ × β)) (k : κ) : Bool := m.any fun p => decide (p.1 = k)
def mget (m : List (κ × β)) (k : κ) : Option β := (m.find? fun p => decide (p.1 = k)).map (·.2)
def mputR (m : List (κ × β)) (k : κ) (v : β) : R (List (κ × β)) := if m.length < 100000 then .ok (mput m k v) else .bad
def mgetR (m : List (κ × β)) (k : κ) : R β := ofO (mget m k)
/-- as the dict stands -/
def encM (e : κ → γ) (ev : β → V) (m : List (κ × β)) : List (γ × V) := m.map fun p => (e p.1, ev p.2)
variable [DecidableEq γ] {e : κ → γ} {ev : β → V}
theorem any_enc (he : ∀ a b, e a = e b → a = b) (m : List (κ × β)) (k : κ) : ((encM e ev m).any fun p => decide (p.1 = e k)) = m.any fun p => decide (p.1 = k) := by
  unfold encM
  rw [List.any_map]
  congr 1
  funext p
  show decide (e p.1 = e k) = decide (p.1 = k)
  by_cases h : p.1 = k
  · rw [h]; simp
  · rw [decide_eq_false h, decide_eq_false fun z => h (he _ _ z)]
theorem put_enc (he : ∀ a b, e a = e b → a = b) (m : List (κ × β)) (k : κ) (v : β) : putK (encM e ev m) (e k) (ev v) = encM e ev (mput m k v) := by
  unfold putK mput
  rw [any_enc he]
  by_cases h : (m.any fun p => decide (p.1 = k)) = true
  · rw [if_pos h, if_pos h]
    unfold encM
    rw [List.map_map, List.map_map]
    refine List.map_congr_left fun p _ => ?_
    show (if e p.1 = e k then (e p.1, ev v) else (e p.1, ev p.2)) = (fun q : κ × β => (e q.1, ev q.2)) (if p.1 = k then (p.1, v) else p)
    by_cases h : p.1 = k
    · rw [if_pos h, if_pos (congrArg e h)]
    · rw [if_neg h, if_neg fun z => h (he _ _ z)]
  · rw [if_neg h, if_neg h]
    unfold encM
    rw [List.map_append]
    rfl
theorem val_enc (he : ∀ a b, e a = e b → a = b) (k : κ) : ∀ m : List (κ × β), valV (encM e ev m) (e k) = (mget m k).map ev
  | [] => rfl
  | p :: m => by
    show valV ((e p.1, ev p.2) :: encM e ev m) (e k) = _
    unfold mget
    by_cases h : p.1 = k
    · rw [valV_pos (congrArg e h), List.find?_cons_of_pos (by simpa using h)]
      rfl
    · rw [valV_neg (fun z => h (he _ _ z)), List.find?_cons_of_neg (by simpa using h), val_enc he k m]
      rfl
theorem has_enc (he : ∀ a b, e a = e b → a = b) (m : List (κ × β)) (k : κ) : (valV (encM e ev m) (e k)).isSome = mhas m k := by
  rw [← valV_any, any_enc he]
  rfl
theorem enc_length (m : List (κ × β)) : (encM e ev m).length = m.length := List.length_map _
end
abbrev kI : Int → Key := .inl
theorem kI_inj : ∀ a b, kI a = kI b → a = b := fun _ _ h => Sum.inl.inj h
def kP (p : Int × Int) : List Key := [.inl p.1, .inl p.2]
theorem kP_inj : ∀ a b, kP a = kP b → a = b := fun a b h => by
  unfold kP at h
  injection h with h1 h2
  injection h2 with h2 _
  exact Prod.ext (Sum.inl.inj h1) (Sum.inl.inj h2)
section
variable {β : Type} {ev : β → V} {H : Hp} {a b : Addr}
theorem dget_k {m : List (Int × β)} {k : Int} (e : H a = some (.dK (encM kI ev m))) : DGet H a (.int k) ((mget m k).map ev) := by
  rw [← val_enc kI_inj]
  exact DGet.k (k := kI k) e
theorem dget_p {m : List ((Int × Int) × β)} {k : Int × Int} (e : H a = some (.dT (encM kP ev m))) (eb : H b = some (.tup [.int k.1, .int k.2])) : DGet H a (.ref b) ((mget m k).map ev) := by
  rw [← val_enc kP_inj]
  exact DGet.t (k := kP k) e eb
theorem get_has {κ : Type} [DecidableEq κ] (m : List (κ × β)) (k : κ) (f : β → V) : ((mget m k).map f).isSome = mhas m k := by
  rw [Option.isSome_map]
  unfold mget mhas
  rw [Option.isSome_map, List.isSome_find?]
theorem dput_k {m : List (Int × β)} {k : Int} {v : β} (e : H a = some (.dK (encM kI ev m))) (hl : m.length < sizeLine) : DPut H a (.int k) (ev v) (upd H a (.dK (encM kI ev (mput m k v)))) := by
  rw [← put_enc kI_inj]
  exact DPut.k (k := kI k) e (by rw [enc_length]; exact hl)
theorem dput_p {m : List ((Int × Int) × β)} {k : Int × Int} {v : β} (e : H a = some (.dT (encM kP ev m))) (eb : H b = some (.tup [.int k.1, .int k.2])) (hl : m.length < sizeLine) : DPut H a (.ref b) (ev v) (upd H a (.dT (encM kP ev (mput m k v)))) := by
  rw [← put_enc kP_inj]
  exact DPut.t (k := kP k) e eb (by rw [enc_length]; exact hl)
end
/-- the keys of a dict, as tuples that may be read -/
theorem keys_rep {β : Type} {ev : β → V} {K : Fg} {F H : Hp} (hF : ∀ b vs, H b = some (.tup vs) → F b = some (.tup vs)) : ∀ {m : List ((Int × Int) × β)} {bs : List Addr}, IsKeys H (encM kP ev m) bs → A2 (rep K F) (bs.map V.ref) (m.map (·.1))
  | [], [], _ => .nil
  | [], _ :: _, h => nomatch h
  | _ :: _, [], h => nomatch h
  | p :: m, b :: bs, .cons h1 h2 => .cons ⟨b, _, _, rfl, hF _ _ h1, rfl, rfl⟩ (keys_rep hF h2)
theorem pn_mput {κ β δ : Type} [DecidableEq κ] {m : List (κ × β)} {k : κ} {v : β} {f : List (κ × β) → R δ} {P : δ → Prop} {E : Exn → Prop} (h : Post (mputR m k v >>= f) P E) : ∃ m', m.length < sizeLine ∧ m' = mput m k v ∧ Post (f m') P E := by
  unfold mputR at h
  by_cases hl : m.length < 100000
  · rw [if_pos hl] at h
    exact ⟨_, Nat.lt_of_lt_of_le hl line5, rfl, h⟩
  · rw [if_neg hl] at h
    exact (show False from h).elim
/-! ### list(range(n)) -/
@[irreducible] def listRng (i j : Int) : R (List Int) := if -(2 ^ 62) ≤ i ∧ i < 2 ^ 62 ∧ -(2 ^ 62) ≤ j ∧ j < 2 ^ 62 ∧ (j - i).toNat ≤ 100000 then .ok (rng i j) else .bad
theorem rgV_eq (i j : Int) : rgV i j = (rng i j).map V.int := by
  unfold rgV rng
  rw [List.map_map]
  rfl
theorem pb_lrng {δ : Type} {i j : Int} {f : List Int → R δ} {P : δ → Prop} {E : Exn → Prop} (h : Post (listRng i j >>= f) P E) : ∃ l, RgOk i j ∧ l = rng i j ∧ Post (f l) P E := by
  unfold listRng at h
  by_cases hl : -(2 ^ 62) ≤ i ∧ i < 2 ^ 62 ∧ -(2 ^ 62) ≤ j ∧ j < 2 ^ 62 ∧ (j - i).toNat ≤ 100000
  · rw [if_pos hl] at h
    obtain ⟨a, b, c, d, e⟩ := hl
    exact ⟨_, ⟨a, b, c, d, by omega⟩, rfl, h⟩
  · rw [if_neg hl] at h
    exact (show False from h).elim
/-! ### a list of perhaps nothing, where nothing is nothing -/
def allS {α : Type} : List (Option α) → R (List α)
  | [] => .ok []
  | none :: _ => .bad
  | some x :: xs => allS xs >>= fun ys => .ok (x :: ys)
theorem allS_iff {α : Type} : ∀ {xs : List (Option α)} {ys : List α}, allS xs = R.ok ys ↔ xs = ys.map some
  | [], ys => by
    constructor
    · intro h; cases h; rfl
    · intro h
      cases ys with
      | nil => rfl
      | cons => cases h
  | none :: xs, ys => by
    constructor
    · intro h; cases h
    · intro h
      cases ys <;> cases h
  | some x :: xs, ys => by
    constructor
    · intro h
      obtain ⟨zs, e, h⟩ := bind_ok_iff.mp h
      cases h
      rw [allS_iff.mp e]
      rfl
    · intro h
      cases ys with
      | nil => cases h
      | cons y ys =>
        rw [List.map_cons] at h
        injection h with h1 h2
        cases h1
        show (allS xs >>= fun ys => R.ok (x :: ys)) = _
        rw [allS_iff.mpr h2]
        rfl
theorem pb_allS {α δ : Type} {xs : List (Option α)} {f : List α → R δ} {P : δ → Prop} {E : Exn → Prop} (h : Post (allS xs >>= f) P E) : ∃ ys, xs = ys.map some ∧ Post (f ys) P E := by
  cases e : allS xs with
  | ok ys =>
    rw [e] at h
    exact ⟨ys, allS_iff.mp e, h⟩
  | exc x =>
    rw [e] at h
    exfalso
    clear h
    induction xs with
    | nil => cases e
    | cons x xs ih =>
      cases x with
      | none => cases e
      | some x =>
        have e' : (allS xs >>= fun ys => R.ok (x :: ys)) = R.exc _ := e
        cases e2 : allS xs with
        | ok y => rw [e2] at e'; cases e'
        | exc y => rw [e2] at e'; cases e'; exact ih e2
        | bad => rw [e2] at e'; cases e'
  | bad =>
    rw [e] at h
    exact (show False from h).elim
theorem A2.unsome {α : Type} [Rep α] {K : Fg} {F : Hp} : ∀ {vs : List V} {ys : List α}, A2 (rep K F) vs (ys.map some) → A2 (rep K F) vs ys
  | [], [], _ => .nil
  | _ :: _, [], h => nomatch h
  | [], _ :: _, h => nomatch h
  | _ :: _, _ :: _, .cons a b => .cons a (A2.unsome b)
/-! ### pop -/
@[irreducible] def popB {α : Type} (xs : List α) (i : Int) : R (α × List α) := if -(2 ^ 62) ≤ i ∧ i < 2 ^ 62 then popAt xs i else .bad
theorem pn_popB {α β : Type} {xs : List α} {i : Int} {f : α × List α → R β} {Q : β → Prop} {E : Exn → Prop} (h : Post (popB xs i >>= f) Q E) : ∃ j x ys, (-(2 ^ 63) ≤ i ∧ i < 2 ^ 63) ∧ ixN xs.length i = some j ∧ xs[j]? = some x ∧ ys = xs.eraseIdx j ∧ Post (f (x, ys)) Q E := by
  unfold popB at h
  by_cases hi : -(2 ^ 62) ≤ i ∧ i < 2 ^ 62
  · rw [if_pos hi] at h
    obtain ⟨j, x, ys, a, b, c, d⟩ := pn_popAt h
    exact ⟨j, x, ys, by omega, a, b, c, d⟩
  · rw [if_neg hi] at h
    exact (show False from h).elim
theorem pn_popI {α β : Type} {xs : List α} {f : α × List α → R β} {Q : β → Prop} {E : Exn → Prop} (h : Post (popI xs >>= f) Q E) : ∃ x ys, xs[xs.length - 1]? = some x ∧ ys = xs.dropLast ∧ Post (f (x, ys)) Q E := by
  unfold popI at h
  rw [List.getLast?_eq_getElem?] at h
  cases e : xs[xs.length - 1]? with
  | none =>
    rw [e] at h
    exact (show False from h).elim
  | some x =>
    rw [e] at h
    exact ⟨x, _, rfl, rfl, h⟩
theorem A2.lastV {α : Type} {r : V → α → Prop} {vs : List V} {xs : List α} {x : α} (h : A2 r vs xs) (e : xs[xs.length - 1]? = some x) : ∃ u, vs[vs.length - 1]? = some u ∧ r u x := by
  rw [h.length]
  exact h.get e
/-! ### in, of a dict of scalars -/
def tDInH (ty td : TE) : TE := fun σ H Q => ty σ H fun y H1 => td σ H1 fun x H2 => ∃ a o b, x = .ref a ∧ DGet H2 a y o ∧ o.isSome = b ∧ Q (.bl b) H2
def tDNotInH (ty td : TE) : TE := fun σ H Q => ty σ H fun y H1 => td σ H1 fun x H2 => ∃ a o b, x = .ref a ∧ DGet H2 a y o ∧ o.isSome = b ∧ Q (.bl (!b)) H2
section
variable {X : Cx} {o i : Expr} {td ty : TE}
theorem pc_dinH (hu : X.A.units + 1 < cLine) (hi : PE X i ty) (ho : PE X o td) : PC X .In i o (tDInH ty td) := by
  refine ⟨fun pins s σ H Q I h => ?_⟩
  refine thn (hi.run pins s σ H _ I h) fun iv s1 ⟨y, H1, I1, ry, q1⟩ => thn (ho.run pins s1 σ H1 _ I1 q1) fun u s2 ⟨x, H2, I2, rx, a, ov, b, ex, g, eb, q2⟩ => ?_
  subst ex
  subst eb
  obtain rfl : u = Value.ref a := rx
  exact d_in hu I2 g ry fun s3 I3 => ⟨.bl ov.isSome, H2, I3, rfl, q2⟩
theorem pc_dnotinH (hu : X.A.units + 1 < cLine) (hi : PE X i ty) (ho : PE X o td) : PC X .NotIn i o (tDNotInH ty td) := by
  refine ⟨fun pins s σ H Q I h => ?_⟩
  refine thn (hi.run pins s σ H _ I h) fun iv s1 ⟨y, H1, I1, ry, q1⟩ => thn (ho.run pins s1 σ H1 _ I1 q1) fun u s2 ⟨x, H2, I2, rx, a, ov, b, ex, g, eb, q2⟩ => ?_
  subst ex
  subst eb
  obtain rfl : u = Value.ref a := rx
  exact d_notIn hu I2 g ry fun s3 I3 => ⟨.bl (!ov.isSome), H2, I3, rfl, q2⟩
end
theorem Room.units1 {k : Nat} {A : Around} (r : Room k A) : A.units + 1 < cLine := by
  have := r.un
  omega
end Z
/-! ZX: an exception caught by its class, held behind the suite as a thing of its own -/
namespace L2
open PySem PySem.Spec PyProof.Rows
/-- a caught exception of the class cls at a -/
def ExH (cls : Value) (a : Addr) : HO := .ext fun h => ∃ (oe : Obj), h.get? a = some oe ∧ Zc cls none oe ∧ ∃ vs, oe.data = .fields vs
theorem exH_ok {P : Program} {w : World} {H : Hp} {h : Heap} {a : Addr} {cls : Value} {oe : Obj} (e : h.get? a = some oe) (z : Zc cls none oe) (d : ∃ vs, oe.data = .fields vs) : ObjOk P w H h a (ExH cls a) :=
  ⟨⟨oe, e, z, d⟩, ⟨oe, e⟩, fun _ _ ⟨o, q, r⟩ k => ⟨o, k o q, r⟩⟩
section
variable {X : Cx} {pins : List (Addr × Obj)} {σ : St} {H : Hp} {s : Shared}
/-- what is pinned, and new since the def began, may be tracked -/
theorem Inv.track {a : Addr} {oe : Obj} {cls : Value} (I : Inv X ((a, oe) :: pins) σ H s) (n0 : X.s_0.heap.get? a = none) (hz : Zc cls none oe) (hd : ∃ vs, oe.data = .fields vs) (hp : ∀ p ∈ X.pn ++ pins, p.1 ≠ a) : Inv X pins σ (upd H a (ExH cls a)) s := by
  obtain ⟨ha, na, nL, nF, _⟩ := I.pin (a, oe) (List.mem_append_right _ List.mem_cons_self)
  dsimp only at ha na nL nF
  have ne0 : ∀ b o, X.s_0.heap.get? b = some o → b ≠ a := fun b o e z => by
    rw [z, n0] at e
    cases e
  refine ⟨I.ok, I.os, I.bare, ⟨I.base.keep, I.base.slot, fun b o e n hq => ?_, I.base.there, fun b xs e => ?_, fun b o u e => ?_, fun b ps e => ?_⟩, I.loc, I.cell, ?_, fun x c e => ?_, fun p hp' => ?_, fun b u e => ?_, I.len⟩
  · rw [upd_ne (ne0 b o e)]
    exact I.base.free b o e n hq
  · have q := I.base.tups b xs e
    rw [upd_ne (ne_of_none q na)]
    exact q
  · have q := I.base.frzs b o u e
    rw [upd_ne (ne_of_none q na)]
    exact q
  · obtain ⟨m, q⟩ := I.base.tbls b ps e
    exact ⟨m, by rw [upd_ne (ne_of_none q na)]; exact q⟩
  · rw [upd_ne (Ne.symm nL)]
    exact I.free
  · have hne : c ≠ a := fun z => by
      obtain ⟨v, o, ho, hc⟩ := I.cell x c e
      rw [z, ha] at ho
      cases ho
      obtain ⟨vs, hd⟩ := hd
      rw [hd] at hc
      cases hc
    rw [upd_ne hne]
    exact I.freeC x c e
  · have hp2 : p ∈ X.pn ++ ((a, oe) :: pins) := by
      rcases List.mem_append.mp hp' with z | z
      · exact List.mem_append_left _ z
      · exact List.mem_append_right _ (List.mem_cons_of_mem _ z)
    obtain ⟨e, n, ne, nf, d⟩ := I.pin p hp2
    exact ⟨e, by rw [upd_ne (hp p hp')]; exact n, ne, nf, d⟩
  · by_cases hb : b = a
    · subst hb
      rw [upd_same] at e
      cases e
      exact exH_ok ha hz hd
    · rw [upd_ne hb] at e
      refine (I.hok b u e).stay (fun c v _ q => q) (fun c q => ?_) fun c xs q => ?_
      · rw [upd_ne (ne_of_none q na)]
        exact q
      · rw [upd_ne (ne_of_none q na)]
        exact q
theorem Inv.unsuiteK {a : Addr} {q : Addr × Obj} {pn' : List (Addr × Obj)} (I : Inv (X.suite a (q :: (X.pn ++ pins))) pn' σ H s) (ok : X.Ok) : Inv X (q :: pins) σ H s :=
  ⟨ok, I.os, I.bare, I.base, I.loc, I.cell, I.free, I.freeC, fun p hp => I.pin p (List.mem_append_left _ (by
    rcases List.mem_append.mp hp with z | z
    · exact List.mem_cons_of_mem _ (List.mem_append_left _ z)
    · rcases List.mem_cons.mp z with z | z
      · rw [z]; exact List.mem_cons_self
      · exact List.mem_cons_of_mem _ (List.mem_append_right _ z))), I.hok, I.len⟩
/-- what the clause 'except x as n' wishes, where the exception is held behind the suite: slot i is n's -/
def wHold (K : PySem.W.Frag) (c : Value) (i : Nat) (ts : Addr → Value → TS) (Wout : WX) (D : Ends) : WX := fun cls d σ H =>
  ∃ b, PySem.W.exmOne K cls c = some b ∧ (b = true → d = none ∧ ∀ a, H a = none → ts a cls { nx := fun σ' H' => H' a = none → D.nx (σ'.set i none) (upd H' a (ExH cls a)), rt := fun _ _ => False, bk := fun _ _ => False, ct := fun _ _ => False } (σ.set i (some (.ref a))) H) ∧
    (b = false → Wout cls d σ H)
variable {x n : Str} {c : Value} {i : Nat} {body suite : List Stmt} {b₀ : Stmt} {np pos pos' : Pos} {tb : WX → TS} {ts : Addr → Value → TS} {Wout : WX}
theorem ps_try_hold (hs : X.stack = X.env :: X.outer) (hf : X.env.frame = some X.env.locals) (hex : X.ex = []) (hN : X.N.Nodup) (hi : X.N[i]? = some n) (hln : X.env.kindOf n = some .local) (hc : Names X x c) (tk : Takes X Wout)
    (hb : ∀ (W : WX) (pn : List (Addr × Obj)) (xe : Value → Shared → Prop), Takes (X.tr pn xe) W → PassesOwn (model X.prog X.w) X.A X.env xe → PSs (X.tr pn xe) body (tb W))
    (hsu : ∀ (a : Addr) (oe : Obj) (cls : Value) (pn : List (Addr × Obj)), PSs (X.suite a ((a, oe) :: pn)) (b₀ :: suite) (ts a cls)) :
    PS X (.Try body [.ExceptHandler (some (.Name x np)) (some n) (b₀ :: suite) pos'] [] [] pos) (fun D σ H => tb (wHold X.K c i ts Wout D) D σ H) := by
  refine ⟨fun pins s σ H D I h => ?_⟩
  have ok := I.ok
  have hfr : X.A.frames = some (X.env :: X.outer) := by rw [ok.frames, hs]
  have hloc : Loc X.env.scope n := .inl hln
  refine wpAny_Try_except ?_
  refine wpAny_mono ((hb (wHold X.K c i ts Wout D) (X.pn ++ pins) (fun e s₁ => wpAny (model X.prog X.w) X.A (noteFrame e X.env) (fun _ s₂ => wpAny (model X.prog X.w) X.A (setFlight e none) (fun _ s₃ =>
    wpAny (model X.prog X.w) X.A (handleBy e X.env [.ExceptHandler (some (.Name x np)) (some n) (b₀ :: suite) pos']) (SP X pins D) X.xe s₃) X.xe s₂) X.xe s₁) (fun u s' xx => ?_) PassesOwn.looking).run [] s σ H D (I.toTry _) h) (fun f s1 hsp => ?_) (fun e s1 he => he)
  · -- the catch
    obtain ⟨a, B, sI, pins', σ', H', cls, d, rfl, J', nb, up, sky, na, os, ag, b, hb1, hyes, hno⟩ := xx
    have J : Inv X pins σ' H' sI := J'.ofTry ok
    have sky' : Sky B (X.env :: X.outer) a (Zc cls d) X.env.locals s'.heap := by rw [← hs]; exact sky
    show wpAny (model X.prog X.w) X.A (noteFrame (.ref a) X.env) _ _ _
    refine Sky.land Zc.steady hfr hf sky' fun h3 fl3 up3 => ?_
    have J3 : Inv X pins σ' H' { s' with heap := h3 } := J.landed nb fl3.1 (up.trans up3) os ag
    obtain ⟨oe3, vs3, he3, hz3, hd3⟩ := fl3.there
    have notFr : ∀ {h : Heap} {o : Obj} {vs : Array Value}, h.FunFrames B (X.env :: X.outer) → h.get? a = some o → o.data = .fields vs → a ∉ frs (X.env :: X.outer) := fun {h o vs} ff e dd hm => by
      obtain ⟨_, o', e', hnf⟩ := ff.mem hm
      rw [e] at e'; cases e'
      exact hnf _ dd
    have nfr := notFr fl3.2.2.1 he3 hd3
    have nL : a ≠ X.env.locals := fun z => nfr (List.mem_filterMap.mpr ⟨X.env, List.mem_cons_self, by rw [hf, z]⟩)
    have nF : a ∉ X.fs := fun hm => by
      obtain ⟨e, he, q⟩ := List.mem_filterMap.mp hm
      exact nfr (List.mem_filterMap.mpr ⟨e, List.mem_cons_of_mem _ he, q⟩)
    have nB : B.get? a = none := fl3.2.1
    have nI : sI.heap.get? a = none := by
      cases e : sI.heap.get? a with
      | none => rfl
      | some o =>
        have z := nb a o e (by rw [hs]; exact nfr)
        rw [nB] at z
        cases z
    have n0 : X.s_0.heap.get? a = none := by
      cases e : X.s_0.heap.get? a with
      | none => rfl
      | some o =>
        obtain ⟨o', z⟩ := J.base.there a o e (by rw [hex]; exact fun z => nomatch z)
        rw [nI] at z
        cases z
    have hpin : ∀ p ∈ X.pn ++ pins, p.1 ≠ a := fun p hp z => by
      have e := (J.pin p hp).1
      rw [z, nI] at e
      cases e
    have S3 := J3.suite he3 hd3 na nL nF
    refine wpAny_handleBy_cons (codeAny_handlers_test ?_) (by intro q; cases q)
    have LT : PySem.W.Looks (model X.prog X.w) h3 (typeOf (.ref a)) cls := fun A Q E s k q => wpAny_typeOf_ref (k _ _ he3) (by rw [hz3.1]; exact q)
    have LM := PySem.W.exm_one (M := model X.prog X.w) (J3.kIn) LT hb1
    have test : ∀ {Q : Value → Shared → Prop} {E : Value → Shared → Prop}, Q c { s' with heap := h3 } → wpAny (model X.prog X.w) (X.A.mark (some (.ref a))) (eval (.Name x np) X.env) Q E { s' with heap := h3 } := fun {Q E} q => by
      obtain ⟨hg, hdbg, hm | ⟨hm, hv, hnn⟩⟩ := hc
      · exact ld_glob (X := X.suite a ((a, oe3) :: (X.pn ++ pins))) S3 hg hm q hdbg
      · exact ld_blt (X := X.suite a ((a, oe3) :: (X.pn ++ pins))) S3 hg hm hv q hnn hdbg
    refine test (LM.here ?_)
    cases b with
    | true =>
      obtain ⟨rfl, hyes2⟩ := hyes rfl
      refine codeAny_handlers_suite_as ?_
      refine HandSPX.lands_againZ fl3 fun h4 fl4 up4 => ?_
      have J4 : Inv X pins σ' H' { s' with heap := h4 } := J.landed nb fl4.1 ((up.trans up3).trans up4) os ag
      obtain ⟨oe4, vs4, he4, hz4, hd4⟩ := fl4.there
      have S4 := J4.suite he4 hd4 na nL nF
      refine store_ok (X := X.suite a ((a, oe4) :: (X.pn ++ pins))) (v := .ref a) S4 hN hi hloc rfl (fun s5 S5 => ?_) (.inr hln)
      refine wpAny_mono ((hsu a oe4 cls (X.pn ++ pins)).run [] s5 _ H' _ S5 (hyes2 a na)) (fun f s6 hsp => ?_) (fun _ _ z => False.elim z)
      cases f with
      | next =>
        obtain ⟨σ6, H6, S6, q6⟩ := hsp
        refine gone_ok (S6.unsuiteK ok) hN hi hln fun s7 J7 => ?_
        have na6 : H6 a = none := (J7.pin (a, oe4) (List.mem_append_right _ List.mem_cons_self)).2.1
        exact ⟨_, _, J7.track n0 hz4 ⟨_, hd4⟩ hpin, q6 na6⟩
      | brk =>
        obtain ⟨σ6, H6, S6, q6⟩ := hsp
        exact q6.elim
      | cont =>
        obtain ⟨σ6, H6, S6, q6⟩ := hsp
        exact q6.elim
      | ret u =>
        obtain ⟨v6, σ6, H6, S6, r6, q6⟩ := hsp
        exact q6.elim
    | false =>
      show wpAny _ X.A (handleBy (.ref a) X.env []) _ _ _
      refine wpAny_handleBy_nil ?_
      obtain ⟨k1, k2, k3, oe, vs, T, oT, ts', he, hz, hd, h1, hr⟩ := id fl3
      unfold PySem.passOn
      refine wpAny_bind (wpAny_field he hd h1 ?_)
      rw [if_neg (show ¬ ((Value.ref T == Value.none) = true) from by simp)]
      have fin : wpAny (model X.prog X.w) X.A (setFlight (.ref a) X.env.frame) (fun _ s4 => wpAny (model X.prog X.w) X.A (throw (.ref a) : Sem Flow) (SP X pins D) X.xe s4) X.xe { s' with heap := h3 } := by
        rw [hf]
        refine HandSPX.setFlight_upZ fl3 fun h4 hh4 up4 => wpAny_throw (tk _ _ ?_)
        exact ⟨a, B, sI, pins, σ', H', cls, d, rfl, J, nb, (up.trans up3).trans up4, .inr (.inr (by rw [hs]; exact hh4)), na, os, ag, hno rfl⟩
      first
        | exact wpAny_bind (wpAny_pure (wpAny_bind fin))
        | exact wpAny_bind fin
  · cases f with
    | next =>
      obtain ⟨σ', H', J', q⟩ := hsp
      exact wpAny_execs_nil ⟨σ', H', J'.ofTry ok, q⟩
    | brk =>
      obtain ⟨σ', H', J', q⟩ := hsp
      exact ⟨σ', H', J'.ofTry ok, q⟩
    | cont =>
      obtain ⟨σ', H', J', q⟩ := hsp
      exact ⟨σ', H', J'.ofTry ok, q⟩
    | ret u =>
      obtain ⟨v, σ', H', J', r, q⟩ := hsp
      exact ⟨v, σ', H', J'.ofTry ok, r, q⟩
/-- isinstance(e, c) of a held exception e: c one class, or a tuple of classes -/
def rIsH (K : PySem.W.Frag) (D : Addr) : List V → Hp → VK → Prop := fun xs H Q => ∃ (a : Addr) (c : V) (b : Bool), xs = [.ref a, c] ∧ H a = some (ExH (.ref D) a) ∧
  ((∃ cv, (∀ u, RelV c u → u = cv) ∧ PySem.W.kitOne K (.ref D) cv = some b) ∨ (∃ p vs its, c = .ref p ∧ H p = some (.tup vs) ∧ (∀ us, Vals vs us → us = its) ∧ PySem.W.kitAny K (.ref D) its = some b)) ∧ Q (.bl b) H
theorem call_isH {D : Addr} (C : ExcC X.K D) : CallR X (.builtin "isinstance") (rIsH X.K D) := by
  intro pins s σ H xs us Q I r h
  obtain ⟨a, c, b, rfl, hH, hc, q⟩ := h
  cases r with
  | cons rx rr =>
    cases rr with
    | cons rt rr =>
      cases rr
      cases rx
      obtain ⟨⟨oe, hget, ⟨h1, h2⟩, vs, hv⟩, _, _⟩ := I.hok a _ hH
      have J : PySem.W.InstAt s.heap a oe D none := by
        obtain ⟨oc, od, oda, osl⟩ := oe
        dsimp only at h1 h2 hv
        subst h1 h2 hv
        exact ⟨hget, rfl, rfl, trivial⟩
      have fin : ∀ tk, EP X pins σ Q (.bool b) { s with toks := tk } := fun tk => ⟨.bl b, H, I.kept (t' := tk) fun _ _ z => z, rfl, q⟩
      rcases hc with ⟨cv, hcv, e⟩ | ⟨p, vs, its, rfl, hp, hu, e⟩
      · have ec := hcv _ rt
        subst ec
        exact PySem.W.kia_one (PySem.W.handS_kitx_exc C.hg C.hk C.hs C.hd C.ha C.hn C.ht C.hm) I.kIn J e (fun z => nomatch z) fin
      · cases rt
        obtain ⟨_, its', r', ob, ho, hob1, n, hob2⟩ := I.hok p _ hp
        have := hu _ r'
        subst this
        obtain ⟨oc, od, oda, osl⟩ := ob
        dsimp only at hob1 hob2
        subst hob1 hob2
        exact PySem.W.kia_tup (PySem.W.handS_kitx_exc C.hg C.hk C.hs C.hd C.ha C.hn C.ht C.hm) I.kIn J ho e (fun z => nomatch z) fin
/-- isinstance(e, c) of a handled exception, in its suite -/
def rIsEX (K : PySem.W.Frag) (cls : Value) (d : Option Addr) (a : Addr) : List V → Hp → VK → Prop := fun xs H Q => ∃ D, cls = .ref D ∧ d = none ∧ ExcC K D ∧ ∃ (c : V) (cv : Value) (b : Bool), xs = [.ref a, c] ∧ (∀ u, RelV c u → u = cv) ∧ PySem.W.kitOne K (.ref D) cv = some b ∧ Q (.bl b) H
theorem call_isEX {K : PySem.W.Frag} {a : Addr} {cls : Value} {d : Option Addr} {oe : Obj} {pn : List (Addr × Obj)} (hK : X.K = K) (hz : Zc cls d oe) (hf : ∃ vs, oe.data = .fields vs) : CallR (X.suite a ((a, oe) :: pn)) (.builtin "isinstance") (rIsEX K cls d a) := by
  subst hK
  intro pins s σ H xs us Q I r ⟨D, e1, e2, C, h⟩
  subst e1 e2
  exact call_isE C hz hf pins s σ H xs us Q I r h
theorem call_isH' : CallR X (.builtin "isinstance") (fun xs H Q => ∃ D, ExcC X.K D ∧ rIsH X.K D xs H Q) := fun pins s σ H xs us Q I r ⟨_, C, h⟩ => call_isH C pins s σ H xs us Q I r h
theorem call_isHK {K : PySem.W.Frag} (hK : X.K = K) : CallR X (.builtin "isinstance") (fun xs H Q => ∃ D, ExcC K D ∧ rIsH K D xs H Q) := by
  subst hK
  exact call_isH'
end
end L2
namespace Z
open PySem L2
open Rep (rep)
/-- the class that a name of the text names -/
def Nm (K : Fg) (x : Str) (C : Addr) : Prop := PySem.W.nsIn K mainGlobals x = some (some (.ref C))
theorem Nm.uniq {K : Fg} {x : Str} {C D : Addr} (a : Nm K x C) (b : Nm K x D) : C = D := by
  have h := a.symm.trans b
  injection h with h
  injection h with h
  injection h
instance repExn : Rep Exn := ⟨fun K F v e => ∃ a C, v = .ref a ∧ Nm K e.cls C ∧ F a = some (ExH (.ref C) a), fun s ⟨a, C, h, n, q⟩ => ⟨a, C, h, n, s _ _ q⟩⟩
/-- what a call that lets an error out leaves -/
def RetX (K : Fg) (F : Hp) (os : List (Addr × HO)) (E : XK) : Exn → Prop := fun e => ∀ C F' H', Nm K e.cls C → W F' H' os → Same F F' → E (.ref C) none H'
/-- all that the body lets out is caught -/
def tryR {α : Type} (names : List Str) (b : R α) : R (Option Exn) := match b with
  | .ok _ => .ok none
  | .exc e => if e.cls ∈ names then .ok (some e) else .bad
  | .bad => .bad
/-- .. with a suite -/
def tryWith {α : Type} (names : List Str) (b : R α) (h : Exn → R α) : R α := match b with
  | .ok x => .ok x
  | .exc e => if e.cls ∈ names then h e else .bad
  | .bad => .bad
theorem post_tryWith {α : Type} {names : List Str} {b : R α} {h : Exn → R α} {P : α → Prop} {X : Exn → Prop} (q : Post (tryWith names b h) P X) : Post b P (fun e => e.cls ∈ names ∧ Post (h e) P X) := by
  cases b with
  | ok a => exact q
  | exc e =>
    have q' : Post (if e.cls ∈ names then h e else R.bad) P X := q
    by_cases c : e.cls ∈ names
    · rw [if_pos c] at q'
      exact ⟨c, q'⟩
    · rw [if_neg c] at q'
      exact (show False from q').elim
  | bad => exact q
theorem post_try {α : Type} {names : List Str} {b : R α} {P : Option Exn → Prop} {X : Exn → Prop} (h : Post (tryR names b) P X) : Post b (fun _ => P none) (fun e => e.cls ∈ names ∧ P (some e)) := by
  cases b with
  | ok a => exact h
  | exc e =>
    have h' : Post (if e.cls ∈ names then R.ok (some e) else R.bad) P X := h
    by_cases c : e.cls ∈ names
    · rw [if_pos c] at h'
      exact ⟨c, h'⟩
    · rw [if_neg c] at h'
      exact (show False from h').elim
  | bad => exact h
/-- isinstance of a caught error: tn, the names under the classes asked -/
def isC (names tn : List Str) (e : Exn) : R Bool := if e.cls ∈ names then .ok (decide (e.cls ∈ tn)) else .bad
theorem pb_isC {δ : Type} {names tn : List Str} {e : Exn} {f : Bool → R δ} {P : δ → Prop} {X : Exn → Prop} (h : Post (isC names tn e >>= f) P X) : e.cls ∈ names ∧ Post (f (decide (e.cls ∈ tn))) P X := by
  unfold isC at h
  by_cases c : e.cls ∈ names
  · rw [if_pos c] at h
    exact ⟨c, h⟩
  · rw [if_neg c] at h
    exact (show False from h).elim
def raiseR {α : Type} (x : Str) : R α := .exc ⟨x, 0⟩
/-- a call that lets no error out -/
def nx {α : Type} (m : R α) : R α := match m with
  | .ok a => .ok a
  | .exc _ => .bad
  | .bad => .bad
theorem post_nx {α δ : Type} {m : R α} {k : α → R δ} {P : δ → Prop} {X : Exn → Prop} (h : Post (nx m >>= k) P X) : Post m (fun a => Post (k a) P X) noX := by
  cases m with
  | ok a => exact h
  | exc e => exact (show False from h).elim
  | bad => exact (show False from h).elim
theorem kit_ref {K : Fg} {x y : Addr} {b : Bool} (h1 : PySem.W.isClsIn K y = true) (h2 : PySem.W.typeIn K (.ref y) = some (.type "type")) (h3 : PySem.W.subIn K (.ref x) (.ref y) = some b) (h4 : b = true ∨ (Value.ref x == Value.ref y) = false) : PySem.W.kitOne K (.ref x) (.ref y) = some b := by
  have e : PySem.W.kitCls K (.ref x) (.ref y) = some b := by
    have h1' : (PySem.W.clsIn K y).isSome = true := h1
    have e2 : ((PySem.W.clsIn K y).isSome && PySem.W.typeIn K (.ref y) == some (.type "type")) = true := by rw [h1', h2] <;> rfl
    show (if ((PySem.W.clsIn K y).isSome && PySem.W.typeIn K (.ref y) == some (.type "type")) = true then PySem.W.subIn K (.ref x) (.ref y) else none) = some b
    rw [if_pos e2]
    exact h3
  unfold PySem.W.kitOne
  rcases h4 with rfl | h4
  · rw [e]
    split <;> rfl
  · rw [h4, if_neg (by decide)]
    exact e
theorem kit_ty {K : Fg} {x : Addr} {T : String} {b : Bool} (h1 : PySem.W.kitMeta T = true) (h3 : PySem.W.subIn K (.ref x) (.type T) = some b) : PySem.W.kitOne K (.ref x) (.type T) = some b := by
  have e : PySem.W.kitCls K (.ref x) (.type T) = some b := by
    show (if PySem.W.kitMeta T = true then PySem.W.subIn K (.ref x) (.type T) else none) = some b
    rw [if_pos h1]
    exact h3
  unfold PySem.W.kitOne
  have h4 : (Value.ref x == Value.type T) = false := rfl
  rw [h4, if_neg (by decide)]
  exact e
/-- what is known of an own error class -/
structure XC (K : Fg) (mg : Str → Option Value) (x : Str) (C : Addr) : Prop where
  ns : Nm K x C
  gm : mg x = some (.ref C)
  xc : PySem.W.excIn K C [.type "ValueError", .type "Exception", .type "BaseException", .type "object"] "ValueError.__new__" = true
  kp : PySem.W.keepIn K (.ref C) = true
  b : PySem.W.subIn K (.ref C) (.type "BaseException") = some true
  t : PySem.W.typeIn K (.ref C) = some (.type "type")
  ex : ExcC K C
end Z
/-! Z5: regions: lists of one's own by their number in a store -/
namespace Z
open PySem L2
open Rep (rep)
/-! ### two lists, item by item -/
inductive F2 {α β : Type} (r : α → β → Prop) : List α → List β → Prop
  | nil : F2 r [] []
  | cons {a : α} {b : β} {as : List α} {bs : List β} : r a b → F2 r as bs → F2 r (a :: as) (b :: bs)
section
variable {α β : Type} {r r' : α → β → Prop} {as : List α} {bs : List β}
theorem F2.length : ∀ {as : List α} {bs : List β}, F2 r as bs → as.length = bs.length
  | _, _, .nil => rfl
  | _, _, .cons _ t => by rw [List.length_cons, List.length_cons, F2.length t]
theorem F2.imp (f : ∀ a b, r a b → r' a b) : ∀ {as : List α} {bs : List β}, F2 r as bs → F2 r' as bs
  | _, _, .nil => .nil
  | _, _, .cons h t => .cons (f _ _ h) (F2.imp f t)
theorem F2.get : ∀ {as : List α} {bs : List β} {i : Nat} {b : β}, F2 r as bs → bs[i]? = some b → ∃ a, as[i]? = some a ∧ r a b
  | _, _, _, _, .nil, e => by simp at e
  | _, _, 0, _, .cons h _, e => by simp at e; subst e; exact ⟨_, rfl, h⟩
  | _, _, i + 1, b, .cons _ t, e => by
    obtain ⟨v, h1, h2⟩ := F2.get (i := i) (b := b) t (by simpa using e)
    exact ⟨v, by simpa using h1, h2⟩
theorem F2.set {a : α} {b : β} (h : r a b) : ∀ {as : List α} {bs : List β} (i : Nat), F2 r as bs → F2 r (as.set i a) (bs.set i b)
  | _, _, _, .nil => .nil
  | _, _, 0, .cons _ t => .cons h t
  | _, _, i + 1, .cons q t => .cons q (F2.set h i t)
theorem F2.append : ∀ {as as' : List α} {bs bs' : List β}, F2 r as bs → F2 r as' bs' → F2 r (as ++ as') (bs ++ bs')
  | _, _, _, _, .nil, h => h
  | _, _, _, _, .cons a t, h => .cons a (F2.append t h)
theorem F2.snoc {a : α} {b : β} (h : F2 r as bs) (q : r a b) : F2 r (as ++ [a]) (bs ++ [b]) := h.append (.cons q .nil)
end
/-! ### a store's lists: cells -/
def nz : List Addr → List (List V) → List (Addr × HO)
  | a :: as, vs :: vss => (a, .lst vs) :: nz as vss
  | _, _ => []
theorem nz_split : ∀ {as : List Addr} {vss : List (List V)} {j : Nat} {a : Addr} {vs : List V}, as[j]? = some a → vss[j]? = some vs →
    ∃ x y, nz as vss = x ++ (a, .lst vs) :: y ∧ ∀ us, nz as (vss.set j us) = x ++ (a, .lst us) :: y
  | [], _, j, _, _, h, _ => by simp at h
  | _ :: _, [], j, _, _, _, h => by simp at h
  | b :: as, ws :: vss, 0, a, vs, h1, h2 => by
    simp at h1 h2
    subst h1 h2
    exact ⟨[], nz as vss, rfl, fun _ => rfl⟩
  | b :: as, ws :: vss, j + 1, a, vs, h1, h2 => by
    obtain ⟨x, y, e1, e2⟩ := nz_split (as := as) (vss := vss) (j := j) (a := a) (vs := vs) (by simpa using h1) (by simpa using h2)
    exact ⟨(b, .lst ws) :: x, y, by show (b, HO.lst ws) :: nz as vss = _; rw [e1]; rfl, fun us => by show (b, HO.lst ws) :: nz as (vss.set j us) = _; rw [e2]; rfl⟩
theorem nz_snoc : ∀ {as : List Addr} {vss : List (List V)} {a : Addr} {vs : List V}, as.length = vss.length → nz (as ++ [a]) (vss ++ [vs]) = nz as vss ++ [(a, .lst vs)]
  | [], [], _, _, _ => rfl
  | [], _ :: _, _, _, h => by simp at h
  | _ :: _, [], _, _, h => by simp at h
  | b :: as, ws :: vss, a, vs, h => by
    show (b, HO.lst ws) :: nz (as ++ [a]) (vss ++ [vs]) = (b, HO.lst ws) :: (nz as vss ++ [(a, .lst vs)])
    rw [nz_snoc (by simpa using h)]
section
variable {F H : Hp} {os os' pre post : List (Addr × HO)} {a p : Addr} {o : HO} {as : List Addr} {vss : List (List V)} {j : Nat} {vs : List V}
theorem W.perm (h : os.Perm os') (w : W F H os) : W F H os' where
  same := w.same
  own := fun q hq => w.own q (h.mem_iff.mpr hq)
  nd := h.pairwise_iff (fun e q => e q.symm) |>.mp w.nd
  nt := fun q hq => w.nt q (h.mem_iff.mpr hq)
/-- the j-th list of a store -/
theorem W.nget (w : W F H (pre ++ (nz as vss ++ post))) (h1 : as[j]? = some a) (h2 : vss[j]? = some vs) : H a = some (.lst vs) := by
  obtain ⟨x, y, e, _⟩ := nz_split h1 h2
  rw [e] at w
  exact (w.own (a, .lst vs) (by simp)).1
theorem W.nset (w : W F H (pre ++ (nz as vss ++ post))) (us : List V) (h1 : as[j]? = some a) (h2 : vss[j]? = some vs) : W F (upd H a (.lst us)) (pre ++ (nz as (vss.set j us) ++ post)) := by
  obtain ⟨x, y, e, e2⟩ := nz_split h1 h2
  rw [e] at w
  rw [e2]
  have w' : W F H ((pre ++ x) ++ (a, .lst vs) :: (y ++ post)) := by
    have e3 : pre ++ (x ++ (a, HO.lst vs) :: y ++ post) = (pre ++ x) ++ (a, HO.lst vs) :: (y ++ post) := by simp
    rw [← e3]
    exact w
  have w2 := w'.set (o' := .lst us)
  have e3 : pre ++ (x ++ (a, HO.lst us) :: y ++ post) = (pre ++ x) ++ (a, HO.lst us) :: (y ++ post) := by simp
  rw [e3]
  exact w2
/-- a cell goes into a store -/
theorem W.nadd (w : W F H ((p, .lst vs) :: (pre ++ (nz as vss ++ post)))) (hl : as.length = vss.length) : W F H (pre ++ (nz (as ++ [p]) (vss ++ [vs]) ++ post)) := by
  rw [nz_snoc hl]
  refine w.perm ?_
  have e : pre ++ (nz as vss ++ [(p, HO.lst vs)] ++ post) = (pre ++ nz as vss) ++ (p, HO.lst vs) :: post := by simp
  have e2 : (p, HO.lst vs) :: (pre ++ (nz as vss ++ post)) = (p, HO.lst vs) :: ((pre ++ nz as vss) ++ post) := by simp
  rw [e, e2]
  exact List.perm_middle.symm
theorem W.dropL (w : W F H (pre ++ (os ++ post))) : W F H (pre ++ post) where
  same := w.same
  own := fun q hq => w.own q (by
    rcases List.mem_append.mp hq with h | h
    · exact List.mem_append_left _ h
    · exact List.mem_append_right _ (List.mem_append_right _ h))
  nd := by
    have nd := w.nd
    rw [List.pairwise_append] at nd ⊢
    obtain ⟨n1, n2, n3⟩ := nd
    rw [List.pairwise_append] at n2
    exact ⟨n1, n2.2.1, fun x hx y hy => n3 x hx y (List.mem_append_right _ hy)⟩
  nt := fun q hq => w.nt q (by
    rcases List.mem_append.mp hq with h | h
    · exact List.mem_append_left _ h
    · exact List.mem_append_right _ (List.mem_append_right _ h))
/-- the j-th list of a store, taken out as a cell; the others forgotten -/
theorem W.ntake (w : W F H (pre ++ (nz as vss ++ post))) (h1 : as[j]? = some a) (h2 : vss[j]? = some vs) : W F H ((a, .lst vs) :: (pre ++ post)) := by
  obtain ⟨x, y, e, _⟩ := nz_split h1 h2
  rw [e] at w
  have w' : W F H ((pre ++ x) ++ (a, .lst vs) :: (y ++ post)) := by
    have e3 : pre ++ (x ++ (a, HO.lst vs) :: y ++ post) = (pre ++ x) ++ (a, HO.lst vs) :: (y ++ post) := by simp
    rw [← e3]
    exact w
  have w2 := w'.front
  have e4 : (a, HO.lst vs) :: (pre ++ x ++ (y ++ post)) = ((a, HO.lst vs) :: pre) ++ ((x ++ y) ++ post) := by simp
  rw [e4] at w2
  exact w2.dropL
/-- a whole store is never written again -/
theorem W.nfreeze : ∀ {as : List Addr} {vss : List (List V)} {F : Hp}, W F H (pre ++ (nz as vss ++ post)) → ∃ F', Same F F' ∧ W F' H (pre ++ post) ∧ ∀ (j : Nat) (a : Addr) (vs : List V), as[j]? = some a → vss[j]? = some vs → F' a = some (.lst vs)
  | [], _, F, w => ⟨F, Same.refl _, w, fun j a vs h => by simp at h⟩
  | _ :: _, [], F, w => ⟨F, Same.refl _, w, fun j a vs _ h => by simp at h⟩
  | b :: as, ws :: vss, F, w => by
    have w' : W F H (pre ++ (b, .lst ws) :: (nz as vss ++ post)) := w
    obtain ⟨F1, s1, w1, q1⟩ := w'.freezeE
    obtain ⟨F2, s2, w2, q2⟩ := W.nfreeze (as := as) (vss := vss) w1
    refine ⟨F2, s1.trans s2, w2, fun j a vs h1 h2 => ?_⟩
    cases j with
    | zero =>
      simp at h1 h2
      subst h1 h2
      exact s2 _ _ q1
    | succ j => exact q2 j a vs (by simpa using h1) (by simpa using h2)
end
/-! ### what stands in a store -/
section
variable {α β δ : Type} [Rep α] [Rep β] {K : Fg} {F F' H : Hp} {as as' : List Addr} {vss : List (List V)} {st : List (List α)}
structure Sto (K : Fg) (F : Hp) (as : List Addr) (vss : List (List V)) (st : List (List α)) : Prop where
  len : as.length = vss.length
  all : F2 (A2 (rep K F)) vss st
theorem Sto.nil : Sto K F [] [] ([] : List (List α)) := ⟨rfl, .nil⟩
theorem Sto.mono (s : Same F F') (h : Sto K F as vss st) : Sto K F' as vss st := ⟨h.len, h.all.imp fun _ _ q => q.mono s⟩
theorem Sto.len2 (h : Sto K F as vss st) : as.length = st.length := h.len.trans h.all.length
theorem Sto.get {j : Nat} {xs : List α} (h : Sto K F as vss st) (e : st[j]? = some xs) : ∃ a vs, as[j]? = some a ∧ vss[j]? = some vs ∧ A2 (rep K F) vs xs := by
  obtain ⟨vs, h1, h2⟩ := h.all.get e
  have hj := (List.getElem?_eq_some_iff.mp e).1
  rw [← h.len2] at hj
  exact ⟨as[j], vs, List.getElem?_eq_getElem hj, h1, h2⟩
theorem Sto.set {j : Nat} {vs : List V} {xs : List α} (h : Sto K F as vss st) (q : A2 (rep K F) vs xs) : Sto K F as (vss.set j vs) (st.set j xs) := ⟨by rw [List.length_set]; exact h.len, h.all.set q j⟩
theorem Sto.snoc {p : Addr} {vs : List V} {xs : List α} (h : Sto K F as vss st) (q : A2 (rep K F) vs xs) : Sto K F (as ++ [p]) (vss ++ [vs]) (st ++ [xs]) := ⟨by simp [h.len], h.all.snoc q⟩
/-- a number in a store -/
abbrev Ix := Nat
def RX (as : List Addr) (v : V) (j : Ix) : Prop := ∃ a, v = .ref a ∧ as[j]? = some a
theorem RX.mono (h : as <+: as') {v : V} {j : Ix} (q : RX as v j) : RX as' v j := by
  obtain ⟨a, e, q⟩ := q
  obtain ⟨t, rfl⟩ := h
  refine ⟨a, e, ?_⟩
  rw [List.getElem?_append_left (List.getElem?_eq_some_iff.mp q).1]
  exact q
theorem RX.new (h : as.length = n) {p : Addr} : RX (as ++ [p]) (.ref p) n := ⟨p, rfl, by rw [List.getElem?_append_right (by omega), ← h]; simp⟩
theorem IQ.mono (h : as <+: as') {a : Addr} {j : Nat} (q : as[j]? = some a) : as'[j]? = some a := by
  obtain ⟨t, rfl⟩ := h
  rw [List.getElem?_append_left (List.getElem?_eq_some_iff.mp q).1]
  exact q
theorem IQ.new {n : Nat} (h : as.length = n) {p : Addr} : (as ++ [p])[n]? = some p := by
  rw [List.getElem?_append_right (by omega), ← h]
  simp
theorem pfx_trans {as2 : List Addr} (h : as <+: as') (h' : as' <+: as2) : as <+: as2 := h.trans h'
theorem Sto.getq {j : Nat} {xs : List α} {a : Addr} (h : Sto K F as vss st) (e : st[j]? = some xs) (q : as[j]? = some a) : ∃ vs, vss[j]? = some vs ∧ A2 (rep K F) vs xs := h.all.get e
theorem pfx_refl : as <+: as := List.prefix_refl _
theorem pfx_snoc {p : Addr} : as <+: as ++ [p] := List.prefix_append _ _
/-- the list of a number -/
def getS (st : List (List α)) (j : Ix) : R (List α) := ofO st[j]?
theorem pb_getS {st : List (List α)} {j : Ix} {f : List α → R δ} {P : δ → Prop} {E : Exn → Prop} (h : Post (getS st j >>= f) P E) : ∃ xs, st[j]? = some xs ∧ Post (f xs) P E := pb_ofO h
/-- .. another list in its place -/
def setS (st : List (List α)) (j : Ix) (ys : List α) : R (List (List α)) := .ok (st.set j ys)
theorem pn_setS {st : List (List α)} {j : Ix} {ys : List α} {f : List (List α) → R δ} {P : δ → Prop} {E : Exn → Prop} (h : Post (setS st j ys >>= f) P E) : ∃ st', st' = st.set j ys ∧ Post (f st') P E := ⟨_, rfl, h⟩
/-- .. a new one -/
def newS (st : List (List α)) (ys : List α) : R (Ix × List (List α)) := .ok (st.length, st ++ [ys])
theorem pn_newS {st : List (List α)} {ys : List α} {f : Ix × List (List α) → R δ} {P : δ → Prop} {E : Exn → Prop} (h : Post (newS st ys >>= f) P E) : ∃ j st', j = st.length ∧ st' = st ++ [ys] ∧ Post (f (j, st')) P E := ⟨_, _, rfl, rfl, h⟩
/-- lists by their numbers -/
def deref (st : List (List α)) (js : List Ix) : R (List (List α)) := mapR (getS st) js
theorem deref_rep {vs : List V} {js : List Ix} {xss : List (List α)} (h : Sto K F as vss st) (hf : ∀ (j : Nat) (a : Addr) (vs : List V), as[j]? = some a → vss[j]? = some vs → F' a = some (.lst vs)) (s : Same F F')
    (hv : A2 (RX as) vs js) (e : deref st js = R.ok xss) : A2 (rep K F') vs xss := by
  induction hv generalizing xss with
  | nil =>
    cases e
    exact .nil
  | cons a b ih =>
    obtain ⟨ad, rfl, h1⟩ := a
    obtain ⟨ys, e1, e⟩ := bind_ok_iff.mp e
    obtain ⟨yss, e2, e⟩ := bind_ok_iff.mp e
    cases e
    rename_i j js' _ _
    unfold getS at e1
    cases q : st[j]? with
    | none => rw [q] at e1; cases e1
    | some zs =>
      rw [q] at e1
      cases e1
      obtain ⟨a', ws, h2, h3, h4⟩ := h.get q
      rw [h1] at h2
      cases h2
      exact .cons ⟨ad, ws, rfl, hf _ _ _ h1 h3, h4.mono s⟩ (ih e2)
theorem pb_deref {js : List Ix} {f : List (List α) → R δ} {P : δ → Prop} {E : Exn → Prop} (h : Post (deref st js >>= f) P E) : ∃ xss, deref st js = R.ok xss ∧ Post (f xss) P E := by
  cases e : deref st js with
  | ok xss =>
    rw [e] at h
    exact ⟨xss, rfl, h⟩
  | exc x =>
    exfalso
    clear h
    unfold deref at e
    induction js with
    | nil => cases e
    | cons j js ih =>
      have e' : (getS st j >>= fun y => mapR (getS st) js >>= fun ys => R.ok (y :: ys)) = R.exc x := e
      unfold getS at e'
      cases q : st[j]? with
      | none => rw [q] at e'; cases e'
      | some z =>
        rw [q] at e'
        have e2 : (mapR (getS st) js >>= fun ys => R.ok (z :: ys)) = R.exc x := e'
        cases q2 : mapR (getS st) js with
        | ok y => rw [q2] at e2; cases e2
        | exc y => rw [q2] at e2; cases e2; exact ih q2
        | bad => rw [q2] at e2; cases e2
  | bad =>
    rw [e] at h
    exact (show False from h).elim
end
section
variable {F H : Hp} {os os' pre post x : List (Addr × HO)} {a p : Addr} {o : HO} {as : List Addr} {vss : List (List V)} {j : Nat} {vs : List V}
/-! the second store -/
theorem W.as2 : pre ++ (x ++ (os ++ post)) = (pre ++ x) ++ (os ++ post) := by simp
theorem W.nget2 (w : W F H (pre ++ (x ++ (nz as vss ++ post)))) (h1 : as[j]? = some a) (h2 : vss[j]? = some vs) : H a = some (.lst vs) := (W.as2 ▸ w : W F H ((pre ++ x) ++ (nz as vss ++ post))).nget h1 h2
theorem W.nset2 (w : W F H (pre ++ (x ++ (nz as vss ++ post)))) (us : List V) (h1 : as[j]? = some a) (h2 : vss[j]? = some vs) : W F (upd H a (.lst us)) (pre ++ (x ++ (nz as (vss.set j us) ++ post))) := by
  rw [W.as2] at w ⊢
  exact w.nset us h1 h2
theorem W.nadd2 (w : W F H ((p, .lst vs) :: (pre ++ (x ++ (nz as vss ++ post))))) (hl : as.length = vss.length) : W F H (pre ++ (x ++ (nz (as ++ [p]) (vss ++ [vs]) ++ post))) := by
  rw [W.as2] at w ⊢
  exact w.nadd hl
theorem W.dropL0 (w : W F H (nz as vss ++ post)) : W F H post := W.dropL (pre := []) (os := nz as vss) w
theorem W.dropL2 (w : W F H (pre ++ (x ++ (os ++ post)))) : W F H (pre ++ (x ++ post)) := by
  rw [W.as2] at w
  have h := w.dropL
  rw [List.append_assoc] at h
  exact h
theorem W.nfreeze2 (w : W F H (pre ++ (x ++ (nz as vss ++ post)))) : ∃ F', Same F F' ∧ W F' H (pre ++ (x ++ post)) ∧ ∀ (j : Nat) (a : Addr) (vs : List V), as[j]? = some a → vss[j]? = some vs → F' a = some (.lst vs) := by
  rw [W.as2] at w
  obtain ⟨F', s, w', h⟩ := w.nfreeze
  rw [List.append_assoc] at w'
  exact ⟨F', s, w', h⟩
theorem W.ntake2 (w : W F H (pre ++ (x ++ (nz as vss ++ post)))) (h1 : as[j]? = some a) (h2 : vss[j]? = some vs) : W F H ((a, .lst vs) :: (pre ++ (x ++ post))) := by
  rw [W.as2] at w
  have h := w.ntake h1 h2
  rw [List.append_assoc] at h
  exact h
end
section
variable {K : Fg} {F : Hp} {a : Addr} {β : Type} {vs : List V} {xs : List β} {r : V → β → Prop}
theorem tw_listR (h : A2 r vs xs) : TW (Itl K a) xs (fun H => SqL K H a vs) (fun b H x H' => H' = H ∧ r x b) := ⟨by
  rw [← h.length]
  exact walk_list.mono (fun _ g => g) fun i H x H' _ _ y => by
    obtain ⟨y1, y2⟩ := y
    obtain ⟨b, h1, h2⟩ := h.getV y2
    exact ⟨b, h1, y1, h2⟩⟩
end
section
variable {F H : Hp} {os pre post x : List (Addr × HO)} {q : Addr × HO} {as : List Addr} {vss : List (List V)}
/-- a store behind the cells -/
theorem W.nback (w : W F H (q :: (nz as vss ++ (pre ++ post)))) : W F H (q :: (pre ++ (nz as vss ++ post))) := by
  refine w.perm (List.Perm.cons _ ?_)
  rw [← List.append_assoc, ← List.append_assoc]
  exact List.perm_append_comm.append_right _
variable {α : Type} [Rep α] {K : Fg} {a : Addr} {us : List V} {js : List Ix} {st xss : List (List α)}
theorem rl_all (s : Same F H) (hf : ∀ (j : Nat) (a : Addr) (vs : List V), as[j]? = some a → vss[j]? = some vs → H a = some (.lst vs)) (h : Sto K F as vss st) (hv : A2 (RX as) us js) (e : deref st js = R.ok xss) : A2 (rep K H) us xss := deref_rep h hf s hv e
theorem W.rl (w : W F H (pre ++ (nz as vss ++ post))) (qa : H a = some (.lst us)) (h : Sto K F as vss st) (hv : A2 (RX as) us js) (e : deref st js = R.ok xss) : rep K H (.ref a) xss :=
  ⟨a, us, rfl, qa, rl_all w.same (fun _ _ _ h1 h2 => w.nget h1 h2) h hv e⟩
theorem W.rl2 (w : W F H (pre ++ (x ++ (nz as vss ++ post)))) (qa : H a = some (.lst us)) (h : Sto K F as vss st) (hv : A2 (RX as) us js) (e : deref st js = R.ok xss) : rep K H (.ref a) xss :=
  ⟨a, us, rfl, qa, rl_all w.same (fun _ _ _ h1 h2 => w.nget2 h1 h2) h hv e⟩
end
/-! ### comprehensions, what is made told by the state -/
section
variable {J : It} {β γ δ ε : Type} {items : List β} {G : Hp → Prop} {Y : β → Hp → V → Hp → Prop} {g : TG} {tt : TT} {te : TE} {P : ε → Prop} {X : Exn → Prop} {K : Fg} {vs : List Nat} {σ : St} {F H1 : Hp} {os : List (Addr × HO)} {D : Addr} {Qd : Hp → Prop}
theorem lcG (tw : TW J items G Y) {f : γ → β → R (Option δ × γ)} {s0 : γ} {k : List δ × γ → R ε} (hm : Post (filStG f s0 items >>= k) P X) (O : γ → Hp → List (Addr × HO) → List V → List δ → Prop) (w : W F H1 os) (o0 : O s0 F os [] []) (nD : H1 D = none)
    (hl : ∀ c F' os' us ys, O c F' os' us ys → us.length = ys.length)
    (hG : ∀ c F' H' os' acc ys, Same F F' → W F' H' ((D, .lst acc) :: os') → O c F' os' acc ys → G H')
    (hs : ∀ (b : β) (c : γ) (x : V) (F' H' H'' : Hp) (os' : List (Addr × HO)) (acc : List V) (ys : List δ) (N : V → Hp → Prop) (N0 : Hp → Prop) (P' : Option δ × γ → Prop), Same F F' → W F' H' ((D, .lst acc) :: os') → O c F' os' acc ys → Y b H' x H'' →
      (∀ d c', P' (some d, c') → ∀ y F'' H'' os'', W F'' H'' ((D, .lst acc) :: os'') → Same F' F'' → O c' F'' os'' (acc ++ [y]) (ys ++ [d]) → N y H'') →
      (∀ c', P' (none, c') → ∀ F'' H'' os'', W F'' H'' ((D, .lst acc) :: os'') → Same F' F'' → O c' F'' os'' acc ys → N0 H'') → Post (f c b) P' X →
      g x (wipe σ vs) H'' fun σ2 H2 => wipe σ2 vs = wipe σ vs ∧ tt σ2 H2 fun b H3 => if b = true then te σ2 H3 N else N0 H3)
    (hd : ∀ c us F' H' os' ys, Same F F' → W F' H' ((D, .lst us) :: os') → O c F' os' us ys → Post (k (ys, c)) P X → Qd H') : LcAsk J g tt te vs σ H1 D Qd := by
  obtain ⟨hlen, hm⟩ := pb_grd (pb_assoc hm)
  have hlen : items.length < sizeLine := Nat.lt_of_lt_of_le (of_decide_eq_true hlen) line5
  refine lc_it tw.walk (fun i H => ∃ c F' os' us ys, i ≤ items.length ∧ Same F F' ∧ W F' H ((D, .lst us) :: os') ∧ O c F' os' us ys ∧ ys.length ≤ i ∧ Post (filSt f c (items.drop i) >>= fun q => k (ys ++ q.1, q.2)) P X) ?_ ?_ ?_ ?_
  · exact ⟨s0, F, os, [], [], Nat.zero_le _, Same.refl _, w.new nD, o0, Nat.le_refl _, hm⟩
  · rintro i H _ ⟨c, F', os', us, ys, _, s, w', o, _⟩
    exact hG c F' H os' us ys s w' o
  · rintro i x H H' hi ⟨c, F', os', us, ys, _, s, w', o, hl2, hm⟩ ⟨b, hb, y⟩
    rw [drop_cons hb] at hm
    have hm' : Post ((f c b >>= fun p => filSt f p.2 (items.drop (i + 1)) >>= fun q => match p.1 with
      | some y => (R.ok (y :: q.1, q.2) : R (List δ × γ))
      | none => R.ok q) >>= fun q => k (ys ++ q.1, q.2)) P X := hm
    rw [bind_bind] at hm'
    have hm2 := post_bind hm'
    have hul : us.length = ys.length := hl _ _ _ _ _ o
    refine hs b c x F' H H' os' us ys (fun y H4 => ∃ acc, H4 D = some (.lst acc) ∧ acc.length < sizeLine ∧ _) _ _ s w' o y ?_ ?_ hm2
    · intro d c' p2 y F'' H'' os'' w2 s2 o2
      refine ⟨us, w2.get (pre := []), by omega, c', F'', os'', us ++ [y], ys ++ [d], hi, s.trans s2, w2.set (pre := []), o2, by rw [List.length_append, List.length_singleton]; omega, ?_⟩
      have p3 : Post ((filSt f c' (items.drop (i + 1)) >>= fun q => (R.ok (d :: q.1, q.2) : R (List δ × γ))) >>= fun q => k (ys ++ q.1, q.2)) P X := p2
      rw [bind_bind] at p3
      have e : (fun q : List δ × γ => (R.ok (d :: q.1, q.2) : R (List δ × γ)) >>= fun q => k (ys ++ q.1, q.2)) = fun q => k (ys ++ [d] ++ q.1, q.2) := by
        funext q
        show k (ys ++ (d :: q.1), q.2) = k (ys ++ [d] ++ q.1, q.2)
        rw [List.append_assoc]
        rfl
      rw [e] at p3
      exact p3
    · intro c' p2 F'' H'' os'' w2 s2 o2
      refine ⟨c', F'', os'', us, ys, hi, s.trans s2, w2, o2, by omega, ?_⟩
      have p3 : Post ((filSt f c' (items.drop (i + 1)) >>= fun q => (R.ok q : R (List δ × γ))) >>= fun q => k (ys ++ q.1, q.2)) P X := p2
      rw [bind_bind] at p3
      exact p3
  · rintro H ⟨c, F', os', us, ys, _, s, w', o, _, hm⟩
    rw [List.drop_length] at hm
    have hm' : Post (k (ys ++ [], c)) P X := hm
    rw [List.append_nil] at hm'
    exact hd c us F' H os' ys s w' o hm'
theorem lcGM (tw : TW J items G Y) {f : γ → β → R (δ × γ)} {s0 : γ} {k : List δ × γ → R ε} (hm : Post (mapStG f s0 items >>= k) P X) (O : γ → Hp → List (Addr × HO) → List V → List δ → Prop) (w : W F H1 os) (o0 : O s0 F os [] []) (nD : H1 D = none)
    (hl : ∀ c F' os' us ys, O c F' os' us ys → us.length = ys.length)
    (hG : ∀ c F' H' os' acc ys, Same F F' → W F' H' ((D, .lst acc) :: os') → O c F' os' acc ys → G H')
    (hs : ∀ (b : β) (c : γ) (x : V) (F' H' H'' : Hp) (os' : List (Addr × HO)) (acc : List V) (ys : List δ) (N : V → Hp → Prop) (P' : δ × γ → Prop), Same F F' → W F' H' ((D, .lst acc) :: os') → O c F' os' acc ys → Y b H' x H'' →
      (∀ d c', P' (d, c') → ∀ y F'' H'' os'', W F'' H'' ((D, .lst acc) :: os'') → Same F' F'' → O c' F'' os'' (acc ++ [y]) (ys ++ [d]) → N y H'') → Post (f c b) P' X →
      g x (wipe σ vs) H'' fun σ2 H2 => wipe σ2 vs = wipe σ vs ∧ te σ2 H2 N)
    (hd : ∀ c us F' H' os' ys, Same F F' → W F' H' ((D, .lst us) :: os') → O c F' os' us ys → Post (k (ys, c)) P X → Qd H') : LcAsk J g tYes te vs σ H1 D Qd := by
  have e : ∀ (s : γ) (l : List β), filSt (fun c b => f c b >>= fun p => R.ok (some p.1, p.2)) s l = mapSt f s l := by
    intro s l
    induction l generalizing s with
    | nil => rfl
    | cons b l ih =>
      show ((f s b >>= fun p => R.ok (some p.1, p.2)) >>= fun p => filSt (fun c b => f c b >>= fun p => R.ok (some p.1, p.2)) p.2 l >>= fun q => match p.1 with
        | some y => (R.ok (y :: q.1, q.2) : R (List δ × γ))
        | none => R.ok q) = (f s b >>= fun p => mapSt f p.2 l >>= fun q => .ok (p.1 :: q.1, q.2))
      rw [bind_bind]
      refine congrArg (f s b >>= ·) ?_
      funext p
      show (filSt (fun c b => f c b >>= fun p => R.ok (some p.1, p.2)) p.2 l >>= fun q => (R.ok (p.1 :: q.1, q.2) : R (List δ × γ))) = _
      rw [ih]
  have hm' : Post (filStG (fun c b => f c b >>= fun p => R.ok (some p.1, p.2)) s0 items >>= k) P X := by
    unfold filStG
    simp only [e]
    exact hm
  refine lcG tw hm' O w o0 nD hl hG (fun b c x F' H' H'' os' acc ys N N0 P' s w' o y hN hN0 hp => ?_) hd
  exact hs b c x F' H' H'' os' acc ys N _ s w' o y (fun d c' p2 y F'' H'' os'' w2 s2 o2 => hN d c' p2 y F'' H'' os'' w2 s2 o2) (post_bind hp)
end
end Z
/-! Z6: constants of the module, things, dicts as written and asked -/
namespace Z
open PySem L2
open Rep (rep)
section
variable {X : Cx}
theorem pe_globI {x : Str} {n : Int} {pos : Pos} (hg : Gl X x) (h : ∃ t, X.mg x = some (.int n t)) (hd : (x == ("__debug__" : Str)) = false := by decide) : PE X (.Name x pos) (tC (.int n)) := by
  obtain ⟨t, e⟩ := h
  exact pe_glob hg e ⟨_, rfl⟩ hd
theorem call_intB : CallR X (.type "int") (fun xs H Q => ∃ k, xs = [.bl k] ∧ Q (.int (if k = true then 1 else 0)) H) := by
  intro pins s σ H xs us Q I r ⟨k, e, q⟩
  exact call_int1 pins s σ H xs us Q I r (.inr ⟨k, e, q⟩)
end
theorem call_lenDR {X : Cx} : CallR X (.builtin "len") (fun xs H Q => ∃ (a : Addr) (kvs : List (Key × V)) (n : Nat), xs = [V.ref a] ∧ H a = some (.dK kvs) ∧ kvs.length = n ∧ Q (.int (n : Int)) H) := by
  intro pins s σ H xs us Q I r ⟨a, kvs, n, e, h, hn, q⟩
  subst hn
  exact call_lenD pins s σ H xs us Q I r ⟨a, kvs, e, h, q⟩
/-- a while's fuel, not to be reckoned with -/
@[irreducible] def fu (n : Nat) : Nat := n
theorem fu_eq (n : Nat) : fu n = n := by
  unfold fu
  rfl
/-- x in l -/
abbrev inB {α : Type} [DecidableEq α] (x : α) (l : List α) : Bool := decide (x ∈ l)
theorem inB_t {α : Type} [DecidableEq α] {x : α} {l : List α} : inB x l = true ↔ x ∈ l := decide_eq_true_iff
theorem inB_f {α : Type} [DecidableEq α] {x : α} {l : List α} : inB x l = false ↔ x ∉ l := decide_eq_false_iff_not
def b2i (b : Bool) : Int := if b = true then 1 else 0
/-! ### things -/
def Thing.isPl : Thing → Bool
  | .pl _ => true
  | .ti _ _ => false
def asPl : Thing → R Int
  | .pl i => .ok i
  | .ti _ _ => .bad
def asTi : Thing → R (Int × Int)
  | .pl _ => .bad
  | .ti a b => .ok (a, b)
def mkpl (xs : List Int) : List Thing := xs.map Thing.pl
def mkti (xs : List (Int × Int)) : List Thing := xs.map fun p => Thing.ti p.1 p.2
section
variable {δ : Type} {P : δ → Prop} {E : Exn → Prop} {K : Fg} {F H : Hp}
theorem pb_asPl {t : Thing} {f : Int → R δ} (h : Post (asPl t >>= f) P E) : ∃ i, t = .pl i ∧ Post (f i) P E := by
  cases t with
  | pl i => exact ⟨i, rfl, h⟩
  | ti a b => exact (show False from h).elim
theorem pb_asTi {t : Thing} {f : Int × Int → R δ} (h : Post (asTi t >>= f) P E) : ∃ q : Int × Int, t = .ti q.1 q.2 ∧ Post (f q) P E := by
  cases t with
  | pl i => exact (show False from h).elim
  | ti a b => exact ⟨(a, b), rfl, h⟩
theorem A2.pl : ∀ {vs : List V} {xs : List Int}, A2 (rep K F) vs xs → A2 (rep K F) vs (mkpl xs)
  | _, _, .nil => .nil
  | _, _, .cons h t => .cons h (A2.pl t)
theorem A2.ti : ∀ {vs : List V} {xs : List (Int × Int)}, A2 (rep K F) vs xs → A2 (rep K F) vs (mkti xs)
  | _, _, .nil => .nil
  | _, _, .cons h t => .cons h (A2.ti t)
theorem th_ty (s : Same F H) {v : V} {t : Thing} (r : rep K F v t) : ∃ a, TyOf K H v (.type a) ∧ (a = "int" ∧ t.isPl = true ∨ a = "tuple" ∧ t.isPl = false) := by
  cases t with
  | pl i =>
    have r' : v = V.int i := r
    subst r'
    exact ⟨_, .int i, .inl ⟨rfl, rfl⟩⟩
  | ti a b =>
    obtain ⟨c, u, w, rfl, q, _⟩ := (show rep K F v (a, b) from r)
    exact ⟨_, .tup (s _ _ q), .inr ⟨rfl, rfl⟩⟩
theorem th_int (s : Same F H) {v : V} {t : Thing} (r : rep K F v t) : ∃ a, TyOf K H v (.type a) ∧ kitB a "int" = some t.isPl := by
  obtain ⟨a, h, z⟩ := th_ty s r
  rcases z with ⟨rfl, e⟩ | ⟨rfl, e⟩
  · exact ⟨_, h, by rw [e]; decide +kernel⟩
  · exact ⟨_, h, by rw [e]; decide +kernel⟩
theorem th_tuple (s : Same F H) {v : V} {t : Thing} (r : rep K F v t) : ∃ a, TyOf K H v (.type a) ∧ kitB a "tuple" = some (!t.isPl) := by
  obtain ⟨a, h, z⟩ := th_ty s r
  rcases z with ⟨rfl, e⟩ | ⟨rfl, e⟩
  · exact ⟨_, h, by rw [e]; decide +kernel⟩
  · exact ⟨_, h, by rw [e]; decide +kernel⟩
theorem th_bool (s : Same F H) {v : V} {t : Thing} (r : rep K F v t) : ∃ a, TyOf K H v (.type a) ∧ kitB a "bool" = some false := by
  obtain ⟨a, h, z⟩ := th_ty s r
  rcases z with ⟨rfl, e⟩ | ⟨rfl, e⟩
  · exact ⟨_, h, by decide +kernel⟩
  · exact ⟨_, h, by decide +kernel⟩
end
/-! ### dicts of scalars: as written, asked -/
section
variable {κ β γ : Type} [DecidableEq κ]
/-- as a display makes it -/
def mmk (l : List (κ × β)) : List (κ × β) := l.foldl (fun m p => mput m p.1 p.2) []
theorem merge_enc {ev : β → V} (l m : List (Int × β)) : mergeK (encM kI ev m) (encM kI ev l) = encM kI ev (l.foldl (fun m p => mput m p.1 p.2) m) := by
  induction l generalizing m with
  | nil => rfl
  | cons p l ih =>
    show mergeK (putK (encM kI ev m) (kI p.1) (ev p.2)) (encM kI ev l) = _
    rw [put_enc kI_inj, ih]
    rfl
end
section
variable {β δ : Type} {ev : β → V} {H : Hp} {a b : Addr} {P : δ → Prop} {E : Exn → Prop}
theorem dgets_k {m : List (Int × β)} {k : Int} {t : β} (e : H a = some (.dK (encM kI ev m))) (q : mget m k = some t) : DGet H a (.int k) (some (ev t)) := by
  have h := dget_k (k := k) e
  rw [q] at h
  exact h
theorem dgets_p {m : List ((Int × Int) × β)} {k : Int × Int} {t : β} (e : H a = some (.dT (encM kP ev m))) (eb : H b = some (.tup [.int k.1, .int k.2])) (q : mget m k = some t) : DGet H a (.ref b) (some (ev t)) := by
  have h := dget_p (k := k) e eb
  rw [q] at h
  exact h
theorem pb_mget {κ : Type} [DecidableEq κ] {m : List (κ × β)} {k : κ} {f : β → R δ} (h : Post (mgetR m k >>= f) P E) : ∃ t, mget m k = some t ∧ Post (f t) P E := pb_ofO h
theorem getD_ev (f : β → V) (o : Option β) (d : β) : (o.map f).getD (f d) = f (o.getD d) := by cases o <;> rfl
theorem isD_k {kvs : List (Key × V)} (e : H a = some (.dK kvs)) : IsD H a := .inl ⟨kvs, .inl e⟩
theorem isD_t {kvs : List (List Key × V)} (e : H a = some (.dT kvs)) : IsD H a := .inr ⟨kvs, .inl e⟩
end
def tDGet2R (td ty tx : TE) : TE := fun σ H Q => td σ H fun x H1 => ∃ a, x = .ref a ∧ IsD H1 a ∧ ty σ H1 fun y H2 => tx σ H2 fun z H3 => ∃ o r, DGet H3 a y o ∧ o.getD z = r ∧ Q r H3
section
variable {X : Cx} {o e f : Expr} {apos cpos : Pos} {td ty tx : TE}
theorem pe_dget2R (hu : X.A.units + 1 < cLine) (ho : PE X o td) (he : PE X e ty) (hf : PE X f tx) (m : M2 X o "get" apos e f cpos) : PE X (.Call (.Attribute o "get" apos) [e, f] [] cpos) (tDGet2R td ty tx) := by
  refine ⟨fun pins s σ H Q I h => ?_⟩
  refine wpAny_Call_method m.base m.few m.line PySem.F.plainAttrs_dict PySem.F.slot_dict_get PySem.F.type_dict_get (thn (ho.run pins s σ H _ I h) fun u s1 ⟨x, H1, I1, rx, a, ex, d, q1⟩ => ?_)
  subst ex
  obtain rfl : u = Value.ref a := rx
  obtain ⟨t1, t2, _⟩ := isD_at I1 d
  refine ⟨t1, t2, ?_⟩
  rw [m.trees]
  refine Calls.callWith_builtin rfl (Calls.evalArgs_plain (Calls.spliced_cons (thn (he.run pins s1 σ H1 _ I1 q1) fun iv s2 ⟨y, H2, I2, ry, q2⟩ =>
    Calls.spliced_cons (thn (hf.run pins s2 σ H2 _ I2 q2) fun fv s3 ⟨z, H3, I3, rz, ov, r, g, er, q3⟩ => Calls.spliced_nil ?_))))
  subst er
  exact d_get2 hu I3 g ry rz fun w' s4 I4 rw' => ⟨_, H3, I4, rw', q3⟩
end
/-! ### tuples cut and joined -/
section
variable {X : Cx} {K : Fg}
theorem sl_tupU (hK : X.K = K) : SlR X (fun x lo hi H Q => ∃ (a : Addr) (xs : List V) (F : Hp) (os : List (Addr × HO)), x = .ref a ∧ W F H os ∧ F a = some (.tup xs) ∧ ∀ p F' H', Same F F' → W F' H' os → F' p = some (.tup (cutV xs lo hi)) → Q (.ref p) H') := by
  subst hK
  intro pins s σ H x v vl vu lo hi sl Q I rx hs pl pu ⟨a, xs, F, os, e, w, q, h⟩
  refine sl_tupA pins s σ H x v vl vu lo hi sl Q I rx hs pl pu ⟨a, xs, e, SqT.of (w.same _ _ q), fun c => ?_, fun _ p hp => ?_⟩
  · refine h a F H (Same.refl _) w ?_
    have ec : cutV xs lo hi = xs := by
      unfold cutV
      rw [c.1, c.2]
      simp
    rw [ec]
    exact q
  · obtain ⟨F', s', w', q'⟩ := w.frzE (o := .tup (cutV xs lo hi)) hp
    exact h p F' _ s' w' q'
theorem op_catU (hK : X.K = K) : OpR X (binaryOp .Add) (fun x y H Q => ∃ (a b : Addr) (xs ys : List V) (F : Hp) (os : List (Addr × HO)), x = .ref a ∧ y = .ref b ∧ W F H os ∧ F a = some (.tup xs) ∧ F b = some (.tup ys) ∧ xs.length + ys.length ≤ sizeLine ∧
    ∀ p F' H', Same F F' → W F' H' os → F' p = some (.tup (xs ++ ys)) → Q (.ref p) H') := by
  subst hK
  intro pins s σ H x y v u Q I rx ry ⟨a, b, xs, ys, F, os, e1, e2, w, qa, qb, hl, h⟩
  refine op_catA pins s σ H x y v u Q I rx ry ⟨a, b, xs, ys, e1, e2, SqT.of (w.same _ _ qa), SqT.of (w.same _ _ qb), hl, fun c => ?_, fun c d => ?_, fun _ _ p hp => ?_⟩
  · subst c
    exact h b F H (Same.refl _) w qb
  · subst d
    exact h a F H (Same.refl _) w (by rw [List.append_nil]; exact qa)
  · obtain ⟨F', s', w', q'⟩ := w.frzE (o := .tup (xs ++ ys)) hp
    exact h p F' _ s' w' q'
end
end Z
/-! Z7: dicts of tuple keys whose values are lists of a store; their values walked -/
namespace L2
open PySem PySem.Spec PyProof.Rows
/-- the values of the locked dict at d, of tuple keys -/
def ItdT (d : Addr) (o : Obj) (kvs : List (List Key × V)) : It :=
  ⟨fun i H => H d = some (.frz o (.dT kvs)) ∧ i < kvs.length, fun i H x H' => H' = H ∧ ∃ k, kvs[i]? = some (k, x), fun i H => H d = some (.frz o (.dT kvs)) ∧ kvs.length ≤ i⟩
section
variable {X : Cx} {pins : List (Addr × Obj)} {σ : St} {H : Hp} {s : Shared} {d : Addr} {o : Obj}
theorem Inv.frzTV {kvs : List (List Key × V)} (I : Inv X pins σ H s) (h : H d = some (.frz o (.dT kvs))) :
    (d == sysModules) = false ∧ s.heap.get? d = some o ∧ o.ExactDict ∧ ∃ (es : Array DictEntry) (ep : Nat), o.data = .dict es ep ∧ es.size = kvs.length ∧
      ∀ (i : Nat) (k : List Key) (v : V), kvs[i]? = some (k, v) → ∃ en : DictEntry, es[i]? = some en ∧ RelV v en.val := by
  obtain ⟨hd, z, hs, xs, pr, o', es, ep, ho, hx, hdt, he, _⟩ := I.hok d _ h
  rw [hd] at ho
  cases ho
  refine ⟨hs, hd, hx, es, ep, hdt, ?_, fun i k v e => ?_⟩
  · have l1 : es.size = xs.length := size_of_entries he
    have l2 : kvs.length = xs.length := Paired.length pr
    omega
  · obtain ⟨b, hb, e1, e2, e3⟩ := paired_get pr e
    have q := entry_at he i
    rw [hb] at q
    exact ⟨_, q, e3⟩
end
section
variable {P : Program} {w : World} {K : PySem.W.Frag} {tg : Expr} {d : Addr} {o : Obj} {es : Array DictEntry} {ep : Nat}
theorem turn_valsT {kvs : List (List Key × V)} (it : Addr) (hod : o.data = .dict es ep) : Turn P w K tg (ItdT d o kvs) [it] it (fun i h => h.IsValIter it d i kvs.length ep) where
  mem := by simp
  obj := fun i h st b hb => by
    have e : b = it := by simpa using hb
    subst e
    obtain ⟨oi, e, c, dd⟩ := st
    exact ⟨oi, e, fun v z => by rw [dd] at z; cases z⟩
  keep := fun i h h' st k => st.at fun oi e => k it (by simp) oi e
  item := by
    intro X hP hw hK hc i pins s σ H E I hf st hg
    subst hP hw hK
    obtain ⟨hd, hi⟩ := hg
    obtain ⟨f0, f1, f2, f3, f4, f5⟩ := hf it (by simp)
    obtain ⟨hs, hgd, hx, es', ep', hdt, hsz, ent⟩ := I.frzTV hd
    obtain ⟨rfl, rfl⟩ := dict_ep hod hdt
    obtain ⟨⟨k, v⟩, hkv⟩ : ∃ p, kvs[i]? = some p := ⟨kvs[i], List.getElem?_eq_getElem hi⟩
    obtain ⟨en, hen, ru⟩ := ent i k v hkv
    have hil : i < es'.size := by omega
    have een : es'[i] = en := by
      rw [Array.getElem?_eq_getElem hil] at hen
      exact Option.some.inj hen
    rw [← hsz] at st
    refine wpAny_pyNext_values_item_raw st ⟨o, hgd, hx, hdt⟩ hil fun h' st' sb => ?_
    have I1 : Inv X pins σ H { s with heap := h' } := I.turned (t' := s.toks) (fun b ob hb e => (sb.2 b hb).trans e) f0 f1 f3 f4 f5
    obtain ⟨oi, e, c, dd⟩ := id st'
    refine ⟨_, rfl, go_of (s := { s with heap := h' }) e c dd (by decide) ⟨v, H, I1, by rw [een]; exact ru, ⟨rfl, k, hkv⟩, ?_, fun b hb => (hf b hb).1⟩⟩
    show h'.IsValIter it d (i + 1) kvs.length _
    rw [← hsz]
    exact st'
  done := by
    intro X hP hw hK hc i pins s σ H E I hf st hg
    subst hP hw hK
    obtain ⟨hd, hi⟩ := hg
    obtain ⟨f0, f1, f2, f3, f4, f5⟩ := hf it (by simp)
    obtain ⟨hs, hgd, hx, es', ep', hdt, hsz, ent⟩ := I.frzTV hd
    obtain ⟨rfl, rfl⟩ := dict_ep hod hdt
    rw [← hsz] at st
    exact wpAny_pyNext_values_end_raw (I.ok.hd hc) st ⟨o, hgd, hx, hdt⟩ (by omega) fun h' eb => ⟨rfl, I.turned (t' := s.toks) (fun b ob hb e => eb b ob hb e) f0 f1 f3 f4 f5⟩
  self := fun A i s Q E st h => wpAny_pyIter_valiter st h
end
/-- d.values() of a dict that is locked from there on -/
def iValsT (td : TE) : TI := fun σ H R => td σ H fun x H1 => ∃ d kvs, x = .ref d ∧ H1 d = some (.dT kvs) ∧ ∀ od, R (ItdT d od kvs) (upd H1 d (.frz od (.dT kvs)))
section
variable {X : Cx} {tg e : Expr} {td : TE} {apos cpos : Pos}
theorem pi_valuesT (he : PE X e td) (hbase : attributeBase e "values" X.env (eval e X.env) = eval e X.env := by rfl) (hline : (apos.endLine == cpos.line) = true := by rfl) : PI X tg (.Call (.Attribute e "values" apos) [] [] cpos) (iValsT td) := by
  refine ⟨fun pins s σ H R I h => ?_⟩
  refine wpAny_Call_method (T := "dict") (id := "dict.values") hbase rfl hline F.plainAttrs_dict F.slot_dict_values F.type_dict_values (thn (he.run pins s σ H _ I h) fun u s1 ⟨x, H0, I0, rx, d, kvs, ex, hd0, q0⟩ => ?_)
  subst ex
  obtain rfl : u = Value.ref d := rx
  obtain ⟨od, I1⟩ := I0.lock hd0 (by exact True.intro)
  have q := q0 od
  have hd : upd H0 d (.frz od (.dT kvs)) d = some (.frz od (.dT kvs)) := upd_same
  obtain ⟨hs, hgd, hx, es, ep, hdt, hsz, ent⟩ := I1.frzTV hd
  have hm : s1.heap.DictRaw d es ep := ⟨od, hgd, hx, hdt⟩
  refine ⟨hm.typeIs, fun b hb => ?_, ?_⟩
  · cases hb
    exact ⟨od, hgd, hx.2.1⟩
  have I2 : Inv X pins σ (upd H0 d (.frz od (.dT kvs))) { s1 with heap := s1.heap.push { cls := .type "dict_values", data := .fields #[.ref d] } } := I1.kept (t' := s1.toks) fun b ob q => Heap.get?_push_of_some _ q
  have fin : wpAny (model X.prog X.w) X.A (pyIter (.ref s1.heap.objs.size)) (PIE X pins σ tg R) X.xe { s1 with heap := s1.heap.push { cls := .type "dict_values", data := .fields #[.ref d] } } := by
    refine wpAny_pyIter_values_raw (d := d) (es := es) (ep := ep) ⟨_, Heap.get?_push_size _ rfl, rfl, rfl⟩ (hm.at fun o q => Heap.get?_push_of_some _ q) (pi_one (tk := s1.toks) I2 _ (turn_valsT _ hdt) ⟨_, Heap.get?_push_size _ rfl, rfl, ?_⟩ q)
    rw [hsz] <;> rfl
  show wpAny _ _ (callWith cpos (.builtin "dict.values") [.ref d] [] []) _ X.xe s1
  exact method_meetsIn F.slot_dict_values F.entry_dict_values rfl (PySem.evalArgs_none ⟨rfl, hm.typeIs, F.args_dict_values_1 _, _, meets_dict_values_raw d hs, ⟨es, ep, hm⟩, fin⟩)
end
end L2
namespace Z
open PySem L2
open Rep (rep)
/-! ### dicts by what their values stand for -/
section
variable {κ β γ : Type} [DecidableEq κ] [DecidableEq γ] {e : κ → γ} {r r' : V → β → Prop}
inductive AD (e : κ → γ) (r : V → β → Prop) : List (γ × V) → List (κ × β) → Prop
  | nil : AD e r [] []
  | cons {k : κ} {v : V} {x : β} {kvs : List (γ × V)} {m : List (κ × β)} : r v x → AD e r kvs m → AD e r ((e k, v) :: kvs) ((k, x) :: m)
theorem AD.length : ∀ {kvs : List (γ × V)} {m : List (κ × β)}, AD e r kvs m → kvs.length = m.length
  | _, _, .nil => rfl
  | _, _, .cons _ t => by rw [List.length_cons, List.length_cons, AD.length t]
theorem AD.imp (f : ∀ v x, r v x → r' v x) : ∀ {kvs : List (γ × V)} {m : List (κ × β)}, AD e r kvs m → AD e r' kvs m
  | _, _, .nil => .nil
  | _, _, .cons h t => .cons (f _ _ h) (AD.imp f t)
theorem AD.no (he : ∀ a b, e a = e b → a = b) {k : κ} : ∀ {kvs : List (γ × V)} {m : List (κ × β)}, AD e r kvs m → (valV kvs (e k)).isSome = mhas m k
  | _, _, .nil => rfl
  | _, _, .cons (k := j) (v := v) (x := x) (kvs := kvs) (m := m) h t => by
    show _ = (decide (j = k) || mhas m k)
    by_cases q : j = k
    · rw [valV_pos (congrArg e q), decide_eq_true q]; rfl
    · rw [valV_neg (fun z => q (he _ _ z)), decide_eq_false q, AD.no he t]; rfl
theorem AD.get (he : ∀ a b, e a = e b → a = b) {k : κ} {y : β} : ∀ {kvs : List (γ × V)} {m : List (κ × β)}, AD e r kvs m → mget m k = some y → ∃ v, valV kvs (e k) = some v ∧ r v y
  | _, _, .nil, h => by cases h
  | _, _, .cons (k := j) (v := v) (x := x) (kvs := kvs) (m := m) h t, g => by
    unfold mget at g
    by_cases q : j = k
    · rw [List.find?_cons_of_pos (by simpa using q)] at g
      cases g
      exact ⟨v, valV_pos (congrArg e q), h⟩
    · rw [List.find?_cons_of_neg (by simpa using q)] at g
      obtain ⟨u, h1, h2⟩ := AD.get he (k := k) t g
      exact ⟨u, by rw [valV_neg (fun z => q (he _ _ z))]; exact h1, h2⟩
theorem AD.snoc {k : κ} {v : V} {x : β} (h : r v x) : ∀ {kvs : List (γ × V)} {m : List (κ × β)}, AD e r kvs m → AD e r (kvs ++ [(e k, v)]) (m ++ [(k, x)])
  | _, _, .nil => .cons h .nil
  | _, _, .cons a t => .cons a (AD.snoc h t)
theorem AD.upd (he : ∀ a b, e a = e b → a = b) {k : κ} {v : V} {x : β} (h : r v x) : ∀ {kvs : List (γ × V)} {m : List (κ × β)}, AD e r kvs m → AD e r (kvs.map fun p => if p.1 = e k then (p.1, v) else p) (m.map fun p => if p.1 = k then (p.1, x) else p)
  | _, _, .nil => .nil
  | _, _, .cons (k := j) (v := u) (x := y) (kvs := kvs) (m := m) a t => by
    rw [List.map_cons, List.map_cons]
    by_cases q : j = k
    · subst q
      rw [if_pos rfl, if_pos rfl]
      exact .cons h (AD.upd he h t)
    · rw [if_neg q, if_neg (fun z => q (he _ _ z))]
      exact .cons a (AD.upd he h t)
theorem AD.any (he : ∀ a b, e a = e b → a = b) {k : κ} : ∀ {kvs : List (γ × V)} {m : List (κ × β)}, AD e r kvs m → (kvs.any fun p => decide (p.1 = e k)) = m.any fun p => decide (p.1 = k)
  | _, _, .nil => rfl
  | _, _, .cons (k := j) (kvs := kvs) (m := m) a t => by
    rw [List.any_cons, List.any_cons, AD.any he t]
    congr 1
    by_cases q : j = k
    · rw [q]; simp
    · rw [decide_eq_false q, decide_eq_false (fun z => q (he _ _ z))]
theorem AD.put (he : ∀ a b, e a = e b → a = b) {k : κ} {v : V} {x : β} {kvs : List (γ × V)} {m : List (κ × β)} (t : AD e r kvs m) (h : r v x) : AD e r (putK kvs (e k) v) (mput m k x) := by
  unfold putK mput
  rw [t.any he]
  by_cases q : (m.any fun p => decide (p.1 = k)) = true
  · rw [if_pos q, if_pos q]
    exact t.upd he h
  · rw [if_neg q, if_neg q]
    exact t.snoc h
theorem AD.vals : ∀ {kvs : List (γ × V)} {m : List (κ × β)}, AD e r kvs m → ∀ {i : Nat} {k : γ} {v : V}, kvs[i]? = some (k, v) → ∃ x, (m.map (·.2))[i]? = some x ∧ r v x
  | _, _, .nil, i, k, v, h => by simp at h
  | _, _, .cons (k := j) (v := u) (x := x) a t, 0, k, v, h => by
    simp at h
    obtain ⟨_, rfl⟩ := h
    exact ⟨x, rfl, a⟩
  | _, _, .cons a t, i + 1, k, v, h => by
    obtain ⟨x, h1, h2⟩ := AD.vals t (i := i) (k := k) (v := v) (by simpa using h)
    exact ⟨x, by simpa using h1, h2⟩
end
/-- a tuple of ints as a key -/
def kT (t : Tup Int) : List Key := t.l.map Sum.inl
theorem kT_inj : ∀ a b, kT a = kT b → a = b := fun a b h => by
  have g : ∀ xs ys : List Int, (xs.map Sum.inl : List Key) = ys.map Sum.inl → xs = ys := by
    intro xs
    induction xs with
    | nil => intro ys e; cases ys <;> first | rfl | cases e
    | cons x xs ih =>
      intro ys e
      cases ys with
      | nil => cases e
      | cons y ys =>
        rw [List.map_cons, List.map_cons] at e
        injection e with e1 e2
        rw [Sum.inl.inj e1, ih ys e2]
  have : a.l = b.l := g _ _ h
  cases a
  cases b
  simp at this
  rw [this]
section
variable {K : Fg} {F H : Hp} {a b : Addr} {kvs : List (List Key × V)} {vs : List V} {t : Tup Int} {β : Type} {r : V → β → Prop} {m : List (Tup Int × β)}
theorem key_tup (s : Same F H) (q : F b = some (.tup vs)) (h : A2 (rep K F) vs t.l) : H b = some (.tup ((kT t).map kV)) := by
  have e : vs = (kT t).map kV := by
    rw [h.ints]
    unfold kT
    rw [List.map_map]
    rfl
  rw [← e]
  exact s _ _ q
theorem dgetA (e : H a = some (.dT kvs)) (eb : H b = some (.tup ((kT t).map kV))) : DGet H a (.ref b) (valV kvs (kT t)) := DGet.t e eb
theorem dgetsA {v : V} (e : H a = some (.dT kvs)) (eb : H b = some (.tup ((kT t).map kV))) (q : valV kvs (kT t) = some v) : DGet H a (.ref b) (some v) := by
  have h := dgetA (t := t) e eb
  rw [q] at h
  exact h
theorem dputA {v : V} (e : H a = some (.dT kvs)) (eb : H b = some (.tup ((kT t).map kV))) (h : AD kT r kvs m) (hl : m.length < sizeLine) : DPut H a (.ref b) v (upd H a (.dT (putK kvs (kT t) v))) := DPut.t e eb (by rw [h.length]; exact hl)
theorem tw_valsT {d : Addr} {o : Obj} (h : AD kT r kvs m) : TW (ItdT d o kvs) (m.map (·.2)) (fun H => H d = some (.frz o (.dT kvs))) (fun b H x H' => H' = H ∧ r x b) := ⟨by
  rw [List.length_map, ← h.length]
  refine ⟨fun _ _ hi q => ⟨q, hi⟩, fun _ q => ⟨q, Nat.le_refl _⟩, fun i H x H' _ _ y => ?_⟩
  obtain ⟨e, k, hk⟩ := y
  obtain ⟨b, h1, h2⟩ := h.vals hk
  exact ⟨b, h1, e, h2⟩⟩
end
section
variable {X : Cx} {K : Fg}
/-- l.index(x), of data -/
theorem mt_indexDt (hK : X.K = K) (α : Type) [Dat α] [DecidableEq α] (hd : Dat.dmax α ≤ 50) (hu : X.A.units + 65 < cLine) : MtR X "list.index" (fun x xs H Q => ∃ (a : Addr) (u : V) (ys : List α) (y : α) (j : Nat), x = V.ref a ∧ xs = [u] ∧ rep K H (V.ref a) ys ∧ rep K H u y ∧ fidx y ys = some j ∧ Q (.int (j : Int)) H) := by
  subst hK
  intro pins s σ H x xs v us Q I rx rxs ⟨a, u, ys, y, j, e1, e2, hs, hy, hj, q⟩
  obtain ⟨h1, h2⟩ := fidx_spec hj
  refine mt_indexD hu pins s σ H x xs v us Q I rx rxs ⟨a, u, Dat.toD y, ys.map Dat.toD, j, Dat.toD y, e1, e2, Dat.dp hs, Dat.dp hy, shapedD (α := List α) (by show Dat.dmax α + 1 ≤ 60; omega) ys, shapedD (by omega) y, ?_, ?_, fun m z hm hz => ?_, q⟩
  · rw [List.getElem?_map, h1]
    rfl
  · rw [eqvD]
    exact decide_eq_true rfl
  · rw [List.getElem?_map] at hz
    cases e : ys[m]? with
    | none => rw [e] at hz; cases hz
    | some t =>
      rw [e] at hz
      cases hz
      rw [eqvD]
      exact decide_eq_false (h2 m t hm e)
end
end Z
/-! Z8: set(list of ints), sorted of it; list.count of data; list.insert -/
namespace L2
open PySem PySem.Spec PyProof.Rows
section
variable {P : Program} {w : World} {A : Around} {E : Value → Shared → Prop} {s : Shared}
set_option maxHeartbeats 3200000 in
/-- set(l) of a list of ints (turned from the tuple's, call_set_tupI) -/
theorem set_of_listI {l : Addr} {items : Array Value} (ns : List Int) {Q : Value → Shared → Prop} (hh : A.handled = none) (hl : s.heap.IsList l items) (hit : IntsAre items.toList ns) (hb : ns.length + 1 < scanBound)
    (h : ∀ (h' : Heap) (tk c : Nat), SetR w h' s.heap.objs.size (fun j => decide (j ∈ ns)) c → c ≤ ns.length → (∀ b o, s.heap.get? b = some o → h'.get? b = some o) → Q (.ref s.heap.objs.size) { s with heap := h', toks := tk }) :
    wpAny (model P w) A (call (.type "set") [.ref l]) Q E s := by
  have hisz : items.size = ns.length := by
    have q := IntsAre.length hit
    rw [Array.length_toList] at q
    exact q
  obtain ⟨c, tl, hmro⟩ := F.called_set.mro
  have hmade := F.called_set.made
  have hsub := F.called_set.sub
  refine wpAny_call (codeAny_of_tree ?_)
  show wpAny _ _ (callAny (.type "set") _) _ _ _
  refine wpAny_pure ⟨Code.quiet_builtin _ (by decide +kernel), codeAny_builtin F.entry_type_call ?_⟩
  rw [Around.under_plain (weight_type_call_type "set" [.ref l] []) rfl]
  have h1 := F.called_set.notType
  have h2 := F.called_set.canCreate
  have hct := F.typeCall_set_1 (.ref l)
  repeat (any_goals (first | assumption | wp_step))
  refine codeAny_mono (code_set_led1 (.ref l) (E := E) (Q₁ := fun obj s₁ => obj = .ref s.heap.objs.size ∧ s₁ = { s with heap := s.heap.push { cls := .type "set", dict := none, data := .set #[] 0 (.fresh 0 0 (!w.params.followText "set-order")) } }) ⟨rfl, rfl⟩) fun r s₁ hr => ?_
  cases r with
  | error e => exact hr
  | ok fl =>
    cases fl with
    | ret obj =>
      obtain ⟨rfl, rfl⟩ := hr
      have hS : (s.heap.push { cls := .type "set", dict := none, data := .set #[] 0 (.fresh 0 0 (!w.params.followText "set-order")) }).get? s.heap.objs.size = some { cls := .type "set", dict := none, data := .set #[] 0 (.fresh 0 0 (!w.params.followText "set-order")) } := Heap.get?_push_size _ rfl
      have hT : Shared.TypeIs { s with heap := s.heap.push { cls := .type "set", dict := none, data := .set #[] 0 (.fresh 0 0 (!w.params.followText "set-order")) } } (.ref s.heap.objs.size) "set" := ⟨_, hS, rfl⟩
      have hli := F.called_set.init.lookup
      have hbi := F.called_set.init.bind (.ref s.heap.objs.size)
      repeat (any_goals (first | assumption | wp_step))
      refine codeAny_mono (codeAny_call_builtin (R := wants (fun r s₂ => r = .none ∧ ∃ h' tk c, s₂ = { s with heap := h', toks := tk } ∧ SetR w h' s.heap.objs.size (fun j => decide (j ∈ ns)) c ∧ c ≤ ns.length ∧
          (∀ b o, s.heap.get? b = some o → h'.get? b = some o)) E) F.called_set.init.plain F.entry_set_init (check_set_init_1 hT ?_)) fun r₂ s₂ hr₂ => ?_
      · obtain ⟨ol, hol, hcl, nl, hdl⟩ := hl
        obtain ⟨ocls, odict, odata, oslots⟩ := ol
        simp only at hcl hdl
        subst hcl; subst hdl
        have hol' : (s.heap.push { cls := .type "set", dict := none, data := .set #[] 0 (.fresh 0 0 (!w.params.followText "set-order")) }).get? l = some { cls := .type "list", dict := odict, data := .seq items nl, slots := oslots } := Heap.get?_push_of_some _ hol
        have hsls := F.sub_list_set
        have hslf := F.sub_list_frozenset
        have hne : (Value.type "list" == Value.type "dict") = false := by decide
        have hl1 : (s.heap.push { cls := .type "set", dict := none, data := .set #[] 0 (.fresh 0 0 (!w.params.followText "set-order")) }).IsList l items := ⟨_, hol', rfl, nl, rfl⟩
        unfold Builtin.«set.__init__» noKeywords Builtin.Frozenset.updateFrom
        generalize hPI : pyIter = PI
        wp_walk
        subst hPI
        refine wpAny_pyIter_list hl1 ?_
        refine wpAny_bind (wpAny_runValue ?_)
        have hlS : l < s.heap.objs.size := Heap.lt_size hol
        have hh3 : A.in1.in1.in1.handled = none := by simp [hh]
        have hz1 : (s.heap.push { cls := .type "set", dict := none, data := .set #[] 0 (.fresh 0 0 (!w.params.followText "set-order")) }).objs.size = s.heap.objs.size + 1 := Heap.size_push ..
        have hneI : l ≠ (s.heap.push { cls := .type "set", dict := none, data := .set #[] 0 (.fresh 0 0 (!w.params.followText "set-order")) }).objs.size := by
          rw [Heap.size_push]; exact Nat.ne_of_lt (Nat.lt_succ_of_lt hlS)
        have hSf : s.heap.objs.size ∉ [(s.heap.push { cls := .type "set", dict := none, data := .set #[] 0 (.fresh 0 0 (!w.params.followText "set-order")) }).objs.size, l] := by
          rw [Heap.size_push]; simp only [List.mem_cons, List.mem_singleton, List.not_mem_nil, or_false, not_or]
          exact ⟨Nat.ne_of_lt (Nat.lt_succ_self _), Nat.ne_of_gt hlS⟩
        have hval : ∀ (i : Nat) (v : Value), items[i]? = some v → ∃ k t, ns[i]? = some k ∧ v = .int k t := fun i v hv => by
          have hi : i < ns.length := by rw [← hisz]; exact (Array.getElem?_eq_some_iff.mp hv).1
          obtain ⟨t, e⟩ := PyProof.Rows.IntsAre.int_at hit i v (by rw [Array.getElem?_toList]; exact hv)
          refine ⟨ns[i], t, List.getElem?_eq_getElem hi, ?_⟩
          rw [e, List.getD_eq_getElem?_getD, List.getElem?_eq_getElem hi] <;> rfl
        refine set_update_ints ((Walks.list hh3 _ l hneI items).toS) s.heap.objs.size
          hSf ns hisz hb hval (items.size - 0) 0 _ (by omega) (Nat.zero_le _)
          ⟨⟨_, Heap.get?_push_size _ rfl, rfl, rfl⟩, (hl1.push _)⟩ ?hS0 ?hR
        case hS0 =>
          have hget : ((s.heap.push { cls := .type "set", dict := none, data := .set #[] 0 (.fresh 0 0 (!w.params.followText "set-order")) }).push { cls := .type "list_iterator", data := .fields #[.ref l, .int 0 0] }).get? s.heap.objs.size = some { cls := .type "set", dict := none, data := .set #[] 0 (.fresh 0 0 (!w.params.followText "set-order")) } := Heap.get?_push_of_some _ hS
          exact ⟨0, Nat.le_refl 0, setR_new_at hget⟩
        case hR =>
          intro s' c' hm hc' hS'
          obtain ⟨h', g2, d', tk', os'⟩ := s'
          have eg : g2 = s.gens := hm.gens
          have ed : d' = s.drawn := hm.drawn
          have eo : os' = s.os := hm.os
          subst eg; subst ed; subst eo
          show wpAny _ _ _ _ _ _
          refine wpAny_pure ?_
          show wpAny _ _ (ret Value.none) _ _ _
          rw [hisz] at hc'
          refine wpAny_pure ⟨rfl, h', tk', c', rfl, hS', hc', fun b o e => ?_⟩
          have hb0 : b < s.heap.objs.size := Heap.lt_size e
          have hb1 : b ≠ s.heap.objs.size := Nat.ne_of_lt hb0
          have hb2 : b ≠ (s.heap.push { cls := .type "set", dict := none, data := .set #[] 0 (.fresh 0 0 (!w.params.followText "set-order")) }).objs.size := by
            rw [Heap.size_push]; exact Nat.ne_of_lt (Nat.lt_succ_of_lt hb0)
          exact hm.heap b o (by simp only [List.mem_cons, List.mem_singleton, List.not_mem_nil, or_false, not_or]; exact ⟨hb1, hb2⟩) (Heap.get?_push_of_some _ (Heap.get?_push_of_some _ e))
      · cases r₂ with
        | error e => exact hr₂
        | ok fl₂ =>
          cases fl₂ with
          | ret r =>
            obtain ⟨rfl, h', tk, c', rfl, hS', hc', hk'⟩ := hr₂
            repeat (any_goals (first | assumption | wp_step))
            exact h _ _ _ hS' hc' hk'
          | _ => exact hr₂.elim
    | _ => exact hr.elim
end
end L2
namespace Z
open PySem L2
open Rep (rep)
section
variable {X : Cx} {K : Fg} {w : World}
theorem cr_setLI (hK : X.K = K) (hw : X.w = w) (hc : X.calm = true) : CallR X (.type "set") (fun xs H Q => ∃ (l : Addr) (ns : List Int), xs = [V.ref l] ∧ SqL K H l (ns.map V.int) ∧ ns.length < 4000 ∧ ∀ a, H a = none → Q (.ref a) (upd H a (SetO w a (fun j => decide (j ∈ ns)) (nub ns).length))) := by
  subst hK hw
  intro pins s σ H xs us Q I r h
  obtain ⟨l, ns, rfl, hl, hf, q⟩ := h
  rw [Vals.ref1 r]
  obtain ⟨its, rv, pl, hz⟩ := I.list hl
  have hn : H s.heap.objs.size = none := I.hok.fresh (Nat.le_refl _)
  refine set_of_listI ns (I.ok.hd hc) pl.isList (by simpa using ints_of_vals rv) (by unfold scanBound; omega) fun h' tk c R hcn k => ?_
  have ec : c = (nub ns).length := by
    obtain ⟨o, es, ep, t, ho, hex, hdt, g, nd, hm2, hb, hf, hcs, hr, hl2⟩ := R
    rw [← hcs]
    have e1 : (es.toList.map keyOf).length = (nub ns).length := nodup_len nd (nub_nodup _) fun y => by
      rw [nub_mem, ← hm2 y, decide_eq_true_eq]
    rw [← e1, List.length_map, Array.length_toList]
  subst ec
  exact ⟨.ref s.heap.objs.size, upd H s.heap.objs.size (SetO X.w s.heap.objs.size (fun j => decide (j ∈ ns)) (nub ns).length), I.laid (t' := tk) k (Nat.le_refl _) (setO_new R), rfl, q _ hn⟩
theorem cr_sortSet (hw : X.w = w) (hc : X.calm = true) : CallR X (.builtin "sorted") (rSortedSet w) := by
  subst hw
  exact cr_sortedSet hc
end
/-- sorted(set(xs)) -/
def ssI (xs : List Int) : List Int := sortI (nub xs)
def ssR (xs : List Int) : R (List Int) := grd (decide (xs.length < 4000) && decide ((nub xs).length < 64)) >>= fun _ => .ok (ssI xs)
theorem perm_ints {xs ys : List Int} (h1 : xs.Nodup) (h2 : ys.Nodup) (h : ∀ x, x ∈ xs ↔ x ∈ ys) : xs.Perm ys := by
  rw [List.perm_iff_count]
  intro a
  rw [h1.count, h2.count]
  by_cases q : a ∈ xs
  · rw [if_pos q, if_pos ((h a).mp q)]
  · rw [if_neg q, if_neg (fun z => q ((h a).mpr z))]
theorem ssI_uniq {xs ns : List Int} (h1 : ns.Pairwise (· < ·)) (h2 : ∀ k : Int, k ∈ ns ↔ decide (k ∈ xs) = true) : ns = ssI xs := by
  unfold ssI
  refine sort_uniq ?_ (h1.imp fun h => Int.le_of_lt h) (sortI_sorted _)
  refine List.Perm.trans ?_ (sortI_perm _).symm
  refine perm_ints (h1.imp fun h => Int.ne_of_lt h) (nub_nodup _) fun k => ?_
  rw [h2 k, decide_eq_true_iff, nub_mem]
theorem pb_ss {δ : Type} {xs : List Int} {f : List Int → R δ} {P : δ → Prop} {E : Exn → Prop} (h : Post (ssR xs >>= f) P E) : ∃ l, (xs.length < 4000 ∧ (nub xs).length < 64) ∧ l = ssI xs ∧ Post (f l) P E := by
  unfold ssR at h
  cases q : (decide (xs.length < 4000) && decide ((nub xs).length < 64)) with
  | true =>
    rw [q] at h
    rw [Bool.and_eq_true, decide_eq_true_iff, decide_eq_true_iff] at q
    exact ⟨_, q, rfl, h⟩
  | false =>
    rw [q] at h
    exact (show False from h).elim
/-- xs.insert(i, y), i not below nought -/
def insR {α : Type} (xs : List α) (i : Int) (y : α) : R (List α) := if xs.length < 100000 ∧ 0 ≤ i ∧ i < 9223372036854775808 then .ok (xs.take i.toNat ++ [y] ++ xs.drop i.toNat) else .bad
theorem pn_ins {α δ : Type} {xs : List α} {i : Int} {y : α} {f : List α → R δ} {P : δ → Prop} {E : Exn → Prop} (h : Post (insR xs i y >>= f) P E) : ∃ l, (xs.length < 100000 ∧ 0 ≤ i ∧ i < 9223372036854775808) ∧ l = xs.take i.toNat ++ [y] ++ xs.drop i.toNat ∧ Post (f l) P E := by
  unfold insR at h
  by_cases q : xs.length < 100000 ∧ 0 ≤ i ∧ i < 9223372036854775808
  · rw [if_pos q] at h
    exact ⟨_, q, rfl, h⟩
  · rw [if_neg q] at h
    exact (show False from h).elim
theorem A2.ins {α : Type} {r : V → α → Prop} {v : V} {y : α} (n : Nat) {vs : List V} {xs : List α} (h : A2 r vs xs) (g : r v y) : A2 r (vs.take n ++ [v] ++ vs.drop n) (xs.take n ++ [y] ++ xs.drop n) := A2.append (A2.append (A2.take n h) (.cons g .nil)) (A2.drop n h)
theorem line_ins {α : Type} {r : V → α → Prop} {vs : List V} {xs : List α} (h : A2 r vs xs) (g : xs.length < 100000) : vs.length < sizeLine := by
  rw [h.length]
  exact Nat.lt_of_lt_of_le g line5
/-- l.count(x), of data -/
def cntB {α : Type} [DecidableEq α] (xs : List α) (y : α) : Int := ((xs.countP fun z => decide (z = y) : Nat) : Int)
section
variable {X : Cx} {K : Fg}
theorem mt_countDt (hK : X.K = K) (α : Type) [Dat α] [DecidableEq α] (hd : Dat.dmax α ≤ 50) (hu : X.A.units + 65 < cLine) : MtR X "list.count" (fun x xs H Q => ∃ (a : Addr) (u : V) (ys : List α) (y : α), x = V.ref a ∧ xs = [u] ∧ rep K H (V.ref a) ys ∧ rep K H u y ∧ Q (.int (cntB ys y)) H) := by
  subst hK
  intro pins s σ H x xs v us Q I rx rxs ⟨a, y, ys, k, e1, e2, hs0, hy, q⟩
  subst e1 e2
  cases rx
  cases rxs with
  | cons ry rt =>
    rename_i uy ut
    cases rt
    have sl : SeqAt.shaped (.list (ys.map Dat.toD)) = true := shapedD (α := List α) (by show Dat.dmax α + 1 ≤ 60; omega) ys
    have sd : SeqAt.shaped (Dat.toD k) = true := shapedD (by omega) k
    have hl : Dp X.K H (V.ref a) (.list (ys.map Dat.toD)) := Dat.dp hs0
    obtain ⟨bs, r1⟩ := Dp.reads I (Dat.toD k) y uy (Dat.dp hy) ry
    have hxs : PyData.canLayAll0 (ys.map Dat.toD) = true := SeqAt.canLay_of_shaped sl
    have hroom : X.A.units + 1 + min (PyData.depthAll (ys.map Dat.toD)) (Dat.toD k).depth < cLine := PyProof.Rows.room_in_shaped sd hu
    cases hl with
    | lst hs ha =>
      obtain ⟨its, rv, ⟨⟨cls, dd, data, sls⟩, n, ho, hc, hdn, hdt⟩, hlen⟩ := I.list hs
      simp only at hc hdt
      subst hc hdt
      obtain ⟨as, h4⟩ := Dp.readsAll I _ _ its ha rv
      have hmap : its.map (SeqAt.readOf s.heap) = ys.map Dat.toD := SeqAt.readsAll_map _ its as hxs h4
      have hcount : its.toArray.toList.countP (fun u => PyData.eqv (SeqAt.readOf s.heap u) (Dat.toD k)) = ys.countP fun z => decide (z = k) := by
        have e1 : its.countP (fun u => PyData.eqv (SeqAt.readOf s.heap u) (Dat.toD k)) = (its.map (SeqAt.readOf s.heap)).countP fun z => PyData.eqv z (Dat.toD k) := by rw [List.countP_map]; rfl
        rw [List.toList_toArray, e1, hmap, List.countP_map]
        refine List.countP_congr fun z _ => ?_
        show PyData.eqv (Dat.toD z) (Dat.toD k) = true ↔ _
        rw [eqvD]
      refine call_meets PySem.F.slot_list_count ⟨_, ho, rfl⟩ PySem.F.entry_list_count (PySem.F.args_list_count_2 _ _)
        (SeqAt.list_countAt a its.toArray n dd sls uy (fun u => PyData.eqv (SeqAt.readOf s.heap u) (Dat.toD k))) ⟨ho, SeqAt.items_eqAt (vs := its.toArray) (show ReadsAll s.heap its.toArray.toList _ as from h4) r1 hxs (SeqAt.canLay_of_shaped sd) hroom, ?_⟩
      refine ⟨.int (cntB ys k), H, I.tok _, ⟨s.toks, ?_⟩, q⟩
      show Value.int ((its.toArray.toList.countP _ : Nat) : Int) s.toks = Value.int (cntB ys k) s.toks
      rw [hcount]
      rfl
end
end Z
namespace Z
open PySem L2
open Rep (rep)
/-- a dict that stays as it is -/
structure FzD (κ β : Type) where
  m : List (κ × β)
  deriving DecidableEq
instance repFD : Rep (FzD Int Int) := ⟨fun K H v d => ∃ a, v = .ref a ∧ H a = some (.dK (encM kI V.int d.m)), fun s ⟨a, e, q⟩ => ⟨a, e, s _ _ q⟩⟩
end Z
namespace Z
open PySem L2
open Rep (rep)
/-- a text as a key -/
def kS (s : Str) : Key := Sum.inr s
theorem kS_inj : ∀ a b, kS a = kS b → a = b := fun _ _ h => Sum.inr.inj h
theorem AD.merge {κ β : Type} [DecidableEq κ] {e : κ → Key} {r : V → β → Prop} (he : ∀ a b, e a = e b → a = b) : ∀ {more : List (Key × V)} {l : List (κ × β)}, AD e r more l → ∀ {kvs : List (Key × V)} {m : List (κ × β)}, AD e r kvs m → AD e r (mergeK kvs more) (l.foldl (fun m p => mput m p.1 p.2) m)
  | _, _, .nil, _, _, h => h
  | _, _, .cons a t, _, _, h => AD.merge he t (AD.put he h a)
theorem AD.mmk {κ β : Type} [DecidableEq κ] {e : κ → Key} {r : V → β → Prop} (he : ∀ a b, e a = e b → a = b) {more : List (Key × V)} {l : List (κ × β)} (h : AD e r more l) : AD e r (mergeK [] more) (Z.mmk l) := AD.merge he h .nil
theorem dgetsS {H : Hp} {a : Addr} {kvs : List (Key × V)} {s : Str} {v : V} (e : H a = some (.dK kvs)) (q : valV kvs (kS s) = some v) : DGet H a (.str s) (some v) := by
  have h : DGet H a (.str s) (valV kvs (kS s)) := DGet.k (k := kS s) e
  rw [q] at h
  exact h
end Z
namespace Z
open PySem L2
open Rep (rep)
section
variable {X : Cx} {K : Fg} {F H : Hp}
/-- isinstance(x, (b, c)) -/
theorem call_isBT (hK : X.K = K) : CallR X (.builtin "isinstance") (fun xs H Q => ∃ (x : V) (tp : Addr) (a b c : String) (r q : Bool), xs = [x, .ref tp] ∧ H tp = some (.tup [.ty b, .ty c]) ∧ TyOf K H x (.type a) ∧ kitB a b = some r ∧ kitB a c = some q ∧ Q (.bl (r || q)) H) := by
  subst hK
  intro pins s σ H xs us Q I rx ⟨x, tp, a, b, c, r, q, e, ht, h1, h2, h3, k⟩
  refine call_isiT pins s σ H xs us Q I rx ⟨x, tp, _, .type a, [.type b, .type c], r || q, e, ht, .cons (.ty b) (.cons (.ty c) .nil), .base h1, ?_, k⟩
  refine L2.kitAny_cons (L2.kit_ty h2) (fun e => ?_) fun e => by rw [e]; rfl
  rw [e, Bool.false_or]
  refine L2.kitAny_cons (L2.kit_ty h3) (fun e => ?_) fun e => e
  rw [e]
  exact L2.kitAny_nil
theorem th_it (s : Same F H) {v : V} {t : Thing} (r : rep K F v t) : ∃ a, TyOf K H v (.type a) ∧ kitB a "int" = some t.isPl ∧ kitB a "tuple" = some (!t.isPl) := by
  obtain ⟨a, h, z⟩ := th_ty s r
  rcases z with ⟨rfl, e⟩ | ⟨rfl, e⟩
  · exact ⟨_, h, by rw [e]; decide +kernel, by rw [e]; decide +kernel⟩
  · exact ⟨_, h, by rw [e]; decide +kernel, by rw [e]; decide +kernel⟩
theorem A2.some {α : Type} [Rep α] {vs : List V} {xs : List α} (h : A2 (rep K F) vs xs) : A2 (rep K F) vs (xs.map Option.some) := by
  induction h with
  | nil => exact .nil
  | cons a _ ih => exact .cons (rep_some a) ih
end
end Z
/-! ZA: sorted of a tuple of pairs (the list's rules turned to tuples) -/
namespace SrtO
open PySem PyProof.Rows Srt
section
variable {prog : Program} {w : World} {A : Around} {s : Shared} {E : Value → Shared → Prop}
theorem collect_tupI {l : Addr} {vs : List Value} {Q : List Value → Shared → Prop} (hl : IsTup s.heap l vs.toArray)
    (h : Q vs { s with heap := (s.heap.push (seqObj "list" #[] 0)).update s.heap.objs.size (Obj.mapSeq (· ++ vs.toArray)) }) (hsz : vs.length ≤ sizeLine) :
    wpAny (model prog w) A (collect (.ref l)) Q E s := by
  obtain ⟨o, ho, hc, n, hd⟩ := id hl
  unfold collect
  refine wpAny_bind (wpAny_runValue (codeAny_builtin entry_proto_collect' ?_))
  show wpAny _ _ (do again (.builtin "list.__iadd__" ⟨[← newList [], .ref l], []⟩)) _ _ s
  refine wpAny_bind (wpAny_newList (wpAny_pure ⟨Code.quiet_builtin _ (by decide +kernel), codeAny_builtin entry_list_iadd' ?_⟩))
  show wpAny _ _ (Builtin.List.listExtendWith (.ref s.heap.objs.size) (.ref l) (.ref s.heap.objs.size)) _ _ { s with heap := s.heap.push (seqObj "list" #[] 0) }
  unfold Builtin.List.listExtendWith
  have ho' : (s.heap.push (seqObj "list" #[] 0)).get? l = some o := Heap.get?_push_of_some _ ho
  refine wpAny_bind (wpAny_typeOf (T := "tuple") ⟨o, ho', hc⟩ ?_)
  have ht : (Value.type "tuple" == Value.type "tuple") = true := by rfl
  rw [if_pos (by rw [ht]; simp)]
  refine wpAny_bind (listItems_at ho' hd ?_)
  refine wpAny_bind (listItems_at (xs := #[]) (n := 0) (Heap.get?_push_size _ rfl) rfl ?_)
  rw [if_neg (by simp)]
  refine wpAny_bind (listUpdate_at (xs := #[]) (n := 0) (Heap.get?_push_size _ rfl) rfl ?_ (Nat.zero_le _) (by show (#[] ++ vs.toArray).size ≤ sizeLine + 1; simp only [Array.size_append, List.size_toArray, List.length_nil]; omega))
  refine wpAny_pure ?_
  show wpAny (model prog w) A (do
      let o ← load s.heap.objs.size
      match o.data with
      | .seq xs _ => pure xs.toList
      | _ => unsupported "internal:collect") Q E { s with heap := (s.heap.push (seqObj "list" #[] 0)).update s.heap.objs.size (Obj.mapSeq (· ++ vs.toArray)) }
  refine wpAny_bind (wpAny_load (get?_update_seq (Heap.get?_push_size _ rfl) _) ?_)
  show wpAny _ _ (pure ((#[] : Array Value) ++ vs.toArray).toList) Q E _
  rw [show ((#[] : Array Value) ++ vs.toArray).toList = vs by simp]
  exact wpAny_pure h
theorem sorted_ordT {l : Addr} {vs : List Value} {ltv : Value → Value → Bool} {Q : Value → Shared → Prop} (O : Swo ltv) (hl : IsTup s.heap l vs.toArray) (hz : vs.length ≤ sizeLine)
    (hS : 2 ≤ vs.length → ∀ (h₁ : Heap) (a : Addr), h₁.get? a = some (seqObj "list" vs.toArray 0) → (∀ b o, s.heap.get? b = some o → b ≠ a ∧ h₁.get? b = some o) → SortableO prog w A.in1.in1 { s with heap := h₁ } a vs ltv)
    (h : ∀ out : List Value, Srtd ltv out → Stb ltv out vs → Q (.ref (s.heap.objs.size + 1)) { s with heap := sortedAll s.heap vs out.toArray }) :
    wpAny (model prog w) A (call (.builtin "sorted") [.ref l]) Q E s := by
  refine Calls.call_function_entry kind_sorted plain_sorted entry_sorted (args_sorted1 _) ?_
  unfold Builtin.«sorted»
  refine wpAny_bind (m := checkCount "sorted" 1 1 _) (wpAny_pure ?_)
  refine wpAny_bind (collect_tupI hl ?_ hz)
  refine wpAny_bind (wpAny_newList ?_ hz)
  have hsz : ((s.heap.push (seqObj "list" #[] 0)).update s.heap.objs.size (Obj.mapSeq (· ++ vs.toArray))).objs.size = s.heap.objs.size + 1 := by
    rw [Heap.size_update, size_push']
  have hoL : (((s.heap.push (seqObj "list" #[] 0)).update s.heap.objs.size (Obj.mapSeq (· ++ vs.toArray))).push (seqObj "list" vs.toArray 0)).get? (s.heap.objs.size + 1) = some (seqObj "list" vs.toArray 0) := by
    rw [← hsz]; exact Heap.get?_push_size _ rfl
  have keep : ∀ b o, s.heap.get? b = some o → b ≠ s.heap.objs.size + 1 ∧ (((s.heap.push (seqObj "list" #[] 0)).update s.heap.objs.size (Obj.mapSeq (· ++ vs.toArray))).push (seqObj "list" vs.toArray 0)).get? b = some o := fun b o q => by
    have hlt : b < s.heap.objs.size := Heap.lt_size q
    refine ⟨Nat.ne_of_lt (Nat.lt_succ_of_lt hlt), Heap.get?_push_of_some _ ?_⟩
    rw [Heap.get?_update_ne _ _ _ _ (Nat.ne_of_lt hlt)]
    exact Heap.get?_push_of_some _ q
  show wpAny _ _ _ _ _ { s with heap := ((s.heap.push (seqObj "list" #[] 0)).update s.heap.objs.size (Obj.mapSeq (· ++ vs.toArray))).push (seqObj "list" vs.toArray 0) }
  rw [hsz]
  refine wpAny_bind (wpAny_holding (wpAny_call_entry slot_list_sort ⟨_, hoL, rfl⟩ entry_list_sort (list_sort_ord O hoL hz (fun h2 => hS h2 _ _ hoL keep) fun out hs hb => ⟨_, rfl, ?_⟩) (args_list_sort _)))
  exact wpAny_pure ⟨_, rfl, h out hs hb⟩
theorem sorted_pairsOT {l : Addr} {vs : List Value} {k : Value → Int × Int} {Q : Value → Shared → Prop} (hl : IsTup s.heap l vs.toArray) (hz : vs.length ≤ sizeLine) (hp : ∀ v ∈ vs, IsPair s.heap v (k v).1 (k v).2)
    (h : ∀ (h' : Heap) (d : Addr) (out : List Value), Srtd (fun v u => lexB (k v) (k u)) out → Stb (fun v u => lexB (k v) (k u)) out vs → (∀ b o, s.heap.get? b = some o → h'.get? b = some o) → s.heap.objs.size ≤ d → (∃ n, h'.get? d = some (seqObj "list" out.toArray n)) → Q (.ref d) { s with heap := h' }) :
    wpAny (model prog w) A (call (.builtin "sorted") [.ref l]) Q E s := by
  refine sorted_ordT (swo_lex k) hl hz (fun h2 h₁ a ha kk => ?_) fun out hs hb => ?_
  · refine pairs_sortableO (s := { s with heap := h₁ }) (by omega) (fun v hm => (hp v hm).keeps fun b o e _ => (kk b o e).2) fun o e => ?_
    have e' : some o = some (seqObj "list" vs.toArray 0) := e.symm.trans ha
    cases e'
    intro c
    exact absurd (Value.type.inj c) (by decide)
  · exact h _ _ out hs hb (fun b o e => sortedAll_old e) (Nat.le_succ _) (sortedAll_at s.heap vs out.toArray)
end
end SrtO
namespace L2
open PySem PySem.Spec PyProof.Rows
def rSortedPOT (K : PySem.W.Frag) : List V → Hp → VK → Prop := fun vs H Q => ∃ (a : Addr) (xs : List V) (k : V → Int × Int), vs = [V.ref a] ∧ SqT K H a xs ∧ (∀ x ∈ xs, ∃ t, x = V.ref t ∧ H t = some (.tup [.int (k x).1, .int (k x).2])) ∧
  ∀ ys p, SrtO.Srtd (ltP k) ys → SrtO.Stb (ltP k) ys xs → H p = none → Q (.ref p) (upd H p (.lst ys))
theorem cr_sortedPOT {X : Cx} : CallR X (.builtin "sorted") (rSortedPOT X.K) := by
  intro pins s σ H vs us Q I r h
  obtain ⟨a, xs, k, rfl, hs, hx, q⟩ := h
  obtain ⟨its, rv, hl, hz⟩ := I.tuple hs
  obtain ⟨u, rfl, ru⟩ := vals1 r
  obtain rfl : u = Value.ref a := ru
  obtain ⟨e1, e2⟩ := refs_back rv fun x m => by
    obtain ⟨t, e, _⟩ := hx x m
    exact ⟨t, e⟩
  refine SrtO.sorted_pairsOT (k := fun u => k (backV u)) hl (by rw [← rv.length]; exact hz) (fun v hv => ?_) fun h' d out h1 h2 kp hd hn => ?_
  · obtain ⟨t, rfl⟩ := e2 v hv
    have hm : V.ref t ∈ xs := by rw [e1]; exact List.mem_map.mpr ⟨_, hv, rfl⟩
    obtain ⟨t', e, ht⟩ := hx _ hm
    cases e
    obtain ⟨_, its2, r2, o, ho, hc, n, hd⟩ := I.hok _ _ ht
    obtain ⟨u1, u2, rfl, ri, rj⟩ := vals2 r2
    obtain ⟨t1, rfl⟩ := ri
    obtain ⟨t2, rfl⟩ := rj
    exact ⟨t, o, t1, t2, n, rfl, ho, hc, hd⟩
  · have h3 : ∀ u ∈ out, ∃ a, u = Value.ref a := fun u hu => e2 u (h2.perm.mem_iff.mp hu)
    obtain ⟨n, hn⟩ := hn
    have hb : SrtO.Stb (ltP k) (out.map backV) xs := by
      rw [e1]
      exact SrtO.Stb.map (ltP_swo k) backV h2
    refine ⟨.ref d, upd H d (.lst (out.map backV)), I.laid (t' := s.toks) kp hd ⟨?_, out, n, vals_back h3, hn⟩, rfl, q _ d (SrtO.srtd_map h1) hb (I.hok.fresh hd)⟩
    rw [hb.len]
    exact hz
end L2
namespace Z
open PySem PySem.Spec PyProof.Rows L2
open Rep (rep)
theorem cr_sortPT {X : Cx} {K : Fg} (hK : X.K = K) : CallR X (.builtin "sorted") (fun vs H Q => ∃ (a : Addr) (us : List V) (F : Hp) (xs : List (Int × Int)), vs = [V.ref a] ∧ SqT K H a us ∧ Same F H ∧ A2 (rep K F) us xs ∧
    ∀ p ys, H p = none → A2 (rep K F) ys (sortP xs) → Q (.ref p) (upd H p (.lst ys))) := by
  subst hK
  intro pins s σ H vs us Q I r h
  obtain ⟨a, us', F, xs, rfl, hs, sF, hA, q⟩ := h
  obtain ⟨e1, e2⟩ := keyP_all sF hA
  refine cr_sortedPOT pins s σ H _ us Q I r ⟨a, us', keyP H, rfl, hs, fun x hx => ?_, fun ys p h1 h2 hp => q p ys hp ?_⟩
  · obtain ⟨t, e, k⟩ := e2 x hx
    exact ⟨t, e, sF _ _ k⟩
  · have e : ys.map (keyP H) = sortP xs := by
      refine sortP_eq ?_ ?_
      · rw [e1]
        exact h2.perm.map _
      · rw [List.pairwise_map]
        refine h1.imp fun {x y} h => ?_
        have h := SrtO.lexB_no.mp h
        unfold leP
        rw [decide_eq_true_eq]
        omega
    rw [← e]
    exact rep_keys fun v hv => e2 v (h2.perm.mem_iff.mp hv)
instance datOptTup {α : Type} [Dat α] : Dat (Option (Tup α)) where
  toD := fun x => match x with
    | none => .none
    | some i => Dat.toD i
  dmax := Dat.dmax α + 1
  dp := fun {K H v x} h => by
    cases x with
    | none =>
      have h' : v = V.non := h
      subst h'
      exact .non
    | some i => exact Dat.dp (show rep K H v i from h)
  lay := fun x => by
    cases x with
    | none => simp only [PyData.canLay0]
    | some i => exact Dat.lay i
  dep := fun x => by
    cases x with
    | none => simp only [PyData.depth]; omega
    | some i => exact Dat.dep i
  eqv := fun x y => by
    cases x with
    | none =>
      cases y with
      | none => simp [PyData.eqv]
      | some j => simp [PyData.eqv, Dat.toD]
    | some i =>
      cases y with
      | none => simp [PyData.eqv, Dat.toD]
      | some j =>
        have := Dat.eqv i j
        show PyData.eqv (Dat.toD i) (Dat.toD j) = true ↔ _
        rw [this, Option.some.injEq]
end Z
/-! ZB: dicts of whole numbers whose values are lists of a store; their values walked -/
namespace L2
open PySem PySem.Spec PyProof.Rows
/-- d.values() of a dict of numbers that is locked from there on -/
def iValsKF (td : TE) : TI := fun σ H R => td σ H fun x H1 => ∃ d kvs, x = .ref d ∧ H1 d = some (.dK kvs) ∧ ∀ od, R (Itd d od kvs) (upd H1 d (.frz od (.dK kvs)))
section
variable {X : Cx} {tg e : Expr} {td : TE} {apos cpos : Pos}
theorem pi_valuesKF (he : PE X e td) (hbase : attributeBase e "values" X.env (eval e X.env) = eval e X.env := by rfl) (hline : (apos.endLine == cpos.line) = true := by rfl) : PI X tg (.Call (.Attribute e "values" apos) [] [] cpos) (iValsKF td) := by
  refine ⟨fun pins s σ H R I h => ?_⟩
  refine wpAny_Call_method (T := "dict") (id := "dict.values") hbase rfl hline F.plainAttrs_dict F.slot_dict_values F.type_dict_values (thn (he.run pins s σ H _ I h) fun u s1 ⟨x, H0, I0, rx, d, kvs, ex, hd0, q0⟩ => ?_)
  subst ex
  obtain rfl : u = Value.ref d := rx
  obtain ⟨od, I1⟩ := I0.lock hd0 (by exact True.intro)
  have q := q0 od
  have hd : upd H0 d (.frz od (.dK kvs)) d = some (.frz od (.dK kvs)) := upd_same
  obtain ⟨hs, hgd, hx, es, ep, vs, hdt, hsz, kv, hm⟩ := I1.frzK hd
  have hl : kvs.length = vs.length := Paired.length kv
  refine ⟨hm.dictOf.typeIs, hm.dictOf.mapOf.noDict, ?_⟩
  have I2 : Inv X pins σ (upd H0 d (.frz od (.dK kvs))) { s1 with heap := s1.heap.push { cls := .type "dict_values", data := .fields #[.ref d] } } := I1.kept (t' := s1.toks) fun b ob q => Heap.get?_push_of_some _ q
  have fin : wpAny (model X.prog X.w) X.A (pyIter (.ref s1.heap.objs.size)) (PIE X pins σ tg R) X.xe { s1 with heap := s1.heap.push { cls := .type "dict_values", data := .fields #[.ref d] } } := by
    refine wpAny_pyIter_values (d := d) (knd := mixKind X.prog X.w) ⟨_, Heap.get?_push_size _ rfl, rfl, rfl⟩ (hm.push _) (pi_one (tk := s1.toks) I2 _ (turn_vals _ hdt) ⟨_, Heap.get?_push_size _ rfl, rfl, ?_⟩ q)
    rw [hl] <;> rfl
  show wpAny _ _ (callWith cpos (.builtin "dict.values") [.ref d] [] []) _ X.xe s1
  exact method_meetsIn F.slot_dict_values F.entry_dict_values rfl (PySem.evalArgs_none ⟨rfl, hm.dictOf.typeIs, F.args_dict_values_1 _, _, meets_dict_values (mixKind X.prog X.w) d hs, ⟨vs, hm.dictOf⟩, fin⟩)
end
end L2
namespace Z
open PySem L2
open Rep (rep)
def kK (n : Int) : Key := Sum.inl n
theorem kK_inj : ∀ a b, kK a = kK b → a = b := fun _ _ h => Sum.inl.inj h
section
variable {H : Hp} {a : Addr} {kvs : List (Key × V)} {n : Int} {β : Type} {r : V → β → Prop} {m : List (Int × β)}
theorem dgetI (e : H a = some (.dK kvs)) : DGet H a (.int n) (valV kvs (kK n)) := DGet.k (k := kK n) e
theorem dgetsI {v : V} (e : H a = some (.dK kvs)) (q : valV kvs (kK n) = some v) : DGet H a (.int n) (some v) := by
  have h := dgetI (n := n) e
  rw [q] at h
  exact h
theorem dputI {v : V} (e : H a = some (.dK kvs)) (h : AD kK r kvs m) (hl : m.length < sizeLine) : DPut H a (.int n) v (upd H a (.dK (putK kvs (kK n) v))) := DPut.k (k := kK n) e (by rw [h.length]; exact hl)
theorem tw_valsK {d : Addr} {o : Obj} (h : AD kK r kvs m) : TW (Itd d o kvs) (m.map (·.2)) (fun H => H d = some (.frz o (.dK kvs))) (fun b H x H' => H' = H ∧ r x b) := ⟨by
  rw [List.length_map, ← h.length]
  refine ⟨fun _ _ hi q => ⟨q, hi⟩, fun _ q => ⟨q, Nat.le_refl _⟩, fun i H x H' _ _ y => ?_⟩
  obtain ⟨e, k, hk⟩ := y
  obtain ⟨b, h1, h2⟩ := h.vals hk
  exact ⟨b, h1, e, h2⟩⟩
end
section
variable {α δ : Type} [Rep α] {K : Fg} {F F' : Hp} {as : List Addr} {vss : List (List V)} {st : List (List α)}
def derefD {α : Type} (st : List (List α)) (m : List (Int × Ix)) : R (List (Int × List α)) := mapR (fun p => getS st p.2 >>= fun x => .ok (p.1, x)) m
theorem pb_derefD {α δ : Type} {st : List (List α)} {m : List (Int × Ix)} {f : List (Int × List α) → R δ} {P : δ → Prop} {E : Exn → Prop} (h : Post (derefD st m >>= f) P E) : ∃ l, derefD st m = R.ok l ∧ Post (f l) P E := by
  have key : ∀ m : List (Int × Ix), (∃ l, derefD st m = R.ok l) ∨ derefD st m = R.bad := fun m => by
    induction m with
    | nil => exact .inl ⟨[], rfl⟩
    | cons p m ih =>
      unfold derefD mapR getS
      cases e : st[p.2]? with
      | none => exact .inr rfl
      | some x =>
        rcases ih with ⟨l, hl⟩ | hl
        · refine .inl ⟨(p.1, x) :: l, ?_⟩
          have hl' : mapR (fun p => getS st p.2 >>= fun x => R.ok (p.1, x)) m = R.ok l := hl
          show (R.ok (p.1, x) >>= fun y => mapR (fun p => getS st p.2 >>= fun x => R.ok (p.1, x)) m >>= fun ys => R.ok (y :: ys)) = _
          rw [hl']
          rfl
        · refine .inr ?_
          have hl' : mapR (fun p => getS st p.2 >>= fun x => R.ok (p.1, x)) m = R.bad := hl
          show (R.ok (p.1, x) >>= fun y => mapR (fun p => getS st p.2 >>= fun x => R.ok (p.1, x)) m >>= fun ys => R.ok (y :: ys)) = _
          rw [hl']
          rfl
  rcases key m with ⟨l, e⟩ | e
  · rw [e] at h
    exact ⟨l, e, h⟩
  · rw [e] at h
    exact (show False from h).elim
theorem derefD_rep {kvs : List (Key × V)} {m : List (Int × Ix)} {xss : List (Int × List α)} (h : Sto K F as vss st) (hf : ∀ (j : Nat) (a : Addr) (vs : List V), as[j]? = some a → vss[j]? = some vs → F' a = some (.lst vs)) (s : Same F F')
    (hv : AD kK (RX as) kvs m) (e : derefD st m = R.ok xss) : AD kK (rep K F') kvs xss := by
  induction hv generalizing xss with
  | nil =>
    cases e
    exact .nil
  | @cons k v x kvs m r t ih =>
    have e' : (getS st x >>= fun y => R.ok (k, y)) >>= (fun y => mapR (fun p : Int × Ix => getS st p.2 >>= fun x => R.ok (p.1, x)) m >>= fun ys => R.ok (y :: ys)) = R.ok xss := e
    unfold getS at e'
    cases e1 : st[x]? with
    | none => rw [e1] at e'; cases e'
    | some y =>
      rw [e1] at e'
      cases e2 : mapR (fun p : Int × Ix => getS st p.2 >>= fun x => R.ok (p.1, x)) m with
      | ok ys =>
        have e3 : ((R.ok (k, y) : R (Int × List α)) >>= fun y => mapR (fun p : Int × Ix => getS st p.2 >>= fun x => R.ok (p.1, x)) m >>= fun ys => R.ok (y :: ys)) = R.ok xss := e'
        rw [e2] at e3
        have e4 : (k, y) :: ys = xss := R.ok.inj e3
        rw [← e4]
        have one : A2 (rep K F') [v] [y] := deref_rep h hf s (.cons r .nil) (js := [x]) (by
          show (getS st x >>= fun y => mapR (getS st) [] >>= fun ys => R.ok (y :: ys)) = _
          unfold getS
          rw [e1]
          rfl)
        cases one with
        | cons r1 _ => exact .cons r1 (ih e2)
      | exc z =>
        have e3 : ((R.ok (k, y) : R (Int × List α)) >>= fun y => mapR (fun p : Int × Ix => getS st p.2 >>= fun x => R.ok (p.1, x)) m >>= fun ys => R.ok (y :: ys)) = R.ok xss := e'
        rw [e2] at e3
        cases e3
      | bad =>
        have e3 : ((R.ok (k, y) : R (Int × List α)) >>= fun y => mapR (fun p : Int × Ix => getS st p.2 >>= fun x => R.ok (p.1, x)) m >>= fun ys => R.ok (y :: ys)) = R.ok xss := e'
        rw [e2] at e3
        cases e3
end
end Z
/-! ZD: lists of ints that are ordered -/
namespace Z
open PySem L2 PySem.Spec PyProof.Rows
open Rep (rep)
theorem depthInts : ∀ xs : List Int, PyData.depthAll (xs.map PyData.int) = 0
  | [] => by simp [PyData.depthAll]
  | x :: xs => by simp [PyData.depthAll, PyData.depth, depthInts xs]
theorem dpInts {K : Fg} {H : Hp} {v : V} {xs : List Int} (h : rep K H v xs) : Dp K H v (.list (xs.map PyData.int)) := by
  obtain ⟨a, vs, rfl, q, hs⟩ := h
  refine .lst (SqL.of q) ?_
  clear q
  induction hs with
  | nil => exact .nil
  | cons r _ ih =>
    have r' : _ = V.int _ := r
    subst r'
    exact .cons (.int _) ih
/-- x <= y of lists of ints -/
theorem op_leLI {X : Cx} {K : Fg} (hK : X.K = K) (hu : X.A.units + 64 < cLine) : OpR X (compareOp .LtE) (fun x y H Q => ∃ a b : List Int, rep K H x a ∧ rep K H y b ∧ Q (.bl (!decide (b < a))) H) := by
  subst hK
  intro pins s σ H x y v u Q I rx ry ⟨a, b, h1, h2, q⟩
  obtain ⟨as, r1⟩ := Dp.reads I _ x v (dpInts h1) rx
  obtain ⟨bs, r2⟩ := Dp.reads I _ y u (dpInts h2) ry
  refine PySem.W.le_data r1 r2 (by rw [PySem.W.alike]; exact PySem.W.alike_ints a b) (by intro z; cases z) ?_ ?_
  · have e1 : (PyData.list (a.map PyData.int)).depth ≤ 1 := by
      rw [PyData.depth, depthInts]
      decide
    omega
  · rw [PySem.W.dataLt_list]
    have e := PySem.W.dataLt_ints b a
    unfold PySem.W.rowLt at e
    rw [e]
    exact ⟨.bl _, H, I, rfl, q⟩
end Z
/-! ZM: lemmas about mirrors -/
namespace Z
open PySem L2
section
variable {α β γ : Type}
theorem foldR_inv {f : β → α → R β} (I : β → Prop) : ∀ {xs : List α} {s : β}, I s → (∀ s x, I s → x ∈ xs → ∃ s', f s x = R.ok s' ∧ I s') → ∃ s', foldR f s xs = R.ok s' ∧ I s'
  | [], s, h, _ => ⟨s, rfl, h⟩
  | x :: xs, s, h, hf => by
    obtain ⟨s', e, h'⟩ := hf s x h List.mem_cons_self
    obtain ⟨s2, e2, h2⟩ := foldR_inv I (xs := xs) (s := s') h' fun s y hs hy => hf s y hs (List.mem_cons_of_mem _ hy)
    exact ⟨s2, by show (f s x >>= fun s' => foldR f s' xs) = _; rw [e]; exact e2, h2⟩
/-- with how many items are gone through -/
theorem foldR_invN {f : β → α → R β} (I : Nat → β → Prop) : ∀ {xs : List α} {n : Nat} {s : β}, I n s → (∀ n s x, I n s → x ∈ xs → ∃ s', f s x = R.ok s' ∧ I (n + 1) s') → ∃ s', foldR f s xs = R.ok s' ∧ I (n + xs.length) s'
  | [], n, s, h, _ => ⟨s, rfl, h⟩
  | x :: xs, n, s, h, hf => by
    obtain ⟨s', e, h'⟩ := hf n s x h List.mem_cons_self
    obtain ⟨s2, e2, h2⟩ := foldR_invN I (xs := xs) (n := n + 1) (s := s') h' fun n s y hs hy => hf n s y hs (List.mem_cons_of_mem _ hy)
    refine ⟨s2, by show (f s x >>= fun s' => foldR f s' xs) = _; rw [e]; exact e2, ?_⟩
    rw [List.length_cons, show n + (xs.length + 1) = n + 1 + xs.length by omega]
    exact h2
theorem foldX_inv {ρ : Type} {f : β → α → R (Sum ρ (Bool × β))} (I : β → Prop) : ∀ {xs : List α} {s : β}, I s → (∀ s x, I s → x ∈ xs → ∃ s', f s x = R.ok (.inr (true, s')) ∧ I s') → ∃ s', foldX f s xs = R.ok (.inr s') ∧ I s'
  | [], s, h, _ => ⟨s, rfl, h⟩
  | x :: xs, s, h, hf => by
    obtain ⟨s', e, h'⟩ := hf s x h List.mem_cons_self
    obtain ⟨s2, e2, h2⟩ := foldX_inv I (xs := xs) (s := s') h' fun s y hs hy => hf s y hs (List.mem_cons_of_mem _ hy)
    refine ⟨s2, ?_, h2⟩
    show (f s x >>= fun r => match r with
      | .inl z => R.ok (.inl z)
      | .inr (true, s') => foldX f s' xs
      | .inr (false, s') => R.ok (.inr s')) = _
    rw [e]
    exact e2
/-- a search that never ends the whole -/
theorem foldX_unit {ρ : Type} {f : Unit → α → R (Sum ρ (Bool × Unit))} {xs : List α} (hf : ∀ x ∈ xs, f () x = R.ok (.inr (true, ()))) : foldX f () xs = R.ok (.inr ()) := by
  obtain ⟨s, e, _⟩ := foldX_inv (fun _ => True) (f := f) (xs := xs) (s := ()) trivial fun s x _ hx => ⟨(), hf x hx, trivial⟩
  exact e
theorem mapR_ok {f : α → R β} {g : α → β} : ∀ {xs : List α}, (∀ x ∈ xs, f x = R.ok (g x)) → mapR f xs = R.ok (xs.map g)
  | [], _ => rfl
  | x :: xs, h => by
    show (f x >>= fun y => mapR f xs >>= fun ys => R.ok (y :: ys)) = _
    rw [h x List.mem_cons_self, mapR_ok fun y hy => h y (List.mem_cons_of_mem _ hy)]
    rfl
theorem mapG_ok {f : α → R β} {g : α → β} {xs : List α} (hl : xs.length < 100000) (h : ∀ x ∈ xs, f x = R.ok (g x)) : mapG f xs = R.ok (xs.map g) := by
  unfold mapG
  rw [grd_t (decide_eq_true hl)]
  exact mapR_ok h
theorem mapR_ex {f : α → R β} (p : β → Prop) : ∀ {xs : List α}, (∀ x ∈ xs, ∃ y, f x = R.ok y ∧ p y) → ∃ ys, mapR f xs = R.ok ys ∧ ys.length = xs.length ∧ ∀ y ∈ ys, p y
  | [], _ => ⟨[], rfl, rfl, fun _ h => nomatch h⟩
  | x :: xs, h => by
    obtain ⟨y, e, hy⟩ := h x List.mem_cons_self
    obtain ⟨ys, e2, hl, hp⟩ := mapR_ex p fun y hy => h y (List.mem_cons_of_mem _ hy)
    refine ⟨y :: ys, ?_, by rw [List.length_cons, List.length_cons, hl], fun z hz => ?_⟩
    · show (f x >>= fun y => mapR f xs >>= fun ys => R.ok (y :: ys)) = _
      rw [e, e2]
      rfl
    · rcases List.mem_cons.mp hz with rfl | hz
      · exact hy
      · exact hp z hz
theorem mapG_ex {f : α → R β} (p : β → Prop) {xs : List α} (hl : xs.length < 100000) (h : ∀ x ∈ xs, ∃ y, f x = R.ok y ∧ p y) : ∃ ys, mapG f xs = R.ok ys ∧ ys.length = xs.length ∧ ∀ y ∈ ys, p y := by
  unfold mapG
  rw [grd_t (decide_eq_true hl)]
  exact mapR_ex p h
theorem filR_ok {f : α → R (Option β)} {g : α → Option β} : ∀ {xs : List α}, (∀ x ∈ xs, f x = R.ok (g x)) → filR f xs = R.ok (xs.filterMap g)
  | [], _ => rfl
  | x :: xs, h => by
    show (f x >>= fun o => filR f xs >>= fun ys => match o with
      | some y => R.ok (y :: ys)
      | none => R.ok ys) = _
    rw [h x List.mem_cons_self, filR_ok fun y hy => h y (List.mem_cons_of_mem _ hy)]
    show (match g x with
      | some y => R.ok (y :: xs.filterMap g)
      | none => R.ok (xs.filterMap g)) = R.ok ((x :: xs).filterMap g)
    rw [List.filterMap_cons]
    cases g x <;> rfl
theorem filG_ok {f : α → R (Option β)} {g : α → Option β} {xs : List α} (hl : xs.length < 100000) (h : ∀ x ∈ xs, f x = R.ok (g x)) : filG f xs = R.ok (xs.filterMap g) := by
  unfold filG
  rw [grd_t (decide_eq_true hl)]
  exact filR_ok h
theorem getI_nat {xs : List α} {i : Int} (h0 : 0 ≤ i) (h1 : i < xs.length) : ∃ x, getI xs i = R.ok x ∧ x ∈ xs ∧ xs[i.toNat]? = some x := by
  have hj : i.toNat < xs.length := by omega
  refine ⟨xs[i.toNat], ?_, List.getElem_mem hj, List.getElem?_eq_getElem hj⟩
  unfold getI
  have e : atI xs i = some xs[i.toNat] := by
    have := atI_nat (xs := xs) (j := i.toNat) (v := xs[i.toNat]) (List.getElem?_eq_getElem hj)
    rw [Int.toNat_of_nonneg h0] at this
    exact this
  rw [e]
  rfl
theorem getI_eq {xs : List α} {i : Int} {x : α} (h0 : 0 ≤ i) (h : xs[i.toNat]? = some x) : getI xs i = R.ok x := by
  have h1 := (List.getElem?_eq_some_iff.mp h).1
  obtain ⟨y, e, _, e2⟩ := getI_nat (xs := xs) (i := i) h0 (by omega)
  rw [h] at e2
  cases e2
  exact e
theorem getI_last {xs : List α} (x : α) : getI (xs ++ [x]) (-1) = R.ok x := by
  unfold getI
  rw [atI_last]
  rfl
theorem setI_nat {xs : List α} {i : Int} {x : α} (h0 : 0 ≤ i) (h1 : i < xs.length) : setI xs i x = R.ok (xs.set i.toNat x) := by
  have e : ixN xs.length i = some i.toNat := by
    unfold ixN
    rw [if_pos h0, if_pos h1]
  unfold setI
  rw [e]
theorem app_ok {xs : List α} {x : α} (h : xs.length < 100000) : app xs x = R.ok (xs ++ [x]) := by
  unfold app
  rw [if_pos h]
theorem extend_ok {xs ys : List α} (h : xs.length + ys.length < 100000) : extend xs ys = R.ok (xs ++ ys) := by
  unfold extend
  rw [if_pos h]
theorem modI_ok {i j : Int} (h : 0 < j) : modI i j = R.ok (i % j) := by
  unfold modI
  rw [if_pos h]
theorem divI_okW {i j : Int} (h : 0 < j) (h2 : j.natAbs.log2 < 9000) : divI i j = R.ok (i / j) := by
  unfold divI
  rw [if_pos ⟨h, h2⟩]
theorem divI_ok {i j : Int} (h : 0 < j) (h2 : j < 1073741824) : divI i j = R.ok (i / j) := by
  refine divI_okW h (Nat.lt_of_lt_of_le ((Nat.log2_lt (by omega)).mpr (show j.natAbs < 2 ^ 30 by omega)) (by decide))
theorem mulI_ok {i j : Int} (h : (-(2 ^ 64) < i ∧ i < 2 ^ 64) ∨ (-(2 ^ 64) < j ∧ j < 2 ^ 64)) : mulI i j = R.ok (i * j) := by
  unfold mulI
  rw [if_pos h]
theorem rngI_ok {i j : Int} (h1 : -(2 ^ 62) ≤ i) (h2 : i < 2 ^ 62) (h3 : -(2 ^ 62) ≤ j) (h4 : j < 2 ^ 62) : rngI i j = R.ok (rng i j) := by
  unfold rngI
  rw [if_pos ⟨h1, h2, h3, h4⟩]
theorem rng_mem {i j k : Int} : k ∈ rng i j ↔ i ≤ k ∧ k < j := by
  unfold rng
  rw [List.mem_map]
  constructor
  · rintro ⟨n, hn, rfl⟩
    have := List.mem_range.mp hn
    omega
  · intro h
    exact ⟨(k - i).toNat, List.mem_range.mpr (by omega), by omega⟩
/-! ### what holds of a result, step by step -/
section
variable {P Q : α → Prop} {S : β → Prop} {X : Exn → Prop}
theorem po_bind {m : R α} {k : α → R β} (h : Post m Q X) (hk : ∀ a, Q a → Post (k a) S X) : Post (m >>= k) S X := by
  cases m with
  | ok a => exact hk a h
  | exc e => exact h
  | bad => exact h
theorem po_ok {a : α} (h : P a) : Post (R.ok a) P X := h
theorem po_eq {m : R α} {a : α} (h : m = R.ok a) (hp : P a) : Post m P X := by
  rw [h]
  exact hp
theorem po_if {c : Prop} [Decidable c] {m n : R α} (h1 : c → Post m P X) (h2 : ¬ c → Post n P X) : Post (if c then m else n) P X := by
  by_cases h : c
  · rw [if_pos h]
    exact h1 h
  · rw [if_neg h]
    exact h2 h
theorem po_ex {m : R α} (h : Post m P noX) : ∃ a, m = R.ok a ∧ P a := by
  cases m with
  | ok a => exact ⟨a, rfl, h⟩
  | exc e => exact (show False from h).elim
  | bad => exact (show False from h).elim
theorem po_iff {m : R α} {a : α} (h : Post m (· = a) noX) : m = R.ok a := by
  obtain ⟨b, e, rfl⟩ := po_ex h
  exact e
theorem po_grd {b : Bool} {k : Unit → R β} (h : b = true) (hk : Post (k ()) S X) : Post (grd b >>= k) S X := by
  rw [grd_t h]
  exact hk
theorem po_get {xs : List α} {i : Int} {k : α → R β} (h0 : 0 ≤ i) (h1 : i < xs.length) (hk : ∀ x, x ∈ xs → xs[i.toNat]? = some x → Post (k x) S X) : Post (getI xs i >>= k) S X := by
  obtain ⟨x, e, h2, h3⟩ := getI_nat h0 h1
  rw [e]
  exact hk x h2 h3
theorem po_getE {xs : List α} {i : Int} {x : α} {k : α → R β} (h : getI xs i = R.ok x) (hk : Post (k x) S X) : Post (getI xs i >>= k) S X := by
  rw [h]
  exact hk
theorem po_last {xs : List α} {k : α → R β} (h : xs ≠ []) (hk : ∀ x, x ∈ xs → Post (k x) S X) : Post (getI xs (-1) >>= k) S X := by
  obtain ⟨ys, y, rfl⟩ : ∃ ys y, xs = ys ++ [y] := ⟨xs.dropLast, xs.getLast h, (List.dropLast_concat_getLast h).symm⟩
  rw [getI_last]
  exact hk y (List.mem_append_right _ List.mem_cons_self)
theorem po_set {xs : List α} {i : Int} {x : α} {k : List α → R β} (h0 : 0 ≤ i) (h1 : i < xs.length) (hk : Post (k (xs.set i.toNat x)) S X) : Post (setI xs i x >>= k) S X := by
  rw [setI_nat h0 h1]
  exact hk
theorem po_app {xs : List α} {x : α} {k : List α → R β} (h : xs.length < 100000) (hk : Post (k (xs ++ [x])) S X) : Post (app xs x >>= k) S X := by
  rw [app_ok h]
  exact hk
theorem po_extend {xs ys : List α} {k : List α → R β} (h : xs.length + ys.length < 100000) (hk : Post (k (xs ++ ys)) S X) : Post (extend xs ys >>= k) S X := by
  rw [extend_ok h]
  exact hk
theorem po_mod {i j : Int} {k : Int → R β} (h : 0 < j) (hk : 0 ≤ i % j → i % j < j → Post (k (i % j)) S X) : Post (modI i j >>= k) S X := by
  rw [modI_ok h]
  exact hk (Int.emod_nonneg _ (by omega)) (Int.emod_lt_of_pos _ h)
theorem po_div {i j : Int} {k : Int → R β} (h : 0 < j) (h2 : j < 1073741824) (hk : Post (k (i / j)) S X) : Post (divI i j >>= k) S X := by
  rw [divI_ok h h2]
  exact hk
theorem po_divW {i j : Int} {k : Int → R β} (h : 0 < j) (h2 : j.natAbs.log2 < 9000) (hk : Post (k (i / j)) S X) : Post (divI i j >>= k) S X := by
  rw [divI_okW h h2]
  exact hk
theorem po_mul {i j : Int} {k : Int → R β} (h : (-(2 ^ 64) < i ∧ i < 2 ^ 64) ∨ (-(2 ^ 64) < j ∧ j < 2 ^ 64)) (hk : Post (k (i * j)) S X) : Post (mulI i j >>= k) S X := by
  rw [mulI_ok h]
  exact hk
theorem po_rng {i j : Int} {k : List Int → R β} (h1 : -(2 ^ 62) ≤ i) (h2 : i < 2 ^ 62) (h3 : -(2 ^ 62) ≤ j) (h4 : j < 2 ^ 62) (hk : Post (k (rng i j)) S X) : Post (rngI i j >>= k) S X := by
  rw [rngI_ok h1 h2 h3 h4]
  exact hk
theorem po_fold {f : β → α → R β} {s : β} {xs : List α} (I : β → Prop) (h0 : I s) (hf : ∀ s x, I s → x ∈ xs → Post (f s x) I X) : Post (foldR f s xs) I X := by
  induction xs generalizing s with
  | nil => exact h0
  | cons x xs ih =>
    show Post (f s x >>= fun s' => foldR f s' xs) I X
    exact po_bind (hf s x h0 List.mem_cons_self) fun s' h' => ih h' fun s y hs hy => hf s y hs (List.mem_cons_of_mem _ hy)
/-- .. with the number of turns gone -/
theorem po_foldN {f : β → α → R β} {s : β} {xs : List α} (I : Nat → β → Prop) (h0 : I 0 s) (hf : ∀ n s x, n < xs.length → I n s → xs[n]? = some x → Post (f s x) (I (n + 1)) X) : Post (foldR f s xs) (I xs.length) X := by
  have key : ∀ (l : List α) (n : Nat) (s : β), xs.drop n = l → n ≤ xs.length → I n s → Post (foldR f s l) (I xs.length) X := by
    intro l
    induction l with
    | nil =>
      intro n s e hn h
      have : xs.length ≤ n := by
        have := congrArg List.length e
        rw [List.length_drop, List.length_nil] at this
        omega
      rw [show xs.length = n by omega]
      exact h
    | cons x l ih =>
      intro n s e hn h
      have hlt : n < xs.length := by
        have := congrArg List.length e
        rw [List.length_drop, List.length_cons] at this
        omega
      have e1 : xs[n] :: xs.drop (n + 1) = x :: l := (List.drop_eq_getElem_cons hlt).symm.trans e
      injection e1 with e2 e3
      show Post (f s x >>= fun s' => foldR f s' l) _ X
      exact po_bind (hf n s x hlt h (by rw [List.getElem?_eq_getElem hlt, e2])) fun s' h' => ih (n + 1) s' e3 (by omega) h'
  exact key xs 0 s rfl (Nat.zero_le _) h0
theorem po_foldX {ρ : Type} {f : β → α → R (Sum ρ (Bool × β))} {s : β} {xs : List α} (I : β → Prop) (h0 : I s) (hf : ∀ s x, I s → x ∈ xs → Post (f s x) (fun r => ∃ s', r = .inr (true, s') ∧ I s') X) : Post (foldX f s xs) (fun r => ∃ s', r = .inr s' ∧ I s') X := by
  induction xs generalizing s with
  | nil => exact ⟨s, rfl, h0⟩
  | cons x xs ih =>
    refine po_bind (S := fun r => ∃ s', r = Sum.inr s' ∧ I s') (k := fun r => match r with
      | .inl z => (R.ok (.inl z) : R (Sum ρ β))
      | .inr (true, s') => foldX f s' xs
      | .inr (false, s') => R.ok (.inr s')) (hf s x h0 List.mem_cons_self) fun r hr => ?_
    obtain ⟨s', rfl, h'⟩ := hr
    exact ih h' fun s y hs hy => hf s y hs (List.mem_cons_of_mem _ hy)
theorem po_mapG {f : α → R β} {xs : List α} (p : β → Prop) (hl : xs.length < 100000) (hf : ∀ x ∈ xs, Post (f x) p X) : Post (mapG f xs) (fun ys => ys.length = xs.length ∧ ∀ y ∈ ys, p y) X := by
  unfold mapG
  rw [grd_t (decide_eq_true hl)]
  show Post (mapR f xs) _ X
  clear hl
  induction xs with
  | nil => exact ⟨rfl, fun _ h => nomatch h⟩
  | cons x xs ih =>
    show Post (f x >>= fun y => mapR f xs >>= fun ys => R.ok (y :: ys)) _ X
    refine po_bind (hf x List.mem_cons_self) fun y hy => po_bind (ih fun z hz => hf z (List.mem_cons_of_mem _ hz)) fun ys ⟨h1, h2⟩ => ?_
    refine ⟨by rw [List.length_cons, List.length_cons, h1], fun z hz => ?_⟩
    rcases List.mem_cons.mp hz with rfl | hz
    · exact hy
    · exact h2 z hz
end
theorem cut_head (xs : List α) : cutL xs none (some 1) = xs.take 1 := by
  unfold cutL
  have e : HT.sIx xs.length xs.length (some 1) = min 1 xs.length := HT.sIx_nat xs.length xs.length 1
  have e0 : HT.sIx xs.length 0 none = 0 := rfl
  rw [e, e0, List.drop_zero]
  cases xs with
  | nil => rfl
  | cons x xs => simp
theorem cut_last (xs : List α) : cutL xs (some (-1)) none = xs.drop (xs.length - 1) := by
  unfold cutL
  have e : HT.sIx xs.length 0 (some (-1)) = xs.length - 1 := by
    unfold HT.sIx
    simp only [show ((-1 : Int) < 0) = True from eq_true (by decide), if_true]
    omega
  have e0 : HT.sIx xs.length xs.length none = xs.length := rfl
  rw [e, e0]
  refine List.take_of_length_le ?_
  rw [List.length_drop]
  exact Nat.le_refl _
end
section
variable {α β γ : Type} {X : Exn → Prop}
theorem po_mapStN {f : γ → α → R (β × γ)} {s : γ} {xs : List α} (I : Nat → γ → Prop) (p : β → Prop) (hl : xs.length < 100000) (h0 : I 0 s) (hf : ∀ n s x, n < xs.length → I n s → xs[n]? = some x → Post (f s x) (fun r => p r.1 ∧ I (n + 1) r.2) X) :
    Post (mapStG f s xs) (fun r => r.1.length = xs.length ∧ (∀ y ∈ r.1, p y) ∧ I xs.length r.2) X := by
  unfold mapStG
  rw [grd_t (decide_eq_true hl), ok_bind]
  clear hl
  have key : ∀ (l : List α) (n : Nat) (s : γ), xs.drop n = l → n ≤ xs.length → I n s → Post (mapSt f s l) (fun r => r.1.length = l.length ∧ (∀ y ∈ r.1, p y) ∧ I xs.length r.2) X := by
    intro l
    induction l with
    | nil =>
      intro n s e hn h
      have : xs.length ≤ n := by
        have := congrArg List.length e
        rw [List.length_drop, List.length_nil] at this
        omega
      rw [show n = xs.length by omega] at h
      exact ⟨rfl, by intro y hy; exact absurd hy List.not_mem_nil, h⟩
    | cons x l ih =>
      intro n s e hn h
      have hlt : n < xs.length := by
        have := congrArg List.length e
        rw [List.length_drop, List.length_cons] at this
        omega
      have e1 : xs[n] :: xs.drop (n + 1) = x :: l := (List.drop_eq_getElem_cons hlt).symm.trans e
      injection e1 with e2 e3
      refine po_bind (hf n s x hlt h (by rw [List.getElem?_eq_getElem hlt, e2])) fun r ⟨h1, h2⟩ => po_bind (ih (n + 1) r.2 e3 (by omega) h2) fun q ⟨h3, h4, h5⟩ => ?_
      refine ⟨by rw [List.length_cons, List.length_cons, h3], fun y hy => ?_, h5⟩
      rcases List.mem_cons.mp hy with rfl | hy
      · exact h1
      · exact h4 y hy
  exact key xs 0 s rfl (Nat.zero_le _) h0
end
section
variable {α : Type}
theorem cut_take (xs : List α) (n : Nat) : cutL xs none (some (n : Int)) = xs.take n := by
  unfold cutL
  have e : HT.sIx xs.length xs.length (some (n : Int)) = min n xs.length := HT.sIx_nat xs.length xs.length n
  have e0 : HT.sIx xs.length 0 none = 0 := rfl
  rw [e, e0, List.drop_zero, Nat.sub_zero]
  by_cases h : n ≤ xs.length
  · rw [Nat.min_eq_left h]
  · rw [Nat.min_eq_right (by omega), List.take_of_length_le (Nat.le_refl _), List.take_of_length_le (by omega)]
theorem cut_mid (xs : List α) (m n : Nat) : cutL xs (some (m : Int)) (some (n : Int)) = (xs.drop m).take (n - m) := by
  unfold cutL
  have e : HT.sIx xs.length xs.length (some (n : Int)) = min n xs.length := HT.sIx_nat xs.length xs.length n
  have e0 : HT.sIx xs.length 0 (some (m : Int)) = min m xs.length := HT.sIx_nat xs.length 0 m
  rw [e, e0]
  by_cases h : m ≤ xs.length
  · rw [Nat.min_eq_left h]
    by_cases h2 : n ≤ xs.length
    · rw [Nat.min_eq_left h2]
    · rw [Nat.min_eq_right (by omega), List.take_of_length_le (by rw [List.length_drop]; exact Nat.le_refl _), List.take_of_length_le (by rw [List.length_drop]; omega)]
  · rw [List.drop_of_length_le (by omega), List.drop_of_length_le (by omega), List.take_nil, List.take_nil]
end
/-! ### dicts -/
section
variable {κ β : Type} [DecidableEq κ]
theorem mhas_iff {m : List (κ × β)} {k : κ} : mhas m k = true ↔ ∃ p ∈ m, p.1 = k := by
  unfold mhas
  rw [List.any_eq_true]
  constructor
  · rintro ⟨p, h, e⟩
    exact ⟨p, h, of_decide_eq_true e⟩
  · rintro ⟨p, h, e⟩
    exact ⟨p, h, decide_eq_true e⟩
theorem mput_new {m : List (κ × β)} {k : κ} {v : β} (h : mhas m k = false) : mput m k v = m ++ [(k, v)] := by
  unfold mput
  have h' : (m.any fun p => decide (p.1 = k)) = false := h
  rw [h', if_neg (by decide)]
theorem mput_old {m : List (κ × β)} {k : κ} {v : β} (h : mhas m k = true) : mput m k v = m.map (fun p => if p.1 = k then (p.1, v) else p) := by
  unfold mput
  have h' : (m.any fun p => decide (p.1 = k)) = true := h
  rw [h', if_pos rfl]
theorem mput_keys {m : List (κ × β)} {k j : κ} {v : β} : (∃ p ∈ mput m k v, p.1 = j) ↔ (j = k ∨ ∃ p ∈ m, p.1 = j) := by
  cases h : mhas m k with
  | false =>
    rw [mput_new h]
    constructor
    · rintro ⟨p, hp, rfl⟩
      rcases List.mem_append.mp hp with hp | hp
      · exact .inr ⟨p, hp, rfl⟩
      · rw [List.mem_singleton] at hp
        exact .inl (by rw [hp])
    · rintro (rfl | ⟨p, hp, rfl⟩)
      · exact ⟨(j, v), List.mem_append_right _ List.mem_cons_self, rfl⟩
      · exact ⟨p, List.mem_append_left _ hp, rfl⟩
  | true =>
    rw [mput_old h]
    have fst : ∀ p : κ × β, (if p.1 = k then (p.1, v) else p).1 = p.1 := fun p => by split <;> rfl
    constructor
    · rintro ⟨p, hp, rfl⟩
      obtain ⟨q, hq, rfl⟩ := List.mem_map.mp hp
      rw [fst]
      exact .inr ⟨q, hq, rfl⟩
    · rintro (rfl | ⟨p, hp, rfl⟩)
      · obtain ⟨p, hp, e⟩ := mhas_iff.mp h
        exact ⟨_, List.mem_map.mpr ⟨p, hp, rfl⟩, by rw [fst]; exact e⟩
      · exact ⟨_, List.mem_map.mpr ⟨p, hp, rfl⟩, fst p⟩
theorem mput_length {m : List (κ × β)} {k : κ} {v : β} : (mput m k v).length = m.length + if mhas m k = true then 0 else 1 := by
  cases h : mhas m k with
  | false =>
    rw [mput_new h, List.length_append]
    rfl
  | true =>
    rw [mput_old h, List.length_map]
    rfl
theorem po_mput {δ : Type} {m : List (κ × β)} {k : κ} {v : β} {f : List (κ × β) → R δ} {S : δ → Prop} {X : Exn → Prop} (h : m.length < 100000) (hk : Post (f (mput m k v)) S X) : Post (mputR m k v >>= f) S X := by
  unfold mputR
  rw [if_pos h]
  exact hk
end
end Z
/-! ZG: webs: joined, how far; no program in sight -/
namespace Z
open PySem L2
/-! ### more steps -/
section
variable {α β γ δ : Type} {P Q : α → Prop} {S : β → Prop} {X : Exn → Prop}
/-- a fold, by what is gone through -/
theorem po_foldP {f : β → α → R β} {s : β} {xs : List α} (I : List α → β → Prop) (h0 : I [] s) (hf : ∀ pre s x post, xs = pre ++ x :: post → I pre s → Post (f s x) (I (pre ++ [x])) X) : Post (foldR f s xs) (I xs) X := by
  have key : ∀ (l pre : List α) (s : β), xs = pre ++ l → I pre s → Post (foldR f s l) (I xs) X := by
    intro l
    induction l with
    | nil =>
      intro pre s e h
      rw [List.append_nil] at e
      rw [e]
      exact h
    | cons x l ih =>
      intro pre s e h
      show Post (f s x >>= fun s' => foldR f s' l) _ X
      exact po_bind (hf pre s x l e h) fun s' h' => ih (pre ++ [x]) s' (by rw [e, List.append_assoc]; rfl) h'
  exact key xs [] s rfl h0
/-- items for items with a state, by what is made -/
theorem po_mapStA {f : γ → α → R (β × γ)} {s : γ} {xs : List α} (I : List α → List β → γ → Prop) (hl : xs.length < 100000) (h0 : I [] [] s)
    (hf : ∀ pre acc s x post, xs = pre ++ x :: post → I pre acc s → Post (f s x) (fun r => I (pre ++ [x]) (acc ++ [r.1]) r.2) X) : Post (mapStG f s xs) (fun r => I xs r.1 r.2) X := by
  unfold mapStG
  rw [grd_t (decide_eq_true hl), ok_bind]
  have key : ∀ (l pre : List α) (acc : List β) (s : γ), xs = pre ++ l → I pre acc s → Post (mapSt f s l) (fun r => I xs (acc ++ r.1) r.2) X := by
    intro l
    induction l with
    | nil =>
      intro pre acc s e h
      rw [List.append_nil] at e
      show I xs (acc ++ []) s
      rw [List.append_nil, e]
      exact h
    | cons x l ih =>
      intro pre acc s e h
      refine po_bind (hf pre acc s x l e h) fun r hr => po_bind (ih (pre ++ [x]) (acc ++ [r.1]) r.2 (by rw [e, List.append_assoc]; rfl) hr) fun q hq => ?_
      show I xs (acc ++ (r.1 :: q.1)) q.2
      rw [List.append_assoc] at hq
      exact hq
  exact key xs [] [] s rfl h0
theorem po_mapGE {f : α → R β} {g : α → β} {xs : List α} {k : List β → R γ} {T : γ → Prop} (hl : xs.length < 100000) (h : ∀ x ∈ xs, f x = R.ok (g x)) (hk : Post (k (xs.map g)) T X) : Post (mapG f xs >>= k) T X := by
  rw [mapG_ok hl h]
  exact hk
theorem po_filGE {f : α → R (Option β)} {g : α → Option β} {xs : List α} {k : List β → R γ} {T : γ → Prop} (hl : xs.length < 100000) (h : ∀ x ∈ xs, f x = R.ok (g x)) (hk : Post (k (xs.filterMap g)) T X) : Post (filG f xs >>= k) T X := by
  rw [filG_ok hl h]
  exact hk
/-- a while: an invariant, a measure -/
theorem po_while {c : γ → R Bool} {b : γ → R γ} {T : γ → Prop} (I : γ → Prop) (μ : γ → Nat)
    (hs : ∀ s, I s → Post (c s) (fun t => (t = true → Post (b s) (fun s' => I s' ∧ μ s' < μ s) X) ∧ (t = false → T s)) X) : ∀ {n : Nat} {s : γ}, I s → μ s < n → Post (whileR c b n s) T X
  | 0, s, _, h => absurd h (Nat.not_lt_zero _)
  | n + 1, s, hi, h => by
    refine po_bind (hs s hi) fun t ⟨h1, h2⟩ => ?_
    cases t with
    | false => exact h2 rfl
    | true => exact po_bind (h1 rfl) fun s' ⟨a, d⟩ => po_while I μ hs a (by omega)
theorem po_getS {st : List (List α)} {j : Nat} {xs : List α} {k : List α → R γ} {T : γ → Prop} (h : st[j]? = some xs) (hk : Post (k xs) T X) : Post (getS st j >>= k) T X := by
  unfold getS
  rw [h]
  exact hk
theorem po_setS {st : List (List α)} {j : Nat} {xs : List α} {k : List (List α) → R γ} {T : γ → Prop} (hk : Post (k (st.set j xs)) T X) : Post (setS st j xs >>= k) T X := hk
theorem po_newS {st : List (List α)} {xs : List α} {k : Nat × List (List α) → R γ} {T : γ → Prop} (hk : Post (k (st.length, st ++ [xs])) T X) : Post (newS st xs >>= k) T X := hk
theorem po_listRng {i j : Int} {k : List Int → R γ} {T : γ → Prop} (h1 : -(2 ^ 62) ≤ i) (h2 : i < 2 ^ 62) (h3 : -(2 ^ 62) ≤ j) (h4 : j < 2 ^ 62) (h5 : (j - i).toNat ≤ 100000) (hk : Post (k (rng i j)) T X) : Post (listRng i j >>= k) T X := by
  unfold listRng
  rw [if_pos ⟨h1, h2, h3, h4, h5⟩]
  exact hk
theorem po_rep {xs : List α} {i : Int} {k : List α → R γ} {T : γ → Prop} (h1 : 0 ≤ i) (h2 : i < 1000) (h3 : xs.length < 100) (hk : Post (k (repL xs i)) T X) : Post (repR xs i >>= k) T X := by
  unfold repR
  have h4 : xs.length * i.toNat ≤ 100 * 1000 := Nat.mul_le_mul (by omega) (by omega)
  have h5 : xs.length * i.toNat < 100000 := by
    have h6 : xs.length * i.toNat ≤ 99 * 999 := Nat.mul_le_mul (by omega) (by omega)
    omega
  rw [if_pos ⟨by omega, by omega, h5⟩]
  exact hk
theorem po_ofO {o : Option α} {x : α} {k : α → R γ} {T : γ → Prop} (h : o = some x) (hk : Post (k x) T X) : Post (ofO o >>= k) T X := by
  rw [h]
  exact hk
theorem po_mgetE {κ : Type} [DecidableEq κ] {m : List (κ × α)} {j : κ} {x : α} {k : α → R γ} {T : γ → Prop} (h : mget m j = some x) (hk : Post (k x) T X) : Post (mgetR m j >>= k) T X := po_ofO h hk
theorem po_popB {xs : List α} {i : Int} {k : α × List α → R γ} {T : γ → Prop} (h0 : 0 ≤ i) (h1 : i < xs.length) (h2 : i < 2 ^ 62) (hk : ∀ x, xs[i.toNat]? = some x → Post (k (x, xs.eraseIdx i.toNat)) T X) : Post (popB xs i >>= k) T X := by
  have hj : i.toNat < xs.length := by omega
  have e : popB xs i = R.ok (xs[i.toNat], xs.eraseIdx i.toNat) := by
    unfold popB popAt
    rw [if_pos (by omega)]
    have ei : ixN xs.length i = some i.toNat := by
      unfold ixN
      rw [if_pos h0, if_pos h1]
    rw [ei]
    dsimp only
    rw [List.getElem?_eq_getElem hj]
  rw [e]
  exact hk _ (List.getElem?_eq_getElem hj)
end
theorem rng_len {n : Int} (h : 0 ≤ n) : ((rng 0 n).length : Int) = n := by
  rw [rng_length]
  omega
theorem rng_atE {i j : Int} {k : Nat} (h : k < (j - i).toNat) : (rng i j)[k]? = some (i + k) := rng_get h
theorem rng_nodup (i j : Int) : (rng i j).Nodup := by
  unfold rng
  refine List.Pairwise.map _ (fun a b h => ?_) List.nodup_range
  intro e
  exact h (by omega)
theorem rng_pre {i j x : Int} {pre post : List Int} (h : rng i j = pre ++ x :: post) : x = i + pre.length := by
  have h1 : (rng i j)[pre.length]? = some x := by rw [h]; simp
  have hl : pre.length < (rng i j).length := by rw [h]; simp
  rw [rng_length] at hl
  rw [rng_atE hl] at h1
  cases h1
  rfl
theorem rng_split {i j x : Int} {pre post : List Int} (h : rng i j = pre ++ x :: post) : pre = rng i x ∧ i ≤ x ∧ x < j := by
  have e := rng_pre h
  have hl : (rng i j).length = pre.length + (post.length + 1) := by rw [h]; simp
  rw [rng_length] at hl
  refine ⟨?_, by omega, by omega⟩
  apply List.ext_getElem?
  intro k
  by_cases hk : k < pre.length
  · have h1 : (rng i j)[k]? = pre[k]? := by rw [h, List.getElem?_append_left hk]
    rw [← h1, rng_atE (by omega), rng_atE (by omega)]
  · rw [List.getElem?_eq_none (by omega), List.getElem?_eq_none (by rw [rng_length]; omega)]
theorem rng_snoc {i j : Int} (h : i ≤ j) : rng i (j + 1) = rng i j ++ [j] := by
  apply List.ext_getElem?
  intro k
  by_cases hk : k < (j - i).toNat
  · rw [List.getElem?_append_left (by rw [rng_length]; exact hk), rng_atE hk, rng_atE (by omega)]
  · by_cases hk2 : k = (j - i).toNat
    · rw [List.getElem?_append_right (by rw [rng_length]; omega), rng_atE (by omega), rng_length, hk2]
      simp
      omega
    · rw [List.getElem?_eq_none (by rw [rng_length]; omega), List.getElem?_eq_none (by rw [List.length_append, rng_length]; simp; omega)]
/-! ### joined -/
def Adj (ts : List (Int × Int)) (a b : Int) : Prop := (a, b) ∈ ts ∨ (b, a) ∈ ts
theorem Adj.symm {ts : List (Int × Int)} {a b : Int} (h : Adj ts a b) : Adj ts b a := h.elim .inr .inl
/-- what holds of a place and goes along all ties holds of all places -/
def Conn (n : Int) (ts : List (Int × Int)) : Prop := ∀ S : Int → Prop, S 0 → (∀ p ∈ ts, S p.1 ↔ S p.2) → ∀ k, 0 ≤ k → k < n → S k
theorem Conn.any {n : Int} {ts : List (Int × Int)} (h : Conn n ts) {S : Int → Prop} {r : Int} (r0 : 0 ≤ r) (r1 : r < n) (hr : S r) (hc : ∀ p ∈ ts, S p.1 ↔ S p.2) : ∀ k, 0 ≤ k → k < n → S k := by
  by_cases h0 : S 0
  · exact h S h0 hc
  · exact absurd hr (h (fun k => ¬ S k) h0 (fun p hp => not_congr (hc p hp)) r r0 r1)
theorem Conn.mono {n : Int} {ts us : List (Int × Int)} (h : Conn n ts) (hs : ∀ p ∈ ts, p ∈ us) : Conn n us := fun S h0 hc => h S h0 fun p hp => hc p (hs p hp)
theorem conn_tree {n : Int} {ts : List (Int × Int)} (h : ∀ k, 1 ≤ k → k < n → ∃ j, 0 ≤ j ∧ j < k ∧ Adj ts j k) : Conn n ts := by
  intro S h0 hc
  have key : ∀ (m : Nat) (k : Int), k.toNat ≤ m → 0 ≤ k → k < n → S k := by
    intro m
    induction m with
    | zero =>
      intro k hk k0 _
      rw [show k = 0 by omega]
      exact h0
    | succ m ih =>
      intro k hk k0 k1
      by_cases hz : k = 0
      · rw [hz]; exact h0
      · obtain ⟨j, j0, jk, hj⟩ := h k (by omega) k1
        have hj' := ih j (by omega) j0 (by omega)
        rcases hj with hj | hj
        · exact (hc _ hj).mp hj'
        · exact (hc _ hj).mpr hj'
  exact fun k k0 k1 => key k.toNat k (Nat.le_refl _) k0 k1
/-! ### how far -/
structure IsDist (n : Int) (ts : List (Int × Int)) (p : Int) (f : Int → Int) : Prop where
  zero : f p = 0
  nn : ∀ v, 0 ≤ v → v < n → 0 ≤ f v
  lip : ∀ a b, Adj ts a b → f b ≤ f a + 1
  desc : ∀ v, 0 ≤ v → v < n → v ≠ p → ∃ w, 0 ≤ w ∧ w < n ∧ Adj ts w v ∧ f w + 1 = f v
theorem IsDist.le {n : Int} {ts : List (Int × Int)} {p : Int} {f g : Int → Int} (hf : IsDist n ts p f) (hg : IsDist n ts p g) : ∀ v, 0 ≤ v → v < n → f v ≤ g v := by
  have key : ∀ (m : Nat) (v : Int), (g v).toNat ≤ m → 0 ≤ v → v < n → f v ≤ g v := by
    intro m
    induction m with
    | zero =>
      intro v hm v0 v1
      by_cases hv : v = p
      · rw [hv, hf.zero, hg.zero]; exact Int.le_refl _
      · obtain ⟨w, w0, w1, _, e⟩ := hg.desc v v0 v1 hv
        have := hg.nn w w0 w1
        omega
    | succ m ih =>
      intro v hm v0 v1
      by_cases hv : v = p
      · rw [hv, hf.zero, hg.zero]; exact Int.le_refl _
      · obtain ⟨w, w0, w1, ha, e⟩ := hg.desc v v0 v1 hv
        have h1 := hg.nn w w0 w1
        have h2 := ih w (by omega) w0 w1
        have h3 := hf.lip w v ha
        omega
  exact fun v v0 v1 => key _ v (Nat.le_refl _) v0 v1
theorem IsDist.uniq {n : Int} {ts : List (Int × Int)} {p : Int} {f g : Int → Int} (hf : IsDist n ts p f) (hg : IsDist n ts p g) (v : Int) (v0 : 0 ≤ v) (v1 : v < n) : f v = g v :=
  Int.le_antisymm (hf.le hg v v0 v1) (hg.le hf v v0 v1)
theorem IsDist.level {n : Int} {ts : List (Int × Int)} {p : Int} {f : Int → Int} (hf : IsDist n ts p f) : ∀ (m : Nat) (v : Int), 0 ≤ v → v < n → (f v).toNat = m → ∀ k : Nat, k ≤ m → ∃ w, 0 ≤ w ∧ w < n ∧ f w = k := by
  intro m
  induction m with
  | zero =>
    intro v v0 v1 e k hk
    have := hf.nn v v0 v1
    exact ⟨v, v0, v1, by omega⟩
  | succ m ih =>
    intro v v0 v1 e k hk
    have hv := hf.nn v v0 v1
    by_cases hk2 : k = m + 1
    · exact ⟨v, v0, v1, by omega⟩
    · have hne : v ≠ p := by
        intro e2
        rw [e2, hf.zero] at e
        simp at e
      obtain ⟨w, w0, w1, _, e2⟩ := hf.desc v v0 v1 hne
      exact ih w w0 w1 (by omega) k (by omega)
/-- no place is as far as there are places -/
theorem IsDist.lt {n : Int} {ts : List (Int × Int)} {p : Int} {f : Int → Int} (hf : IsDist n ts p f) (v : Int) (v0 : 0 ≤ v) (v1 : v < n) : f v < n := by
  have hv := hf.nn v v0 v1
  have hl := hf.level _ v v0 v1 rfl
  have key : ∀ m : Nat, m ≤ (f v).toNat + 1 → ∃ ws : List Int, ws.length = m ∧ ws.Nodup ∧ (∀ w ∈ ws, w ∈ rng 0 n ∧ f w < m) := by
    intro m
    induction m with
    | zero => exact fun _ => ⟨[], rfl, List.nodup_nil, fun _ h => nomatch h⟩
    | succ m ih =>
      intro hm
      obtain ⟨ws, h1, h2, h3⟩ := ih (by omega)
      obtain ⟨w, w0, w1, e⟩ := hl m (by omega)
      refine ⟨w :: ws, by rw [List.length_cons, h1], List.nodup_cons.mpr ⟨fun h => ?_, h2⟩, fun u hu => ?_⟩
      · have := (h3 w h).2
        omega
      · rcases List.mem_cons.mp hu with rfl | hu
        · exact ⟨rng_mem.mpr ⟨w0, w1⟩, by omega⟩
        · have := h3 u hu
          exact ⟨this.1, by omega⟩
  obtain ⟨ws, h1, h2, h3⟩ := key _ (Nat.le_refl _)
  have := nodup_le h2 fun w hw => (h3 w hw).1
  rw [h1, rng_length] at this
  omega
/-- how far places are from one, in a web that hangs together -/
noncomputable def dst (n : Int) (ts : List (Int × Int)) (p : Int) : Int → Int := by
  classical
  exact if h : ∃ f, IsDist n ts p f then Classical.choose h else fun _ => 0
theorem dst_is {n : Int} {ts : List (Int × Int)} {p : Int} {f : Int → Int} (h : IsDist n ts p f) : IsDist n ts p (dst n ts p) := by
  have e : ∃ f, IsDist n ts p f := ⟨f, h⟩
  unfold dst
  rw [dif_pos e]
  exact Classical.choose_spec e
theorem dst_eq {n : Int} {ts : List (Int × Int)} {p : Int} {f : Int → Int} (h : IsDist n ts p f) (v : Int) (v0 : 0 ≤ v) (v1 : v < n) : f v = dst n ts p v := h.uniq (dst_is h) v v0 v1
/-! ### there is a distance -/
inductive Rch (ts : List (Int × Int)) (p : Int) : Nat → Int → Prop
  | here : Rch ts p 0 p
  | step {k : Nat} {a b : Int} : Rch ts p k a → Adj ts a b → Rch ts p (k + 1) b
theorem least {P : Nat → Prop} (h : ∃ k, P k) : ∃ k, P k ∧ ∀ j, j < k → ¬ P j := by
  obtain ⟨k, hk⟩ := h
  induction k using Nat.strongRecOn with
  | _ k ih =>
    by_cases q : ∃ j, j < k ∧ P j
    · obtain ⟨j, h1, h2⟩ := q
      exact ih j h1 h2
    · exact ⟨k, hk, fun j hj hp => q ⟨j, hj, hp⟩⟩
theorem conn_ex {n : Int} {ts : List (Int × Int)} {p : Int} (hr : ∀ q ∈ ts, 0 ≤ q.1 ∧ q.1 < n ∧ 0 ≤ q.2 ∧ q.2 < n) (hc : Conn n ts) (p0 : 0 ≤ p) (p1 : p < n) : IsDist n ts p (dst n ts p) := by
  classical
  have all : ∀ v, 0 ≤ v → v < n → ∃ k, Rch ts p k v := hc.any (S := fun v => ∃ k, Rch ts p k v) p0 p1 ⟨0, .here⟩ fun q hq => ⟨fun ⟨k, h⟩ => ⟨k + 1, h.step (.inl hq)⟩, fun ⟨k, h⟩ => ⟨k + 1, h.step (.inr hq)⟩⟩
  have adj : ∀ a b, Adj ts a b → (0 ≤ a ∧ a < n) ∧ (0 ≤ b ∧ b < n) := fun a b h => by
    rcases h with h | h
    · have := hr _ h
      exact ⟨⟨this.1, this.2.1⟩, ⟨this.2.2.1, this.2.2.2⟩⟩
    · have := hr _ h
      exact ⟨⟨this.2.2.1, this.2.2.2⟩, ⟨this.1, this.2.1⟩⟩
  have key : ∀ v, ∃ d : Int, 0 ≤ d ∧ (0 ≤ v → v < n → ∃ k : Nat, d = k ∧ Rch ts p k v ∧ ∀ j, j < k → ¬ Rch ts p j v) := fun v => by
    by_cases hv : 0 ≤ v ∧ v < n
    · obtain ⟨k, h1, h2⟩ := least (all v hv.1 hv.2)
      exact ⟨k, by omega, fun _ _ => ⟨k, rfl, h1, h2⟩⟩
    · exact ⟨0, Int.le_refl 0, fun a b => absurd ⟨a, b⟩ hv⟩
  have hf : ∃ f : Int → Int, ∀ v, 0 ≤ f v ∧ (0 ≤ v → v < n → ∃ k : Nat, f v = k ∧ Rch ts p k v ∧ ∀ j, j < k → ¬ Rch ts p j v) := ⟨fun v => Classical.choose (key v), fun v => Classical.choose_spec (key v)⟩
  obtain ⟨f, hf⟩ := hf
  have lip : ∀ a b, Adj ts a b → f b ≤ f a + 1 := fun a b h => by
    obtain ⟨⟨a0, a1⟩, ⟨b0, b1⟩⟩ := adj a b h
    obtain ⟨k, e1, h1, _⟩ := (hf a).2 a0 a1
    obtain ⟨j, e2, _, h2⟩ := (hf b).2 b0 b1
    have : ¬ k + 1 < j := fun q => h2 (k + 1) q (h1.step h)
    omega
  refine dst_is (f := f) ⟨?_, fun v _ _ => (hf v).1, lip, fun v v0 v1 hne => ?_⟩
  · obtain ⟨k, e, _, h2⟩ := (hf p).2 p0 p1
    have : ¬ 0 < k := fun q => h2 0 q .here
    omega
  · obtain ⟨k, e, h1, h2⟩ := (hf v).2 v0 v1
    cases h1 with
    | here => exact absurd rfl hne
    | step h3 h4 =>
      rename_i j w
      obtain ⟨⟨w0, w1⟩, _⟩ := adj _ _ h4
      refine ⟨w, w0, w1, h4, ?_⟩
      obtain ⟨i, e2, _, h5⟩ := (hf w).2 w0 w1
      have h6 : ¬ j < i := fun q => h5 j q h3
      have := lip w v h4
      omega
end Z
/-! ZN: dicts as lists of pairs -/
namespace Z
open PySem L2
section
variable {κ β γ : Type} [DecidableEq κ]
def mkeys (m : List (κ × β)) : List κ := m.map (·.1)
theorem mget_nil (j : κ) : mget ([] : List (κ × β)) j = none := rfl
theorem mget_cons (p : κ × β) (m : List (κ × β)) (j : κ) : mget (p :: m) j = if p.1 = j then some p.2 else mget m j := by
  unfold mget
  by_cases h : p.1 = j
  · rw [List.find?_cons_of_pos (by simpa using h), if_pos h]
    rfl
  · rw [List.find?_cons_of_neg (by simpa using h), if_neg h]
theorem mget_append (m m' : List (κ × β)) (j : κ) : mget (m ++ m') j = (mget m j).or (mget m' j) := by
  induction m with
  | nil => rfl
  | cons p m ih =>
    rw [List.cons_append, mget_cons, mget_cons, ih]
    by_cases h : p.1 = j
    · rw [if_pos h, if_pos h]; rfl
    · rw [if_neg h, if_neg h]
theorem mhas_mget (m : List (κ × β)) (j : κ) : mhas m j = (mget m j).isSome := by
  unfold mhas mget
  rw [Option.isSome_map, List.isSome_find?]
theorem mhas_keys {m : List (κ × β)} {j : κ} : mhas m j = true ↔ j ∈ mkeys m := by
  rw [mhas_iff]
  unfold mkeys
  rw [List.mem_map]
theorem mget_mput (m : List (κ × β)) (k : κ) (v : β) (j : κ) : mget (mput m k v) j = if j = k then some v else mget m j := by
  cases h : mhas m k with
  | false =>
    rw [mput_new h, mget_append, mget_cons, mget_nil]
    by_cases e : j = k
    · subst e
      rw [if_pos rfl, if_pos rfl]
      rw [mhas_mget] at h
      cases q : mget m j with
      | none => rfl
      | some x => rw [q] at h; cases h
    · rw [if_neg (fun q => e q.symm), if_neg e]
      cases mget m j <;> rfl
  | true =>
    rw [mput_old h]
    by_cases e : j = k
    · subst e
      rw [if_pos rfl]
      induction m with
      | nil => cases h
      | cons p m ih =>
        rw [List.map_cons, mget_cons]
        by_cases q : p.1 = j
        · rw [if_pos q, if_pos q]
        · rw [if_neg q, if_neg q]
          refine ih ?_
          rw [mhas_mget, mget_cons, if_neg q, ← mhas_mget] at h
          exact h
    · rw [if_neg e]
      clear h
      induction m with
      | nil => rfl
      | cons p m ih =>
        rw [List.map_cons, mget_cons, mget_cons, ih]
        by_cases q : p.1 = k
        · rw [if_pos q, if_neg (by rw [q]; exact fun z => e z.symm), if_neg (by rw [q]; exact fun z => e z.symm)]
        · rw [if_neg q]
theorem mkeys_mput (m : List (κ × β)) (k : κ) (v : β) : mkeys (mput m k v) = if k ∈ mkeys m then mkeys m else mkeys m ++ [k] := by
  cases h : mhas m k with
  | false =>
    rw [mput_new h, if_neg (fun q => by rw [mhas_keys.mpr q] at h; cases h)]
    unfold mkeys
    rw [List.map_append]
    rfl
  | true =>
    rw [mput_old h, if_pos (mhas_keys.mp h)]
    unfold mkeys
    rw [List.map_map]
    refine List.map_congr_left fun p _ => ?_
    show (if p.1 = k then (p.1, v) else p).1 = p.1
    split <;> rfl
theorem mkeys_nodup {m : List (κ × β)} {k : κ} {v : β} (h : (mkeys m).Nodup) : (mkeys (mput m k v)).Nodup := by
  rw [mkeys_mput]
  split
  · exact h
  · rename_i q
    rw [List.nodup_append]
    refine ⟨h, by simp, fun a ha c hc e => ?_⟩
    rw [List.mem_singleton] at hc
    rw [e, hc] at ha
    exact q ha
theorem mkeys_length (m : List (κ × β)) : (mkeys m).length = m.length := List.length_map _
theorem mget_keys {m : List (κ × β)} {j : κ} : j ∈ mkeys m ↔ ∃ v, mget m j = some v := by
  rw [← mhas_keys, mhas_mget, Option.isSome_iff_exists]
end
end Z
namespace G
open PySem L2 Z
open Rep (rep)
def top (i : Nat) : Stmt := PySem.Challenge.pw_farhail_k27_whole_numbered_in_order.main.body.getD i (.Pass ⟨0, 0, 0, 0⟩)
abbrev s_near_lists : Stmt := top 8
abbrev s_place_asked : Stmt := top 9
abbrev s_neighbours_of : Stmt := top 10
abbrev s_is_tree : Stmt := top 12
abbrev s_tree_asked : Stmt := top 13
abbrev s_rising_asked : Stmt := top 14
abbrev s_all_near : Stmt := top 15
abbrev s_piece_from : Stmt := top 16
abbrev s_pieces_by : Stmt := top 17
abbrev s_looks_in : Stmt := top 18
abbrev s_tie_of : Stmt := top 19
abbrev s_likes_at : Stmt := top 20
abbrev s_tree_likes : Stmt := top 21
abbrev s_grown_asked : Stmt := top 23
abbrev s_leg_from : Stmt := top 24
abbrev s_legs_by_fork : Stmt := top 25
abbrev s_lots_of : Stmt := top 26
abbrev s_looks_by : Stmt := top 27
abbrev s_ways_of : Stmt := top 28
abbrev s_count_with : Stmt := top 29
abbrev s_places_in : Stmt := top 30
abbrev s_tree_fewest : Stmt := top 31
abbrev s_tree_choices : Stmt := top 32
abbrev s_choice_by : Stmt := top 33
abbrev s_is_choice : Stmt := top 34
abbrev s_choice_number : Stmt := top 35
abbrev s_law_cells : Stmt := top 37
abbrev s_law_pool : Stmt := top 38
abbrev s_law_take : Stmt := top 39
abbrev s_law_some : Stmt := top 40
abbrev s_law_named : Stmt := top 41
abbrev s_law_tree : Stmt := top 42
abbrev s_law_whole : Stmt := top 43
abbrev s_law_numbers : Stmt := top 44
abbrev s_law_is_choice : Stmt := top 45
abbrev s_law_right : Stmt := top 46
abbrev s_law : Stmt := top 47
/-! ### the mirrors -/
/-! near_lists -/
def near_lists (x_web : (Int × (Tup (Int × Int)))) : R (List (List Int)) := do
  let l4 ← rngI 0 x_web.1
  let l5 ← mapStG (fun (g5 : (List (List Int))) (b5 : Int) => do
      let r9 ← newS g5 ([] : (List Int))
      R.ok (r9.1, r9.2)) ([] : List (List Int)) l4
  let g11 ← foldR (fun (g11 : (List (List Int))) (b11 : (Int × Int)) => do
      let t14 ← getI l5.1 b11.1
      let x16 ← getS g11 t14
      let l17 ← app x16 b11.2
      let r17 ← setS g11 t14 l17
      let t18 ← getI l5.1 b11.2
      let x20 ← getS r17 t18
      let l21 ← app x20 b11.1
      let r21 ← setS r17 t18 l21
      R.ok r21) l5.2 x_web.2.l
  let l22 ← mapG (fun (b22 : Ix) => do
      let x26 ← getS g11 b22
      R.ok (sortI x26)) l5.1
  R.ok l22
/-! place_asked -/
def place_asked (x_web : (Int × (Tup (Int × Int)))) (x_place : Int) : R Unit := do
  if (!((decide ((0 : Int) ≤ x_place)) && (decide (x_place < x_web.1)))) = true then do
    R.bad
  else do
    R.ok ()
/-! neighbours_of -/
def neighbours_of (x_web : (Int × (Tup (Int × Int)))) (x_place : Int) : R (List Int) := do
  let y3 ← place_asked x_web x_place
  let y4 ← near_lists x_web
  let t6 ← getI y4 x_place
  R.ok t6
/-! is_tree -/
def is_tree (x_web : (Int × (Tup (Int × Int)))) : R Bool := do
  R.ok (decide ((x_web.2.l.length : Int) = (x_web.1 - (1 : Int))))
/-! tree_asked -/
def tree_asked (x_web : (Int × (Tup (Int × Int)))) : R Unit := do
  let y3 ← is_tree x_web
  if (!y3) = true then do
    R.bad
  else do
    R.ok ()
/-! rising_asked -/
def rising_asked (x_web : (Int × (Tup (Int × Int)))) (x_looks : (List Int)) : R Unit := do
  let j4 ← (do
    let l5 ← ssR x_looks
    if (!decide (x_looks = l5)) = true then do
      R.ok true
    else do
      let l10 ← mapG (fun (b10 : Int) => do
          R.ok ((decide ((0 : Int) ≤ b10)) && (decide (b10 < x_web.1)))) x_looks
      R.ok (!(l10.all id)) : R (Bool))
  if j4 = true then do
    R.bad
  else do
    R.ok ()
/-! all_near -/
def all_near (x_web : (Int × (Tup (Int × Int)))) : R (List (List Int)) := do
  let l3 ← rngI 0 x_web.1
  let l4 ← mapG (fun (b4 : Int) => do
      let y6 ← neighbours_of x_web b4
      R.ok y6) l3
  R.ok l4
/-! piece_from -/
def piece_from (x_near : (List (List Int))) (x_place : Int) (x_start : Int) : R (List Int) := do
  let g6 ← whileR (fun (g6 : Int × (List Int) × (List (Int × Bool))) => do
      R.ok (decide (g6.1 < (g6.2.1.length : Int)))) (fun (g6 : Int × (List Int) × (List (Int × Bool))) => do
      let t8 ← getI g6.2.1 g6.1
      let t9 ← getI x_near t8
      let g7 ← foldR (fun (g7 : (List Int) × (List (Int × Bool))) (b7 : Int) => do
          if (!mhas g7.2 b7) = true then do
            let l13 ← mputR g7.2 b7 true
            let l15 ← app g7.1 b7
            R.ok (l15, l13)
          else do
            R.ok (g7.1, g7.2)) (g6.2.1, g6.2.2) t9
      R.ok ((g6.1 + (1 : Int)), g7.1, g7.2)) (fu 1000) ((0 : Int), ([x_start] : (List Int)), (mmk ([(x_place, true), (x_start, true)] : List (Int × Bool))))
  R.ok (sortI g6.2.1)
/-! pieces_by -/
def pieces_by (x_near : (List (List Int))) (x_place : Int) : R (List (List Int)) := do
  let t2 ← getI x_near x_place
  let l4 ← mapG (fun (b4 : Int) => do
      let y7 ← piece_from x_near x_place b4
      R.ok y7) t2
  R.ok l4
/-! looks_in -/
def looks_in (x_near : (List (List Int))) (x_place : Int) (x_looks : (List Int)) : R (List Int) := do
  let y3 ← pieces_by x_near x_place
  let l5 ← mapG (fun (b5 : (List Int)) => do
      let l9 ← filG (fun (b9 : Int) => do
          if (inB b9 b5) = true then do
            R.ok (some b9)
          else
            R.ok none) x_looks
      R.ok (l9.length : Int)) y3
  R.ok l5
/-! tie_of -/
def tie_of (x_one : Int) (x_other : Int) : R (Int × Int) := do
  R.ok ((min2 x_one x_other), (max2 x_one x_other))
/-! likes_at -/
def likes_at (x_near : (List (List Int))) (x_place : Int) (x_looks : (List Int)) (x_kind : Str) : R (Option (Tup Thing)) := do
  let t3 ← getI x_near x_place
  let y5 ← looks_in x_near x_place x_looks
  let l7 ← filG (fun (b7 : (Int × Int)) => do
      if (decide (b7.2 = (0 : Int))) = true then do
        R.ok (some b7.1)
      else
        R.ok none) (t3.zip y5)
  if ((decide (x_kind = ("all" : Str))) && (decide ((0 : Int) < (l7.length : Int)))) = true then do
    let t18 ← getI l7 (0 : Int)
    let y19 ← tie_of x_place t18
    R.ok (some (Tup.mk [(Thing.pl x_place), (Thing.ti y19.1 y19.2)] : (Tup Thing)))
  else do
    if ((decide (x_kind = ("ties" : Str))) && (decide ((1 : Int) < (l7.length : Int)))) = true then do
      let t28 ← getI l7 (0 : Int)
      let y29 ← tie_of x_place t28
      let t31 ← getI l7 (1 : Int)
      let y32 ← tie_of x_place t31
      R.ok (some (Tup.mk [(Thing.ti y29.1 y29.2), (Thing.ti y32.1 y32.2)] : (Tup Thing)))
    else do
      if ((decide (x_kind = ("places" : Str))) && (decide ((1 : Int) < (l7.length : Int)))) = true then do
        let t41 ← getI l7 (0 : Int)
        let t42 ← getI l7 (1 : Int)
        R.ok (some (Tup.mk [(Thing.pl t41), (Thing.pl t42)] : (Tup Thing)))
      else do
        R.ok none
/-! tree_likes -/
def tree_likes (x_web : (Int × (Tup (Int × Int)))) (x_looks : (List Int)) (x_kind : Str) : R (Option (Tup Thing)) := do
  let y4 ← tree_asked x_web
  let y5 ← rising_asked x_web x_looks
  if ((decide (x_web.1 = (2 : Int))) && ((decide (x_kind = ("places" : Str))) && (decide ((x_looks.length : Int) = (0 : Int))))) = true then do
    R.ok (some (Tup.mk [(Thing.pl (0 : Int)), (Thing.pl (1 : Int))] : (Tup Thing)))
  else do
    let y15 ← all_near x_web
    let l18 ← rngI 0 x_web.1
    let r17 ← foldX (fun (g17 : Unit) (b17 : Int) => do
        let y19 ← likes_at y15 b17 x_looks x_kind
        if (!y19.isNone) = true then do
          let t22 ← ofO y19
          R.ok (.inl (some t22))
        else do
          R.ok (.inr (true, ()))) () l18
    match r17 with
    | .inl z => R.ok z
    | .inr g17 => do
      R.ok none
/-! grown_asked -/
def grown_asked (x_web : (Int × (Tup (Int × Int)))) : R Unit := do
  let y3 ← is_tree x_web
  if (!y3) = true then do
    R.bad
  else do
    R.ok ()
/-! leg_from -/
def leg_from (x_near : (List (List Int))) (x_end : Int) : R (Int × (List Int)) := do
  let t4 ← getI x_near x_end
  let t6 ← getI t4 (0 : Int)
  let g7 ← whileR (fun (g7 : Int × (List Int)) => do
      let t8 ← getI x_near g7.1
      R.ok (decide ((t8.length : Int) = (2 : Int)))) (fun (g7 : Int × (List Int)) => do
      let t10 ← getI x_near g7.1
      let t12 ← getI g7.2 (-(1 : Int))
      let l13 ← app g7.2 g7.1
      R.ok (((t10.sum) - t12), l13)) (fu 1000) (t6, ([x_end] : (List Int)))
  R.ok (g7.1, (sortI g7.2))
/-! legs_by_fork -/
def legs_by_fork (x_near : (List (List Int))) (x_ends : (List Int)) : R ((List (Int × Ix)) × (List (List (List Int)))) := do
  let g5 ← foldR (fun (g5 : (List (Int × Ix)) × (List (List (List Int)))) (b5 : Int) => do
      let y7 ← leg_from x_near b5
      let g10 ← (do
        if (!mhas g5.1 y7.1) = true then do
          let r14 ← newS g5.2 ([] : (List (List Int)))
          let l15 ← mputR g5.1 y7.1 r14.1
          R.ok (l15, r14.2)
        else do
          R.ok (g5.1, g5.2) : R ((List (Int × Ix)) × (List (List (List Int)))))
      let t17 ← mgetR g10.1 y7.1
      let x19 ← getS g10.2 t17
      let l20 ← app x19 y7.2
      let r20 ← setS g10.2 t17 l20
      R.ok (g10.1, r20)) (([] : (List (Int × Ix))), ([] : List (List (List Int)))) x_ends
  R.ok (g5.1, g5.2)
/-! lots_of -/
def lots_of (x_web : (Int × (Tup (Int × Int)))) (x_kind : Str) : R (List ((List (List Int)) × Int)) := do
  let l3 ← rngI 0 x_web.1
  let l4 ← mapG (fun (b4 : Int) => do
      let y6 ← neighbours_of x_web b4
      R.ok y6) l3
  let l10 ← rngI 0 x_web.1
  let l11 ← filG (fun (b11 : Int) => do
      let t13 ← getI l4 b11
      if (decide ((t13.length : Int) = (1 : Int))) = true then do
        R.ok (some b11)
      else
        R.ok none) l10
  if ((decide (x_web.1 = (1 : Int))) || ((decide (x_web.1 = (2 : Int))) && (decide (x_kind = ("ties" : Str))))) = true then do
    R.ok ([] : (List ((List (List Int)) × Int)))
  else do
    if (decide (x_kind = ("all" : Str))) = true then do
      let l31 ← mapG (fun (b31 : Int) => do
          R.ok ([b31] : (List Int))) l11
      R.ok ([(l31, (0 : Int))] : (List ((List (List Int)) × Int)))
    else do
      if (decide ((l11.length : Int) = (2 : Int))) = true then do
        let l44 ← mapG (fun (b44 : Int) => do
            R.ok ([b44] : (List Int))) l11
        R.ok ([(l44, (1 : Int))] : (List ((List (List Int)) × Int)))
      else do
        let y56 ← legs_by_fork l4 l11
        let l60 ← derefD y56.2 y56.1
        let l62 ← mapG (fun (b62 : (List (List Int))) => do
            R.ok (b62, (1 : Int))) (l60.map (·.2))
        R.ok l62
/-! looks_by -/
def looks_by (x_lots : (List ((List (List Int)) × Int))) : R Int := do
  let l2 ← mapG (fun (b2 : ((List (List Int)) × Int)) => do
      R.ok ((b2.1.length : Int) - b2.2)) x_lots
  R.ok (l2.sum)
/-! ways_of -/
def ways_of (x_lot : ((List (List Int)) × Int)) (x_taken : (List Int)) (x_last : Int) : R Int := do
  let r7 ← foldX (fun (g7 : (List Int)) (b7 : (List Int)) => do
      let l11 ← filG (fun (b11 : Int) => do
          if (inB b11 x_taken) = true then do
            R.ok (some b11)
          else
            R.ok none) b7
      if (decide ((1 : Int) < (l11.length : Int))) = true then do
        R.ok (.inl (0 : Int))
      else do
        if (decide ((l11.length : Int) = (0 : Int))) = true then do
          let l19 ← filG (fun (b19 : Int) => do
              if (decide (x_last < b19)) = true then do
                R.ok (some b19)
              else
                R.ok none) b7
          let t25 ← getI g7 (0 : Int)
          let t26 ← mulI t25 (l19.length : Int)
          let t27 ← getI g7 (1 : Int)
          let t28 ← mulI t27 (l19.length : Int)
          let t29 ← getI g7 (0 : Int)
          R.ok (.inr (true, ([t26, (t28 + t29)] : (List Int))))
        else do
          R.ok (.inr (true, g7))) ([(1 : Int), (0 : Int)] : (List Int)) x_lot.1
  match r7 with
  | .inl z => R.ok z
  | .inr g7 => do
    let t34 ← getI g7 x_lot.2
    R.ok t34
/-! count_with -/
def count_with (x_lots : (List ((List (List Int)) × Int))) (x_taken : (List Int)) (x_last : Int) : R Int := do
  let g3 ← foldR (fun (g3 : Int) (b3 : ((List (List Int)) × Int)) => do
      let y7 ← ways_of b3 x_taken x_last
      let t8 ← mulI g3 y7
      R.ok t8) (1 : Int) x_lots
  R.ok g3
/-! places_in -/
def places_in (x_lots : (List ((List (List Int)) × Int))) : R (List Int) := do
  let g4 ← foldR (fun (g4 : (List Int)) (b4 : ((List (List Int)) × Int)) => do
      let g8 ← foldR (fun (g8 : (List Int)) (b8 : (List Int)) => do
          let l11 ← extend g8 b8
          R.ok l11) g4 b4.1
      R.ok g8) ([] : (List Int)) x_lots
  R.ok (sortI g4)
/-! tree_fewest -/
def tree_fewest (x_web : (Int × (Tup (Int × Int)))) (x_kind : Str) : R Int := do
  let y3 ← grown_asked x_web
  let y4 ← lots_of x_web x_kind
  let y6 ← looks_by y4
  R.ok y6
/-! tree_choices -/
def tree_choices (x_web : (Int × (Tup (Int × Int)))) (x_kind : Str) : R Int := do
  let y3 ← grown_asked x_web
  let y4 ← lots_of x_web x_kind
  let y9 ← count_with y4 ([] : (List Int)) (-(1 : Int))
  R.ok y9
/-! choice_by -/
def choice_by (x_web : (Int × (Tup (Int × Int)))) (x_kind : Str) (x_number : Int) : R (List Int) := do
  let y3 ← grown_asked x_web
  let y4 ← lots_of x_web x_kind
  let j6 ← (do
    if (decide ((0 : Int) ≤ x_number)) = true then do
      let y11 ← count_with y4 ([] : (List Int)) (-(1 : Int))
      R.ok (decide (x_number < y11))
    else do
      R.ok false : R (Bool))
  if (!j6) = true then do
    R.bad
  else do
    let y18 ← places_in y4
    let g17 ← foldR (fun (g17 : Int × (List Int)) (b17 : Int) => do
        let y21 ← looks_by y4
        if (decide ((g17.2.length : Int) < y21)) = true then do
          let l25 ← extend g17.2 ([b17] : (List Int))
          let y28 ← count_with y4 l25 b17
          if (decide (g17.1 < y28)) = true then do
            let l31 ← app g17.2 b17
            R.ok (g17.1, l31)
          else do
            R.ok ((g17.1 - y28), g17.2)
        else do
          R.ok (g17.1, g17.2)) (x_number, ([] : (List Int))) y18
    R.ok g17.2
/-! is_choice -/
def is_choice (x_lots : (List ((List (List Int)) × Int))) (x_looks : (List Int)) : R Bool := do
  let j3 ← (do
    let y4 ← looks_by x_lots
    if (!decide ((x_looks.length : Int) = y4)) = true then do
      R.ok true
    else do
      let l7 ← ssR x_looks
      R.ok (!decide (x_looks = l7)) : R (Bool))
  if j3 = true then do
    R.ok false
  else do
    let l14 ← extend x_looks ([(0 : Int)] : (List Int))
    let t16 ← maxL l14
    let y18 ← count_with x_lots x_looks (t16 + ((10 : Int) ^ ((3 : Int) : Int).toNat))
    R.ok (decide (y18 = (1 : Int)))
/-! choice_number -/
def choice_number (x_web : (Int × (Tup (Int × Int)))) (x_kind : Str) (x_looks : (List Int)) : R Int := do
  let y4 ← grown_asked x_web
  let y5 ← lots_of x_web x_kind
  let y7 ← is_choice y5 x_looks
  if (!y7) = true then do
    R.bad
  else do
    let g9 ← foldR (fun (g9 : Int) (b9 : (Int × Int)) => do
        let y12 ← places_in y5
        let g11 ← foldR (fun (g11 : Int) (b11 : Int) => do
            let j15 ← (do
              if (decide (b11 < b9.2)) = true then do
                let j17 ← (do
                  if (decide (b9.1 = (0 : Int))) = true then do
                    R.ok true
                  else do
                    let t20 ← getI x_looks (b9.1 - (1 : Int))
                    R.ok (decide (t20 < b11)) : R (Bool))
                R.ok j17
              else do
                R.ok false : R (Bool))
            if j15 = true then do
              let l29 ← extend (cutL x_looks none (some b9.1)) ([b11] : (List Int))
              let y32 ← count_with y5 l29 b11
              R.ok (g11 + y32)
            else do
              R.ok g11) g9 y12
        R.ok g11) (0 : Int) (enum x_looks)
    R.ok g9
/-! _law_cells -/
def law_cells (x_script : Scr) (x_many : Int) : R (List Int) := do
  let g7 ← foldR (fun (g7 : (List Int)) (b7 : (Int × Int)) => do
      let t12 ← modI b7.1 x_many
      let t13 ← getI g7 t12
      let t15 ← modI b7.1 x_many
      let l16 ← setI g7 t15 ((t13 * (31 : Int)) + b7.2)
      R.ok l16) (cutL x_script.l none (some x_many)) (enum (cutL x_script.l (some x_many) (some (63 : Int))))
  R.ok g7
/-! _law_pool -/
def law_pool (x_cells : (List Int)) (x_k : Int) : R (List Int) := do
  let g2 ← (do
    if (decide ((0 : Int) < (x_cells.length : Int))) = true then do
      let t4 ← modI x_k (x_cells.length : Int)
      let t5 ← getI x_cells t4
      let t6 ← divI x_k (x_cells.length : Int)
      R.ok (t5 + t6)
    else do
      R.ok (0 : Int) : R (Int))
  let g7 ← (do
    let j8 ← (do
      if (decide (g2 < (0 : Int))) = true then do
        R.ok true
      else do
        R.ok (decide (((10 : Int) ^ ((18 : Int) : Int).toNat) ≤ g2)) : R (Bool))
    if j8 = true then do
      R.ok (absI g2)
    else do
      R.ok (0 : Int) : R (Int))
  let t17 ← mulI ((40009 : Int) * (x_k + (1 : Int))) (x_k + (3 : Int))
  R.ok ([g7, ((((g2 % (2147483629 : Int)) * (69621 : Int)) + t17) % (2147483629 : Int))] : (List Int))
/-! _law_take -/
def law_take (x_pool : (List Int)) (x_many : Int) : R (Int × (List Int)) := do
  let t2 ← getI x_pool (0 : Int)
  if (decide ((0 : Int) < t2)) = true then do
    let t4 ← getI x_pool (0 : Int)
    let t5 ← modI t4 x_many
    let t6 ← getI x_pool (0 : Int)
    let t7 ← divI t6 x_many
    let l8 ← setI x_pool (0 : Int) t7
    R.ok (t5, l8)
  else do
    let t10 ← getI x_pool (1 : Int)
    let l13 ← setI x_pool (1 : Int) (((t10 * (48271 : Int)) + (12820163 : Int)) % (2147483647 : Int))
    let t15 ← getI l13 (1 : Int)
    let t16 ← getI l13 (1 : Int)
    let t17 ← mulI t15 t16
    let t22 ← modI ((((t17 % (2147483629 : Int)) * (69621 : Int)) % (2147483587 : Int)) / (8 : Int)) x_many
    R.ok (t22, l13)
/-! _law_some -/
def law_some (x_pool : (List Int)) (x_menu : (List Int)) (x_many : Int) : R ((List Int) × (List Int)) := do
  let l5 ← rngI 0 x_many
  let l6 ← mapStG (fun (g6 : (List Int) × (List Int)) (b6 : Int) => do
      let y10 ← law_take g6.2 (g6.1.length : Int)
      let l8 ← popB g6.1 y10.1
      R.ok (l8.1, (l8.2, y10.2))) (x_menu, x_pool) l5
  R.ok (l6.1, l6.2.2)
/-! _law_named -/
def law_named (x_pool : (List Int)) (x_many : Int) (x_ties : (List (Int × Int))) : R ((Int × (Tup (Int × Int))) × (List Int)) := do
  let l3 ← listRng 0 x_many
  let y6 ← law_some x_pool l3 x_many
  let l9 ← mapG (fun (b9 : (Int × Int)) => do
      let t13 ← getI y6.1 b9.1
      let t14 ← getI y6.1 b9.2
      let t15 ← getI y6.1 b9.1
      let t16 ← getI y6.1 b9.2
      R.ok ((min2 t13 t14), (max2 t15 t16))) x_ties
  R.ok ((x_many, (Tup.mk (sortP l9))), y6.2)
/-! _law_tree -/
def law_tree (x_pool : (List Int)) (x_most : Int) : R ((Int × (Tup (Int × Int))) × (List Int)) := do
  let y2 ← law_take x_pool x_most
  let y3 ← law_take y2.2 (6 : Int)
  let l7 ← rngI (1 : Int) ((1 : Int) + y2.1)
  let g6 ← foldR (fun (g6 : (List (Int × Int)) × (List Int)) (b6 : Int) => do
      let y9 ← law_take g6.2 b6
      let y10 ← law_take y9.2 (3 : Int)
      let y11 ← law_take y10.2 (min2 b6 (3 : Int))
      let l18 ← extend ([(b6 - (1 : Int)), (0 : Int), y9.1, (max2 (0 : Int) ((b6 - (1 : Int)) - y10.1)), y11.1] : (List Int)) ([((b6 - (1 : Int)) / (2 : Int))] : (List Int))
      let t20 ← getI l18 y3.1
      let l22 ← app g6.1 (t20, b6)
      R.ok (l22, y11.2)) (([] : (List (Int × Int))), y3.2) l7
  let y28 ← law_named g6.2 ((1 : Int) + y2.1) g6.1
  R.ok (y28.1, y28.2)
/-! _law_whole -/
def law_whole (x_thing : Int) : R Bool := do
  R.ok (true && (!false))
/-! _law_numbers -/
def law_numbers (x_pool : (List Int)) (x_count : Int) : R ((List Int) × (List Int)) := do
  let g4 ← foldR (fun (g4 : (List Int) × (List Int)) (b4 : Int) => do
      let y6 ← law_take g4.2 x_count
      let l9 ← extend g4.1 ([y6.1, (min2 (y6.1 + (1 : Int)) (x_count - (1 : Int)))] : (List Int))
      R.ok (l9, y6.2)) (([(0 : Int), (x_count - (1 : Int))] : (List Int)), x_pool) (rng 0 (2 : Int))
  let l13 ← ssR g4.1
  R.ok (l13, g4.2)
/-! _law_is_choice -/
def law_is_choice (x_web : (Int × (Tup (Int × Int)))) (x_kind : Str) (x_looks : (List Int)) : R Bool := do
  let j4 ← (do
    if (!true) = true then do
      R.ok true
    else do
      let l7 ← mapG (fun (b7 : Int) => do
          let y10 ← law_whole b7
          R.ok y10) x_looks
      R.ok (!(l7.all id)) : R (Bool))
  if j4 = true then do
    R.ok false
  else do
    let j15 ← (do
      let l16 ← ssR x_looks
      if (!decide (x_looks = l16)) = true then do
        R.ok true
      else do
        let y21 ← tree_fewest x_web x_kind
        R.ok (!decide ((x_looks.length : Int) = y21)) : R (Bool))
    if j15 = true then do
      R.ok false
    else do
      let y28 ← tree_likes x_web x_looks x_kind
      if (!y28.isNone) = true then do
        R.ok false
      else do
        let l36 ← extend (cutL x_looks none (some (2 : Int))) (cutL x_looks (some (-(1 : Int))) none)
        let r31 ← foldX (fun (g31 : Unit) (b31 : Int) => do
            let l42 ← filG (fun (b42 : Int) => do
                if (!decide (b42 = b31)) = true then do
                  R.ok (some b42)
                else
                  R.ok none) x_looks
            let y48 ← tree_likes x_web l42 x_kind
            if y48.isNone = true then do
              R.ok (.inl false)
            else do
              R.ok (.inr (true, ()))) () l36
        match r31 with
        | .inl z => R.ok z
        | .inr g31 => do
          R.ok true
/-! _law_right -/
def law_right (x_pool : (List Int)) (x_web : (Int × (Tup (Int × Int)))) (x_kind : Str) : R (Bool × (List Int)) := do
  let y6 ← tree_choices x_web x_kind
  let y7 ← law_numbers x_pool y6
  let r5 ← foldX (fun (g5 : (Option (List Int))) (b5 : Int) => do
      let y11 ← choice_by x_web x_kind b5
      let j14 ← (do
        let y15 ← law_is_choice x_web x_kind y11
        if (!y15) = true then do
          R.ok true
        else do
          let y21 ← choice_number x_web x_kind y11
          R.ok (!decide (y21 = b5)) : R (Bool))
      if j14 = true then do
        R.ok (.inl (false, y7.2))
      else do
        let j24 ← (do
          if (!g5.isNone) = true then do
            let t26 ← ofO g5
            R.ok (!decide (t26 < y11))
          else do
            R.ok false : R (Bool))
        if j24 = true then do
          R.ok (.inl (false, y7.2))
        else do
          R.ok (.inr (true, (some y11)))) none y7.1
  match r5 with
  | .inl z => R.ok z
  | .inr g5 => do
    R.ok (true, y7.2)
/-! law -/
def law (x_script : Scr) : R Bool := do
  let y2 ← law_cells x_script (4 : Int)
  let l6 ← rngI 0 (max2 (1 : Int) (y2.length : Int))
  let r5 ← foldX (fun (g5 : Unit) (b5 : Int) => do
      let y7 ← law_pool y2 b5
      let y12 ← law_take y7 (8 : Int)
      let t13 ← getI ([(24 : Int), (40 : Int)] : (List Int)) (b2i (decide (y12.1 = (0 : Int))))
      let y14 ← law_tree y12.2 t13
      let r18 ← foldX (fun (g18 : (List Int)) (b18 : Str) => do
          let y23 ← law_right g18 y14.1 b18
          if (!y23.1) = true then do
            R.ok (.inl false)
          else do
            R.ok (.inr (true, y23.2))) y14.2 ([("places" : Str), ("ties" : Str), ("all" : Str)] : (List Str))
      match r18 with
      | .inl z => R.ok (.inl z)
      | .inr g18 => do
        R.ok (.inr (true, ()))) () l6
  match r5 with
  | .inl z => R.ok z
  | .inr g5 => do
    R.ok true
/-! ### what the top has written -/
structure Dn (K : Fg) (mg : Str → Option Value) (x y : Str) (st : Stmt) (ps : List Str) (f : Addr) (fd : FuncData) : Prop where
  fn : Fun K y y st f fd
  mg : mg x = some (.ref f)
  b : Binds K fd ps []
structure Tx (K : Fg) (mg : Str → Option Value) (A : Nat → Addr) (FD : Nat → FuncData) : Prop where
  d8 : Dn K mg "near_lists" "near_lists" s_near_lists ["web"] (A 8) (FD 8)
  d9 : Dn K mg "place_asked" "place_asked" s_place_asked ["web", "place"] (A 9) (FD 9)
  d10 : Dn K mg "neighbours_of" "neighbours_of" s_neighbours_of ["web", "place"] (A 10) (FD 10)
  d12 : Dn K mg "is_tree" "is_tree" s_is_tree ["web"] (A 12) (FD 12)
  d13 : Dn K mg "tree_asked" "tree_asked" s_tree_asked ["web"] (A 13) (FD 13)
  d14 : Dn K mg "rising_asked" "rising_asked" s_rising_asked ["web", "looks"] (A 14) (FD 14)
  d15 : Dn K mg "all_near" "all_near" s_all_near ["web"] (A 15) (FD 15)
  d16 : Dn K mg "piece_from" "piece_from" s_piece_from ["near", "place", "start"] (A 16) (FD 16)
  d17 : Dn K mg "pieces_by" "pieces_by" s_pieces_by ["near", "place"] (A 17) (FD 17)
  d18 : Dn K mg "looks_in" "looks_in" s_looks_in ["near", "place", "looks"] (A 18) (FD 18)
  d19 : Dn K mg "tie_of" "tie_of" s_tie_of ["one", "other"] (A 19) (FD 19)
  d20 : Dn K mg "likes_at" "likes_at" s_likes_at ["near", "place", "looks", "kind"] (A 20) (FD 20)
  d21 : Dn K mg "tree_likes" "tree_likes" s_tree_likes ["web", "looks", "kind"] (A 21) (FD 21)
  d23 : Dn K mg "grown_asked" "grown_asked" s_grown_asked ["web"] (A 23) (FD 23)
  d24 : Dn K mg "leg_from" "leg_from" s_leg_from ["near", "end"] (A 24) (FD 24)
  d25 : Dn K mg "legs_by_fork" "legs_by_fork" s_legs_by_fork ["near", "ends"] (A 25) (FD 25)
  d26 : Dn K mg "lots_of" "lots_of" s_lots_of ["web", "kind"] (A 26) (FD 26)
  d27 : Dn K mg "looks_by" "looks_by" s_looks_by ["lots"] (A 27) (FD 27)
  d28 : Dn K mg "ways_of" "ways_of" s_ways_of ["lot", "taken", "last"] (A 28) (FD 28)
  d29 : Dn K mg "count_with" "count_with" s_count_with ["lots", "taken", "last"] (A 29) (FD 29)
  d30 : Dn K mg "places_in" "places_in" s_places_in ["lots"] (A 30) (FD 30)
  d31 : Dn K mg "tree_fewest" "tree_fewest" s_tree_fewest ["web", "kind"] (A 31) (FD 31)
  d32 : Dn K mg "tree_choices" "tree_choices" s_tree_choices ["web", "kind"] (A 32) (FD 32)
  d33 : Dn K mg "choice_by" "choice_by" s_choice_by ["web", "kind", "number"] (A 33) (FD 33)
  d34 : Dn K mg "is_choice" "is_choice" s_is_choice ["lots", "looks"] (A 34) (FD 34)
  d35 : Dn K mg "choice_number" "choice_number" s_choice_number ["web", "kind", "looks"] (A 35) (FD 35)
  d37 : Dn K mg "_law_cells" "_law_cells" s_law_cells ["script", "many"] (A 37) (FD 37)
  d38 : Dn K mg "_law_pool" "_law_pool" s_law_pool ["cells", "k"] (A 38) (FD 38)
  d39 : Dn K mg "_law_take" "_law_take" s_law_take ["pool", "many"] (A 39) (FD 39)
  d40 : Dn K mg "_law_some" "_law_some" s_law_some ["pool", "menu", "many"] (A 40) (FD 40)
  d41 : Dn K mg "_law_named" "_law_named" s_law_named ["pool", "many", "ties"] (A 41) (FD 41)
  d42 : Dn K mg "_law_tree" "_law_tree" s_law_tree ["pool", "most"] (A 42) (FD 42)
  d43 : Dn K mg "_law_whole" "_law_whole" s_law_whole ["thing"] (A 43) (FD 43)
  d44 : Dn K mg "_law_numbers" "_law_numbers" s_law_numbers ["pool", "count"] (A 44) (FD 44)
  d45 : Dn K mg "_law_is_choice" "_law_is_choice" s_law_is_choice ["web", "kind", "looks"] (A 45) (FD 45)
  d46 : Dn K mg "_law_right" "_law_right" s_law_right ["pool", "web", "kind"] (A 46) (FD 46)
  d47 : Dn K mg "law" "law" s_law ["script"] (A 47) (FD 47)
  n_abs : mg "abs" = none
  n_all : mg "all" = none
  n_bool : mg "bool" = none
  n_enumerate : mg "enumerate" = none
  n_int : mg "int" = none
  n_isinstance : mg "isinstance" = none
  n_len : mg "len" = none
  n_list : mg "list" = none
  n_max : mg "max" = none
  n_min : mg "min" = none
  n_range : mg "range" = none
  n_set : mg "set" = none
  n_sorted : mg "sorted" = none
  n_sum : mg "sum" = none
  n_tuple : mg "tuple" = none
  n_zip : mg "zip" = none
section
variable {P : Program} {w : World} {K : PySem.W.Frag} {mg : Str → Option Value} {base : Heap} {A : Nat → Addr} {FD : Nat → FuncData}
def sp_near_lists (K : Fg) : Sp := fun vs H Q E => ∃ (F : Hp) (os : List (Addr × HO)) (v_web : V) (x_web : (Int × (Tup (Int × Int)))), vs = [v_web] ∧ W F H (os) ∧ rep K F v_web x_web ∧ Post (near_lists x_web) (Ret K F os Q) noX
theorem sc_near_lists : FnScope ["web", "found", "one", "other", "place", "row"] ["web"] (defScope s_near_lists) := ⟨rfl, rfl, rfl, by decide +kernel, rfl, by decide +kernel, by decide +kernel⟩
theorem ok_near_lists (T : Tx K mg A FD) : FnOk P w K mg base CX0 1 (A 8) (FD 8) ["web"] (sp_near_lists K) := by
  refine T.d8.fn.ok sc_near_lists (fun vs H Q E h => ?_) (fun cdv Ar outer s H vs Q E hr h => ?_)
  · obtain ⟨F, os, v_web, x_web, rfl, _⟩ := h
    rfl
  · obtain ⟨F0, os, v_web, x_web, rfl, w0, r_web, hm⟩ := h
    have sF : Same F0 F0 := Same.refl _
    obtain ⟨a1, u1, z1, rfl, q1, r1a, r1b⟩ := r_web
    obtain rfl : u1 = V.int x_web.1 := r1a
    obtain ⟨a2, vs2, rfl, q2, h2⟩ := r1b
    have hr_g : Sto K F0 [] [] ([] : List (List Int)) := Sto.nil
    replace w0 : W F0 _ ((nz [] [] ++ os)) := w0
    refine ⟨_, (pss_cons (ps_setLc (i := 1) (own := [("place", 4)]) (g := gName 4) (by rfl) sc_near_lists.nd rfl rfl (sw_true rfl rfl rfl (by decide +kernel)) (pi_range1 (by rfl) T.n_range (pa_cons (pe_ix (ix_tupK (K := K) rfl) (pv 0) pe_int (fun _ _ => rfl)) pa_nil)) (blkOk_by (own := [("place", 4)]) (N := ["web", "found", "one", "other", "place", "row"]) (sc := defScope s_near_lists) (by decide +kernel)) (fun _ _ _ _ _ => (pg_name (i := 4) sc_near_lists.nd rfl (Or.inl rfl))) (fun _ _ _ _ _ => pts_nil) (fun _ _ _ _ _ => (pe_lst pa_nil))) (pss_cons (ps_for PassesOwn.never rfl (pi_tupK (K := K) rfl (pe_ix (ix_tupK (K := K) rfl) (pv 0) pe_int (fun _ _ => rfl))) (pg_k (K := K) (t := fun K => gTup K 2 _) rfl (pg_tup (n := 2) rfl (pgs_cons (pg_name (i := 2) sc_near_lists.nd rfl (Or.inl rfl)) (pgs_cons (pg_name (i := 3) sc_near_lists.nd rfl (Or.inl rfl)) pgs_nil)))) (pss_cons (ps_expr (pe_bm PySem.F.plainAttrs_list PySem.F.slot_list_append PySem.F.type_list_append mt_append (pe_ix (ix_listK (K := K) rfl) (pv 1) (pv 2) (fun _ _ => rfl)) (pa_cons (pv 3) pa_nil))) (pss_one (ps_expr (pe_bm PySem.F.plainAttrs_list PySem.F.slot_list_append PySem.F.type_list_append mt_append (pe_ix (ix_listK (K := K) rfl) (pv 1) (pv 3) (fun _ _ => rfl)) (pa_cons (pv 2) pa_nil)))))) (pss_one (ps_ret (pe_lc (own := [("row", 5)]) (g := gName 5) (by rfl) sc_near_lists.nd (pi_listK (K := K) rfl (pv 1)) (blkOk_by (own := [("row", 5)]) (N := ["web", "found", "one", "other", "place", "row"]) (sc := defScope s_near_lists) (by decide +kernel)) (fun _ _ _ _ _ => (pg_name (i := 5) sc_near_lists.nd rfl (Or.inl rfl))) (fun _ _ _ _ _ => pts_nil) (fun _ _ _ _ _ => (pe_callB (cr_sortI (K := K) rfl) (by rfl) T.n_sorted (by decide +kernel) (pa_cons (pv 5) pa_nil)))))))), ?_⟩
    obtain ⟨c4, hm⟩ := pb_rng hm
    refine ⟨_, rfl, _, _, _, _, rfl, rfl, SqT.of (w0.same _ _ q1), rfl, _, rfl, c4.2.2.1, c4.2.2.2, fun D5 nD5 => ?_⟩
    refine lcGM (tw_rng0 (j := x_web.1)) hm (fun (g5 : (List (List Int))) F' os' us ys => ∃ (as5_0 : List Addr) (vs5_0 : List (List V)), os' = (nz as5_0 vs5_0 ++ os) ∧ [] <+: as5_0 ∧ Sto K F' as5_0 vs5_0 g5 ∧ A2 (RX as5_0) us ys) w0 ⟨_, _, rfl, pfx_refl, hr_g, .nil⟩ nD5 (fun _ _ _ _ _ o => by obtain ⟨_, _, rfl, _, _, h⟩ := o; exact h.length) (fun g F' H' os' acc ys s w o => by obtain ⟨_, _, rfl, _, _, _⟩ := o; exact trivial) ?_ ?_
    · -- one turn
      intro b5 g5 x5 F5 H5 H5' os5 acc5 ya5 N5 P5 s5 w5 o5 y5 hN5 hm
      obtain ⟨as5_0, vs5_0, rfl, p5_0, h5_0, ha5⟩ := o5
      replace q1 := s5 _ _ q1
      replace q2 := s5 _ _ q2
      replace h2 := A2.mono s5 h2
      replace sF := sF.trans s5
      obtain ⟨rfl, rfl⟩ := y5
      have h7 : A2 (rep K F5) [] ([] : (List Int)) := .nil
      refine ⟨rfl, (by show 0 ≤ sizeLine; decide), fun p8 n8 => ?_⟩
      have w8 : W F5 _ ((p8, .lst []) :: (D5, .lst acc5) :: (nz as5_0 vs5_0 ++ os)) := w5.new n8
      obtain ⟨j9, st9, ej9, es9, hm⟩ := pn_newS hm
      have w9 : W F5 _ ((D5, .lst acc5) :: (nz (as5_0 ++ [p8]) (vs5_0 ++ [[]]) ++ os)) := w8.nadd (pre := [_]) h5_0.len
      have q9 : (as5_0 ++ [p8])[j9]? = some p8 := IQ.new (h5_0.len2.trans ej9.symm)
      have h9 : Sto K F5 (as5_0 ++ [p8]) (vs5_0 ++ [[]]) st9 := es9 ▸ Sto.snoc (p := p8) h5_0 h7
      replace ha5 := A2.imp (fun _ _ => RX.mono (pfx_snoc (p := p8))) ha5
      exact hN5 _ _ (post_ok hm) _ _ _ _ w9 (Same.refl _) ⟨_, _, rfl, (pfx_trans p5_0 (pfx_snoc (p := p8))), h9, A2.snoc ha5 ⟨_, rfl, q9⟩⟩
    intro g5 us5 F5 H5 os5 ys5 s5 w5 o5 hm
    obtain ⟨as5_0, vs5_0, rfl, p5_0, h5_0, gg5⟩ := o5
    replace q1 := s5 _ _ q1
    replace q2 := s5 _ _ q2
    replace h2 := A2.mono s5 h2
    replace sF := sF.trans s5
    refine ⟨_, rfl, _, _, _, _, rfl, rfl, SqT.of (w5.same _ _ q1), rfl, _, rfl, ⟨_, SqT.of (w5.same _ _ q2)⟩, ?_⟩
    refine forS (tw_tup (a := a2) h2) hm (fun (g11 : (List (List Int))) σ H' => ∃ (F' : Hp) (as11_0 : List Addr) (vs11_0 : List (List V)) (o11_2 : Option V) (o11_3 : Option V), σ = [some (.ref a1), some (.ref D5), o11_2, o11_3, none, none] ∧ Same F5 F' ∧ W F' H' ((D5, .lst us5) :: (nz as11_0 vs11_0 ++ os)) ∧ as5_0 <+: as11_0 ∧ Sto K F' as11_0 vs11_0 g11) ⟨_, _, _, _, _, rfl, Same.refl _, w5, pfx_refl, h5_0⟩ (fun g σ H' hI => by obtain ⟨F', _, _, _, _, _, s, w, _⟩ := hI; exact SqT.of (w.same _ _ (s _ _ q2))) ?_ ?_
    · -- a turn
      intro b11 g11 x11 σ11 H11 H11' N11 P11 hI hy hN11 hm
      obtain ⟨F11, as11_0, vs11_0, o11_2, o11_3, rfl, s11, w11, p11_0, h11_0⟩ := hI
      replace q1 := s11 _ _ q1
      replace h2 := A2.mono s11 h2
      replace q2 := s11 _ _ q2
      replace sF := sF.trans s11
      replace gg5 := A2.imp (fun _ _ => RX.mono p11_0) gg5
      obtain ⟨rfl, r12⟩ := hy
      replace r12 := Rep.mono s11 r12
      obtain ⟨a13, u13, z13, rfl, q13, r13a, r13b⟩ := r12
      obtain rfl : u13 = V.int b11.1 := r13a
      obtain rfl : z13 = V.int b11.2 := r13b
      obtain ⟨t14, e14, hm⟩ := pb_get hm
      obtain ⟨u14, f14, r14⟩ := A2.at gg5 e14
      obtain ⟨a15, rfl, q15⟩ := r14
      obtain ⟨x16, e16, hm⟩ := pb_getS hm
      obtain ⟨vs16, i16, h16⟩ := Sto.getq h11_0 e16 q15
      obtain ⟨l17, z17, e17, hm⟩ := pn_app hm
      obtain ⟨st17, es17, hm⟩ := pn_setS hm
      refine ⟨_, _, rfl, SqT.of (w11.same _ _ q13), rfl, _, _, rfl, _, _, rfl, rfl, _, rfl, _, rfl, _, _, _, _, rfl, rfl, SqL.of (w11.get (pre := [])), f14, .inl ⟨rfl, _, SqL.of (W.nget (pre := [_]) w11 q15 i16)⟩, _, rfl, _, _, _, rfl, rfl, (W.nget (pre := [_]) w11 q15 i16), (A2.lt h16 z17), ?_⟩
      have h17 : Sto K F11 as11_0 (vs11_0.set t14 (vs16 ++ [(.int b11.2)])) st17 := es17 ▸ Sto.set h11_0 (e17 ▸ A2.snoc h16 rep_i)
      have w17 : W F11 _ ((D5, .lst us5) :: (nz as11_0 (vs11_0.set t14 (vs16 ++ [(.int b11.2)])) ++ os)) := w11.nset (pre := [_]) (vs16 ++ [(.int b11.2)]) q15 i16
      obtain ⟨t18, e18, hm⟩ := pb_get hm
      obtain ⟨u18, f18, r18⟩ := A2.at gg5 e18
      obtain ⟨a19, rfl, q19⟩ := r18
      obtain ⟨x20, e20, hm⟩ := pb_getS hm
      obtain ⟨vs20, i20, h20⟩ := Sto.getq h17 e20 q19
      obtain ⟨l21, z21, e21, hm⟩ := pn_app hm
      obtain ⟨st21, es21, hm⟩ := pn_setS hm
      refine ⟨_, rfl, _, rfl, _, _, _, _, rfl, rfl, SqL.of (w17.get (pre := [])), f18, .inl ⟨rfl, _, SqL.of (W.nget (pre := [_]) w17 q19 i20)⟩, _, rfl, _, _, _, rfl, rfl, (W.nget (pre := [_]) w17 q19 i20), (A2.lt h20 z21), ?_⟩
      have h21 : Sto K F11 as11_0 ((vs11_0.set t14 (vs16 ++ [(.int b11.2)])).set t18 (vs20 ++ [(.int b11.1)])) st21 := es21 ▸ Sto.set h17 (e21 ▸ A2.snoc h20 rep_i)
      have w21 : W F11 _ ((D5, .lst us5) :: (nz as11_0 ((vs11_0.set t14 (vs16 ++ [(.int b11.2)])).set t18 (vs20 ++ [(.int b11.1)])) ++ os)) := w17.nset (pre := [_]) (vs20 ++ [(.int b11.1)]) q19 i20
      exact hN11 _ (post_ok hm) _ _ ⟨_, _, _, _, _, rfl, s11, w21, p11_0, h21⟩
    intro g11 σ11 H11 hI hm
    obtain ⟨F11, as11_0, vs11_0, o11_2, o11_3, rfl, s11, w11, p11_0, h11_0⟩ := hI
    replace q1 := s11 _ _ q1
    replace h2 := A2.mono s11 h2
    replace q2 := s11 _ _ q2
    replace sF := sF.trans s11
    replace gg5 := A2.imp (fun _ _ => RX.mono p11_0) gg5
    refine ⟨_, rfl, _, rfl, ⟨_, SqL.of (w11.get (pre := []))⟩, fun D22 nD22 => ?_⟩
    refine lcM (K := K) (tw_listR (a := D5) gg5) hm w11 nD22 (fun F' H' acc s w => SqL.of (w.get (pre := [_]))) ?_ ?_
    · -- one turn
      intro b22 x22 F22 H22 H22' acc22 N22 P22 s22 w22 y22 hN22 hm
      replace q1 := s22 _ _ q1
      replace h2 := A2.mono s22 h2
      replace q2 := s22 _ _ q2
      replace h11_0 := Sto.mono s22 h11_0
      replace sF := sF.trans s22
      obtain ⟨rfl, r24⟩ := y22
      obtain ⟨a25, rfl, q25⟩ := r24
      obtain ⟨x26, e26, hm⟩ := pb_getS hm
      obtain ⟨vs26, i26, h26⟩ := Sto.getq h11_0 e26 q25
      have h27 : A2 (rep K F22) ((sortI x26).map V.int) (sortI x26) := A2.of_ints
      refine ⟨rfl, _, rfl, _, _, rfl, ints_q (SqL.of (W.nget (pre := [_, _]) w22 q25 i26)) h26, fun p28 n28 => ?_⟩
      have w28 : W F22 _ ((p28, .lst ((sortI x26).map V.int)) :: (D22, .lst acc22) :: (D5, .lst us5) :: (nz as11_0 vs11_0 ++ os)) := w22.new n28
      obtain ⟨F29, s29, w29, q29⟩ : ∃ F', Same F22 F' ∧ W F' _ ((D22, .lst acc22) :: (D5, .lst us5) :: (nz as11_0 vs11_0 ++ os)) ∧ F' p28 = some (.lst ((sortI x26).map V.int)) := w28.freezeE (pre := [])
      replace q1 := s29 _ _ q1
      replace h2 := A2.mono s29 h2
      replace q2 := s29 _ _ q2
      replace h11_0 := Sto.mono s29 h11_0
      replace h26 := A2.mono s29 h26
      replace h27 := A2.mono s29 h27
      replace sF := sF.trans s29
      exact hN22 _ (post_ok hm) _ _ _ w29 s29 (rep_lst q29 h27)
    intro us22 F22 H22 ys22 s22 w22 gg22 hm
    replace q1 := s22 _ _ q1
    replace h2 := A2.mono s22 h2
    replace q2 := s22 _ _ q2
    replace h11_0 := Sto.mono s22 h11_0
    replace sF := sF.trans s22
    obtain ⟨F31, s31, w31, q31⟩ : ∃ F', Same F22 F' ∧ W F' _ ((D5, .lst us5) :: (nz as11_0 vs11_0 ++ os)) ∧ F' D22 = some (.lst us22) := w22.freezeE (pre := [])
    replace q1 := s31 _ _ q1
    replace h2 := A2.mono s31 h2
    replace q2 := s31 _ _ q2
    replace h11_0 := Sto.mono s31 h11_0
    replace gg22 := A2.mono s31 gg22
    replace sF := sF.trans s31
    have w32 : W F31 _ ((nz as11_0 vs11_0 ++ os)) := w31.drop (pre := [])
    have w33 : W F31 _ (os) := w32.dropL (pre := [])
    exact (post_ok hm) _ _ _ w33 sF (rep_lst q31 gg22)
def sp_place_asked (K : Fg) : Sp := fun vs H Q E => ∃ (F : Hp) (os : List (Addr × HO)) (v_web : V) (x_web : (Int × (Tup (Int × Int)))) (x_place : Int), vs = [v_web, .int x_place] ∧ W F H (os) ∧ rep K F v_web x_web ∧ Post (place_asked x_web x_place) (Ret K F os Q) noX
theorem sc_place_asked : FnScope ["web", "place"] ["web", "place"] (defScope s_place_asked) := ⟨rfl, rfl, rfl, by decide +kernel, rfl, by decide +kernel, by decide +kernel⟩
theorem ok_place_asked (T : Tx K mg A FD) : FnOk P w K mg base CX0 1 (A 9) (FD 9) ["web", "place"] (sp_place_asked K) := by
  refine T.d9.fn.ok sc_place_asked (fun vs H Q E h => ?_) (fun cdv Ar outer s H vs Q E hr h => ?_)
  · obtain ⟨F, os, v_web, x_web, x_place, rfl, _⟩ := h
    rfl
  · obtain ⟨F0, os, v_web, x_web, x_place, rfl, w0, r_web, hm⟩ := h
    have sF : Same F0 F0 := Same.refl _
    obtain ⟨a1, u1, z1, rfl, q1, r1a, r1b⟩ := r_web
    obtain rfl : u1 = V.int x_web.1 := r1a
    obtain ⟨a2, vs2, rfl, q2, h2⟩ := r1b
    refine ⟨_, (pss_one (ps_if (pt_not (pt_chain op_le op_lt pe_int (pv 1) (pe_ix (ix_tupK (K := K) rfl) (pv 0) pe_int (fun _ _ => rfl)))) (pss_one ps_absurd) pss_nil)), ?_⟩
    try dsimp only
    refine stepIf ?_
    refine stepNot ?_
    refine cutT (fun c H' => c = ((decide ((0 : Int) ≤ x_place)) && (decide (x_place < x_web.1))) ∧ ∃ F', Same F0 F' ∧ W F' H' (os)) (fun Q3 q3 => ?_) (fun c3 H3 hc3 => ?_)
    · -- the ways
      refine ⟨_, rfl, _, _, rfl, rfl, _, rfl, ?_⟩
      refine ifB (fun k4 => ?_) (fun k4 => ?_)
      · skip
        exact ⟨_, rfl, _, _, _, _, rfl, rfl, SqT.of (w0.same _ _ q1), rfl, _, _, rfl, rfl, _, rfl, q3 _ _ ⟨(by first | rfl | (simp [k4]; done) | ((try simp only [Bool.not_eq_true] at k4); simp only [k4, Bool.true_or, Bool.false_or, Bool.or_false, Bool.or_true, Bool.true_and, Bool.false_and, Bool.and_true, Bool.and_false])), _, Same.refl _, w0⟩⟩
      · skip
        exact ⟨_, rfl, q3 _ _ ⟨(by first | rfl | (simp [k4]; done) | ((try simp only [Bool.not_eq_true] at k4); simp only [k4, Bool.true_or, Bool.false_or, Bool.or_false, Bool.or_true, Bool.true_and, Bool.false_and, Bool.and_true, Bool.and_false])), _, Same.refl _, w0⟩⟩
    obtain ⟨rfl, F3, s3, w3⟩ := hc3
    replace q1 := s3 _ _ q1
    replace q2 := s3 _ _ q2
    replace h2 := A2.mono s3 h2
    replace sF := sF.trans s3
    refine post_ite hm (fun k7 hm => ?_) (fun k7 hm => ?_)
    · skip
      try dsimp only
      exact hm
    · skip
      exact (post_ok hm) _ _ _ w3 sF rep_n
def sp_neighbours_of (K : Fg) : Sp := fun vs H Q E => ∃ (F : Hp) (os : List (Addr × HO)) (v_web : V) (x_web : (Int × (Tup (Int × Int)))) (x_place : Int), vs = [v_web, .int x_place] ∧ W F H (os) ∧ rep K F v_web x_web ∧ Post (neighbours_of x_web x_place) (Ret K F os Q) noX
theorem sc_neighbours_of : FnScope ["web", "place"] ["web", "place"] (defScope s_neighbours_of) := ⟨rfl, rfl, rfl, by decide +kernel, rfl, by decide +kernel, by decide +kernel⟩
theorem ok_neighbours_of (T : Tx K mg A FD) : FnOk P w K mg base CX0 2 (A 10) (FD 10) ["web", "place"] (sp_neighbours_of K) := by
  refine T.d10.fn.ok sc_neighbours_of (fun vs H Q E h => ?_) (fun cdv Ar outer s H vs Q E hr h => ?_)
  · obtain ⟨F, os, v_web, x_web, x_place, rfl, _⟩ := h
    rfl
  · obtain ⟨F0, os, v_web, x_web, x_place, rfl, w0, r_web, hm⟩ := h
    have sF : Same F0 F0 := Same.refl _
    obtain ⟨a1, u1, z1, rfl, q1, r1a, r1b⟩ := r_web
    obtain rfl : u1 = V.int x_web.1 := r1a
    obtain ⟨a2, vs2, rfl, q2, h2⟩ := r1b
    refine ⟨_, (pss_cons (ps_expr (pe_call (ok_place_asked T) (hr.mono (by decide)) (by rfl) T.d9.mg T.d9.fn.kp T.d9.b .nil pass0 (pa_cons (pv 0) (pa_cons (pv 1) pa_nil)))) (pss_one (ps_ret (pe_ix (ix_listK (K := K) rfl) (pe_call (ok_near_lists T) (hr.mono (by decide)) (by rfl) T.d8.mg T.d8.fn.kp T.d8.b .nil pass0 (pa_cons (pv 0) pa_nil)) (pv 1) (fun _ _ => rfl))))), ?_⟩
    refine ⟨_, rfl, _, rfl, _, _, _, (x_web : (Int × (Tup (Int × Int)))), _, rfl, w0, (rep_pair q1 rep_i (rep_tup q2 h2)), ?_⟩
    refine (post_bind hm).mono (fun y3 hm v3 F3 H3 w3 s3 r3 => ?_) (fun _ z => z)
    replace q1 := s3 _ _ q1
    replace q2 := s3 _ _ q2
    replace h2 := A2.mono s3 h2
    replace sF := sF.trans s3
    obtain rfl : v3 = V.non := r3
    refine ⟨_, rfl, _, _, _, (x_web : (Int × (Tup (Int × Int)))), rfl, w3, (rep_pair q1 rep_i (rep_tup q2 h2)), ?_⟩
    refine (post_bind hm).mono (fun y4 hm v4 F4 H4 w4 s4 r4 => ?_) (fun _ z => z)
    replace q1 := s4 _ _ q1
    replace h2 := A2.mono s4 h2
    replace q2 := s4 _ _ q2
    replace sF := sF.trans s4
    obtain ⟨a5, vs5, rfl, q5, h5⟩ := r4
    obtain ⟨t6, e6, hm⟩ := pb_get hm
    obtain ⟨u6, f6, r6⟩ := A2.at h5 e6
    obtain ⟨a7, vs7, rfl, q7, h7⟩ := r6
    exact ⟨_, rfl, _, _, _, _, rfl, rfl, SqL.of (w4.same _ _ q5), f6, (post_ok hm) _ _ _ w4 sF (rep_lst q7 h7)⟩
def sp_is_tree (K : Fg) : Sp := fun vs H Q E => ∃ (F : Hp) (os : List (Addr × HO)) (v_web : V) (x_web : (Int × (Tup (Int × Int)))), vs = [v_web] ∧ W F H (os) ∧ rep K F v_web x_web ∧ Post (is_tree x_web) (Ret K F os Q) noX
theorem sc_is_tree : FnScope ["web"] ["web"] (defScope s_is_tree) := ⟨rfl, rfl, rfl, by decide +kernel, rfl, by decide +kernel, by decide +kernel⟩
theorem ok_is_tree (T : Tx K mg A FD) : FnOk P w K mg base CX0 1 (A 12) (FD 12) ["web"] (sp_is_tree K) := by
  refine T.d12.fn.ok sc_is_tree (fun vs H Q E h => ?_) (fun cdv Ar outer s H vs Q E hr h => ?_)
  · obtain ⟨F, os, v_web, x_web, rfl, _⟩ := h
    rfl
  · obtain ⟨F0, os, v_web, x_web, rfl, w0, r_web, hm⟩ := h
    have sF : Same F0 F0 := Same.refl _
    obtain ⟨a1, u1, z1, rfl, q1, r1a, r1b⟩ := r_web
    obtain rfl : u1 = V.int x_web.1 := r1a
    obtain ⟨a2, vs2, rfl, q2, h2⟩ := r1b
    refine ⟨_, (pss_one (ps_ret (pe_cmp (pc_eqI (pe_callB (call_lenN (K := K) rfl) (by rfl) T.n_len (by decide +kernel) (pa_cons (pe_ix (ix_tupK (K := K) rfl) (pv 0) pe_int (fun _ _ => rfl)) pa_nil)) (pe_op op_sub (pe_ix (ix_tupK (K := K) rfl) (pv 0) pe_int (fun _ _ => rfl)) pe_int))))), ?_⟩
    exact ⟨_, rfl, _, _, _, _, rfl, rfl, SqT.of (w0.same _ _ q1), rfl, _, _, _, rfl, .inr (SqT.of (w0.same _ _ q2)), h2.length, _, rfl, _, _, _, _, rfl, rfl, SqT.of (w0.same _ _ q1), rfl, _, _, rfl, rfl, _, _, rfl, rfl, (post_ok hm) _ _ _ w0 sF rep_b⟩
def sp_tree_asked (K : Fg) : Sp := fun vs H Q E => ∃ (F : Hp) (os : List (Addr × HO)) (v_web : V) (x_web : (Int × (Tup (Int × Int)))), vs = [v_web] ∧ W F H (os) ∧ rep K F v_web x_web ∧ Post (tree_asked x_web) (Ret K F os Q) noX
theorem sc_tree_asked : FnScope ["web"] ["web"] (defScope s_tree_asked) := ⟨rfl, rfl, rfl, by decide +kernel, rfl, by decide +kernel, by decide +kernel⟩
theorem ok_tree_asked (T : Tx K mg A FD) : FnOk P w K mg base CX0 2 (A 13) (FD 13) ["web"] (sp_tree_asked K) := by
  refine T.d13.fn.ok sc_tree_asked (fun vs H Q E h => ?_) (fun cdv Ar outer s H vs Q E hr h => ?_)
  · obtain ⟨F, os, v_web, x_web, rfl, _⟩ := h
    rfl
  · obtain ⟨F0, os, v_web, x_web, rfl, w0, r_web, hm⟩ := h
    have sF : Same F0 F0 := Same.refl _
    obtain ⟨a1, u1, z1, rfl, q1, r1a, r1b⟩ := r_web
    obtain rfl : u1 = V.int x_web.1 := r1a
    obtain ⟨a2, vs2, rfl, q2, h2⟩ := r1b
    refine ⟨_, (pss_one (ps_if (pt_not (pt_val (pe_call (ok_is_tree T) (hr.mono (by decide)) (by rfl) T.d12.mg T.d12.fn.kp T.d12.b .nil pass0 (pa_cons (pv 0) pa_nil)))) (pss_one ps_absurd) pss_nil)), ?_⟩
    refine ⟨_, rfl, _, _, _, (x_web : (Int × (Tup (Int × Int)))), rfl, w0, (rep_pair q1 rep_i (rep_tup q2 h2)), ?_⟩
    refine (post_bind hm).mono (fun y3 hm v3 F3 H3 w3 s3 r3 => ?_) (fun _ z => z)
    replace q1 := s3 _ _ q1
    replace q2 := s3 _ _ q2
    replace h2 := A2.mono s3 h2
    replace sF := sF.trans s3
    obtain rfl : v3 = V.bl y3 := r3
    refine ⟨_, rfl, ?_⟩
    refine post_ite hm (fun k4 hm => ?_) (fun k4 hm => ?_)
    · skip
      try dsimp only
      exact hm
    · skip
      exact (post_ok hm) _ _ _ w3 sF rep_n
def sp_rising_asked (K : Fg) : Sp := fun vs H Q E => ∃ (F : Hp) (os : List (Addr × HO)) (v_web : V) (x_web : (Int × (Tup (Int × Int)))) (v_looks : V) (x_looks : (List Int)), vs = [v_web, v_looks] ∧ W F H (os) ∧ rep K F v_web x_web ∧ rep K F v_looks x_looks ∧ Post (rising_asked x_web x_looks) (Ret K F os Q) noX
theorem sc_rising_asked : FnScope ["web", "looks", "look"] ["web", "looks"] (defScope s_rising_asked) := ⟨rfl, rfl, rfl, by decide +kernel, rfl, by decide +kernel, by decide +kernel⟩
theorem ok_rising_asked (T : Tx K mg A FD) : FnOk P w K mg base CX0 1 (A 14) (FD 14) ["web", "looks"] (sp_rising_asked K) := by
  refine T.d14.fn.ok sc_rising_asked (fun vs H Q E h => ?_) (fun cdv Ar outer s H vs Q E hr h => ?_)
  · obtain ⟨F, os, v_web, x_web, v_looks, x_looks, rfl, _⟩ := h
    rfl
  · obtain ⟨F0, os, v_web, x_web, v_looks, x_looks, rfl, w0, r_web, r_looks, hm⟩ := h
    have sF : Same F0 F0 := Same.refl _
    obtain ⟨a1, u1, z1, rfl, q1, r1a, r1b⟩ := r_web
    obtain rfl : u1 = V.int x_web.1 := r1a
    obtain ⟨a2, vs2, rfl, q2, h2⟩ := r1b
    obtain ⟨a3, vs3, rfl, q3, h3⟩ := r_looks
    refine ⟨_, (pss_one (ps_if (PW.pt (pw_or (pt_cmpR (op_neDt (K := K) rfl (List Int) (by decide) hr.units) (pv 1) (pe_callB (cr_sortSet (w := w) rfl rfl) (by rfl) T.n_sorted (by decide +kernel) (pa_cons (pe_callTy (cr_setLI (K := K) (w := w) rfl rfl rfl) (by rfl) T.n_set (by decide +kernel) (pa_cons (pv 1) pa_nil)) pa_nil)) (nomark _)) (pw_or1 (pt_not (pt_val (pe_callB (cr_allK (K := K) rfl rfl) (by rfl) T.n_all (by decide +kernel) (pa_cons (pe_lc (own := [("look", 2)]) (g := gName 2) (by rfl) sc_rising_asked.nd (pi_listK (K := K) rfl (pv 1)) (blkOk_by (own := [("look", 2)]) (N := ["web", "looks", "look"]) (sc := defScope s_rising_asked) (by decide +kernel)) (fun _ _ _ _ _ => (pg_name (i := 2) sc_rising_asked.nd rfl (Or.inl rfl))) (fun _ _ _ _ _ => pts_nil) (fun _ _ _ _ _ => (pe_chain op_le op_lt pe_int (pv 2) (pe_ix (ix_tupK (K := K) rfl) (pv 0) pe_int (fun _ _ => rfl))))) pa_nil))))))) (pss_one ps_absurd) pss_nil)), ?_⟩
    try dsimp only
    refine stepIf ?_
    refine joinT hm (fun (j4 : Bool) c H' => c = j4 ∧ ∃ (F' : Hp), Same F0 F' ∧ W F' H' (os)) ?_ ?_
    · intro Q4 P4 q4 hm
      obtain ⟨l5, c5, e5, hm⟩ := pb_ss hm
      refine ⟨_, rfl, _, rfl, _, _, rfl, ints_q (SqL.of (w0.same _ _ q3)) h3, c5.1, fun p5 n5 => ?_⟩
      obtain ⟨F5, s5, w5, q5⟩ := w0.frzE (o := SetO w p5 (fun j => decide (j ∈ x_looks)) (nub x_looks).length) n5
      replace q1 := s5 _ _ q1
      replace q2 := s5 _ _ q2
      replace h2 := A2.mono s5 h2
      replace q3 := s5 _ _ q3
      replace h3 := A2.mono s5 h3
      replace sF := sF.trans s5
      refine ⟨_, _, _, rfl, w5.same _ _ q5, c5.2, fun ns6 p6 u6 i6 j6 n6 => ?_⟩
      obtain rfl : ns6 = l5 := (ssI_uniq u6 i6).trans e5.symm
      have h6 : A2 (rep K F5) (ns6.map V.int) ns6 := A2.of_ints
      have w6 : W F5 _ ((p6, .lst (ns6.map V.int)) :: os) := w5.new n6
      refine ⟨(x_looks : (List Int)), (ns6 : (List Int)), (Rep.mono w6.same (rep_lst q3 h3)), (rep_own (pre := []) w6 h6), _, rfl, ?_⟩
      refine post_ite hm (fun k7 hm => ?_) (fun k7 hm => ?_)
      · skip
        have w9 : W F5 _ (os) := w6.drop (pre := [])
        exact q4 _ (post_ok hm) _ _ ⟨rfl, _, s5, w9⟩
      · skip
        refine ⟨_, rfl, _, rfl, ⟨_, SqL.of (w6.same _ _ q3)⟩, fun D10 nD10 => ?_⟩
        refine lcM (K := K) (tw_list (a := a3) h3) hm w6 nD10 (fun F' H' acc s w => SqL.of (w.same _ _ (s _ _ q3))) ?_ ?_
        · -- one turn
          intro b10 x10 F10 H10 H10' acc10 N10 P10 s10 w10 y10 hN10 hm
          replace q1 := s10 _ _ q1
          replace q2 := s10 _ _ q2
          replace h2 := A2.mono s10 h2
          replace q3 := s10 _ _ q3
          replace h3 := A2.mono s10 h3
          replace h6 := A2.mono s10 h6
          replace sF := sF.trans s10
          obtain ⟨rfl, r12⟩ := y10
          obtain rfl : x10 = V.int b10 := r12
          refine ⟨rfl, ?_⟩
          refine cutE (fun c H' => c = V.bl ((decide ((0 : Int) ≤ b10)) && (decide (b10 < x_web.1))) ∧ ∃ F', Same F10 F' ∧ W F' H' ((D10, .lst acc10) :: (p6, .lst (ns6.map V.int)) :: os)) (fun Q13 q13 => ?_) (fun c13 H13 hc13 => ?_)
          · -- the ways
            refine ⟨_, rfl, _, _, rfl, rfl, _, rfl, ?_⟩
            refine ifB (fun k14 => ?_) (fun k14 => ?_)
            · skip
              exact ⟨_, rfl, _, _, _, _, rfl, rfl, SqT.of (w10.same _ _ q1), rfl, _, _, rfl, rfl, q13 _ _ ⟨(by first | rfl | (simp [k14]; done) | ((try simp only [Bool.not_eq_true] at k14); simp only [k14, Bool.true_or, Bool.false_or, Bool.or_false, Bool.or_true, Bool.true_and, Bool.false_and, Bool.and_true, Bool.and_false])), _, Same.refl _, w10⟩⟩
            · skip
              exact q13 _ _ ⟨(by first | rfl | (simp [k14]; done) | ((try simp only [Bool.not_eq_true] at k14); simp only [k14, Bool.true_or, Bool.false_or, Bool.or_false, Bool.or_true, Bool.true_and, Bool.false_and, Bool.and_true, Bool.and_false])), _, Same.refl _, w10⟩
          obtain ⟨rfl, F13, s13, w13⟩ := hc13
          replace q1 := s13 _ _ q1
          replace q2 := s13 _ _ q2
          replace h2 := A2.mono s13 h2
          replace q3 := s13 _ _ q3
          replace h3 := A2.mono s13 h3
          replace h6 := A2.mono s13 h6
          replace sF := sF.trans s13
          exact hN10 _ (post_ok hm) _ _ _ w13 s13 rep_b
        intro us10 F10 H10 ys10 s10 w10 gg10 hm
        replace q1 := s10 _ _ q1
        replace q2 := s10 _ _ q2
        replace h2 := A2.mono s10 h2
        replace q3 := s10 _ _ q3
        replace h3 := A2.mono s10 h3
        replace h6 := A2.mono s10 h6
        replace sF := sF.trans s10
        have w19 : W F10 _ ((p6, .lst (ns6.map V.int)) :: os) := w10.drop (pre := [])
        have w20 : W F10 _ (os) := w19.drop (pre := [])
        exact ⟨_, _, rfl, bools_q (SqL.of (w10.get (pre := []))) gg10, _, rfl, q4 _ (post_ok hm) _ _ ⟨rfl, _, (s5.trans s10), w20⟩⟩
    intro j4 c4 H4 hc4 hm
    obtain ⟨rfl, F4, s4, w4⟩ := hc4
    replace q1 := s4 _ _ q1
    replace q2 := s4 _ _ q2
    replace h2 := A2.mono s4 h2
    replace q3 := s4 _ _ q3
    replace h3 := A2.mono s4 h3
    replace sF := sF.trans s4
    refine post_ite hm (fun k21 hm => ?_) (fun k21 hm => ?_)
    · skip
      try dsimp only
      exact hm
    · skip
      exact (post_ok hm) _ _ _ w4 sF rep_n
def sp_all_near (K : Fg) : Sp := fun vs H Q E => ∃ (F : Hp) (os : List (Addr × HO)) (v_web : V) (x_web : (Int × (Tup (Int × Int)))), vs = [v_web] ∧ W F H (os) ∧ rep K F v_web x_web ∧ Post (all_near x_web) (Ret K F os Q) noX
theorem sc_all_near : FnScope ["web", "place"] ["web"] (defScope s_all_near) := ⟨rfl, rfl, rfl, by decide +kernel, rfl, by decide +kernel, by decide +kernel⟩
theorem ok_all_near (T : Tx K mg A FD) : FnOk P w K mg base CX0 3 (A 15) (FD 15) ["web"] (sp_all_near K) := by
  refine T.d15.fn.ok sc_all_near (fun vs H Q E h => ?_) (fun cdv Ar outer s H vs Q E hr h => ?_)
  · obtain ⟨F, os, v_web, x_web, rfl, _⟩ := h
    rfl
  · obtain ⟨F0, os, v_web, x_web, rfl, w0, r_web, hm⟩ := h
    have sF : Same F0 F0 := Same.refl _
    obtain ⟨a1, u1, z1, rfl, q1, r1a, r1b⟩ := r_web
    obtain rfl : u1 = V.int x_web.1 := r1a
    obtain ⟨a2, vs2, rfl, q2, h2⟩ := r1b
    refine ⟨_, (pss_one (ps_ret (pe_lc (own := [("place", 1)]) (g := gName 1) (by rfl) sc_all_near.nd (pi_range1 (by rfl) T.n_range (pa_cons (pe_ix (ix_tupK (K := K) rfl) (pv 0) pe_int (fun _ _ => rfl)) pa_nil)) (blkOk_by (own := [("place", 1)]) (N := ["web", "place"]) (sc := defScope s_all_near) (by decide +kernel)) (fun _ _ _ _ _ => (pg_name (i := 1) sc_all_near.nd rfl (Or.inl rfl))) (fun _ _ _ _ _ => pts_nil) (fun _ _ _ _ _ => (pe_call (ok_neighbours_of T) (hr.mono (by decide)) (by rfl) T.d10.mg T.d10.fn.kp T.d10.b .nil pass0 (pa_cons (pv 0) (pa_cons (pv 1) pa_nil))))))), ?_⟩
    obtain ⟨c3, hm⟩ := pb_rng hm
    refine ⟨_, rfl, _, _, _, _, rfl, rfl, SqT.of (w0.same _ _ q1), rfl, _, rfl, c3.2.2.1, c3.2.2.2, fun D4 nD4 => ?_⟩
    refine lcM (K := K) (tw_rng0 (j := x_web.1)) hm w0 nD4 (fun F' H' acc s w => trivial) ?_ ?_
    · -- one turn
      intro b4 x4 F4 H4 H4' acc4 N4 P4 s4 w4 y4 hN4 hm
      replace q1 := s4 _ _ q1
      replace q2 := s4 _ _ q2
      replace h2 := A2.mono s4 h2
      replace sF := sF.trans s4
      obtain ⟨rfl, rfl⟩ := y4
      refine ⟨rfl, _, rfl, _, rfl, _, _, _, (x_web : (Int × (Tup (Int × Int)))), _, rfl, w4, (rep_pair q1 rep_i (rep_tup q2 h2)), ?_⟩
      refine (post_bind hm).mono (fun y6 hm v6 F6 H6 w6 s6 r6 => ?_) (fun _ z => z)
      replace q1 := s6 _ _ q1
      replace q2 := s6 _ _ q2
      replace h2 := A2.mono s6 h2
      replace sF := sF.trans s6
      obtain ⟨a7, vs7, rfl, q7, h7⟩ := r6
      exact hN4 _ (post_ok hm) _ _ _ w6 s6 (rep_lst q7 h7)
    intro us4 F4 H4 ys4 s4 w4 gg4 hm
    replace q1 := s4 _ _ q1
    replace q2 := s4 _ _ q2
    replace h2 := A2.mono s4 h2
    replace sF := sF.trans s4
    obtain ⟨F9, s9, w9, q9⟩ : ∃ F', Same F4 F' ∧ W F' _ (os) ∧ F' D4 = some (.lst us4) := w4.freezeE (pre := [])
    replace q1 := s9 _ _ q1
    replace q2 := s9 _ _ q2
    replace h2 := A2.mono s9 h2
    replace gg4 := A2.mono s9 gg4
    replace sF := sF.trans s9
    exact (post_ok hm) _ _ _ w9 sF (rep_lst q9 gg4)
def sp_piece_from (K : Fg) : Sp := fun vs H Q E => ∃ (F : Hp) (os : List (Addr × HO)) (v_near : V) (x_near : (List (List Int))) (x_place : Int) (x_start : Int), vs = [v_near, .int x_place, .int x_start] ∧ W F H (os) ∧ rep K F v_near x_near ∧ Post (piece_from x_near x_place x_start) (RetL K F os Q) noX
theorem sc_piece_from : FnScope ["near", "place", "start", "found", "line", "at", "other"] ["near", "place", "start"] (defScope s_piece_from) := ⟨rfl, rfl, rfl, by decide +kernel, rfl, by decide +kernel, by decide +kernel⟩
theorem ok_piece_from (T : Tx K mg A FD) : FnOk P w K mg base CX0 1 (A 16) (FD 16) ["near", "place", "start"] (sp_piece_from K) := by
  refine T.d16.fn.ok sc_piece_from (fun vs H Q E h => ?_) (fun cdv Ar outer s H vs Q E hr h => ?_)
  · obtain ⟨F, os, v_near, x_near, x_place, x_start, rfl, _⟩ := h
    rfl
  · obtain ⟨F0, os, v_near, x_near, x_place, x_start, rfl, w0, r_near, hm⟩ := h
    have sF : Same F0 F0 := Same.refl _
    obtain ⟨a1, vs1, rfl, q1, h1⟩ := r_near
    refine ⟨_, (pss_cons (ps_set (i := 3) sc_piece_from.nd rfl (Or.inl rfl) (pe_disp (pps_cons (pv 1) pe_bl (pps_cons (pv 2) pe_bl pps_nil)) rfl rfl (by simp) (by simp))) (pss_cons (ps_set (i := 4) sc_piece_from.nd rfl (Or.inl rfl) (pe_lst (pa_cons (pv 2) pa_nil))) (pss_cons (ps_set (i := 5) sc_piece_from.nd rfl (Or.inl rfl) pe_int1) (pss_cons (ps_while PassesOwn.never (pt_cmp (pc_lt (pv 5) (pe_callB (call_lenN (K := K) rfl) (by rfl) T.n_len (by decide +kernel) (pa_cons (pv 4) pa_nil)))) (pss_cons (ps_for PassesOwn.never rfl (pi_listK (K := K) rfl (pe_ix (ix_listK (K := K) rfl) (pv 0) (pe_ix (ix_listK (K := K) rfl) (pv 4) (pv 5) (fun _ _ => rfl)) (fun _ _ => rfl))) (pg_name (i := 6) sc_piece_from.nd rfl (Or.inl rfl)) (pss_one (ps_if (pt_cmp (pc_dnotinH (Room.units1 hr) (pv 6) (pv 3))) (pss_cons (ps_dput (Room.units1 hr) (pv 3) (pv 6) pe_bl (by rfl)) (pss_one (ps_expr (pe_bm PySem.F.plainAttrs_list PySem.F.slot_list_append PySem.F.type_list_append mt_append (pv 4) (pa_cons (pv 6) pa_nil))))) pss_nil))) (pss_one (ps_set (i := 5) sc_piece_from.nd rfl (Or.inl rfl) (pe_op op_add (pv 5) pe_int))))) (pss_one (ps_ret (pe_callB (cr_sortI (K := K) rfl) (by rfl) T.n_sorted (by decide +kernel) (pa_cons (pv 4) pa_nil)))))))), ?_⟩
    refine fun p2 n2 => ?_
    have w2 : W F0 _ ((p2, .dK []) :: os) := w0.new n2
    refine ⟨_, rfl, _, rfl, (w2.get (pre := [])), encM kI V.bl ([(x_place, true), (x_start, true)] : List (Int × Bool)), rfl, (by show 2 ≤ 15; decide), ?_⟩
    have w3 : W F0 _ ((p2, .dK (mergeK [] (encM kI V.bl ([(x_place, true), (x_start, true)] : List (Int × Bool))))) :: os) := w2.set (pre := [])
    have h2 : (mergeK [] (encM kI V.bl ([(x_place, true), (x_start, true)] : List (Int × Bool)))) = encM kI V.bl (mmk ([(x_place, true), (x_start, true)] : List (Int × Bool))) := merge_enc _ []
    have h4 : A2 (rep K F0) [(.int x_start)] ([x_start] : (List Int)) := .cons rep_i (.nil)
    refine ⟨_, rfl, (by show 1 ≤ sizeLine; decide), fun p5 n5 => ?_⟩
    have w5 : W F0 _ ((p5, .lst [(.int x_start)]) :: (p2, .dK (mergeK [] (encM kI V.bl ([(x_place, true), (x_start, true)] : List (Int × Bool))))) :: os) := w3.new n5
    refine ⟨trivial, ?_⟩
    refine stepN ?_
    try dsimp only
    refine stepSeq (whileS hm (fun (g6 : Int × (List Int) × (List (Int × Bool))) σ H' => ∃ (F' : Hp) (vs6_0 : List V) (vs6_1 : List (Key × V)) (o6_6 : Option V), σ = [some (.ref a1), some (.int x_place), some (.int x_start), some (.ref p2), some (.ref p5), some (.int g6.1), o6_6] ∧ Same F0 F' ∧ W F' H' ((p5, .lst vs6_0) :: (p2, .dK vs6_1) :: os) ∧ A2 (rep K F') vs6_0 g6.2.1 ∧ vs6_1 = encM kI V.bl g6.2.2) ⟨_, _, _, _, rfl, Same.refl _, w5, h4, h2⟩ ?_ ?_ ?_)
    · intro g6 σ6 H6 N6 P6 hI hN6 hm
      obtain ⟨F6, vs6_0, vs6_1, o6_6, rfl, s6, w6, h6_0, h6_1⟩ := hI
      replace h1 := A2.mono s6 h1
      replace q1 := s6 _ _ q1
      replace sF := sF.trans s6
      exact ⟨_, rfl, _, rfl, _, _, _, rfl, .inl (SqL.of (w6.get (pre := []))), h6_0.length, _, _, rfl, rfl, _, rfl, hN6 _ (post_ok hm) _ ⟨_, _, _, _, rfl, s6, w6, h6_0, h6_1⟩⟩
    · intro g6 σ6 H6 N6 P6 hI hN6 hm
      obtain ⟨F6, vs6_0, vs6_1, o6_6, rfl, s6, w6, h6_0, h6_1⟩ := hI
      replace h1 := A2.mono s6 h1
      replace q1 := s6 _ _ q1
      replace sF := sF.trans s6
      obtain ⟨t8, e8, hm⟩ := pb_get hm
      obtain ⟨u8, f8, r8⟩ := A2.at h6_0 e8
      obtain rfl : u8 = V.int t8 := r8
      obtain ⟨t9, e9, hm⟩ := pb_get hm
      obtain ⟨u9, f9, r9⟩ := A2.at h1 e9
      obtain ⟨a10, vs10, rfl, q10, h10⟩ := r9
      refine ⟨_, rfl, _, rfl, _, rfl, _, _, _, _, rfl, rfl, SqL.of (w6.get (pre := [])), f8, _, _, _, _, rfl, rfl, SqL.of (w6.same _ _ q1), f9, _, rfl, ⟨_, SqL.of (w6.same _ _ q10)⟩, ?_⟩
      refine forS (tw_list (a := a10) h10) hm (fun (g7 : (List Int) × (List (Int × Bool))) σ H' => ∃ (F' : Hp) (vs7_0 : List V) (vs7_1 : List (Key × V)) (o7_6 : Option V), σ = [some (.ref a1), some (.int x_place), some (.int x_start), some (.ref p2), some (.ref p5), some (.int g6.1), o7_6] ∧ Same F6 F' ∧ W F' H' ((p5, .lst vs7_0) :: (p2, .dK vs7_1) :: os) ∧ A2 (rep K F') vs7_0 g7.1 ∧ vs7_1 = encM kI V.bl g7.2) ⟨_, _, _, _, rfl, Same.refl _, w6, h6_0, h6_1⟩ (fun g σ H' hI => by obtain ⟨F', _, _, _, _, s, w, _⟩ := hI; exact SqL.of (w.same _ _ (s _ _ q10))) ?_ ?_
      · -- a turn
        intro b7 g7 x7 σ7 H7 H7' N7 P7 hI hy hN7 hm
        obtain ⟨F7, vs7_0, vs7_1, o7_6, rfl, s7, w7, h7_0, h7_1⟩ := hI
        replace h1 := A2.mono s7 h1
        replace q1 := s7 _ _ q1
        replace q10 := s7 _ _ q10
        replace h10 := A2.mono s7 h10
        replace sF := sF.trans s7
        obtain ⟨rfl, r11⟩ := hy
        obtain rfl : x7 = V.int b7 := r11
        refine ⟨_, rfl, _, rfl, _, _, _, rfl, dget_k (ev := V.bl) (m := g7.2) (k := b7) ((w7.get (pre := [_])).trans (congrArg (fun z => some (HO.dK z)) h7_1)), get_has _ _ _, _, rfl, ?_⟩
        refine post_ite hm (fun k12 hm => ?_) (fun k12 hm => ?_)
        · skip
          obtain ⟨l13, z13, e13, hm⟩ := pn_mput hm
          refine ⟨_, rfl, _, rfl, _, _, rfl, dput_k (ev := V.bl) (m := g7.2) (k := b7) (v := true) ((w7.get (pre := [_])).trans (congrArg (fun z => some (HO.dK z)) h7_1)) z13, ?_⟩
          have h13 : (encM kI V.bl (mput g7.2 b7 true)) = encM kI V.bl l13 := by rw [e13]
          have w14 : W F7 _ ((p5, .lst vs7_0) :: (p2, .dK (encM kI V.bl (mput g7.2 b7 true))) :: os) := w7.set (pre := [_])
          obtain ⟨l15, z15, e15, hm⟩ := pn_app hm
          refine ⟨_, rfl, .inl ⟨rfl, _, SqL.of (w14.get (pre := []))⟩, _, rfl, _, _, _, rfl, rfl, (w14.get (pre := [])), (A2.lt h7_0 z15), ?_⟩
          have h15 : A2 (rep K F7) (vs7_0 ++ [(V.int b7)]) l15 := e15 ▸ A2.snoc h7_0 rep_i
          have w16 : W F7 _ ((p5, .lst (vs7_0 ++ [(V.int b7)])) :: (p2, .dK (encM kI V.bl (mput g7.2 b7 true))) :: os) := w14.set (pre := [])
          exact hN7 _ (post_ok hm) _ _ ⟨_, _, _, _, rfl, s7, w16, h15, h13⟩
        · skip
          exact hN7 _ (post_ok hm) _ _ ⟨_, _, _, _, rfl, s7, w7, h7_0, h7_1⟩
      intro g7 σ7 H7 hI hm
      obtain ⟨F7, vs7_0, vs7_1, o7_6, rfl, s7, w7, h7_0, h7_1⟩ := hI
      replace h1 := A2.mono s7 h1
      replace q1 := s7 _ _ q1
      replace q10 := s7 _ _ q10
      replace h10 := A2.mono s7 h10
      replace sF := sF.trans s7
      exact ⟨_, rfl, _, _, rfl, rfl, hN6 _ (post_ok hm) _ _ ⟨_, _, _, _, rfl, (s6.trans s7), w7, h7_0, h7_1⟩⟩
    intro g6 σ6 H6 hI hm
    obtain ⟨F6, vs6_0, vs6_1, o6_6, rfl, s6, w6, h6_0, h6_1⟩ := hI
    replace h1 := A2.mono s6 h1
    replace q1 := s6 _ _ q1
    replace sF := sF.trans s6
    have h17 : A2 (rep K F6) ((sortI g6.2.1).map V.int) (sortI g6.2.1) := A2.of_ints
    refine ⟨_, rfl, _, _, rfl, ints_q (SqL.of (w6.get (pre := []))) h6_0, fun p18 n18 => ?_⟩
    have w18 : W F6 _ ((p18, .lst ((sortI g6.2.1).map V.int)) :: (p5, .lst vs6_0) :: (p2, .dK vs6_1) :: os) := w6.new n18
    have w19 : W F6 _ ((p18, .lst ((sortI g6.2.1).map V.int)) :: (p2, .dK vs6_1) :: os) := w18.drop (pre := [_])
    have w20 : W F6 _ ((p18, .lst ((sortI g6.2.1).map V.int)) :: os) := w19.drop (pre := [_])
    exact (post_ok hm) _ _ _ _ w20 sF h17
def sp_pieces_by (K : Fg) : Sp := fun vs H Q E => ∃ (F : Hp) (os : List (Addr × HO)) (v_near : V) (x_near : (List (List Int))) (x_place : Int), vs = [v_near, .int x_place] ∧ W F H (os) ∧ rep K F v_near x_near ∧ Post (pieces_by x_near x_place) (Ret K F os Q) noX
theorem sc_pieces_by : FnScope ["near", "place", "start"] ["near", "place"] (defScope s_pieces_by) := ⟨rfl, rfl, rfl, by decide +kernel, rfl, by decide +kernel, by decide +kernel⟩
theorem ok_pieces_by (T : Tx K mg A FD) : FnOk P w K mg base CX0 2 (A 17) (FD 17) ["near", "place"] (sp_pieces_by K) := by
  refine T.d17.fn.ok sc_pieces_by (fun vs H Q E h => ?_) (fun cdv Ar outer s H vs Q E hr h => ?_)
  · obtain ⟨F, os, v_near, x_near, x_place, rfl, _⟩ := h
    rfl
  · obtain ⟨F0, os, v_near, x_near, x_place, rfl, w0, r_near, hm⟩ := h
    have sF : Same F0 F0 := Same.refl _
    obtain ⟨a1, vs1, rfl, q1, h1⟩ := r_near
    refine ⟨_, (pss_one (ps_ret (pe_lc (own := [("start", 2)]) (g := gName 2) (by rfl) sc_pieces_by.nd (pi_listK (K := K) rfl (pe_ix (ix_listK (K := K) rfl) (pv 0) (pv 1) (fun _ _ => rfl))) (blkOk_by (own := [("start", 2)]) (N := ["near", "place", "start"]) (sc := defScope s_pieces_by) (by decide +kernel)) (fun _ _ _ _ _ => (pg_name (i := 2) sc_pieces_by.nd rfl (Or.inl rfl))) (fun _ _ _ _ _ => pts_nil) (fun _ _ _ _ _ => (pe_call (ok_piece_from T) (hr.mono (by decide)) (by rfl) T.d16.mg T.d16.fn.kp T.d16.b .nil pass0 (pa_cons (pv 0) (pa_cons (pv 1) (pa_cons (pv 2) pa_nil)))))))), ?_⟩
    obtain ⟨t2, e2, hm⟩ := pb_get hm
    obtain ⟨u2, f2, r2⟩ := A2.at h1 e2
    obtain ⟨a3, vs3, rfl, q3, h3⟩ := r2
    refine ⟨_, rfl, _, rfl, _, _, _, _, rfl, rfl, SqL.of (w0.same _ _ q1), f2, _, rfl, ⟨_, SqL.of (w0.same _ _ q3)⟩, fun D4 nD4 => ?_⟩
    refine lcM (K := K) (tw_list (a := a3) h3) hm w0 nD4 (fun F' H' acc s w => SqL.of (w.same _ _ (s _ _ q3))) ?_ ?_
    · -- one turn
      intro b4 x4 F4 H4 H4' acc4 N4 P4 s4 w4 y4 hN4 hm
      replace q1 := s4 _ _ q1
      replace h1 := A2.mono s4 h1
      replace q3 := s4 _ _ q3
      replace h3 := A2.mono s4 h3
      replace sF := sF.trans s4
      obtain ⟨rfl, r6⟩ := y4
      obtain rfl : x4 = V.int b4 := r6
      refine ⟨rfl, _, rfl, _, rfl, _, rfl, _, _, _, (x_near : (List (List Int))), _, _, rfl, w4, (rep_lst q1 h1), ?_⟩
      refine (post_bind hm).mono (fun y7 hm p7 us7 F7 H7 w7 s7 g7 => ?_) (fun _ z => z)
      replace q1 := s7 _ _ q1
      replace h1 := A2.mono s7 h1
      replace q3 := s7 _ _ q3
      replace h3 := A2.mono s7 h3
      replace sF := sF.trans s7
      obtain ⟨F9, s9, w9, q9⟩ : ∃ F', Same F7 F' ∧ W F' _ ((D4, .lst acc4) :: os) ∧ F' p7 = some (.lst us7) := w7.freezeE (pre := [])
      replace q1 := s9 _ _ q1
      replace h1 := A2.mono s9 h1
      replace q3 := s9 _ _ q3
      replace h3 := A2.mono s9 h3
      replace g7 := A2.mono s9 g7
      replace sF := sF.trans s9
      exact hN4 _ (post_ok hm) _ _ _ w9 (s7.trans s9) (rep_lst q9 g7)
    intro us4 F4 H4 ys4 s4 w4 gg4 hm
    replace q1 := s4 _ _ q1
    replace h1 := A2.mono s4 h1
    replace q3 := s4 _ _ q3
    replace h3 := A2.mono s4 h3
    replace sF := sF.trans s4
    obtain ⟨F11, s11, w11, q11⟩ : ∃ F', Same F4 F' ∧ W F' _ (os) ∧ F' D4 = some (.lst us4) := w4.freezeE (pre := [])
    replace q1 := s11 _ _ q1
    replace h1 := A2.mono s11 h1
    replace q3 := s11 _ _ q3
    replace h3 := A2.mono s11 h3
    replace gg4 := A2.mono s11 gg4
    replace sF := sF.trans s11
    exact (post_ok hm) _ _ _ w11 sF (rep_lst q11 gg4)
def sp_looks_in (K : Fg) : Sp := fun vs H Q E => ∃ (F : Hp) (os : List (Addr × HO)) (v_near : V) (x_near : (List (List Int))) (x_place : Int) (v_looks : V) (x_looks : (List Int)), vs = [v_near, .int x_place, v_looks] ∧ W F H (os) ∧ rep K F v_near x_near ∧ rep K F v_looks x_looks ∧ Post (looks_in x_near x_place x_looks) (Ret K F os Q) noX
theorem sc_looks_in : FnScope ["near", "place", "looks", "piece", "look"] ["near", "place", "looks"] (defScope s_looks_in) := ⟨rfl, rfl, rfl, by decide +kernel, rfl, by decide +kernel, by decide +kernel⟩
theorem ok_looks_in (T : Tx K mg A FD) : FnOk P w K mg base CX0 3 (A 18) (FD 18) ["near", "place", "looks"] (sp_looks_in K) := by
  refine T.d18.fn.ok sc_looks_in (fun vs H Q E h => ?_) (fun cdv Ar outer s H vs Q E hr h => ?_)
  · obtain ⟨F, os, v_near, x_near, x_place, v_looks, x_looks, rfl, _⟩ := h
    rfl
  · obtain ⟨F0, os, v_near, x_near, x_place, v_looks, x_looks, rfl, w0, r_near, r_looks, hm⟩ := h
    have sF : Same F0 F0 := Same.refl _
    obtain ⟨a1, vs1, rfl, q1, h1⟩ := r_near
    obtain ⟨a2, vs2, rfl, q2, h2⟩ := r_looks
    refine ⟨_, (pss_one (ps_ret (pe_lc (own := [("piece", 3)]) (g := gName 3) (by rfl) sc_looks_in.nd (pi_listK (K := K) rfl (pe_call (ok_pieces_by T) (hr.mono (by decide)) (by rfl) T.d17.mg T.d17.fn.kp T.d17.b .nil pass0 (pa_cons (pv 0) (pa_cons (pv 1) pa_nil)))) (blkOk_by (own := [("piece", 3)]) (N := ["near", "place", "looks", "piece", "look"]) (sc := defScope s_looks_in) (by decide +kernel)) (fun _ _ _ _ _ => (pg_name (i := 3) sc_looks_in.nd rfl (Or.inr rfl))) (fun _ _ _ _ _ => pts_nil) (fun _ _ _ _ _ => (pe_callB (call_lenN (K := K) rfl) (by rfl) T.n_len (by decide +kernel) (pa_cons (pe_lc (own := [("look", 4)]) (g := gName 4) (by rfl) sc_looks_in.nd (pi_listK (K := K) rfl (pv 2)) (blkOk_by (own := [("look", 4)]) (N := ["near", "place", "looks", "piece", "look"]) (sc := _) (by kernel_rfl)) (fun _ _ _ _ _ => (pg_name (i := 4) sc_looks_in.nd rfl (Or.inl rfl))) (fun _ _ _ _ _ => (pts_one (pt_cmpR (op_inL (K := K) rfl Int (by decide) (Room.units65 hr)) (pv 4) (pv 3) (by rfl)))) (fun _ _ _ _ _ => (pv 4))) pa_nil)))))), ?_⟩
    refine ⟨_, rfl, _, rfl, _, _, _, (x_near : (List (List Int))), _, rfl, w0, (rep_lst q1 h1), ?_⟩
    refine (post_bind hm).mono (fun y3 hm v3 F3 H3 w3 s3 r3 => ?_) (fun _ z => z)
    replace q1 := s3 _ _ q1
    replace h1 := A2.mono s3 h1
    replace q2 := s3 _ _ q2
    replace h2 := A2.mono s3 h2
    replace sF := sF.trans s3
    obtain ⟨a4, vs4, rfl, q4, h4⟩ := r3
    refine ⟨_, rfl, ⟨_, SqL.of (w3.same _ _ q4)⟩, fun D5 nD5 => ?_⟩
    refine lcM (K := K) (tw_list (a := a4) h4) hm w3 nD5 (fun F' H' acc s w => SqL.of (w.same _ _ (s _ _ q4))) ?_ ?_
    · -- one turn
      intro b5 x5 F5 H5 H5' acc5 N5 P5 s5 w5 y5 hN5 hm
      replace q1 := s5 _ _ q1
      replace h1 := A2.mono s5 h1
      replace q2 := s5 _ _ q2
      replace h2 := A2.mono s5 h2
      replace q4 := s5 _ _ q4
      replace h4 := A2.mono s5 h4
      replace sF := sF.trans s5
      obtain ⟨rfl, r7⟩ := y5
      replace r7 := Rep.mono s5 r7
      obtain ⟨a8, vs8, rfl, q8, h8⟩ := r7
      refine ⟨rfl, _, rfl, _, rfl, ⟨_, SqL.of (w5.same _ _ q2)⟩, fun D9 nD9 => ?_⟩
      refine lcF (K := K) (tw_list (a := a2) h2) hm w5 nD9 (fun F' H' acc s w => SqL.of (w.same _ _ (s _ _ q2))) ?_ ?_
      · -- one turn
        intro b9 x9 F9 H9 H9' acc9 N9 M9 P9 s9 w9 y9 hN9 hM9 hm
        replace q1 := s9 _ _ q1
        replace h1 := A2.mono s9 h1
        replace q2 := s9 _ _ q2
        replace h2 := A2.mono s9 h2
        replace q4 := s9 _ _ q4
        replace h4 := A2.mono s9 h4
        replace q8 := s9 _ _ q8
        replace h8 := A2.mono s9 h8
        replace sF := sF.trans s9
        obtain ⟨rfl, r11⟩ := y9
        obtain rfl : x9 = V.int b9 := r11
        refine ⟨rfl, _, rfl, _, rfl, (b9 : Int), _, rep_i, (Rep.mono w9.same (rep_lst q8 h8)), _, rfl, ?_⟩
        refine post_ite hm (fun k12 hm => ?_) (fun k12 hm => ?_)
        · skip
          exact ⟨_, rfl, hN9 _ (post_ok hm) _ _ _ w9 (Same.refl _) rep_i⟩
        · skip
          exact hM9 (post_ok hm) _ _ w9 (Same.refl _)
      intro us9 F9 H9 ys9 s9 w9 gg9 hm
      replace q1 := s9 _ _ q1
      replace h1 := A2.mono s9 h1
      replace q2 := s9 _ _ q2
      replace h2 := A2.mono s9 h2
      replace q4 := s9 _ _ q4
      replace h4 := A2.mono s9 h4
      replace q8 := s9 _ _ q8
      replace h8 := A2.mono s9 h8
      replace sF := sF.trans s9
      have w14 : W F9 _ ((D5, .lst acc5) :: os) := w9.drop (pre := [])
      exact ⟨_, _, _, rfl, .inl (SqL.of (w9.get (pre := []))), gg9.length, hN5 _ (post_ok hm) _ _ _ w14 s9 rep_i⟩
    intro us5 F5 H5 ys5 s5 w5 gg5 hm
    replace q1 := s5 _ _ q1
    replace h1 := A2.mono s5 h1
    replace q2 := s5 _ _ q2
    replace h2 := A2.mono s5 h2
    replace q4 := s5 _ _ q4
    replace h4 := A2.mono s5 h4
    replace sF := sF.trans s5
    obtain ⟨F16, s16, w16, q16⟩ : ∃ F', Same F5 F' ∧ W F' _ (os) ∧ F' D5 = some (.lst us5) := w5.freezeE (pre := [])
    replace q1 := s16 _ _ q1
    replace h1 := A2.mono s16 h1
    replace q2 := s16 _ _ q2
    replace h2 := A2.mono s16 h2
    replace q4 := s16 _ _ q4
    replace h4 := A2.mono s16 h4
    replace gg5 := A2.mono s16 gg5
    replace sF := sF.trans s16
    exact (post_ok hm) _ _ _ w16 sF (rep_lst q16 gg5)
def sp_tie_of (K : Fg) : Sp := fun vs H Q E => ∃ (F : Hp) (os : List (Addr × HO)) (x_one : Int) (x_other : Int), vs = [.int x_one, .int x_other] ∧ W F H (os) ∧ Post (tie_of x_one x_other) (Ret K F os Q) noX
theorem sc_tie_of : FnScope ["one", "other"] ["one", "other"] (defScope s_tie_of) := ⟨rfl, rfl, rfl, by decide +kernel, rfl, by decide +kernel, by decide +kernel⟩
theorem ok_tie_of (T : Tx K mg A FD) : FnOk P w K mg base CX0 1 (A 19) (FD 19) ["one", "other"] (sp_tie_of K) := by
  refine T.d19.fn.ok sc_tie_of (fun vs H Q E h => ?_) (fun cdv Ar outer s H vs Q E hr h => ?_)
  · obtain ⟨F, os, x_one, x_other, rfl, _⟩ := h
    rfl
  · obtain ⟨F0, os, x_one, x_other, rfl, w0, hm⟩ := h
    have sF : Same F0 F0 := Same.refl _
    refine ⟨_, (pss_one (ps_ret (pe_tup (pa_cons (pe_callB (call_min2 rfl) (by rfl) T.n_min (by decide +kernel) (pa_cons (pv 0) (pa_cons (pv 1) pa_nil))) (pa_cons (pe_callB (call_max2 rfl) (by rfl) T.n_max (by decide +kernel) (pa_cons (pv 0) (pa_cons (pv 1) pa_nil))) pa_nil))))), ?_⟩
    refine ⟨_, rfl, _, rfl, _, _, rfl, _, rfl, _, rfl, _, _, rfl, (by show 2 ≤ sizeLine; decide), fun p1 n1 => ?_⟩
    obtain ⟨F1, s1, w1, q1⟩ := w0.frzE (o := .tup [(.int (min2 x_one x_other)), (.int (max2 x_one x_other))]) n1
    replace sF := sF.trans s1
    exact (post_ok hm) _ _ _ w1 sF (rep_pair q1 rep_i rep_i)
def sp_likes_at (K : Fg) : Sp := fun vs H Q E => ∃ (F : Hp) (os : List (Addr × HO)) (v_near : V) (x_near : (List (List Int))) (x_place : Int) (v_looks : V) (x_looks : (List Int)) (x_kind : Str), vs = [v_near, .int x_place, v_looks, .str x_kind] ∧ W F H (os) ∧ rep K F v_near x_near ∧ rep K F v_looks x_looks ∧ Post (likes_at x_near x_place x_looks x_kind) (Ret K F os Q) noX
theorem sc_likes_at : FnScope ["near", "place", "looks", "kind", "bare", "start", "many"] ["near", "place", "looks", "kind"] (defScope s_likes_at) := ⟨rfl, rfl, rfl, by decide +kernel, rfl, by decide +kernel, by decide +kernel⟩
theorem ok_likes_at (T : Tx K mg A FD) : FnOk P w K mg base CX0 4 (A 20) (FD 20) ["near", "place", "looks", "kind"] (sp_likes_at K) := by
  refine T.d20.fn.ok sc_likes_at (fun vs H Q E h => ?_) (fun cdv Ar outer s H vs Q E hr h => ?_)
  · obtain ⟨F, os, v_near, x_near, x_place, v_looks, x_looks, x_kind, rfl, _⟩ := h
    rfl
  · obtain ⟨F0, os, v_near, x_near, x_place, v_looks, x_looks, x_kind, rfl, w0, r_near, r_looks, hm⟩ := h
    have sF : Same F0 F0 := Same.refl _
    obtain ⟨a1, vs1, rfl, q1, h1⟩ := r_near
    obtain ⟨a2, vs2, rfl, q2, h2⟩ := r_looks
    refine ⟨_, (pss_cons (ps_setLc (i := 4) (own := [("start", 5), ("many", 6)]) (g := _) (by rfl) sc_likes_at.nd rfl rfl (sw_true rfl rfl rfl (by decide +kernel)) (pi_k (K := K) (wi := fun K => iZip K _) rfl (pi_zip (by rfl) T.n_zip (pa_cons (pe_ix (ix_listK (K := K) rfl) (pv 0) (pv 1) (fun _ _ => rfl)) (pa_cons (pe_call (ok_looks_in T) (hr.mono (by decide)) (by rfl) T.d18.mg T.d18.fn.kp T.d18.b .nil pass0 (pa_cons (pv 0) (pa_cons (pv 1) (pa_cons (pv 2) pa_nil)))) pa_nil)))) (blkOk_by (own := [("start", 5), ("many", 6)]) (N := ["near", "place", "looks", "kind", "bare", "start", "many"]) (sc := defScope s_likes_at) (by decide +kernel)) (fun _ _ _ _ _ => (pg_k (K := K) (t := fun K => gTup K 2 _) rfl (pg_tup (n := 2) rfl (pgs_cons (pg_name (i := 5) sc_likes_at.nd rfl (Or.inl rfl)) (pgs_cons (pg_name (i := 6) sc_likes_at.nd rfl (Or.inl rfl)) pgs_nil))))) (fun _ _ _ _ _ => (pts_one (pt_cmp (pc_eqI (pv 6) pe_int)))) (fun _ _ _ _ _ => (pv 5))) (pss_cons (ps_if (PW.pt (pw_and (pt_cmpR op_eqS (pv 3) pe_str (nomark _)) (pw_and1 (pt_cmp (pc_gt (pe_callB (call_lenN (K := K) rfl) (by rfl) T.n_len (by decide +kernel) (pa_cons (pv 4) pa_nil)) pe_int))))) (pss_one (ps_ret (pe_tup (pa_cons (pv 1) (pa_cons (pe_call (ok_tie_of T) (hr.mono (by decide)) (by rfl) T.d19.mg T.d19.fn.kp T.d19.b .nil pass0 (pa_cons (pv 1) (pa_cons (pe_ix (ix_listK (K := K) rfl) (pv 4) pe_int (fun _ _ => rfl)) pa_nil))) pa_nil))))) pss_nil) (pss_cons (ps_if (PW.pt (pw_and (pt_cmpR op_eqS (pv 3) pe_str (nomark _)) (pw_and1 (pt_cmp (pc_gt (pe_callB (call_lenN (K := K) rfl) (by rfl) T.n_len (by decide +kernel) (pa_cons (pv 4) pa_nil)) pe_int))))) (pss_one (ps_ret (pe_tup (pa_cons (pe_call (ok_tie_of T) (hr.mono (by decide)) (by rfl) T.d19.mg T.d19.fn.kp T.d19.b .nil pass0 (pa_cons (pv 1) (pa_cons (pe_ix (ix_listK (K := K) rfl) (pv 4) pe_int (fun _ _ => rfl)) pa_nil))) (pa_cons (pe_call (ok_tie_of T) (hr.mono (by decide)) (by rfl) T.d19.mg T.d19.fn.kp T.d19.b .nil pass0 (pa_cons (pv 1) (pa_cons (pe_ix (ix_listK (K := K) rfl) (pv 4) pe_int (fun _ _ => rfl)) pa_nil))) pa_nil))))) pss_nil) (pss_cons (ps_if (PW.pt (pw_and (pt_cmpR op_eqS (pv 3) pe_str (nomark _)) (pw_and1 (pt_cmp (pc_gt (pe_callB (call_lenN (K := K) rfl) (by rfl) T.n_len (by decide +kernel) (pa_cons (pv 4) pa_nil)) pe_int))))) (pss_one (ps_ret (pe_tup (pa_cons (pe_ix (ix_listK (K := K) rfl) (pv 4) pe_int (fun _ _ => rfl)) (pa_cons (pe_ix (ix_listK (K := K) rfl) (pv 4) pe_int (fun _ _ => rfl)) pa_nil))))) pss_nil) (pss_one (ps_ret pe_non)))))), ?_⟩
    obtain ⟨t3, e3, hm⟩ := pb_get hm
    obtain ⟨u3, f3, r3⟩ := A2.at h1 e3
    obtain ⟨a4, vs4, rfl, q4, h4⟩ := r3
    refine ⟨_, rfl, _, rfl, _, _, _, _, rfl, rfl, SqL.of (w0.same _ _ q1), f3, _, rfl, _, rfl, _, rfl, _, _, _, (x_near : (List (List Int))), _, _, (x_looks : (List Int)), rfl, w0, (rep_lst q1 h1), (rep_lst q2 h2), ?_⟩
    refine (post_bind hm).mono (fun y5 hm v5 F5 H5 w5 s5 r5 => ?_) (fun _ z => z)
    replace q1 := s5 _ _ q1
    replace h1 := A2.mono s5 h1
    replace q2 := s5 _ _ q2
    replace h2 := A2.mono s5 h2
    replace q4 := s5 _ _ q4
    replace h4 := A2.mono s5 h4
    replace sF := sF.trans s5
    obtain ⟨a6, vs6, rfl, q6, h6⟩ := r5
    refine ⟨_, _, _, _, rfl, SqL.of (w5.same _ _ q4), SqL.of (w5.same _ _ q6), fun D7 nD7 => ?_⟩
    refine lcF (K := K) (tw_zip (a := a4) (b := a6) h4 h6) hm w5 nD7 (fun F' H' acc s w => ⟨SqL.of (w.same _ _ (s _ _ q4)), SqL.of (w.same _ _ (s _ _ q6))⟩) ?_ ?_
    · -- one turn
      intro b7 x7 F7 H7 H7' acc7 N7 M7 P7 s7 w7 y7 hN7 hM7 hm
      replace q1 := s7 _ _ q1
      replace h1 := A2.mono s7 h1
      replace q2 := s7 _ _ q2
      replace h2 := A2.mono s7 h2
      replace q4 := s7 _ _ q4
      replace h4 := A2.mono s7 h4
      replace q6 := s7 _ _ q6
      replace h6 := A2.mono s7 h6
      replace sF := sF.trans s7
      obtain ⟨T9, z9, u9, rfl, n9, rfl, r9a, r9b⟩ := y7
      obtain ⟨F9, s9, w9, q9⟩ := w7.frzE (o := .tup [z9, u9]) n9
      replace r9a := Rep.mono s7 r9a
      replace r9b := Rep.mono s7 r9b
      replace q1 := s9 _ _ q1
      replace h1 := A2.mono s9 h1
      replace q2 := s9 _ _ q2
      replace h2 := A2.mono s9 h2
      replace q4 := s9 _ _ q4
      replace h4 := A2.mono s9 h4
      replace q6 := s9 _ _ q6
      replace h6 := A2.mono s9 h6
      replace sF := sF.trans s9
      replace r9a := Rep.mono s9 r9a
      replace r9b := Rep.mono s9 r9b
      obtain rfl : z9 = V.int b7.1 := r9a
      obtain rfl : u9 = V.int b7.2 := r9b
      refine ⟨_, _, rfl, SqT.of (w9.same _ _ q9), rfl, _, _, rfl, _, _, rfl, rfl, rfl, _, rfl, _, _, rfl, rfl, _, rfl, ?_⟩
      refine post_ite hm (fun k10 hm => ?_) (fun k10 hm => ?_)
      · skip
        exact ⟨_, rfl, hN7 _ (post_ok hm) _ _ _ w9 s9 rep_i⟩
      · skip
        exact hM7 (post_ok hm) _ _ w9 s9
    intro us7 F7 H7 ys7 s7 w7 gg7 hm
    replace q1 := s7 _ _ q1
    replace h1 := A2.mono s7 h1
    replace q2 := s7 _ _ q2
    replace h2 := A2.mono s7 h2
    replace q4 := s7 _ _ q4
    replace h4 := A2.mono s7 h4
    replace q6 := s7 _ _ q6
    replace h6 := A2.mono s7 h6
    replace sF := sF.trans s7
    obtain ⟨F12, s12, w12, q12⟩ : ∃ F', Same F7 F' ∧ W F' _ (os) ∧ F' D7 = some (.lst us7) := w7.freezeE (pre := [])
    replace q1 := s12 _ _ q1
    replace h1 := A2.mono s12 h1
    replace q2 := s12 _ _ q2
    replace h2 := A2.mono s12 h2
    replace q4 := s12 _ _ q4
    replace h4 := A2.mono s12 h4
    replace q6 := s12 _ _ q6
    replace h6 := A2.mono s12 h6
    replace gg7 := A2.mono s12 gg7
    replace sF := sF.trans s12
    refine stepN ?_
    try dsimp only
    refine stepSeq (stepIf ?_)
    refine cutT (fun c H' => c = (((decide (x_kind = ("all" : Str))) && (decide ((0 : Int) < (ys7.length : Int))))) ∧ ∃ F', Same F12 F' ∧ W F' H' (os)) (fun Q13 q13 => ?_) (fun c13 H13 hc13 => ?_)
    · -- the ways
      refine ⟨_, rfl, _, _, rfl, rfl, _, rfl, ?_⟩
      refine ifB (fun k14 => ?_) (fun k14 => ?_)
      · skip
        exact ⟨_, rfl, _, _, _, rfl, .inl (SqL.of (w12.same _ _ q12)), gg7.length, _, _, rfl, rfl, _, rfl, q13 _ _ ⟨(by first | rfl | (simp [k14]; done) | ((try simp only [Bool.not_eq_true] at k14); simp only [k14, Bool.true_or, Bool.false_or, Bool.or_false, Bool.or_true, Bool.true_and, Bool.false_and, Bool.and_true, Bool.and_false])), _, Same.refl _, w12⟩⟩
      · skip
        exact q13 _ _ ⟨(by first | rfl | (simp [k14]; done) | ((try simp only [Bool.not_eq_true] at k14); simp only [k14, Bool.true_or, Bool.false_or, Bool.or_false, Bool.or_true, Bool.true_and, Bool.false_and, Bool.and_true, Bool.and_false])), _, Same.refl _, w12⟩
    obtain ⟨rfl, F13, s13, w13⟩ := hc13
    replace h1 := A2.mono s13 h1
    replace q1 := s13 _ _ q1
    replace h2 := A2.mono s13 h2
    replace q2 := s13 _ _ q2
    replace gg7 := A2.mono s13 gg7
    replace q12 := s13 _ _ q12
    replace sF := sF.trans s13
    refine post_ite hm (fun k17 hm => ?_) (fun k17 hm => ?_)
    · skip
      obtain ⟨t18, e18, hm⟩ := pb_get hm
      obtain ⟨u18, f18, r18⟩ := A2.at gg7 e18
      obtain rfl : u18 = V.int t18 := r18
      refine ⟨_, rfl, _, rfl, _, rfl, _, _, _, _, rfl, rfl, SqL.of (w13.same _ _ q12), f18, _, _, _, _, rfl, w13, ?_⟩
      refine (post_bind hm).mono (fun y19 hm v19 F19 H19 w19 s19 r19 => ?_) (fun _ z => z)
      replace h1 := A2.mono s19 h1
      replace q1 := s19 _ _ q1
      replace h2 := A2.mono s19 h2
      replace q2 := s19 _ _ q2
      replace gg7 := A2.mono s19 gg7
      replace q12 := s19 _ _ q12
      replace sF := sF.trans s19
      obtain ⟨a20, u20, z20, rfl, q20, r20a, r20b⟩ := r19
      obtain rfl : u20 = V.int y19.1 := r20a
      obtain rfl : z20 = V.int y19.2 := r20b
      have h21 : A2 (rep K F19) [(.int x_place), (.ref a20)] (Tup.mk [(Thing.pl x_place), (Thing.ti y19.1 y19.2)] : (Tup Thing)).l := .cons rep_pl (.cons (rep_ti (rep_pair q20 rep_i rep_i)) (.nil))
      refine ⟨(by show 2 ≤ sizeLine; decide), fun p22 n22 => ?_⟩
      obtain ⟨F22, s22, w22, q22⟩ := w19.frzE (o := .tup [(.int x_place), (.ref a20)]) n22
      replace h1 := A2.mono s22 h1
      replace q1 := s22 _ _ q1
      replace h2 := A2.mono s22 h2
      replace q2 := s22 _ _ q2
      replace gg7 := A2.mono s22 gg7
      replace q12 := s22 _ _ q12
      replace q20 := s22 _ _ q20
      replace h21 := A2.mono s22 h21
      replace sF := sF.trans s22
      exact (post_ok hm) _ _ _ w22 sF (rep_some (rep_tup q22 h21))
    · skip
      refine stepX ?_
      try dsimp only
      refine stepSeq (stepIf ?_)
      refine cutT (fun c H' => c = (((decide (x_kind = ("ties" : Str))) && (decide ((1 : Int) < (ys7.length : Int))))) ∧ ∃ F', Same F13 F' ∧ W F' H' (os)) (fun Q23 q23 => ?_) (fun c23 H23 hc23 => ?_)
      · -- the ways
        refine ⟨_, rfl, _, _, rfl, rfl, _, rfl, ?_⟩
        refine ifB (fun k24 => ?_) (fun k24 => ?_)
        · skip
          exact ⟨_, rfl, _, _, _, rfl, .inl (SqL.of (w13.same _ _ q12)), gg7.length, _, _, rfl, rfl, _, rfl, q23 _ _ ⟨(by first | rfl | (simp [k24]; done) | ((try simp only [Bool.not_eq_true] at k24); simp only [k24, Bool.true_or, Bool.false_or, Bool.or_false, Bool.or_true, Bool.true_and, Bool.false_and, Bool.and_true, Bool.and_false])), _, Same.refl _, w13⟩⟩
        · skip
          exact q23 _ _ ⟨(by first | rfl | (simp [k24]; done) | ((try simp only [Bool.not_eq_true] at k24); simp only [k24, Bool.true_or, Bool.false_or, Bool.or_false, Bool.or_true, Bool.true_and, Bool.false_and, Bool.and_true, Bool.and_false])), _, Same.refl _, w13⟩
      obtain ⟨rfl, F23, s23, w23⟩ := hc23
      replace h1 := A2.mono s23 h1
      replace q1 := s23 _ _ q1
      replace h2 := A2.mono s23 h2
      replace q2 := s23 _ _ q2
      replace gg7 := A2.mono s23 gg7
      replace q12 := s23 _ _ q12
      replace sF := sF.trans s23
      refine post_ite hm (fun k27 hm => ?_) (fun k27 hm => ?_)
      · skip
        obtain ⟨t28, e28, hm⟩ := pb_get hm
        obtain ⟨u28, f28, r28⟩ := A2.at gg7 e28
        obtain rfl : u28 = V.int t28 := r28
        refine ⟨_, rfl, _, rfl, _, _, _, _, rfl, rfl, SqL.of (w23.same _ _ q12), f28, _, _, _, _, rfl, w23, ?_⟩
        refine (post_bind hm).mono (fun y29 hm v29 F29 H29 w29 s29 r29 => ?_) (fun _ z => z)
        replace h1 := A2.mono s29 h1
        replace q1 := s29 _ _ q1
        replace h2 := A2.mono s29 h2
        replace q2 := s29 _ _ q2
        replace gg7 := A2.mono s29 gg7
        replace q12 := s29 _ _ q12
        replace sF := sF.trans s29
        obtain ⟨a30, u30, z30, rfl, q30, r30a, r30b⟩ := r29
        obtain rfl : u30 = V.int y29.1 := r30a
        obtain rfl : z30 = V.int y29.2 := r30b
        obtain ⟨t31, e31, hm⟩ := pb_get hm
        obtain ⟨u31, f31, r31⟩ := A2.at gg7 e31
        obtain rfl : u31 = V.int t31 := r31
        refine ⟨_, rfl, _, rfl, _, _, _, _, rfl, rfl, SqL.of (w29.same _ _ q12), f31, _, _, _, _, rfl, w29, ?_⟩
        refine (post_bind hm).mono (fun y32 hm v32 F32 H32 w32 s32 r32 => ?_) (fun _ z => z)
        replace h1 := A2.mono s32 h1
        replace q1 := s32 _ _ q1
        replace h2 := A2.mono s32 h2
        replace q2 := s32 _ _ q2
        replace gg7 := A2.mono s32 gg7
        replace q12 := s32 _ _ q12
        replace q30 := s32 _ _ q30
        replace sF := sF.trans s32
        obtain ⟨a33, u33, z33, rfl, q33, r33a, r33b⟩ := r32
        obtain rfl : u33 = V.int y32.1 := r33a
        obtain rfl : z33 = V.int y32.2 := r33b
        have h34 : A2 (rep K F32) [(.ref a30), (.ref a33)] (Tup.mk [(Thing.ti y29.1 y29.2), (Thing.ti y32.1 y32.2)] : (Tup Thing)).l := .cons (rep_ti (rep_pair q30 rep_i rep_i)) (.cons (rep_ti (rep_pair q33 rep_i rep_i)) (.nil))
        refine ⟨(by show 2 ≤ sizeLine; decide), fun p35 n35 => ?_⟩
        obtain ⟨F35, s35, w35, q35⟩ := w32.frzE (o := .tup [(.ref a30), (.ref a33)]) n35
        replace h1 := A2.mono s35 h1
        replace q1 := s35 _ _ q1
        replace h2 := A2.mono s35 h2
        replace q2 := s35 _ _ q2
        replace gg7 := A2.mono s35 gg7
        replace q12 := s35 _ _ q12
        replace q30 := s35 _ _ q30
        replace q33 := s35 _ _ q33
        replace h34 := A2.mono s35 h34
        replace sF := sF.trans s35
        exact (post_ok hm) _ _ _ w35 sF (rep_some (rep_tup q35 h34))
      · skip
        refine stepX ?_
        try dsimp only
        refine stepSeq (stepIf ?_)
        refine cutT (fun c H' => c = (((decide (x_kind = ("places" : Str))) && (decide ((1 : Int) < (ys7.length : Int))))) ∧ ∃ F', Same F23 F' ∧ W F' H' (os)) (fun Q36 q36 => ?_) (fun c36 H36 hc36 => ?_)
        · -- the ways
          refine ⟨_, rfl, _, _, rfl, rfl, _, rfl, ?_⟩
          refine ifB (fun k37 => ?_) (fun k37 => ?_)
          · skip
            exact ⟨_, rfl, _, _, _, rfl, .inl (SqL.of (w23.same _ _ q12)), gg7.length, _, _, rfl, rfl, _, rfl, q36 _ _ ⟨(by first | rfl | (simp [k37]; done) | ((try simp only [Bool.not_eq_true] at k37); simp only [k37, Bool.true_or, Bool.false_or, Bool.or_false, Bool.or_true, Bool.true_and, Bool.false_and, Bool.and_true, Bool.and_false])), _, Same.refl _, w23⟩⟩
          · skip
            exact q36 _ _ ⟨(by first | rfl | (simp [k37]; done) | ((try simp only [Bool.not_eq_true] at k37); simp only [k37, Bool.true_or, Bool.false_or, Bool.or_false, Bool.or_true, Bool.true_and, Bool.false_and, Bool.and_true, Bool.and_false])), _, Same.refl _, w23⟩
        obtain ⟨rfl, F36, s36, w36⟩ := hc36
        replace h1 := A2.mono s36 h1
        replace q1 := s36 _ _ q1
        replace h2 := A2.mono s36 h2
        replace q2 := s36 _ _ q2
        replace gg7 := A2.mono s36 gg7
        replace q12 := s36 _ _ q12
        replace sF := sF.trans s36
        refine post_ite hm (fun k40 hm => ?_) (fun k40 hm => ?_)
        · skip
          obtain ⟨t41, e41, hm⟩ := pb_get hm
          obtain ⟨u41, f41, r41⟩ := A2.at gg7 e41
          obtain rfl : u41 = V.int t41 := r41
          obtain ⟨t42, e42, hm⟩ := pb_get hm
          obtain ⟨u42, f42, r42⟩ := A2.at gg7 e42
          obtain rfl : u42 = V.int t42 := r42
          have h43 : A2 (rep K F36) [(.int t41), (.int t42)] (Tup.mk [(Thing.pl t41), (Thing.pl t42)] : (Tup Thing)).l := .cons rep_pl (.cons rep_pl (.nil))
          refine ⟨_, rfl, _, _, _, _, rfl, rfl, SqL.of (w36.same _ _ q12), f41, _, rfl, _, _, _, _, rfl, rfl, SqL.of (w36.same _ _ q12), f42, (by show 2 ≤ sizeLine; decide), fun p44 n44 => ?_⟩
          obtain ⟨F44, s44, w44, q44⟩ := w36.frzE (o := .tup [(.int t41), (.int t42)]) n44
          replace h1 := A2.mono s44 h1
          replace q1 := s44 _ _ q1
          replace h2 := A2.mono s44 h2
          replace q2 := s44 _ _ q2
          replace gg7 := A2.mono s44 gg7
          replace q12 := s44 _ _ q12
          replace h43 := A2.mono s44 h43
          replace sF := sF.trans s44
          exact (post_ok hm) _ _ _ w44 sF (rep_some (rep_tup q44 h43))
        · skip
          exact (post_ok hm) _ _ _ w36 sF rep_none
def sp_tree_likes (K : Fg) : Sp := fun vs H Q E => ∃ (F : Hp) (os : List (Addr × HO)) (v_web : V) (x_web : (Int × (Tup (Int × Int)))) (v_looks : V) (x_looks : (List Int)) (x_kind : Str), vs = [v_web, v_looks, .str x_kind] ∧ W F H (os) ∧ rep K F v_web x_web ∧ rep K F v_looks x_looks ∧ Post (tree_likes x_web x_looks x_kind) (Ret K F os Q) noX
theorem sc_tree_likes : FnScope ["web", "looks", "kind", "near", "place", "found"] ["web", "looks", "kind"] (defScope s_tree_likes) := ⟨rfl, rfl, rfl, by decide +kernel, rfl, by decide +kernel, by decide +kernel⟩
theorem ok_tree_likes (T : Tx K mg A FD) : FnOk P w K mg base CX0 5 (A 21) (FD 21) ["web", "looks", "kind"] (sp_tree_likes K) := by
  refine T.d21.fn.ok sc_tree_likes (fun vs H Q E h => ?_) (fun cdv Ar outer s H vs Q E hr h => ?_)
  · obtain ⟨F, os, v_web, x_web, v_looks, x_looks, x_kind, rfl, _⟩ := h
    rfl
  · obtain ⟨F0, os, v_web, x_web, v_looks, x_looks, x_kind, rfl, w0, r_web, r_looks, hm⟩ := h
    have sF : Same F0 F0 := Same.refl _
    obtain ⟨a1, u1, z1, rfl, q1, r1a, r1b⟩ := r_web
    obtain rfl : u1 = V.int x_web.1 := r1a
    obtain ⟨a2, vs2, rfl, q2, h2⟩ := r1b
    obtain ⟨a3, vs3, rfl, q3, h3⟩ := r_looks
    refine ⟨_, (pss_cons (ps_expr (pe_call (ok_tree_asked T) (hr.mono (by decide)) (by rfl) T.d13.mg T.d13.fn.kp T.d13.b .nil pass0 (pa_cons (pv 0) pa_nil))) (pss_cons (ps_expr (pe_call (ok_rising_asked T) (hr.mono (by decide)) (by rfl) T.d14.mg T.d14.fn.kp T.d14.b .nil pass0 (pa_cons (pv 0) (pa_cons (pv 1) pa_nil)))) (pss_cons (ps_if (PW.pt (pw_and (pt_cmp (pc_eqI (pe_ix (ix_tupK (K := K) rfl) (pv 0) pe_int (fun _ _ => rfl)) pe_int)) (pw_and (pt_cmpR op_eqS (pv 2) pe_str (nomark _)) (pw_and1 (pt_cmp (pc_eqI (pe_callB (call_lenN (K := K) rfl) (by rfl) T.n_len (by decide +kernel) (pa_cons (pv 1) pa_nil)) pe_int)))))) (pss_one (ps_ret (pe_tup (pa_cons pe_int (pa_cons pe_int pa_nil))))) pss_nil) (pss_cons (ps_set (i := 3) sc_tree_likes.nd rfl (Or.inl rfl) (pe_call (ok_all_near T) (hr.mono (by decide)) (by rfl) T.d15.mg T.d15.fn.kp T.d15.b .nil pass0 (pa_cons (pv 0) pa_nil))) (pss_cons (ps_for PassesOwn.never rfl (pi_range1 (by rfl) T.n_range (pa_cons (pe_ix (ix_tupK (K := K) rfl) (pv 0) pe_int (fun _ _ => rfl)) pa_nil)) (pg_name (i := 4) sc_tree_likes.nd rfl (Or.inl rfl)) (pss_cons (ps_set (i := 5) sc_tree_likes.nd rfl (Or.inl rfl) (pe_call (ok_likes_at T) (hr.mono (by decide)) (by rfl) T.d20.mg T.d20.fn.kp T.d20.b .nil pass0 (pa_cons (pv 3) (pa_cons (pv 4) (pa_cons (pv 1) (pa_cons (pv 2) pa_nil)))))) (pss_one (ps_if (pt_cmpR op_notN2 (pv 5) pe_non (nomark _)) (pss_one (ps_ret (pv 5))) pss_nil)))) (pss_one (ps_ret pe_non))))))), ?_⟩
    refine ⟨_, rfl, _, _, _, (x_web : (Int × (Tup (Int × Int)))), rfl, w0, (rep_pair q1 rep_i (rep_tup q2 h2)), ?_⟩
    refine (post_bind hm).mono (fun y4 hm v4 F4 H4 w4 s4 r4 => ?_) (fun _ z => z)
    replace q1 := s4 _ _ q1
    replace q2 := s4 _ _ q2
    replace h2 := A2.mono s4 h2
    replace q3 := s4 _ _ q3
    replace h3 := A2.mono s4 h3
    replace sF := sF.trans s4
    obtain rfl : v4 = V.non := r4
    refine ⟨_, rfl, _, rfl, _, _, _, (x_web : (Int × (Tup (Int × Int)))), _, (x_looks : (List Int)), rfl, w4, (rep_pair q1 rep_i (rep_tup q2 h2)), (rep_lst q3 h3), ?_⟩
    refine (post_bind hm).mono (fun y5 hm v5 F5 H5 w5 s5 r5 => ?_) (fun _ z => z)
    replace q1 := s5 _ _ q1
    replace h2 := A2.mono s5 h2
    replace q2 := s5 _ _ q2
    replace h3 := A2.mono s5 h3
    replace q3 := s5 _ _ q3
    replace sF := sF.trans s5
    obtain rfl : v5 = V.non := r5
    try dsimp only
    refine stepSeq (stepIf ?_)
    refine cutT (fun c H' => c = (((decide (x_web.1 = (2 : Int))) && ((decide (x_kind = ("places" : Str))) && (decide ((x_looks.length : Int) = (0 : Int)))))) ∧ ∃ F', Same F5 F' ∧ W F' H' (os)) (fun Q6 q6 => ?_) (fun c6 H6 hc6 => ?_)
    · -- the ways
      refine ⟨_, rfl, _, _, _, _, rfl, rfl, SqT.of (w5.same _ _ q1), rfl, _, _, rfl, rfl, _, rfl, ?_⟩
      refine ifB (fun k7 => ?_) (fun k7 => ?_)
      · skip
        refine ⟨_, rfl, _, _, rfl, rfl, _, rfl, ?_⟩
        refine ifB (fun k8 => ?_) (fun k8 => ?_)
        · skip
          exact ⟨_, rfl, _, _, _, rfl, .inl (SqL.of (w5.same _ _ q3)), h3.length, _, _, rfl, rfl, _, rfl, q6 _ _ ⟨(by first | rfl | (simp [k7, k8]; done) | ((try simp only [Bool.not_eq_true] at k7); (try simp only [Bool.not_eq_true] at k8); simp only [k7, k8, Bool.true_or, Bool.false_or, Bool.or_false, Bool.or_true, Bool.true_and, Bool.false_and, Bool.and_true, Bool.and_false])), _, Same.refl _, w5⟩⟩
        · skip
          exact q6 _ _ ⟨(by first | rfl | (simp [k7, k8]; done) | ((try simp only [Bool.not_eq_true] at k7); (try simp only [Bool.not_eq_true] at k8); simp only [k7, k8, Bool.true_or, Bool.false_or, Bool.or_false, Bool.or_true, Bool.true_and, Bool.false_and, Bool.and_true, Bool.and_false])), _, Same.refl _, w5⟩
      · skip
        exact q6 _ _ ⟨(by first | rfl | (simp [k7]; done) | ((try simp only [Bool.not_eq_true] at k7); simp only [k7, Bool.true_or, Bool.false_or, Bool.or_false, Bool.or_true, Bool.true_and, Bool.false_and, Bool.and_true, Bool.and_false])), _, Same.refl _, w5⟩
    obtain ⟨rfl, F6, s6, w6⟩ := hc6
    replace q1 := s6 _ _ q1
    replace h2 := A2.mono s6 h2
    replace q2 := s6 _ _ q2
    replace h3 := A2.mono s6 h3
    replace q3 := s6 _ _ q3
    replace sF := sF.trans s6
    refine post_ite hm (fun k12 hm => ?_) (fun k12 hm => ?_)
    · skip
      have h13 : A2 (rep K F6) [(.int 0), (.int 1)] (Tup.mk [(Thing.pl (0 : Int)), (Thing.pl (1 : Int))] : (Tup Thing)).l := .cons rep_pl (.cons rep_pl (.nil))
      refine ⟨(by show 2 ≤ sizeLine; decide), fun p14 n14 => ?_⟩
      obtain ⟨F14, s14, w14, q14⟩ := w6.frzE (o := .tup [(.int 0), (.int 1)]) n14
      replace q1 := s14 _ _ q1
      replace h2 := A2.mono s14 h2
      replace q2 := s14 _ _ q2
      replace h3 := A2.mono s14 h3
      replace q3 := s14 _ _ q3
      replace h13 := A2.mono s14 h13
      replace sF := sF.trans s14
      exact (post_ok hm) _ _ _ w14 sF (rep_some (rep_tup q14 h13))
    · skip
      refine ⟨_, rfl, _, _, _, (x_web : (Int × (Tup (Int × Int)))), rfl, w6, (rep_pair q1 rep_i (rep_tup q2 h2)), ?_⟩
      refine (post_bind hm).mono (fun y15 hm v15 F15 H15 w15 s15 r15 => ?_) (fun _ z => z)
      replace q1 := s15 _ _ q1
      replace h2 := A2.mono s15 h2
      replace q2 := s15 _ _ q2
      replace h3 := A2.mono s15 h3
      replace q3 := s15 _ _ q3
      replace sF := sF.trans s15
      obtain ⟨a16, vs16, rfl, q16, h16⟩ := r15
      obtain ⟨c18, hm⟩ := pb_rng hm
      refine ⟨_, rfl, _, _, _, _, rfl, rfl, SqT.of (w15.same _ _ q1), rfl, _, rfl, c18.2.2.1, c18.2.2.2, ?_⟩
      refine forX (tw_rng0 (j := x_web.1)) hm (fun (g17 : Unit) σ H' => ∃ (F' : Hp) (o17_5 : Option V) (o17_4 : Option V), σ = [some (.ref a1), some (.ref a3), some (.str x_kind), some (.ref a16), o17_4, o17_5] ∧ Same F15 F' ∧ W F' H' (os)) ⟨_, _, _, rfl, Same.refl _, w15⟩ (fun _ _ _ _ => trivial) ?_ ?_
      · -- a turn
        intro b17 g17 x17 σ17 H17 H17' N17 B17 P17 hI hy hN17 hB17 hZ17 hm
        obtain ⟨F17, o17_5, o17_4, rfl, s17, w17⟩ := hI
        replace q1 := s17 _ _ q1
        replace h2 := A2.mono s17 h2
        replace q2 := s17 _ _ q2
        replace h3 := A2.mono s17 h3
        replace q3 := s17 _ _ q3
        replace h16 := A2.mono s17 h16
        replace q16 := s17 _ _ q16
        replace sF := sF.trans s17
        obtain ⟨rfl, rfl⟩ := hy
        refine ⟨_, rfl, _, rfl, _, rfl, _, rfl, _, _, _, (y15 : (List (List Int))), _, _, (x_looks : (List Int)), _, rfl, w17, (rep_lst q16 h16), (rep_lst q3 h3), ?_⟩
        refine (post_bind hm).mono (fun y19 hm v19 F19 H19 w19 s19 r19 => ?_) (fun _ z => z)
        replace q1 := s19 _ _ q1
        replace h2 := A2.mono s19 h2
        replace q2 := s19 _ _ q2
        replace h3 := A2.mono s19 h3
        replace q3 := s19 _ _ q3
        replace h16 := A2.mono s19 h16
        replace q16 := s19 _ _ q16
        replace sF := sF.trans s19
        refine ⟨_, rfl, rfl, _, isN_eq r19, _, rfl, ?_⟩
        refine post_ite hm (fun k21 hm => ?_) (fun k21 hm => ?_)
        · skip
          obtain ⟨t22, e22, hm⟩ := pb_ofO hm
          have r22 : rep K F19 v19 t22 := (show rep K F19 v19 (some t22) from e22 ▸ r19)
          obtain ⟨a23, vs23, rfl, q23, h23⟩ := r22
          have hm := hZ17 _ (post_ok hm)
          exact ⟨_, rfl, (post_ok hm) _ _ _ w19 sF (rep_some (rep_tup q23 h23))⟩
        · skip
          exact hN17 _ (post_ok hm) _ _ ⟨_, _, _, rfl, (s17.trans s19), w19⟩
      intro g17 σ17 H17 hI hm
      obtain ⟨F17, o17_5, o17_4, rfl, s17, w17⟩ := hI
      replace q1 := s17 _ _ q1
      replace h2 := A2.mono s17 h2
      replace q2 := s17 _ _ q2
      replace h3 := A2.mono s17 h3
      replace q3 := s17 _ _ q3
      replace h16 := A2.mono s17 h16
      replace q16 := s17 _ _ q16
      replace sF := sF.trans s17
      exact (post_ok hm) _ _ _ w17 sF rep_none
def sp_grown_asked (K : Fg) : Sp := fun vs H Q E => ∃ (F : Hp) (os : List (Addr × HO)) (v_web : V) (x_web : (Int × (Tup (Int × Int)))), vs = [v_web] ∧ W F H (os) ∧ rep K F v_web x_web ∧ Post (grown_asked x_web) (Ret K F os Q) noX
theorem sc_grown_asked : FnScope ["web"] ["web"] (defScope s_grown_asked) := ⟨rfl, rfl, rfl, by decide +kernel, rfl, by decide +kernel, by decide +kernel⟩
theorem ok_grown_asked (T : Tx K mg A FD) : FnOk P w K mg base CX0 2 (A 23) (FD 23) ["web"] (sp_grown_asked K) := by
  refine T.d23.fn.ok sc_grown_asked (fun vs H Q E h => ?_) (fun cdv Ar outer s H vs Q E hr h => ?_)
  · obtain ⟨F, os, v_web, x_web, rfl, _⟩ := h
    rfl
  · obtain ⟨F0, os, v_web, x_web, rfl, w0, r_web, hm⟩ := h
    have sF : Same F0 F0 := Same.refl _
    obtain ⟨a1, u1, z1, rfl, q1, r1a, r1b⟩ := r_web
    obtain rfl : u1 = V.int x_web.1 := r1a
    obtain ⟨a2, vs2, rfl, q2, h2⟩ := r1b
    refine ⟨_, (pss_one (ps_if (pt_not (pt_val (pe_call (ok_is_tree T) (hr.mono (by decide)) (by rfl) T.d12.mg T.d12.fn.kp T.d12.b .nil pass0 (pa_cons (pv 0) pa_nil)))) (pss_one ps_absurd) pss_nil)), ?_⟩
    refine ⟨_, rfl, _, _, _, (x_web : (Int × (Tup (Int × Int)))), rfl, w0, (rep_pair q1 rep_i (rep_tup q2 h2)), ?_⟩
    refine (post_bind hm).mono (fun y3 hm v3 F3 H3 w3 s3 r3 => ?_) (fun _ z => z)
    replace q1 := s3 _ _ q1
    replace q2 := s3 _ _ q2
    replace h2 := A2.mono s3 h2
    replace sF := sF.trans s3
    obtain rfl : v3 = V.bl y3 := r3
    refine ⟨_, rfl, ?_⟩
    refine post_ite hm (fun k4 hm => ?_) (fun k4 hm => ?_)
    · skip
      try dsimp only
      exact hm
    · skip
      exact (post_ok hm) _ _ _ w3 sF rep_n
def sp_leg_from (K : Fg) : Sp := fun vs H Q E => ∃ (F : Hp) (os : List (Addr × HO)) (v_near : V) (x_near : (List (List Int))) (x_end : Int), vs = [v_near, .int x_end] ∧ W F H (os) ∧ rep K F v_near x_near ∧ Post (leg_from x_near x_end) (Ret K F os Q) noX
theorem sc_leg_from : FnScope ["near", "end", "leg", "ahead", "beyond"] ["near", "end"] (defScope s_leg_from) := ⟨rfl, rfl, rfl, by decide +kernel, rfl, by decide +kernel, by decide +kernel⟩
theorem ok_leg_from (T : Tx K mg A FD) : FnOk P w K mg base CX0 1 (A 24) (FD 24) ["near", "end"] (sp_leg_from K) := by
  refine T.d24.fn.ok sc_leg_from (fun vs H Q E h => ?_) (fun cdv Ar outer s H vs Q E hr h => ?_)
  · obtain ⟨F, os, v_near, x_near, x_end, rfl, _⟩ := h
    rfl
  · obtain ⟨F0, os, v_near, x_near, x_end, rfl, w0, r_near, hm⟩ := h
    have sF : Same F0 F0 := Same.refl _
    obtain ⟨a1, vs1, rfl, q1, h1⟩ := r_near
    refine ⟨_, (pss_cons (ps_set (i := 2) sc_leg_from.nd rfl (Or.inl rfl) (pe_lst (pa_cons (pv 1) pa_nil))) (pss_cons (ps_set (i := 3) sc_leg_from.nd rfl (Or.inl rfl) (pe_ix (ix_listK (K := K) rfl) (pe_ix (ix_listK (K := K) rfl) (pv 0) (pv 1) (fun _ _ => rfl)) pe_int (fun _ _ => rfl))) (pss_cons (ps_while PassesOwn.never (pt_cmp (pc_eqI (pe_callB (call_lenN (K := K) rfl) (by rfl) T.n_len (by decide +kernel) (pa_cons (pe_ix (ix_listK (K := K) rfl) (pv 0) (pv 3) (fun _ _ => rfl)) pa_nil)) pe_int)) (pss_cons (ps_set (i := 4) sc_leg_from.nd rfl (Or.inl rfl) (pe_op op_sub (pe_callB (cr_sumK (K := K) rfl rfl) (by rfl) T.n_sum (by decide +kernel) (pa_cons (pe_ix (ix_listK (K := K) rfl) (pv 0) (pv 3) (fun _ _ => rfl)) pa_nil)) (pe_ix (ix_listK (K := K) rfl) (pv 2) (pe_un un_neg pe_int) (fun _ _ => rfl)))) (pss_cons (ps_expr (pe_bm PySem.F.plainAttrs_list PySem.F.slot_list_append PySem.F.type_list_append mt_append (pv 2) (pa_cons (pv 3) pa_nil))) (pss_one (ps_set (i := 3) sc_leg_from.nd rfl (Or.inl rfl) (pv 4)))))) (pss_one (ps_ret (pe_tup (pa_cons (pv 3) (pa_cons (pe_callB (cr_sortI (K := K) rfl) (by rfl) T.n_sorted (by decide +kernel) (pa_cons (pv 2) pa_nil)) pa_nil)))))))), ?_⟩
    have h2 : A2 (rep K F0) [(.int x_end)] ([x_end] : (List Int)) := .cons rep_i (.nil)
    refine ⟨_, rfl, (by show 1 ≤ sizeLine; decide), fun p3 n3 => ?_⟩
    have w3 : W F0 _ ((p3, .lst [(.int x_end)]) :: os) := w0.new n3
    obtain ⟨t4, e4, hm⟩ := pb_get hm
    obtain ⟨u4, f4, r4⟩ := A2.at h1 e4
    obtain ⟨a5, vs5, rfl, q5, h5⟩ := r4
    obtain ⟨t6, e6, hm⟩ := pb_get hm
    obtain ⟨u6, f6, r6⟩ := A2.at h5 e6
    obtain rfl : u6 = V.int t6 := r6
    refine ⟨_, rfl, _, rfl, _, _, _, _, rfl, rfl, SqL.of (w3.same _ _ q1), f4, _, _, _, _, rfl, rfl, SqL.of (w3.same _ _ q5), f6, ?_⟩
    refine stepN ?_
    try dsimp only
    refine stepSeq (whileS hm (fun (g7 : Int × (List Int)) σ H' => ∃ (F' : Hp) (vs7_0 : List V) (o7_4 : Option V), σ = [some (.ref a1), some (.int x_end), some (.ref p3), some (.int g7.1), o7_4] ∧ Same F0 F' ∧ W F' H' ((p3, .lst vs7_0) :: os) ∧ A2 (rep K F') vs7_0 g7.2) ⟨_, _, _, rfl, Same.refl _, w3, h2⟩ ?_ ?_ ?_)
    · intro g7 σ7 H7 N7 P7 hI hN7 hm
      obtain ⟨F7, vs7_0, o7_4, rfl, s7, w7, h7_0⟩ := hI
      replace h1 := A2.mono s7 h1
      replace q1 := s7 _ _ q1
      replace sF := sF.trans s7
      obtain ⟨t8, e8, hm⟩ := pb_get hm
      obtain ⟨u8, f8, r8⟩ := A2.at h1 e8
      obtain ⟨a9, vs9, rfl, q9, h9⟩ := r8
      exact ⟨_, rfl, _, rfl, _, _, _, _, rfl, rfl, SqL.of (w7.same _ _ q1), f8, _, _, _, rfl, .inl (SqL.of (w7.same _ _ q9)), h9.length, _, _, rfl, rfl, _, rfl, hN7 _ (post_ok hm) _ ⟨_, _, _, rfl, s7, w7, h7_0⟩⟩
    · intro g7 σ7 H7 N7 P7 hI hN7 hm
      obtain ⟨F7, vs7_0, o7_4, rfl, s7, w7, h7_0⟩ := hI
      replace h1 := A2.mono s7 h1
      replace q1 := s7 _ _ q1
      replace sF := sF.trans s7
      obtain ⟨t10, e10, hm⟩ := pb_get hm
      obtain ⟨u10, f10, r10⟩ := A2.at h1 e10
      obtain ⟨a11, vs11, rfl, q11, h11⟩ := r10
      obtain ⟨t12, e12, hm⟩ := pb_get hm
      obtain ⟨u12, f12, r12⟩ := A2.at h7_0 e12
      obtain rfl : u12 = V.int t12 := r12
      obtain ⟨l13, z13, e13, hm⟩ := pn_app hm
      refine ⟨_, rfl, _, rfl, _, _, _, _, rfl, rfl, SqL.of (w7.same _ _ q1), f10, _, _, rfl, ints_q (SqL.of (w7.same _ _ q11)) h11, _, rfl, _, rfl, _, _, _, _, rfl, rfl, SqL.of (w7.get (pre := [])), f12, _, _, rfl, rfl, _, rfl, .inl ⟨rfl, _, SqL.of (w7.get (pre := []))⟩, _, rfl, _, _, _, rfl, rfl, (w7.get (pre := [])), (A2.lt h7_0 z13), ?_⟩
      have h13 : A2 (rep K F7) (vs7_0 ++ [(V.int g7.1)]) l13 := e13 ▸ A2.snoc h7_0 rep_i
      have w14 : W F7 _ ((p3, .lst (vs7_0 ++ [(V.int g7.1)])) :: os) := w7.set (pre := [])
      exact ⟨_, rfl, hN7 _ (post_ok hm) _ _ ⟨_, _, _, rfl, s7, w14, h13⟩⟩
    intro g7 σ7 H7 hI hm
    obtain ⟨F7, vs7_0, o7_4, rfl, s7, w7, h7_0⟩ := hI
    replace h1 := A2.mono s7 h1
    replace q1 := s7 _ _ q1
    replace sF := sF.trans s7
    have h15 : A2 (rep K F7) ((sortI g7.2).map V.int) (sortI g7.2) := A2.of_ints
    refine ⟨_, rfl, _, rfl, _, _, rfl, ints_q (SqL.of (w7.get (pre := []))) h7_0, fun p16 n16 => ?_⟩
    have w16 : W F7 _ ((p16, .lst ((sortI g7.2).map V.int)) :: (p3, .lst vs7_0) :: os) := w7.new n16
    obtain ⟨F17, s17, w17, q17⟩ : ∃ F', Same F7 F' ∧ W F' _ ((p3, .lst vs7_0) :: os) ∧ F' p16 = some (.lst ((sortI g7.2).map V.int)) := w16.freezeE (pre := [])
    replace h1 := A2.mono s17 h1
    replace q1 := s17 _ _ q1
    replace h7_0 := A2.mono s17 h7_0
    replace h15 := A2.mono s17 h15
    replace sF := sF.trans s17
    refine ⟨(by show 2 ≤ sizeLine; decide), fun p18 n18 => ?_⟩
    obtain ⟨F18, s18, w18, q18⟩ := w17.frzE (o := .tup [(.int g7.1), (.ref p16)]) n18
    replace h1 := A2.mono s18 h1
    replace q1 := s18 _ _ q1
    replace h7_0 := A2.mono s18 h7_0
    replace h15 := A2.mono s18 h15
    replace q17 := s18 _ _ q17
    replace sF := sF.trans s18
    have w19 : W F18 _ (os) := w18.drop (pre := [])
    exact (post_ok hm) _ _ _ w19 sF (rep_pair q18 rep_i (rep_lst q17 h15))
def sp_legs_by_fork (K : Fg) : Sp := fun vs H Q E => ∃ (F : Hp) (os : List (Addr × HO)) (v_near : V) (x_near : (List (List Int))) (v_ends : V) (x_ends : (List Int)), vs = [v_near, v_ends] ∧ W F H (os) ∧ rep K F v_near x_near ∧ rep K F v_ends x_ends ∧ Post (legs_by_fork x_near x_ends) (fun (y : ((List (Int × Ix)) × (List (List (List Int))))) => ∀ (p : Addr) (us : List (Key × V)) (as : List Addr) (vss : List (List V)) (F' H' : Hp), W F' H' ((p, .dK us) :: (nz as vss ++ (os))) → Same F F' → AD kK (RX as) us y.1 → Sto K F' as vss y.2 → Q (.ref p) H') noX
theorem sc_legs_by_fork : FnScope ["near", "ends", "found", "end", "fork", "leg"] ["near", "ends"] (defScope s_legs_by_fork) := ⟨rfl, rfl, rfl, by decide +kernel, rfl, by decide +kernel, by decide +kernel⟩
theorem ok_legs_by_fork (T : Tx K mg A FD) : FnOk P w K mg base CX0 2 (A 25) (FD 25) ["near", "ends"] (sp_legs_by_fork K) := by
  refine T.d25.fn.ok sc_legs_by_fork (fun vs H Q E h => ?_) (fun cdv Ar outer s H vs Q E hr h => ?_)
  · obtain ⟨F, os, v_near, x_near, v_ends, x_ends, rfl, _⟩ := h
    rfl
  · obtain ⟨F0, os, v_near, x_near, v_ends, x_ends, rfl, w0, r_near, r_ends, hm⟩ := h
    have sF : Same F0 F0 := Same.refl _
    obtain ⟨a1, vs1, rfl, q1, h1⟩ := r_near
    obtain ⟨a2, vs2, rfl, q2, h2⟩ := r_ends
    have hr_g : Sto K F0 [] [] ([] : List (List (List Int))) := Sto.nil
    replace w0 : W F0 _ ((nz [] [] ++ os)) := w0
    refine ⟨_, (pss_cons (ps_set (i := 2) sc_legs_by_fork.nd rfl (Or.inl rfl) pe_dnewK) (pss_cons (ps_for PassesOwn.never rfl (pi_listK (K := K) rfl (pv 1)) (pg_name (i := 3) sc_legs_by_fork.nd rfl (Or.inl rfl)) (pss_cons (ps_asg (pe_call (ok_leg_from T) (hr.mono (by decide)) (by rfl) T.d24.mg T.d24.fn.kp T.d24.b .nil pass0 (pa_cons (pv 0) (pa_cons (pv 3) pa_nil))) (pg_k (K := K) (t := fun K => gTup K 2 _) rfl (pg_tup (n := 2) rfl (pgs_cons (pg_name (i := 4) sc_legs_by_fork.nd rfl (Or.inl rfl)) (pgs_cons (pg_name (i := 5) sc_legs_by_fork.nd rfl (Or.inl rfl)) pgs_nil))))) (pss_cons (ps_if (pt_cmp (pc_dnotinH (Room.units1 hr) (pv 4) (pv 2))) (pss_one (ps_dput (Room.units1 hr) (pv 2) (pv 4) (pe_lst pa_nil) (by rfl))) pss_nil) (pss_one (ps_expr (pe_bm PySem.F.plainAttrs_list PySem.F.slot_list_append PySem.F.type_list_append mt_append (pe_dget (Room.units1 hr) (pv 2) (pv 4) (fun _ _ => rfl)) (pa_cons (pv 5) pa_nil))))))) (pss_one (ps_ret (pv 2))))), ?_⟩
    refine fun p4 n4 => ?_
    have w4 : W F0 _ ((p4, .dK []) :: (nz [] [] ++ os)) := w0.new n4
    have h4 : AD kK (RX []) [] ([] : (List (Int × Ix))) := .nil
    refine ⟨_, rfl, _, rfl, ⟨_, SqL.of (w4.same _ _ q2)⟩, ?_⟩
    refine forS (tw_list (a := a2) h2) hm (fun (g5 : (List (Int × Ix)) × (List (List (List Int)))) σ H' => ∃ (F' : Hp) (vs5_0 : List (Key × V)) (as5_1 : List Addr) (vs5_1 : List (List V)) (o5_4 : Option V) (o5_5 : Option V) (o5_3 : Option V), σ = [some (.ref a1), some (.ref a2), some (.ref p4), o5_3, o5_4, o5_5] ∧ Same F0 F' ∧ W F' H' ((p4, .dK vs5_0) :: (nz as5_1 vs5_1 ++ os)) ∧ AD kK (RX as5_1) vs5_0 g5.1 ∧ [] <+: as5_1 ∧ Sto K F' as5_1 vs5_1 g5.2) ⟨_, _, _, _, _, _, _, rfl, Same.refl _, w4, h4, pfx_refl, hr_g⟩ (fun g σ H' hI => by obtain ⟨F', _, _, _, _, _, _, _, s, w, _⟩ := hI; exact SqL.of (w.same _ _ (s _ _ q2))) ?_ ?_
    · -- a turn
      intro b5 g5 x5 σ5 H5 H5' N5 P5 hI hy hN5 hm
      obtain ⟨F5, vs5_0, as5_1, vs5_1, o5_4, o5_5, o5_3, rfl, s5, w5, h5_0, p5_1, h5_1⟩ := hI
      replace h1 := A2.mono s5 h1
      replace q1 := s5 _ _ q1
      replace h2 := A2.mono s5 h2
      replace q2 := s5 _ _ q2
      replace sF := sF.trans s5
      obtain ⟨rfl, r6⟩ := hy
      obtain rfl : x5 = V.int b5 := r6
      refine ⟨_, rfl, _, rfl, _, _, _, (x_near : (List (List Int))), _, rfl, w5, (rep_lst q1 h1), ?_⟩
      refine (post_bind hm).mono (fun y7 hm v7 F7 H7 w7 s7 r7 => ?_) (fun _ z => z)
      replace h1 := A2.mono s7 h1
      replace q1 := s7 _ _ q1
      replace h2 := A2.mono s7 h2
      replace q2 := s7 _ _ q2
      replace h5_1 := Sto.mono s7 h5_1
      replace sF := sF.trans s7
      obtain ⟨a8, u8, z8, rfl, q8, r8a, r8b⟩ := r7
      obtain rfl : u8 = V.int y7.1 := r8a
      obtain ⟨a9, vs9, rfl, q9, h9⟩ := r8b
      refine ⟨_, _, rfl, SqT.of (w7.same _ _ q8), rfl, _, _, rfl, _, _, rfl, rfl, ?_⟩
      try dsimp only
      refine joinS hm (fun (g10 : (List (Int × Ix)) × (List (List (List Int)))) σ H' => ∃ (F' : Hp) (vs10_0 : List (Key × V)) (as10_1 : List Addr) (vs10_1 : List (List V)), σ = [some (.ref a1), some (.ref a2), some (.ref p4), some (.int b5), some (.int y7.1), some (.ref a9)] ∧ Same F7 F' ∧ W F' H' ((p4, .dK vs10_0) :: (nz as10_1 vs10_1 ++ os)) ∧ AD kK (RX as10_1) vs10_0 g10.1 ∧ as5_1 <+: as10_1 ∧ Sto K F' as10_1 vs10_1 g10.2) ?_ ?_
      · intro N10 P10 hN10 hm
        refine ⟨_, rfl, _, rfl, _, _, _, rfl, dgetI (n := y7.1) (w7.get (pre := [])), AD.no kK_inj h5_0, _, rfl, ?_⟩
        refine post_ite hm (fun k11 hm => ?_) (fun k11 hm => ?_)
        · skip
          have h12 : A2 (rep K F7) [] ([] : (List (List Int))) := .nil
          refine ⟨(by show 0 ≤ sizeLine; decide), fun p13 n13 => ?_⟩
          have w13 : W F7 _ ((p13, .lst []) :: (p4, .dK vs5_0) :: (nz as5_1 vs5_1 ++ os)) := w7.new n13
          obtain ⟨j14, st14, ej14, es14, hm⟩ := pn_newS hm
          have w14 : W F7 _ ((p4, .dK vs5_0) :: (nz (as5_1 ++ [p13]) (vs5_1 ++ [[]]) ++ os)) := w13.nadd (pre := [_]) h5_1.len
          have q14 : (as5_1 ++ [p13])[j14]? = some p13 := IQ.new (h5_1.len2.trans ej14.symm)
          have h14 : Sto K F7 (as5_1 ++ [p13]) (vs5_1 ++ [[]]) st14 := es14 ▸ Sto.snoc (p := p13) h5_1 h12
          replace h5_0 := AD.imp (fun _ _ => RX.mono (pfx_snoc (p := p13))) h5_0
          obtain ⟨l15, z15, e15, hm⟩ := pn_mput hm
          refine ⟨_, rfl, _, rfl, _, _, rfl, dputI (n := y7.1) (v := (.ref p13)) (w14.get (pre := [])) h5_0 z15, ?_⟩
          have h15 : AD kK (RX (as5_1 ++ [p13])) (putK vs5_0 (kK y7.1) (.ref p13)) l15 := e15 ▸ AD.put kK_inj h5_0 ⟨_, rfl, q14⟩
          have w16 : W F7 _ ((p4, .dK (putK vs5_0 (kK y7.1) (.ref p13))) :: (nz (as5_1 ++ [p13]) (vs5_1 ++ [[]]) ++ os)) := w14.set (pre := [])
          exact hN10 _ (post_ok hm) _ _ ⟨_, _, _, _, rfl, Same.refl _, w16, h15, (pfx_snoc (p := p13)), h14⟩
        · skip
          exact hN10 _ (post_ok hm) _ _ ⟨_, _, _, _, rfl, Same.refl _, w7, h5_0, pfx_refl, h5_1⟩
      intro g10 σ10 H10 hI hm
      obtain ⟨F10, vs10_0, as10_1, vs10_1, rfl, s10, w10, h10_0, p10_1, h10_1⟩ := hI
      replace h1 := A2.mono s10 h1
      replace q1 := s10 _ _ q1
      replace h2 := A2.mono s10 h2
      replace q2 := s10 _ _ q2
      replace h9 := A2.mono s10 h9
      replace q9 := s10 _ _ q9
      replace sF := sF.trans s10
      obtain ⟨t17, e17, hm⟩ := pb_mget hm
      obtain ⟨u17, f17, r17⟩ := AD.get kK_inj h10_0 e17
      obtain ⟨a18, rfl, q18⟩ := r17
      obtain ⟨x19, e19, hm⟩ := pb_getS hm
      obtain ⟨vs19, i19, h19⟩ := Sto.getq h10_1 e19 q18
      obtain ⟨l20, z20, e20, hm⟩ := pn_app hm
      obtain ⟨st20, es20, hm⟩ := pn_setS hm
      refine ⟨_, rfl, _, rfl, _, _, rfl, dgetsI (w10.get (pre := [])) f17, .inl ⟨rfl, _, SqL.of (W.nget (pre := [_]) w10 q18 i19)⟩, _, rfl, _, _, _, rfl, rfl, (W.nget (pre := [_]) w10 q18 i19), (A2.lt h19 z20), ?_⟩
      have h20 : Sto K F10 as10_1 (vs10_1.set t17 (vs19 ++ [(.ref a9)])) st20 := es20 ▸ Sto.set h10_1 (e20 ▸ A2.snoc h19 (rep_lst q9 h9))
      have w20 : W F10 _ ((p4, .dK vs10_0) :: (nz as10_1 (vs10_1.set t17 (vs19 ++ [(.ref a9)])) ++ os)) := w10.nset (pre := [_]) (vs19 ++ [(.ref a9)]) q18 i19
      exact hN5 _ (post_ok hm) _ _ ⟨_, _, _, _, _, _, _, rfl, (s5.trans (s7.trans s10)), w20, h10_0, (pfx_trans p5_1 p10_1), h20⟩
    intro g5 σ5 H5 hI hm
    obtain ⟨F5, vs5_0, as5_1, vs5_1, o5_4, o5_5, o5_3, rfl, s5, w5, h5_0, p5_1, h5_1⟩ := hI
    replace h1 := A2.mono s5 h1
    replace q1 := s5 _ _ q1
    replace h2 := A2.mono s5 h2
    replace q2 := s5 _ _ q2
    replace sF := sF.trans s5
    exact ⟨_, rfl, (post_ok hm) _ _ _ _ _ _ w5 sF h5_0 h5_1⟩
def sp_lots_of (K : Fg) : Sp := fun vs H Q E => ∃ (F : Hp) (os : List (Addr × HO)) (v_web : V) (x_web : (Int × (Tup (Int × Int)))) (x_kind : Str), vs = [v_web, .str x_kind] ∧ W F H (os) ∧ rep K F v_web x_web ∧ Post (lots_of x_web x_kind) (Ret K F os Q) noX
theorem sc_lots_of : FnScope ["web", "kind", "near", "ends", "place", "legs"] ["web", "kind"] (defScope s_lots_of) := ⟨rfl, rfl, rfl, by decide +kernel, rfl, by decide +kernel, by decide +kernel⟩
theorem ok_lots_of (T : Tx K mg A FD) : FnOk P w K mg base CX0 3 (A 26) (FD 26) ["web", "kind"] (sp_lots_of K) := by
  refine T.d26.fn.ok sc_lots_of (fun vs H Q E h => ?_) (fun cdv Ar outer s H vs Q E hr h => ?_)
  · obtain ⟨F, os, v_web, x_web, x_kind, rfl, _⟩ := h
    rfl
  · obtain ⟨F0, os, v_web, x_web, x_kind, rfl, w0, r_web, hm⟩ := h
    have sF : Same F0 F0 := Same.refl _
    obtain ⟨a1, u1, z1, rfl, q1, r1a, r1b⟩ := r_web
    obtain rfl : u1 = V.int x_web.1 := r1a
    obtain ⟨a2, vs2, rfl, q2, h2⟩ := r1b
    refine ⟨_, (pss_cons (ps_set (i := 2) sc_lots_of.nd rfl (Or.inr rfl) (pe_lc (own := [("place", 4)]) (g := gName 4) (by rfl) sc_lots_of.nd (pi_range1 (by rfl) T.n_range (pa_cons (pe_ix (ix_tupK (K := K) rfl) (pv 0) pe_int (fun _ _ => rfl)) pa_nil)) (blkOk_by (own := [("place", 4)]) (N := ["web", "kind", "near", "ends", "place", "legs"]) (sc := defScope s_lots_of) (by decide +kernel)) (fun _ _ _ _ _ => (pg_name (i := 4) sc_lots_of.nd rfl (Or.inl rfl))) (fun _ _ _ _ _ => pts_nil) (fun _ _ _ _ _ => (pe_call (ok_neighbours_of T) (hr.mono (by decide)) (by rfl) T.d10.mg T.d10.fn.kp T.d10.b .nil pass0 (pa_cons (pv 0) (pa_cons (pv 4) pa_nil)))))) (pss_cons (ps_setLc (i := 3) (own := [("place", 4)]) (g := gName 4) (by rfl) sc_lots_of.nd rfl rfl (sw_true rfl rfl rfl (by decide +kernel)) (pi_range1 (by rfl) T.n_range (pa_cons (pe_ix (ix_tupK (K := K) rfl) (pv 0) pe_int (fun _ _ => rfl)) pa_nil)) (blkOk_by (own := [("place", 4)]) (N := ["web", "kind", "near", "ends", "place", "legs"]) (sc := defScope s_lots_of) (by decide +kernel)) (fun _ _ _ _ _ => (pg_name (i := 4) sc_lots_of.nd rfl (Or.inl rfl))) (fun _ _ _ _ _ => (pts_one (pt_cmp (pc_eqI (pe_callB (call_lenN (K := K) rfl) (by rfl) T.n_len (by decide +kernel) (pa_cons (pe_ix (ix_listK (K := K) rfl) (pv 2) (pv 4) (fun _ _ => rfl)) pa_nil)) pe_int)))) (fun _ _ _ _ _ => (pv 4))) (pss_cons (ps_if (PW.pt (pw_or (pt_cmp (pc_eqI (pe_ix (ix_tupK (K := K) rfl) (pv 0) pe_int (fun _ _ => rfl)) pe_int)) (pw_or1 (PW.pt (pw_and (pt_cmp (pc_eqI (pe_ix (ix_tupK (K := K) rfl) (pv 0) pe_int (fun _ _ => rfl)) pe_int)) (pw_and1 (pt_cmpR op_eqS (pv 1) pe_str (nomark _)))))))) (pss_one (ps_ret (pe_lst pa_nil))) pss_nil) (pss_cons (ps_if (pt_cmpR op_eqS (pv 1) pe_str (nomark _)) (pss_one (ps_ret (pe_lst (pa_cons (pe_tup (pa_cons (pe_lc (own := [("place", 4)]) (g := gName 4) (by rfl) sc_lots_of.nd (pi_listK (K := K) rfl (pv 3)) (blkOk_by (own := [("place", 4)]) (N := ["web", "kind", "near", "ends", "place", "legs"]) (sc := defScope s_lots_of) (by decide +kernel)) (fun _ _ _ _ _ => (pg_name (i := 4) sc_lots_of.nd rfl (Or.inl rfl))) (fun _ _ _ _ _ => pts_nil) (fun _ _ _ _ _ => (pe_lst (pa_cons (pv 4) pa_nil)))) (pa_cons pe_int pa_nil))) pa_nil)))) pss_nil) (pss_cons (ps_if (pt_cmp (pc_eqI (pe_callB (call_lenN (K := K) rfl) (by rfl) T.n_len (by decide +kernel) (pa_cons (pv 3) pa_nil)) pe_int)) (pss_one (ps_ret (pe_lst (pa_cons (pe_tup (pa_cons (pe_lc (own := [("place", 4)]) (g := gName 4) (by rfl) sc_lots_of.nd (pi_listK (K := K) rfl (pv 3)) (blkOk_by (own := [("place", 4)]) (N := ["web", "kind", "near", "ends", "place", "legs"]) (sc := defScope s_lots_of) (by decide +kernel)) (fun _ _ _ _ _ => (pg_name (i := 4) sc_lots_of.nd rfl (Or.inl rfl))) (fun _ _ _ _ _ => pts_nil) (fun _ _ _ _ _ => (pe_lst (pa_cons (pv 4) pa_nil)))) (pa_cons pe_int pa_nil))) pa_nil)))) pss_nil) (pss_one (ps_ret (pe_lc (own := [("legs", 5)]) (g := gName 5) (by rfl) sc_lots_of.nd (pi_valuesKF (pe_call (ok_legs_by_fork T) (hr.mono (by decide)) (by rfl) T.d25.mg T.d25.fn.kp T.d25.b .nil pass0 (pa_cons (pv 2) (pa_cons (pv 3) pa_nil)))) (blkOk_by (own := [("legs", 5)]) (N := ["web", "kind", "near", "ends", "place", "legs"]) (sc := defScope s_lots_of) (by decide +kernel)) (fun _ _ _ _ _ => (pg_name (i := 5) sc_lots_of.nd rfl (Or.inl rfl))) (fun _ _ _ _ _ => pts_nil) (fun _ _ _ _ _ => (pe_tup (pa_cons (pv 5) (pa_cons pe_int pa_nil)))))))))))), ?_⟩
    obtain ⟨c3, hm⟩ := pb_rng hm
    refine ⟨_, rfl, _, _, _, _, rfl, rfl, SqT.of (w0.same _ _ q1), rfl, _, rfl, c3.2.2.1, c3.2.2.2, fun D4 nD4 => ?_⟩
    refine lcM (K := K) (tw_rng0 (j := x_web.1)) hm w0 nD4 (fun F' H' acc s w => trivial) ?_ ?_
    · -- one turn
      intro b4 x4 F4 H4 H4' acc4 N4 P4 s4 w4 y4 hN4 hm
      replace q1 := s4 _ _ q1
      replace q2 := s4 _ _ q2
      replace h2 := A2.mono s4 h2
      replace sF := sF.trans s4
      obtain ⟨rfl, rfl⟩ := y4
      refine ⟨rfl, _, rfl, _, rfl, _, _, _, (x_web : (Int × (Tup (Int × Int)))), _, rfl, w4, (rep_pair q1 rep_i (rep_tup q2 h2)), ?_⟩
      refine (post_bind hm).mono (fun y6 hm v6 F6 H6 w6 s6 r6 => ?_) (fun _ z => z)
      replace q1 := s6 _ _ q1
      replace q2 := s6 _ _ q2
      replace h2 := A2.mono s6 h2
      replace sF := sF.trans s6
      obtain ⟨a7, vs7, rfl, q7, h7⟩ := r6
      exact hN4 _ (post_ok hm) _ _ _ w6 s6 (rep_lst q7 h7)
    intro us4 F4 H4 ys4 s4 w4 gg4 hm
    replace q1 := s4 _ _ q1
    replace q2 := s4 _ _ q2
    replace h2 := A2.mono s4 h2
    replace sF := sF.trans s4
    obtain ⟨F9, s9, w9, q9⟩ : ∃ F', Same F4 F' ∧ W F' _ (os) ∧ F' D4 = some (.lst us4) := w4.freezeE (pre := [])
    replace q1 := s9 _ _ q1
    replace q2 := s9 _ _ q2
    replace h2 := A2.mono s9 h2
    replace gg4 := A2.mono s9 gg4
    replace sF := sF.trans s9
    obtain ⟨c10, hm⟩ := pb_rng hm
    refine ⟨_, rfl, _, _, _, _, rfl, rfl, SqT.of (w9.same _ _ q1), rfl, _, rfl, c10.2.2.1, c10.2.2.2, fun D11 nD11 => ?_⟩
    refine lcF (K := K) (tw_rng0 (j := x_web.1)) hm w9 nD11 (fun F' H' acc s w => trivial) ?_ ?_
    · -- one turn
      intro b11 x11 F11 H11 H11' acc11 N11 M11 P11 s11 w11 y11 hN11 hM11 hm
      replace q1 := s11 _ _ q1
      replace h2 := A2.mono s11 h2
      replace q2 := s11 _ _ q2
      replace gg4 := A2.mono s11 gg4
      replace q9 := s11 _ _ q9
      replace sF := sF.trans s11
      obtain ⟨rfl, rfl⟩ := y11
      obtain ⟨t13, e13, hm⟩ := pb_get hm
      obtain ⟨u13, f13, r13⟩ := A2.at gg4 e13
      obtain ⟨a14, vs14, rfl, q14, h14⟩ := r13
      refine ⟨rfl, _, rfl, _, rfl, _, _, _, _, rfl, rfl, SqL.of (w11.same _ _ q9), f13, _, _, _, rfl, .inl (SqL.of (w11.same _ _ q14)), h14.length, _, _, rfl, rfl, _, rfl, ?_⟩
      refine post_ite hm (fun k15 hm => ?_) (fun k15 hm => ?_)
      · skip
        exact ⟨_, rfl, hN11 _ (post_ok hm) _ _ _ w11 (Same.refl _) rep_i⟩
      · skip
        exact hM11 (post_ok hm) _ _ w11 (Same.refl _)
    intro us11 F11 H11 ys11 s11 w11 gg11 hm
    replace q1 := s11 _ _ q1
    replace h2 := A2.mono s11 h2
    replace q2 := s11 _ _ q2
    replace gg4 := A2.mono s11 gg4
    replace q9 := s11 _ _ q9
    replace sF := sF.trans s11
    obtain ⟨F17, s17, w17, q17⟩ : ∃ F', Same F11 F' ∧ W F' _ (os) ∧ F' D11 = some (.lst us11) := w11.freezeE (pre := [])
    replace q1 := s17 _ _ q1
    replace h2 := A2.mono s17 h2
    replace q2 := s17 _ _ q2
    replace gg4 := A2.mono s17 gg4
    replace q9 := s17 _ _ q9
    replace gg11 := A2.mono s17 gg11
    replace sF := sF.trans s17
    refine stepN ?_
    try dsimp only
    refine stepSeq (stepIf ?_)
    refine cutT (fun c H' => c = (((decide (x_web.1 = (1 : Int))) || ((decide (x_web.1 = (2 : Int))) && (decide (x_kind = ("ties" : Str)))))) ∧ ∃ F', Same F17 F' ∧ W F' H' (os)) (fun Q18 q18 => ?_) (fun c18 H18 hc18 => ?_)
    · -- the ways
      refine ⟨_, rfl, _, _, _, _, rfl, rfl, SqT.of (w17.same _ _ q1), rfl, _, _, rfl, rfl, _, rfl, ?_⟩
      refine ifB (fun k19 => ?_) (fun k19 => ?_)
      · skip
        exact q18 _ _ ⟨(by first | rfl | (simp [k19]; done) | ((try simp only [Bool.not_eq_true] at k19); simp only [k19, Bool.true_or, Bool.false_or, Bool.or_false, Bool.or_true, Bool.true_and, Bool.false_and, Bool.and_true, Bool.and_false])), _, Same.refl _, w17⟩
      · skip
        refine cutT (fun c H' => c = (((decide (x_web.1 = (2 : Int))) && (decide (x_kind = ("ties" : Str))))) ∧ ∃ F', Same F17 F' ∧ W F' H' (os)) (fun Q21 q21 => ?_) (fun c21 H21 hc21 => ?_)
        · -- the ways
          refine ⟨_, rfl, _, _, _, _, rfl, rfl, SqT.of (w17.same _ _ q1), rfl, _, _, rfl, rfl, _, rfl, ?_⟩
          refine ifB (fun k22 => ?_) (fun k22 => ?_)
          · skip
            exact ⟨_, rfl, _, _, rfl, rfl, _, rfl, q21 _ _ ⟨(by first | rfl | (simp [k22]; done) | ((try simp only [Bool.not_eq_true] at k22); simp only [k22, Bool.true_or, Bool.false_or, Bool.or_false, Bool.or_true, Bool.true_and, Bool.false_and, Bool.and_true, Bool.and_false])), _, Same.refl _, w17⟩⟩
          · skip
            exact q21 _ _ ⟨(by first | rfl | (simp [k22]; done) | ((try simp only [Bool.not_eq_true] at k22); simp only [k22, Bool.true_or, Bool.false_or, Bool.or_false, Bool.or_true, Bool.true_and, Bool.false_and, Bool.and_true, Bool.and_false])), _, Same.refl _, w17⟩
        obtain ⟨rfl, F21, s21, w21⟩ := hc21
        replace q1 := s21 _ _ q1
        replace h2 := A2.mono s21 h2
        replace q2 := s21 _ _ q2
        replace gg4 := A2.mono s21 gg4
        replace q9 := s21 _ _ q9
        replace gg11 := A2.mono s21 gg11
        replace q17 := s21 _ _ q17
        replace sF := sF.trans s21
        exact q18 _ _ ⟨(by first | rfl | (simp [k19]; done) | ((try simp only [Bool.not_eq_true] at k19); simp only [k19, Bool.true_or, Bool.false_or, Bool.or_false, Bool.or_true, Bool.true_and, Bool.false_and, Bool.and_true, Bool.and_false])), _, s21, w21⟩
    obtain ⟨rfl, F18, s18, w18⟩ := hc18
    replace q1 := s18 _ _ q1
    replace h2 := A2.mono s18 h2
    replace q2 := s18 _ _ q2
    replace gg4 := A2.mono s18 gg4
    replace q9 := s18 _ _ q9
    replace gg11 := A2.mono s18 gg11
    replace q17 := s18 _ _ q17
    replace sF := sF.trans s18
    refine post_ite hm (fun k26 hm => ?_) (fun k26 hm => ?_)
    · skip
      have h27 : A2 (rep K F18) [] ([] : (List ((List (List Int)) × Int))) := .nil
      refine ⟨(by show 0 ≤ sizeLine; decide), fun p28 n28 => ?_⟩
      have w28 : W F18 _ ((p28, .lst []) :: os) := w18.new n28
      obtain ⟨F29, s29, w29, q29⟩ : ∃ F', Same F18 F' ∧ W F' _ (os) ∧ F' p28 = some (.lst []) := w28.freezeE (pre := [])
      replace q1 := s29 _ _ q1
      replace h2 := A2.mono s29 h2
      replace q2 := s29 _ _ q2
      replace gg4 := A2.mono s29 gg4
      replace q9 := s29 _ _ q9
      replace gg11 := A2.mono s29 gg11
      replace q17 := s29 _ _ q17
      replace h27 := A2.mono s29 h27
      replace sF := sF.trans s29
      exact (post_ok hm) _ _ _ w29 sF (rep_lst q29 h27)
    · skip
      refine ⟨_, rfl, _, _, rfl, rfl, _, rfl, ?_⟩
      refine post_ite hm (fun k30 hm => ?_) (fun k30 hm => ?_)
      · skip
        refine ⟨_, rfl, _, rfl, ⟨_, SqL.of (w18.same _ _ q17)⟩, fun D31 nD31 => ?_⟩
        refine lcM (K := K) (tw_list (a := D11) gg11) hm w18 nD31 (fun F' H' acc s w => SqL.of (w.same _ _ (s _ _ q17))) ?_ ?_
        · -- one turn
          intro b31 x31 F31 H31 H31' acc31 N31 P31 s31 w31 y31 hN31 hm
          replace q1 := s31 _ _ q1
          replace h2 := A2.mono s31 h2
          replace q2 := s31 _ _ q2
          replace gg4 := A2.mono s31 gg4
          replace q9 := s31 _ _ q9
          replace gg11 := A2.mono s31 gg11
          replace q17 := s31 _ _ q17
          replace sF := sF.trans s31
          obtain ⟨rfl, r33⟩ := y31
          obtain rfl : x31 = V.int b31 := r33
          have h34 : A2 (rep K F31) [(.int b31)] ([b31] : (List Int)) := .cons rep_i (.nil)
          refine ⟨rfl, _, rfl, (by show 1 ≤ sizeLine; decide), fun p35 n35 => ?_⟩
          have w35 : W F31 _ ((p35, .lst [(.int b31)]) :: (D31, .lst acc31) :: os) := w31.new n35
          obtain ⟨F36, s36, w36, q36⟩ : ∃ F', Same F31 F' ∧ W F' _ ((D31, .lst acc31) :: os) ∧ F' p35 = some (.lst [(.int b31)]) := w35.freezeE (pre := [])
          replace q1 := s36 _ _ q1
          replace h2 := A2.mono s36 h2
          replace q2 := s36 _ _ q2
          replace gg4 := A2.mono s36 gg4
          replace q9 := s36 _ _ q9
          replace gg11 := A2.mono s36 gg11
          replace q17 := s36 _ _ q17
          replace h34 := A2.mono s36 h34
          replace sF := sF.trans s36
          exact hN31 _ (post_ok hm) _ _ _ w36 s36 (rep_lst q36 h34)
        intro us31 F31 H31 ys31 s31 w31 gg31 hm
        replace q1 := s31 _ _ q1
        replace h2 := A2.mono s31 h2
        replace q2 := s31 _ _ q2
        replace gg4 := A2.mono s31 gg4
        replace q9 := s31 _ _ q9
        replace gg11 := A2.mono s31 gg11
        replace q17 := s31 _ _ q17
        replace sF := sF.trans s31
        obtain ⟨F38, s38, w38, q38⟩ : ∃ F', Same F31 F' ∧ W F' _ (os) ∧ F' D31 = some (.lst us31) := w31.freezeE (pre := [])
        replace q1 := s38 _ _ q1
        replace h2 := A2.mono s38 h2
        replace q2 := s38 _ _ q2
        replace gg4 := A2.mono s38 gg4
        replace q9 := s38 _ _ q9
        replace gg11 := A2.mono s38 gg11
        replace q17 := s38 _ _ q17
        replace gg31 := A2.mono s38 gg31
        replace sF := sF.trans s38
        refine ⟨(by show 2 ≤ sizeLine; decide), fun p39 n39 => ?_⟩
        obtain ⟨F39, s39, w39, q39⟩ := w38.frzE (o := .tup [(.ref D31), (.int 0)]) n39
        replace q1 := s39 _ _ q1
        replace h2 := A2.mono s39 h2
        replace q2 := s39 _ _ q2
        replace gg4 := A2.mono s39 gg4
        replace q9 := s39 _ _ q9
        replace gg11 := A2.mono s39 gg11
        replace q17 := s39 _ _ q17
        replace gg31 := A2.mono s39 gg31
        replace q38 := s39 _ _ q38
        replace sF := sF.trans s39
        have h40 : A2 (rep K F39) [(.ref p39)] ([(ys31, (0 : Int))] : (List ((List (List Int)) × Int))) := .cons (rep_pair q39 (rep_lst q38 gg31) rep_i) (.nil)
        refine ⟨(by show 1 ≤ sizeLine; decide), fun p41 n41 => ?_⟩
        have w41 : W F39 _ ((p41, .lst [(.ref p39)]) :: os) := w39.new n41
        obtain ⟨F42, s42, w42, q42⟩ : ∃ F', Same F39 F' ∧ W F' _ (os) ∧ F' p41 = some (.lst [(.ref p39)]) := w41.freezeE (pre := [])
        replace q1 := s42 _ _ q1
        replace h2 := A2.mono s42 h2
        replace q2 := s42 _ _ q2
        replace gg4 := A2.mono s42 gg4
        replace q9 := s42 _ _ q9
        replace gg11 := A2.mono s42 gg11
        replace q17 := s42 _ _ q17
        replace gg31 := A2.mono s42 gg31
        replace q38 := s42 _ _ q38
        replace q39 := s42 _ _ q39
        replace h40 := A2.mono s42 h40
        replace sF := sF.trans s42
        exact (post_ok hm) _ _ _ w42 sF (rep_lst q42 h40)
      · skip
        refine ⟨_, rfl, _, _, _, rfl, .inl (SqL.of (w18.same _ _ q17)), gg11.length, _, _, rfl, rfl, _, rfl, ?_⟩
        refine post_ite hm (fun k43 hm => ?_) (fun k43 hm => ?_)
        · skip
          refine ⟨_, rfl, _, rfl, ⟨_, SqL.of (w18.same _ _ q17)⟩, fun D44 nD44 => ?_⟩
          refine lcM (K := K) (tw_list (a := D11) gg11) hm w18 nD44 (fun F' H' acc s w => SqL.of (w.same _ _ (s _ _ q17))) ?_ ?_
          · -- one turn
            intro b44 x44 F44 H44 H44' acc44 N44 P44 s44 w44 y44 hN44 hm
            replace q1 := s44 _ _ q1
            replace h2 := A2.mono s44 h2
            replace q2 := s44 _ _ q2
            replace gg4 := A2.mono s44 gg4
            replace q9 := s44 _ _ q9
            replace gg11 := A2.mono s44 gg11
            replace q17 := s44 _ _ q17
            replace sF := sF.trans s44
            obtain ⟨rfl, r46⟩ := y44
            obtain rfl : x44 = V.int b44 := r46
            have h47 : A2 (rep K F44) [(.int b44)] ([b44] : (List Int)) := .cons rep_i (.nil)
            refine ⟨rfl, _, rfl, (by show 1 ≤ sizeLine; decide), fun p48 n48 => ?_⟩
            have w48 : W F44 _ ((p48, .lst [(.int b44)]) :: (D44, .lst acc44) :: os) := w44.new n48
            obtain ⟨F49, s49, w49, q49⟩ : ∃ F', Same F44 F' ∧ W F' _ ((D44, .lst acc44) :: os) ∧ F' p48 = some (.lst [(.int b44)]) := w48.freezeE (pre := [])
            replace q1 := s49 _ _ q1
            replace h2 := A2.mono s49 h2
            replace q2 := s49 _ _ q2
            replace gg4 := A2.mono s49 gg4
            replace q9 := s49 _ _ q9
            replace gg11 := A2.mono s49 gg11
            replace q17 := s49 _ _ q17
            replace h47 := A2.mono s49 h47
            replace sF := sF.trans s49
            exact hN44 _ (post_ok hm) _ _ _ w49 s49 (rep_lst q49 h47)
          intro us44 F44 H44 ys44 s44 w44 gg44 hm
          replace q1 := s44 _ _ q1
          replace h2 := A2.mono s44 h2
          replace q2 := s44 _ _ q2
          replace gg4 := A2.mono s44 gg4
          replace q9 := s44 _ _ q9
          replace gg11 := A2.mono s44 gg11
          replace q17 := s44 _ _ q17
          replace sF := sF.trans s44
          obtain ⟨F51, s51, w51, q51⟩ : ∃ F', Same F44 F' ∧ W F' _ (os) ∧ F' D44 = some (.lst us44) := w44.freezeE (pre := [])
          replace q1 := s51 _ _ q1
          replace h2 := A2.mono s51 h2
          replace q2 := s51 _ _ q2
          replace gg4 := A2.mono s51 gg4
          replace q9 := s51 _ _ q9
          replace gg11 := A2.mono s51 gg11
          replace q17 := s51 _ _ q17
          replace gg44 := A2.mono s51 gg44
          replace sF := sF.trans s51
          refine ⟨(by show 2 ≤ sizeLine; decide), fun p52 n52 => ?_⟩
          obtain ⟨F52, s52, w52, q52⟩ := w51.frzE (o := .tup [(.ref D44), (.int 1)]) n52
          replace q1 := s52 _ _ q1
          replace h2 := A2.mono s52 h2
          replace q2 := s52 _ _ q2
          replace gg4 := A2.mono s52 gg4
          replace q9 := s52 _ _ q9
          replace gg11 := A2.mono s52 gg11
          replace q17 := s52 _ _ q17
          replace gg44 := A2.mono s52 gg44
          replace q51 := s52 _ _ q51
          replace sF := sF.trans s52
          have h53 : A2 (rep K F52) [(.ref p52)] ([(ys44, (1 : Int))] : (List ((List (List Int)) × Int))) := .cons (rep_pair q52 (rep_lst q51 gg44) rep_i) (.nil)
          refine ⟨(by show 1 ≤ sizeLine; decide), fun p54 n54 => ?_⟩
          have w54 : W F52 _ ((p54, .lst [(.ref p52)]) :: os) := w52.new n54
          obtain ⟨F55, s55, w55, q55⟩ : ∃ F', Same F52 F' ∧ W F' _ (os) ∧ F' p54 = some (.lst [(.ref p52)]) := w54.freezeE (pre := [])
          replace q1 := s55 _ _ q1
          replace h2 := A2.mono s55 h2
          replace q2 := s55 _ _ q2
          replace gg4 := A2.mono s55 gg4
          replace q9 := s55 _ _ q9
          replace gg11 := A2.mono s55 gg11
          replace q17 := s55 _ _ q17
          replace gg44 := A2.mono s55 gg44
          replace q51 := s55 _ _ q51
          replace q52 := s55 _ _ q52
          replace h53 := A2.mono s55 h53
          replace sF := sF.trans s55
          exact (post_ok hm) _ _ _ w55 sF (rep_lst q55 h53)
        · skip
          refine ⟨_, rfl, _, rfl, _, _, _, (ys4 : (List (List Int))), _, (ys11 : (List Int)), rfl, w18, (rep_lst q9 gg4), (rep_lst q17 gg11), ?_⟩
          refine (post_bind hm).mono (fun y56 hm p56 us56 as56 vss56 F56 H56 w56 s56 g56 gs56 => ?_) (fun _ z => z)
          replace q1 := s56 _ _ q1
          replace h2 := A2.mono s56 h2
          replace q2 := s56 _ _ q2
          replace gg4 := A2.mono s56 gg4
          replace q9 := s56 _ _ q9
          replace gg11 := A2.mono s56 gg11
          replace q17 := s56 _ _ q17
          replace sF := sF.trans s56
          have w59 : W F56 _ ((p56, .dK us56) :: (nz as56 vss56 ++ os)) := w56.nback (pre := [])
          obtain ⟨m60, e60, hm⟩ := pb_derefD hm
          obtain ⟨F60, s60, w60, f60⟩ : ∃ F', Same F56 F' ∧ W F' _ ((p56, .dK us56) :: os) ∧ ∀ (j : Nat) (a : Addr) (vs : List V), as56[j]? = some a → vss56[j]? = some vs → F' a = some (.lst vs) := W.nfreeze (pre := [_]) w59
          have h60 : AD kK (rep K F60) us56 m60 := derefD_rep gs56 f60 s60 g56 e60
          replace q1 := s60 _ _ q1
          replace h2 := A2.mono s60 h2
          replace q2 := s60 _ _ q2
          replace gg4 := A2.mono s60 gg4
          replace q9 := s60 _ _ q9
          replace gg11 := A2.mono s60 gg11
          replace q17 := s60 _ _ q17
          replace sF := sF.trans s60
          refine ⟨_, _, rfl, (w60.get (pre := [])), fun od61 => ?_⟩
          have w61 : W F60 _ ((p56, (.frz od61 (.dK us56))) :: os) := w60.set (pre := [])
          refine fun D62 nD62 => ?_
          refine lcM (K := K) (tw_valsK (d := p56) (o := od61) h60) hm w61 nD62 (fun F' H' acc s w => w.get (pre := [_])) ?_ ?_
          · -- one turn
            intro b62 x62 F62 H62 H62' acc62 N62 P62 s62 w62 y62 hN62 hm
            replace q1 := s62 _ _ q1
            replace h2 := A2.mono s62 h2
            replace q2 := s62 _ _ q2
            replace gg4 := A2.mono s62 gg4
            replace q9 := s62 _ _ q9
            replace gg11 := A2.mono s62 gg11
            replace q17 := s62 _ _ q17
            replace sF := sF.trans s62
            obtain ⟨rfl, r64⟩ := y62
            replace r64 := Rep.mono s62 r64
            obtain ⟨a65, vs65, rfl, q65, h65⟩ := r64
            refine ⟨rfl, _, rfl, (by show 2 ≤ sizeLine; decide), fun p66 n66 => ?_⟩
            obtain ⟨F66, s66, w66, q66⟩ := w62.frzE (o := .tup [(.ref a65), (.int 1)]) n66
            replace q1 := s66 _ _ q1
            replace h2 := A2.mono s66 h2
            replace q2 := s66 _ _ q2
            replace gg4 := A2.mono s66 gg4
            replace q9 := s66 _ _ q9
            replace gg11 := A2.mono s66 gg11
            replace q17 := s66 _ _ q17
            replace q65 := s66 _ _ q65
            replace h65 := A2.mono s66 h65
            replace sF := sF.trans s66
            exact hN62 _ (post_ok hm) _ _ _ w66 s66 (rep_pair q66 (rep_lst q65 h65) rep_i)
          intro us62 F62 H62 ys62 s62 w62 gg62 hm
          replace q1 := s62 _ _ q1
          replace h2 := A2.mono s62 h2
          replace q2 := s62 _ _ q2
          replace gg4 := A2.mono s62 gg4
          replace q9 := s62 _ _ q9
          replace gg11 := A2.mono s62 gg11
          replace q17 := s62 _ _ q17
          replace sF := sF.trans s62
          obtain ⟨F68, s68, w68, q68⟩ : ∃ F', Same F62 F' ∧ W F' _ ((p56, (.frz od61 (.dK us56))) :: os) ∧ F' D62 = some (.lst us62) := w62.freezeE (pre := [])
          replace q1 := s68 _ _ q1
          replace h2 := A2.mono s68 h2
          replace q2 := s68 _ _ q2
          replace gg4 := A2.mono s68 gg4
          replace q9 := s68 _ _ q9
          replace gg11 := A2.mono s68 gg11
          replace q17 := s68 _ _ q17
          replace gg62 := A2.mono s68 gg62
          replace sF := sF.trans s68
          have w69 : W F68 _ (os) := w68.drop (pre := [])
          exact (post_ok hm) _ _ _ w69 sF (rep_lst q68 gg62)
def sp_looks_by (K : Fg) : Sp := fun vs H Q E => ∃ (F : Hp) (os : List (Addr × HO)) (v_lots : V) (x_lots : (List ((List (List Int)) × Int))), vs = [v_lots] ∧ W F H (os) ∧ rep K F v_lots x_lots ∧ Post (looks_by x_lots) (Ret K F os Q) noX
theorem sc_looks_by : FnScope ["lots", "legs", "spare"] ["lots"] (defScope s_looks_by) := ⟨rfl, rfl, rfl, by decide +kernel, rfl, by decide +kernel, by decide +kernel⟩
theorem ok_looks_by (T : Tx K mg A FD) : FnOk P w K mg base CX0 1 (A 27) (FD 27) ["lots"] (sp_looks_by K) := by
  refine T.d27.fn.ok sc_looks_by (fun vs H Q E h => ?_) (fun cdv Ar outer s H vs Q E hr h => ?_)
  · obtain ⟨F, os, v_lots, x_lots, rfl, _⟩ := h
    rfl
  · obtain ⟨F0, os, v_lots, x_lots, rfl, w0, r_lots, hm⟩ := h
    have sF : Same F0 F0 := Same.refl _
    obtain ⟨a1, vs1, rfl, q1, h1⟩ := r_lots
    refine ⟨_, (pss_one (ps_ret (pe_callB (cr_sumK (K := K) rfl rfl) (by rfl) T.n_sum (by decide +kernel) (pa_cons (pe_lc (own := [("legs", 1), ("spare", 2)]) (g := _) (by rfl) sc_looks_by.nd (pi_listK (K := K) rfl (pv 0)) (blkOk_by (own := [("legs", 1), ("spare", 2)]) (N := ["lots", "legs", "spare"]) (sc := defScope s_looks_by) (by decide +kernel)) (fun _ _ _ _ _ => (pg_k (K := K) (t := fun K => gTup K 2 _) rfl (pg_tup (n := 2) rfl (pgs_cons (pg_name (i := 1) sc_looks_by.nd rfl (Or.inl rfl)) (pgs_cons (pg_name (i := 2) sc_looks_by.nd rfl (Or.inl rfl)) pgs_nil))))) (fun _ _ _ _ _ => pts_nil) (fun _ _ _ _ _ => (pe_op op_sub (pe_callB (call_lenN (K := K) rfl) (by rfl) T.n_len (by decide +kernel) (pa_cons (pv 1) pa_nil)) (pv 2)))) pa_nil)))), ?_⟩
    refine ⟨_, rfl, _, rfl, ⟨_, SqL.of (w0.same _ _ q1)⟩, fun D2 nD2 => ?_⟩
    refine lcM (K := K) (tw_list (a := a1) h1) hm w0 nD2 (fun F' H' acc s w => SqL.of (w.same _ _ (s _ _ q1))) ?_ ?_
    · -- one turn
      intro b2 x2 F2 H2 H2' acc2 N2 P2 s2 w2 y2 hN2 hm
      replace q1 := s2 _ _ q1
      replace h1 := A2.mono s2 h1
      replace sF := sF.trans s2
      obtain ⟨rfl, r4⟩ := y2
      replace r4 := Rep.mono s2 r4
      obtain ⟨a5, u5, z5, rfl, q5, r5a, r5b⟩ := r4
      obtain ⟨a6, vs6, rfl, q6, h6⟩ := r5a
      obtain rfl : z5 = V.int b2.2 := r5b
      exact ⟨_, _, rfl, SqT.of (w2.same _ _ q5), rfl, _, _, rfl, _, _, rfl, rfl, rfl, _, rfl, _, _, _, rfl, .inl (SqL.of (w2.same _ _ q6)), h6.length, _, rfl, _, _, rfl, rfl, hN2 _ (post_ok hm) _ _ _ w2 (Same.refl _) rep_i⟩
    intro us2 F2 H2 ys2 s2 w2 gg2 hm
    replace q1 := s2 _ _ q1
    replace h1 := A2.mono s2 h1
    replace sF := sF.trans s2
    have w8 : W F2 _ (os) := w2.drop (pre := [])
    exact ⟨_, _, rfl, ints_q (SqL.of (w2.get (pre := []))) gg2, (post_ok hm) _ _ _ w8 sF rep_i⟩
def sp_ways_of (K : Fg) : Sp := fun vs H Q E => ∃ (F : Hp) (os : List (Addr × HO)) (v_lot : V) (x_lot : ((List (List Int)) × Int)) (v_taken : V) (x_taken : (List Int)) (x_last : Int), vs = [v_lot, v_taken, .int x_last] ∧ W F H (os) ∧ rep K F v_lot x_lot ∧ rep K F v_taken x_taken ∧ Post (ways_of x_lot x_taken x_last) (Ret K F os Q) noX
theorem sc_ways_of : FnScope ["lot", "taken", "last", "legs", "spare", "ways", "leg", "mine", "free", "place"] ["lot", "taken", "last"] (defScope s_ways_of) := ⟨rfl, rfl, rfl, by decide +kernel, rfl, by decide +kernel, by decide +kernel⟩
theorem ok_ways_of (T : Tx K mg A FD) : FnOk P w K mg base CX0 1 (A 28) (FD 28) ["lot", "taken", "last"] (sp_ways_of K) := by
  refine T.d28.fn.ok sc_ways_of (fun vs H Q E h => ?_) (fun cdv Ar outer s H vs Q E hr h => ?_)
  · obtain ⟨F, os, v_lot, x_lot, v_taken, x_taken, x_last, rfl, _⟩ := h
    rfl
  · obtain ⟨F0, os, v_lot, x_lot, v_taken, x_taken, x_last, rfl, w0, r_lot, r_taken, hm⟩ := h
    have sF : Same F0 F0 := Same.refl _
    obtain ⟨a1, u1, z1, rfl, q1, r1a, r1b⟩ := r_lot
    obtain ⟨a2, vs2, rfl, q2, h2⟩ := r1a
    obtain rfl : z1 = V.int x_lot.2 := r1b
    obtain ⟨a3, vs3, rfl, q3, h3⟩ := r_taken
    refine ⟨_, (pss_cons (ps_asg (pv 0) (pg_k (K := K) (t := fun K => gTup K 2 _) rfl (pg_tup (n := 2) rfl (pgs_cons (pg_name (i := 3) sc_ways_of.nd rfl (Or.inl rfl)) (pgs_cons (pg_name (i := 4) sc_ways_of.nd rfl (Or.inl rfl)) pgs_nil))))) (pss_cons (ps_set (i := 5) sc_ways_of.nd rfl (Or.inl rfl) (pe_lst (pa_cons pe_int (pa_cons pe_int pa_nil)))) (pss_cons (ps_for PassesOwn.never rfl (pi_listK (K := K) rfl (pv 3)) (pg_name (i := 6) sc_ways_of.nd rfl (Or.inl rfl)) (pss_cons (ps_set (i := 7) sc_ways_of.nd rfl (Or.inl rfl) (pe_callB (call_lenN (K := K) rfl) (by rfl) T.n_len (by decide +kernel) (pa_cons (pe_lc (own := [("place", 9)]) (g := gName 9) (by rfl) sc_ways_of.nd (pi_listK (K := K) rfl (pv 6)) (blkOk_by (own := [("place", 9)]) (N := ["lot", "taken", "last", "legs", "spare", "ways", "leg", "mine", "free", "place"]) (sc := defScope s_ways_of) (by decide +kernel)) (fun _ _ _ _ _ => (pg_name (i := 9) sc_ways_of.nd rfl (Or.inl rfl))) (fun _ _ _ _ _ => (pts_one (pt_cmpR (op_inL (K := K) rfl Int (by decide) (Room.units65 hr)) (pv 9) (pv 1) (by rfl)))) (fun _ _ _ _ _ => (pv 9))) pa_nil))) (pss_cons (ps_if (pt_cmp (pc_gt (pv 7) pe_int)) (pss_one (ps_ret pe_int)) pss_nil) (pss_one (ps_if (pt_cmp (pc_eqI (pv 7) pe_int)) (pss_cons (ps_set (i := 8) sc_ways_of.nd rfl (Or.inl rfl) (pe_callB (call_lenN (K := K) rfl) (by rfl) T.n_len (by decide +kernel) (pa_cons (pe_lc (own := [("place", 9)]) (g := gName 9) (by rfl) sc_ways_of.nd (pi_listK (K := K) rfl (pv 6)) (blkOk_by (own := [("place", 9)]) (N := ["lot", "taken", "last", "legs", "spare", "ways", "leg", "mine", "free", "place"]) (sc := defScope s_ways_of) (by decide +kernel)) (fun _ _ _ _ _ => (pg_name (i := 9) sc_ways_of.nd rfl (Or.inl rfl))) (fun _ _ _ _ _ => (pts_one (pt_cmp (pc_gt (pv 9) (pv 2))))) (fun _ _ _ _ _ => (pv 9))) pa_nil))) (pss_one (ps_set (i := 5) sc_ways_of.nd rfl (Or.inl rfl) (pe_lst (pa_cons (pe_op op_mul (pe_ix (ix_listK (K := K) rfl) (pv 5) pe_int (fun _ _ => rfl)) (pv 8)) (pa_cons (pe_op op_add (pe_op op_mul (pe_ix (ix_listK (K := K) rfl) (pv 5) pe_int (fun _ _ => rfl)) (pv 8)) (pe_ix (ix_listK (K := K) rfl) (pv 5) pe_int (fun _ _ => rfl))) pa_nil)))))) pss_nil))))) (pss_one (ps_ret (pe_ix (ix_listK (K := K) rfl) (pv 5) (pv 4) (fun _ _ => rfl))))))), ?_⟩
    have h4 : A2 (rep K F0) [(.int 1), (.int 0)] ([(1 : Int), (0 : Int)] : (List Int)) := .cons rep_i (.cons rep_i (.nil))
    refine ⟨_, rfl, _, _, rfl, SqT.of (w0.same _ _ q1), rfl, _, _, rfl, _, _, rfl, rfl, (by show 2 ≤ sizeLine; decide), fun p5 n5 => ?_⟩
    have w5 : W F0 _ ((p5, .lst [(.int 1), (.int 0)]) :: os) := w0.new n5
    obtain ⟨F6, s6, w6, q6⟩ : ∃ F', Same F0 F' ∧ W F' _ (os) ∧ F' p5 = some (.lst [(.int 1), (.int 0)]) := w5.freezeE (pre := [])
    replace q1 := s6 _ _ q1
    replace h2 := A2.mono s6 h2
    replace q2 := s6 _ _ q2
    replace h3 := A2.mono s6 h3
    replace q3 := s6 _ _ q3
    replace h4 := A2.mono s6 h4
    replace sF := sF.trans s6
    refine ⟨_, rfl, _, rfl, ⟨_, SqL.of (w6.same _ _ q2)⟩, ?_⟩
    refine forX (tw_list (a := a2) h2) hm (fun (g7 : (List Int)) σ H' => ∃ (F' : Hp) (v7_5 : V) (o7_7 : Option V) (o7_8 : Option V) (o7_6 : Option V), σ = [some (.ref a1), some (.ref a3), some (.int x_last), some (.ref a2), some (.int x_lot.2), some v7_5, o7_6, o7_7, o7_8, none] ∧ Same F6 F' ∧ W F' H' (os) ∧ rep K F' v7_5 (g7 : (List Int))) ⟨_, _, _, _, _, rfl, Same.refl _, w6, (rep_lst q6 h4)⟩ (fun g σ H' hI => by obtain ⟨F', _, _, _, _, _, s, w, _⟩ := hI; exact SqL.of (w.same _ _ (s _ _ q2))) ?_ ?_
    · -- a turn
      intro b7 g7 x7 σ7 H7 H7' N7 B7 P7 hI hy hN7 hB7 hZ7 hm
      obtain ⟨F7, v7_5, o7_7, o7_8, o7_6, rfl, s7, w7, r7_5⟩ := hI
      replace q1 := s7 _ _ q1
      replace h2 := A2.mono s7 h2
      replace q2 := s7 _ _ q2
      replace h3 := A2.mono s7 h3
      replace q3 := s7 _ _ q3
      replace h4 := A2.mono s7 h4
      replace q6 := s7 _ _ q6
      replace sF := sF.trans s7
      obtain ⟨a8, vs8, rfl, q8, h8⟩ := r7_5
      obtain ⟨rfl, r9⟩ := hy
      replace r9 := Rep.mono s7 r9
      obtain ⟨a10, vs10, rfl, q10, h10⟩ := r9
      refine ⟨_, rfl, _, rfl, ⟨_, SqL.of (w7.same _ _ q10)⟩, fun D11 nD11 => ?_⟩
      refine lcF (K := K) (tw_list (a := a10) h10) hm w7 nD11 (fun F' H' acc s w => SqL.of (w.same _ _ (s _ _ q10))) ?_ ?_
      · -- one turn
        intro b11 x11 F11 H11 H11' acc11 N11 M11 P11 s11 w11 y11 hN11 hM11 hm
        replace q1 := s11 _ _ q1
        replace h2 := A2.mono s11 h2
        replace q2 := s11 _ _ q2
        replace h3 := A2.mono s11 h3
        replace q3 := s11 _ _ q3
        replace h8 := A2.mono s11 h8
        replace q8 := s11 _ _ q8
        replace h10 := A2.mono s11 h10
        replace q10 := s11 _ _ q10
        replace sF := sF.trans s11
        obtain ⟨rfl, r13⟩ := y11
        obtain rfl : x11 = V.int b11 := r13
        refine ⟨rfl, _, rfl, _, rfl, (b11 : Int), _, rep_i, (Rep.mono w11.same (rep_lst q3 h3)), _, rfl, ?_⟩
        refine post_ite hm (fun k14 hm => ?_) (fun k14 hm => ?_)
        · skip
          exact ⟨_, rfl, hN11 _ (post_ok hm) _ _ _ w11 (Same.refl _) rep_i⟩
        · skip
          exact hM11 (post_ok hm) _ _ w11 (Same.refl _)
      intro us11 F11 H11 ys11 s11 w11 gg11 hm
      replace q1 := s11 _ _ q1
      replace h2 := A2.mono s11 h2
      replace q2 := s11 _ _ q2
      replace h3 := A2.mono s11 h3
      replace q3 := s11 _ _ q3
      replace h8 := A2.mono s11 h8
      replace q8 := s11 _ _ q8
      replace h10 := A2.mono s11 h10
      replace q10 := s11 _ _ q10
      replace sF := sF.trans s11
      have w16 : W F11 _ (os) := w11.drop (pre := [])
      refine ⟨_, _, _, rfl, .inl (SqL.of (w11.get (pre := []))), gg11.length, _, rfl, _, _, rfl, rfl, _, rfl, ?_⟩
      refine post_ite hm (fun k17 hm => ?_) (fun k17 hm => ?_)
      · skip
        have hm := hZ7 _ (post_ok hm)
        exact (post_ok hm) _ _ _ w16 sF rep_i
      · skip
        refine ⟨_, rfl, _, _, rfl, rfl, _, rfl, ?_⟩
        refine post_ite hm (fun k18 hm => ?_) (fun k18 hm => ?_)
        · skip
          refine ⟨_, rfl, _, rfl, ⟨_, SqL.of (w16.same _ _ q10)⟩, fun D19 nD19 => ?_⟩
          refine lcF (K := K) (tw_list (a := a10) h10) hm w16 nD19 (fun F' H' acc s w => SqL.of (w.same _ _ (s _ _ q10))) ?_ ?_
          · -- one turn
            intro b19 x19 F19 H19 H19' acc19 N19 M19 P19 s19 w19 y19 hN19 hM19 hm
            replace q1 := s19 _ _ q1
            replace h2 := A2.mono s19 h2
            replace q2 := s19 _ _ q2
            replace h3 := A2.mono s19 h3
            replace q3 := s19 _ _ q3
            replace h8 := A2.mono s19 h8
            replace q8 := s19 _ _ q8
            replace h10 := A2.mono s19 h10
            replace q10 := s19 _ _ q10
            replace sF := sF.trans s19
            obtain ⟨rfl, r21⟩ := y19
            obtain rfl : x19 = V.int b19 := r21
            refine ⟨rfl, _, rfl, _, rfl, _, _, rfl, rfl, _, rfl, ?_⟩
            refine post_ite hm (fun k22 hm => ?_) (fun k22 hm => ?_)
            · skip
              exact ⟨_, rfl, hN19 _ (post_ok hm) _ _ _ w19 (Same.refl _) rep_i⟩
            · skip
              exact hM19 (post_ok hm) _ _ w19 (Same.refl _)
          intro us19 F19 H19 ys19 s19 w19 gg19 hm
          replace q1 := s19 _ _ q1
          replace h2 := A2.mono s19 h2
          replace q2 := s19 _ _ q2
          replace h3 := A2.mono s19 h3
          replace q3 := s19 _ _ q3
          replace h8 := A2.mono s19 h8
          replace q8 := s19 _ _ q8
          replace h10 := A2.mono s19 h10
          replace q10 := s19 _ _ q10
          replace sF := sF.trans s19
          have w24 : W F19 _ (os) := w19.drop (pre := [])
          obtain ⟨t25, e25, hm⟩ := pb_get hm
          obtain ⟨u25, f25, r25⟩ := A2.at h8 e25
          obtain rfl : u25 = V.int t25 := r25
          obtain ⟨c26, hm⟩ := pb_mul hm
          obtain ⟨t27, e27, hm⟩ := pb_get hm
          obtain ⟨u27, f27, r27⟩ := A2.at h8 e27
          obtain rfl : u27 = V.int t27 := r27
          obtain ⟨c28, hm⟩ := pb_mul hm
          obtain ⟨t29, e29, hm⟩ := pb_get hm
          obtain ⟨u29, f29, r29⟩ := A2.at h8 e29
          obtain rfl : u29 = V.int t29 := r29
          have h30 : A2 (rep K F19) [(.int (t25 * (ys19.length : Int))), (.int ((t27 * (ys19.length : Int)) + t29))] ([(t25 * (ys19.length : Int)), ((t27 * (ys19.length : Int)) + t29)] : (List Int)) := .cons rep_i (.cons rep_i (.nil))
          refine ⟨_, _, _, rfl, .inl (SqL.of (w19.get (pre := []))), gg19.length, _, rfl, _, _, _, _, rfl, rfl, SqL.of (w24.same _ _ q8), f25, _, rfl, _, _, rfl, rfl, c26, _, rfl, _, _, _, _, rfl, rfl, SqL.of (w24.same _ _ q8), f27, _, rfl, _, _, rfl, rfl, c28, _, rfl, _, _, _, _, rfl, rfl, SqL.of (w24.same _ _ q8), f29, _, _, rfl, rfl, (by show 2 ≤ sizeLine; decide), fun p31 n31 => ?_⟩
          have w31 : W F19 _ ((p31, .lst [(.int (t25 * (ys19.length : Int))), (.int ((t27 * (ys19.length : Int)) + t29))]) :: os) := w24.new n31
          obtain ⟨F32, s32, w32, q32⟩ : ∃ F', Same F19 F' ∧ W F' _ (os) ∧ F' p31 = some (.lst [(.int (t25 * (ys19.length : Int))), (.int ((t27 * (ys19.length : Int)) + t29))]) := w31.freezeE (pre := [])
          replace q1 := s32 _ _ q1
          replace h2 := A2.mono s32 h2
          replace q2 := s32 _ _ q2
          replace h3 := A2.mono s32 h3
          replace q3 := s32 _ _ q3
          replace h8 := A2.mono s32 h8
          replace q8 := s32 _ _ q8
          replace h10 := A2.mono s32 h10
          replace q10 := s32 _ _ q10
          replace h30 := A2.mono s32 h30
          replace sF := sF.trans s32
          exact hN7 _ (post_ok hm) _ _ ⟨_, _, _, _, _, rfl, (s7.trans (s11.trans (s19.trans s32))), w32, (rep_lst q32 h30)⟩
        · skip
          exact hN7 _ (post_ok hm) _ _ ⟨_, _, _, _, _, rfl, (s7.trans s11), w16, (rep_lst q8 h8)⟩
    intro g7 σ7 H7 hI hm
    obtain ⟨F7, v7_5, o7_7, o7_8, o7_6, rfl, s7, w7, r7_5⟩ := hI
    replace q1 := s7 _ _ q1
    replace h2 := A2.mono s7 h2
    replace q2 := s7 _ _ q2
    replace h3 := A2.mono s7 h3
    replace q3 := s7 _ _ q3
    replace h4 := A2.mono s7 h4
    replace q6 := s7 _ _ q6
    replace sF := sF.trans s7
    obtain ⟨a33, vs33, rfl, q33, h33⟩ := r7_5
    obtain ⟨t34, e34, hm⟩ := pb_get hm
    obtain ⟨u34, f34, r34⟩ := A2.at h33 e34
    obtain rfl : u34 = V.int t34 := r34
    exact ⟨_, rfl, _, rfl, _, _, _, _, rfl, rfl, SqL.of (w7.same _ _ q33), f34, (post_ok hm) _ _ _ w7 sF rep_i⟩
def sp_count_with (K : Fg) : Sp := fun vs H Q E => ∃ (F : Hp) (os : List (Addr × HO)) (v_lots : V) (x_lots : (List ((List (List Int)) × Int))) (v_taken : V) (x_taken : (List Int)) (x_last : Int), vs = [v_lots, v_taken, .int x_last] ∧ W F H (os) ∧ rep K F v_lots x_lots ∧ rep K F v_taken x_taken ∧ Post (count_with x_lots x_taken x_last) (Ret K F os Q) noX
theorem sc_count_with : FnScope ["lots", "taken", "last", "found", "lot"] ["lots", "taken", "last"] (defScope s_count_with) := ⟨rfl, rfl, rfl, by decide +kernel, rfl, by decide +kernel, by decide +kernel⟩
theorem ok_count_with (T : Tx K mg A FD) : FnOk P w K mg base CX0 2 (A 29) (FD 29) ["lots", "taken", "last"] (sp_count_with K) := by
  refine T.d29.fn.ok sc_count_with (fun vs H Q E h => ?_) (fun cdv Ar outer s H vs Q E hr h => ?_)
  · obtain ⟨F, os, v_lots, x_lots, v_taken, x_taken, x_last, rfl, _⟩ := h
    rfl
  · obtain ⟨F0, os, v_lots, x_lots, v_taken, x_taken, x_last, rfl, w0, r_lots, r_taken, hm⟩ := h
    have sF : Same F0 F0 := Same.refl _
    obtain ⟨a1, vs1, rfl, q1, h1⟩ := r_lots
    obtain ⟨a2, vs2, rfl, q2, h2⟩ := r_taken
    refine ⟨_, (pss_cons (ps_set (i := 3) sc_count_with.nd rfl (Or.inl rfl) pe_int1) (pss_cons (ps_for PassesOwn.never rfl (pi_listK (K := K) rfl (pv 0)) (pg_name (i := 4) sc_count_with.nd rfl (Or.inl rfl)) (pss_one (ps_set (i := 3) sc_count_with.nd rfl (Or.inl rfl) (pe_op op_mul (pv 3) (pe_call (ok_ways_of T) (hr.mono (by decide)) (by rfl) T.d28.mg T.d28.fn.kp T.d28.b .nil pass0 (pa_cons (pv 4) (pa_cons (pv 1) (pa_cons (pv 2) pa_nil)))))))) (pss_one (ps_ret (pv 3))))), ?_⟩
    refine ⟨trivial, _, rfl, _, rfl, ⟨_, SqL.of (w0.same _ _ q1)⟩, ?_⟩
    refine forS (tw_list (a := a1) h1) hm (fun (g3 : Int) σ H' => ∃ (F' : Hp) (o3_4 : Option V), σ = [some (.ref a1), some (.ref a2), some (.int x_last), some (.int g3), o3_4] ∧ Same F0 F' ∧ W F' H' (os)) ⟨_, _, rfl, Same.refl _, w0⟩ (fun g σ H' hI => by obtain ⟨F', _, _, s, w⟩ := hI; exact SqL.of (w.same _ _ (s _ _ q1))) ?_ ?_
    · -- a turn
      intro b3 g3 x3 σ3 H3 H3' N3 P3 hI hy hN3 hm
      obtain ⟨F3, o3_4, rfl, s3, w3⟩ := hI
      replace h1 := A2.mono s3 h1
      replace q1 := s3 _ _ q1
      replace h2 := A2.mono s3 h2
      replace q2 := s3 _ _ q2
      replace sF := sF.trans s3
      obtain ⟨rfl, r4⟩ := hy
      replace r4 := Rep.mono s3 r4
      obtain ⟨a5, u5, z5, rfl, q5, r5a, r5b⟩ := r4
      obtain ⟨a6, vs6, rfl, q6, h6⟩ := r5a
      obtain rfl : z5 = V.int b3.2 := r5b
      refine ⟨_, rfl, _, rfl, _, rfl, _, rfl, _, _, _, (b3 : ((List (List Int)) × Int)), _, (x_taken : (List Int)), _, rfl, w3, (rep_pair q5 (rep_lst q6 h6) rep_i), (rep_lst q2 h2), ?_⟩
      refine (post_bind hm).mono (fun y7 hm v7 F7 H7 w7 s7 r7 => ?_) (fun _ z => z)
      replace h1 := A2.mono s7 h1
      replace q1 := s7 _ _ q1
      replace h2 := A2.mono s7 h2
      replace q2 := s7 _ _ q2
      replace q5 := s7 _ _ q5
      replace h6 := A2.mono s7 h6
      replace q6 := s7 _ _ q6
      replace sF := sF.trans s7
      obtain rfl : v7 = V.int y7 := r7
      obtain ⟨c8, hm⟩ := pb_mul hm
      exact ⟨_, _, rfl, rfl, c8, hN3 _ (post_ok hm) _ _ ⟨_, _, rfl, (s3.trans s7), w7⟩⟩
    intro g3 σ3 H3 hI hm
    obtain ⟨F3, o3_4, rfl, s3, w3⟩ := hI
    replace h1 := A2.mono s3 h1
    replace q1 := s3 _ _ q1
    replace h2 := A2.mono s3 h2
    replace q2 := s3 _ _ q2
    replace sF := sF.trans s3
    exact ⟨_, rfl, (post_ok hm) _ _ _ w3 sF rep_i⟩
def sp_places_in (K : Fg) : Sp := fun vs H Q E => ∃ (F : Hp) (os : List (Addr × HO)) (v_lots : V) (x_lots : (List ((List (List Int)) × Int))), vs = [v_lots] ∧ W F H (os) ∧ rep K F v_lots x_lots ∧ Post (places_in x_lots) (Ret K F os Q) noX
theorem sc_places_in : FnScope ["lots", "found", "legs", "spare", "leg"] ["lots"] (defScope s_places_in) := ⟨rfl, rfl, rfl, by decide +kernel, rfl, by decide +kernel, by decide +kernel⟩
theorem ok_places_in (T : Tx K mg A FD) : FnOk P w K mg base CX0 1 (A 30) (FD 30) ["lots"] (sp_places_in K) := by
  refine T.d30.fn.ok sc_places_in (fun vs H Q E h => ?_) (fun cdv Ar outer s H vs Q E hr h => ?_)
  · obtain ⟨F, os, v_lots, x_lots, rfl, _⟩ := h
    rfl
  · obtain ⟨F0, os, v_lots, x_lots, rfl, w0, r_lots, hm⟩ := h
    have sF : Same F0 F0 := Same.refl _
    obtain ⟨a1, vs1, rfl, q1, h1⟩ := r_lots
    refine ⟨_, (pss_cons (ps_set (i := 1) sc_places_in.nd rfl (Or.inl rfl) (pe_lst pa_nil)) (pss_cons (ps_for PassesOwn.never rfl (pi_listK (K := K) rfl (pv 0)) (pg_k (K := K) (t := fun K => gTup K 2 _) rfl (pg_tup (n := 2) rfl (pgs_cons (pg_name (i := 2) sc_places_in.nd rfl (Or.inl rfl)) (pgs_cons (pg_name (i := 3) sc_places_in.nd rfl (Or.inl rfl)) pgs_nil)))) (pss_one (ps_for PassesOwn.never rfl (pi_listK (K := K) rfl (pv 2)) (pg_name (i := 4) sc_places_in.nd rfl (Or.inl rfl)) (pss_one (ps_expr (pe_bm PySem.F.plainAttrs_list PySem.F.slot_list_extend PySem.F.type_list_extend mt_extend (pv 1) (pa_cons (pv 4) pa_nil))))))) (pss_one (ps_ret (pe_callB (cr_sortI (K := K) rfl) (by rfl) T.n_sorted (by decide +kernel) (pa_cons (pv 1) pa_nil)))))), ?_⟩
    have h2 : A2 (rep K F0) [] ([] : (List Int)) := .nil
    refine ⟨(by show 0 ≤ sizeLine; decide), fun p3 n3 => ?_⟩
    have w3 : W F0 _ ((p3, .lst []) :: os) := w0.new n3
    refine ⟨_, rfl, _, rfl, ⟨_, SqL.of (w3.same _ _ q1)⟩, ?_⟩
    refine forS (tw_list (a := a1) h1) hm (fun (g4 : (List Int)) σ H' => ∃ (F' : Hp) (vs4_0 : List V) (o4_4 : Option V) (o4_2 : Option V) (o4_3 : Option V), σ = [some (.ref a1), some (.ref p3), o4_2, o4_3, o4_4] ∧ Same F0 F' ∧ W F' H' ((p3, .lst vs4_0) :: os) ∧ A2 (rep K F') vs4_0 g4) ⟨_, _, _, _, _, rfl, Same.refl _, w3, h2⟩ (fun g σ H' hI => by obtain ⟨F', _, _, _, _, _, s, w, _⟩ := hI; exact SqL.of (w.same _ _ (s _ _ q1))) ?_ ?_
    · -- a turn
      intro b4 g4 x4 σ4 H4 H4' N4 P4 hI hy hN4 hm
      obtain ⟨F4, vs4_0, o4_4, o4_2, o4_3, rfl, s4, w4, h4_0⟩ := hI
      replace h1 := A2.mono s4 h1
      replace q1 := s4 _ _ q1
      replace sF := sF.trans s4
      obtain ⟨rfl, r5⟩ := hy
      replace r5 := Rep.mono s4 r5
      obtain ⟨a6, u6, z6, rfl, q6, r6a, r6b⟩ := r5
      obtain ⟨a7, vs7, rfl, q7, h7⟩ := r6a
      obtain rfl : z6 = V.int b4.2 := r6b
      refine ⟨_, _, rfl, SqT.of (w4.same _ _ q6), rfl, _, _, rfl, _, _, rfl, rfl, _, rfl, _, rfl, ⟨_, SqL.of (w4.same _ _ q7)⟩, ?_⟩
      refine forS (tw_list (a := a7) h7) hm (fun (g8 : (List Int)) σ H' => ∃ (F' : Hp) (vs8_0 : List V) (o8_4 : Option V), σ = [some (.ref a1), some (.ref p3), some (.ref a7), some (.int b4.2), o8_4] ∧ Same F4 F' ∧ W F' H' ((p3, .lst vs8_0) :: os) ∧ A2 (rep K F') vs8_0 g8) ⟨_, _, _, rfl, Same.refl _, w4, h4_0⟩ (fun g σ H' hI => by obtain ⟨F', _, _, _, s, w, _⟩ := hI; exact SqL.of (w.same _ _ (s _ _ q7))) ?_ ?_
      · -- a turn
        intro b8 g8 x8 σ8 H8 H8' N8 P8 hI hy hN8 hm
        obtain ⟨F8, vs8_0, o8_4, rfl, s8, w8, h8_0⟩ := hI
        replace h1 := A2.mono s8 h1
        replace q1 := s8 _ _ q1
        replace h7 := A2.mono s8 h7
        replace q7 := s8 _ _ q7
        replace sF := sF.trans s8
        obtain ⟨rfl, r9⟩ := hy
        replace r9 := Rep.mono s8 r9
        obtain ⟨a10, vs10, rfl, q10, h10⟩ := r9
        obtain ⟨l11, z11, e11, hm⟩ := pn_extend hm
        refine ⟨_, rfl, .inl ⟨rfl, _, SqL.of (w8.get (pre := []))⟩, _, rfl, _, _, _, _, rfl, rfl, (w8.get (pre := [])), (w8.same _ _ q10), (A2.le2 h8_0 h10 z11), ?_⟩
        have h11 : A2 (rep K F8) (vs8_0 ++ vs10) l11 := e11 ▸ A2.append h8_0 h10
        have w12 : W F8 _ ((p3, .lst (vs8_0 ++ vs10)) :: os) := w8.set (pre := [])
        exact hN8 _ (post_ok hm) _ _ ⟨_, _, _, rfl, s8, w12, h11⟩
      intro g8 σ8 H8 hI hm
      obtain ⟨F8, vs8_0, o8_4, rfl, s8, w8, h8_0⟩ := hI
      replace h1 := A2.mono s8 h1
      replace q1 := s8 _ _ q1
      replace h7 := A2.mono s8 h7
      replace q7 := s8 _ _ q7
      replace sF := sF.trans s8
      exact hN4 _ (post_ok hm) _ _ ⟨_, _, _, _, _, rfl, (s4.trans s8), w8, h8_0⟩
    intro g4 σ4 H4 hI hm
    obtain ⟨F4, vs4_0, o4_4, o4_2, o4_3, rfl, s4, w4, h4_0⟩ := hI
    replace h1 := A2.mono s4 h1
    replace q1 := s4 _ _ q1
    replace sF := sF.trans s4
    have h13 : A2 (rep K F4) ((sortI g4).map V.int) (sortI g4) := A2.of_ints
    refine ⟨_, rfl, _, _, rfl, ints_q (SqL.of (w4.get (pre := []))) h4_0, fun p14 n14 => ?_⟩
    have w14 : W F4 _ ((p14, .lst ((sortI g4).map V.int)) :: (p3, .lst vs4_0) :: os) := w4.new n14
    obtain ⟨F15, s15, w15, q15⟩ : ∃ F', Same F4 F' ∧ W F' _ ((p3, .lst vs4_0) :: os) ∧ F' p14 = some (.lst ((sortI g4).map V.int)) := w14.freezeE (pre := [])
    replace h1 := A2.mono s15 h1
    replace q1 := s15 _ _ q1
    replace h4_0 := A2.mono s15 h4_0
    replace h13 := A2.mono s15 h13
    replace sF := sF.trans s15
    have w16 : W F15 _ (os) := w15.drop (pre := [])
    exact (post_ok hm) _ _ _ w16 sF (rep_lst q15 h13)
def sp_tree_fewest (K : Fg) : Sp := fun vs H Q E => ∃ (F : Hp) (os : List (Addr × HO)) (v_web : V) (x_web : (Int × (Tup (Int × Int)))) (x_kind : Str), vs = [v_web, .str x_kind] ∧ W F H (os) ∧ rep K F v_web x_web ∧ Post (tree_fewest x_web x_kind) (Ret K F os Q) noX
theorem sc_tree_fewest : FnScope ["web", "kind"] ["web", "kind"] (defScope s_tree_fewest) := ⟨rfl, rfl, rfl, by decide +kernel, rfl, by decide +kernel, by decide +kernel⟩
theorem ok_tree_fewest (T : Tx K mg A FD) : FnOk P w K mg base CX0 4 (A 31) (FD 31) ["web", "kind"] (sp_tree_fewest K) := by
  refine T.d31.fn.ok sc_tree_fewest (fun vs H Q E h => ?_) (fun cdv Ar outer s H vs Q E hr h => ?_)
  · obtain ⟨F, os, v_web, x_web, x_kind, rfl, _⟩ := h
    rfl
  · obtain ⟨F0, os, v_web, x_web, x_kind, rfl, w0, r_web, hm⟩ := h
    have sF : Same F0 F0 := Same.refl _
    obtain ⟨a1, u1, z1, rfl, q1, r1a, r1b⟩ := r_web
    obtain rfl : u1 = V.int x_web.1 := r1a
    obtain ⟨a2, vs2, rfl, q2, h2⟩ := r1b
    refine ⟨_, (pss_cons (ps_expr (pe_call (ok_grown_asked T) (hr.mono (by decide)) (by rfl) T.d23.mg T.d23.fn.kp T.d23.b .nil pass0 (pa_cons (pv 0) pa_nil))) (pss_one (ps_ret (pe_call (ok_looks_by T) (hr.mono (by decide)) (by rfl) T.d27.mg T.d27.fn.kp T.d27.b .nil pass0 (pa_cons (pe_call (ok_lots_of T) (hr.mono (by decide)) (by rfl) T.d26.mg T.d26.fn.kp T.d26.b .nil pass0 (pa_cons (pv 0) (pa_cons (pv 1) pa_nil))) pa_nil))))), ?_⟩
    refine ⟨_, rfl, _, _, _, (x_web : (Int × (Tup (Int × Int)))), rfl, w0, (rep_pair q1 rep_i (rep_tup q2 h2)), ?_⟩
    refine (post_bind hm).mono (fun y3 hm v3 F3 H3 w3 s3 r3 => ?_) (fun _ z => z)
    replace q1 := s3 _ _ q1
    replace q2 := s3 _ _ q2
    replace h2 := A2.mono s3 h2
    replace sF := sF.trans s3
    obtain rfl : v3 = V.non := r3
    refine ⟨_, rfl, _, rfl, _, _, _, (x_web : (Int × (Tup (Int × Int)))), _, rfl, w3, (rep_pair q1 rep_i (rep_tup q2 h2)), ?_⟩
    refine (post_bind hm).mono (fun y4 hm v4 F4 H4 w4 s4 r4 => ?_) (fun _ z => z)
    replace q1 := s4 _ _ q1
    replace h2 := A2.mono s4 h2
    replace q2 := s4 _ _ q2
    replace sF := sF.trans s4
    obtain ⟨a5, vs5, rfl, q5, h5⟩ := r4
    refine ⟨_, _, _, (y4 : (List ((List (List Int)) × Int))), rfl, w4, (rep_lst q5 h5), ?_⟩
    refine (post_bind hm).mono (fun y6 hm v6 F6 H6 w6 s6 r6 => ?_) (fun _ z => z)
    replace q1 := s6 _ _ q1
    replace h2 := A2.mono s6 h2
    replace q2 := s6 _ _ q2
    replace q5 := s6 _ _ q5
    replace h5 := A2.mono s6 h5
    replace sF := sF.trans s6
    obtain rfl : v6 = V.int y6 := r6
    exact (post_ok hm) _ _ _ w6 sF rep_i
def sp_tree_choices (K : Fg) : Sp := fun vs H Q E => ∃ (F : Hp) (os : List (Addr × HO)) (v_web : V) (x_web : (Int × (Tup (Int × Int)))) (x_kind : Str), vs = [v_web, .str x_kind] ∧ W F H (os) ∧ rep K F v_web x_web ∧ Post (tree_choices x_web x_kind) (Ret K F os Q) noX
theorem sc_tree_choices : FnScope ["web", "kind"] ["web", "kind"] (defScope s_tree_choices) := ⟨rfl, rfl, rfl, by decide +kernel, rfl, by decide +kernel, by decide +kernel⟩
theorem ok_tree_choices (T : Tx K mg A FD) : FnOk P w K mg base CX0 4 (A 32) (FD 32) ["web", "kind"] (sp_tree_choices K) := by
  refine T.d32.fn.ok sc_tree_choices (fun vs H Q E h => ?_) (fun cdv Ar outer s H vs Q E hr h => ?_)
  · obtain ⟨F, os, v_web, x_web, x_kind, rfl, _⟩ := h
    rfl
  · obtain ⟨F0, os, v_web, x_web, x_kind, rfl, w0, r_web, hm⟩ := h
    have sF : Same F0 F0 := Same.refl _
    obtain ⟨a1, u1, z1, rfl, q1, r1a, r1b⟩ := r_web
    obtain rfl : u1 = V.int x_web.1 := r1a
    obtain ⟨a2, vs2, rfl, q2, h2⟩ := r1b
    refine ⟨_, (pss_cons (ps_expr (pe_call (ok_grown_asked T) (hr.mono (by decide)) (by rfl) T.d23.mg T.d23.fn.kp T.d23.b .nil pass0 (pa_cons (pv 0) pa_nil))) (pss_one (ps_ret (pe_call (ok_count_with T) (hr.mono (by decide)) (by rfl) T.d29.mg T.d29.fn.kp T.d29.b .nil pass0 (pa_cons (pe_call (ok_lots_of T) (hr.mono (by decide)) (by rfl) T.d26.mg T.d26.fn.kp T.d26.b .nil pass0 (pa_cons (pv 0) (pa_cons (pv 1) pa_nil))) (pa_cons (pe_lst pa_nil) (pa_cons (pe_un un_neg pe_int) pa_nil))))))), ?_⟩
    refine ⟨_, rfl, _, _, _, (x_web : (Int × (Tup (Int × Int)))), rfl, w0, (rep_pair q1 rep_i (rep_tup q2 h2)), ?_⟩
    refine (post_bind hm).mono (fun y3 hm v3 F3 H3 w3 s3 r3 => ?_) (fun _ z => z)
    replace q1 := s3 _ _ q1
    replace q2 := s3 _ _ q2
    replace h2 := A2.mono s3 h2
    replace sF := sF.trans s3
    obtain rfl : v3 = V.non := r3
    refine ⟨_, rfl, _, rfl, _, _, _, (x_web : (Int × (Tup (Int × Int)))), _, rfl, w3, (rep_pair q1 rep_i (rep_tup q2 h2)), ?_⟩
    refine (post_bind hm).mono (fun y4 hm v4 F4 H4 w4 s4 r4 => ?_) (fun _ z => z)
    replace q1 := s4 _ _ q1
    replace h2 := A2.mono s4 h2
    replace q2 := s4 _ _ q2
    replace sF := sF.trans s4
    obtain ⟨a5, vs5, rfl, q5, h5⟩ := r4
    have h6 : A2 (rep K F4) [] ([] : (List Int)) := .nil
    refine ⟨(by show 0 ≤ sizeLine; decide), fun p7 n7 => ?_⟩
    have w7 : W F4 _ ((p7, .lst []) :: os) := w4.new n7
    obtain ⟨F8, s8, w8, q8⟩ : ∃ F', Same F4 F' ∧ W F' _ (os) ∧ F' p7 = some (.lst []) := w7.freezeE (pre := [])
    replace q1 := s8 _ _ q1
    replace h2 := A2.mono s8 h2
    replace q2 := s8 _ _ q2
    replace q5 := s8 _ _ q5
    replace h5 := A2.mono s8 h5
    replace h6 := A2.mono s8 h6
    replace sF := sF.trans s8
    refine ⟨_, rfl, _, _, _, (y4 : (List ((List (List Int)) × Int))), _, (([] : (List Int)) : (List Int)), _, rfl, w8, (rep_lst q5 h5), (rep_lst q8 h6), ?_⟩
    refine (post_bind hm).mono (fun y9 hm v9 F9 H9 w9 s9 r9 => ?_) (fun _ z => z)
    replace q1 := s9 _ _ q1
    replace h2 := A2.mono s9 h2
    replace q2 := s9 _ _ q2
    replace q5 := s9 _ _ q5
    replace h5 := A2.mono s9 h5
    replace h6 := A2.mono s9 h6
    replace q8 := s9 _ _ q8
    replace sF := sF.trans s9
    obtain rfl : v9 = V.int y9 := r9
    exact (post_ok hm) _ _ _ w9 sF rep_i
def sp_choice_by (K : Fg) : Sp := fun vs H Q E => ∃ (F : Hp) (os : List (Addr × HO)) (v_web : V) (x_web : (Int × (Tup (Int × Int)))) (x_kind : Str) (x_number : Int), vs = [v_web, .str x_kind, .int x_number] ∧ W F H (os) ∧ rep K F v_web x_web ∧ Post (choice_by x_web x_kind x_number) (RetL K F os Q) noX
theorem sc_choice_by : FnScope ["web", "kind", "number", "lots", "taken", "place", "count"] ["web", "kind", "number"] (defScope s_choice_by) := ⟨rfl, rfl, rfl, by decide +kernel, rfl, by decide +kernel, by decide +kernel⟩
theorem ok_choice_by (T : Tx K mg A FD) : FnOk P w K mg base CX0 4 (A 33) (FD 33) ["web", "kind", "number"] (sp_choice_by K) := by
  refine T.d33.fn.ok sc_choice_by (fun vs H Q E h => ?_) (fun cdv Ar outer s H vs Q E hr h => ?_)
  · obtain ⟨F, os, v_web, x_web, x_kind, x_number, rfl, _⟩ := h
    rfl
  · obtain ⟨F0, os, v_web, x_web, x_kind, x_number, rfl, w0, r_web, hm⟩ := h
    have sF : Same F0 F0 := Same.refl _
    obtain ⟨a1, u1, z1, rfl, q1, r1a, r1b⟩ := r_web
    obtain rfl : u1 = V.int x_web.1 := r1a
    obtain ⟨a2, vs2, rfl, q2, h2⟩ := r1b
    refine ⟨_, (pss_cons (ps_expr (pe_call (ok_grown_asked T) (hr.mono (by decide)) (by rfl) T.d23.mg T.d23.fn.kp T.d23.b .nil pass0 (pa_cons (pv 0) pa_nil))) (pss_cons (ps_set (i := 3) sc_choice_by.nd rfl (Or.inl rfl) (pe_call (ok_lots_of T) (hr.mono (by decide)) (by rfl) T.d26.mg T.d26.fn.kp T.d26.b .nil pass0 (pa_cons (pv 0) (pa_cons (pv 1) pa_nil)))) (pss_cons (ps_if (pt_not (pt_chain op_le op_lt pe_int (pv 2) (pe_call (ok_count_with T) (hr.mono (by decide)) (by rfl) T.d29.mg T.d29.fn.kp T.d29.b .nil pass0 (pa_cons (pv 3) (pa_cons (pe_lst pa_nil) (pa_cons (pe_un un_neg pe_int) pa_nil)))))) (pss_one ps_absurd) pss_nil) (pss_cons (ps_set (i := 4) sc_choice_by.nd rfl (Or.inl rfl) (pe_lst pa_nil)) (pss_cons (ps_for PassesOwn.never rfl (pi_listK (K := K) rfl (pe_call (ok_places_in T) (hr.mono (by decide)) (by rfl) T.d30.mg T.d30.fn.kp T.d30.b .nil pass0 (pa_cons (pv 3) pa_nil))) (pg_name (i := 5) sc_choice_by.nd rfl (Or.inl rfl)) (pss_one (ps_if (pt_cmp (pc_lt (pe_callB (call_lenN (K := K) rfl) (by rfl) T.n_len (by decide +kernel) (pa_cons (pv 4) pa_nil)) (pe_call (ok_looks_by T) (hr.mono (by decide)) (by rfl) T.d27.mg T.d27.fn.kp T.d27.b .nil pass0 (pa_cons (pv 3) pa_nil)))) (pss_cons (ps_set (i := 6) sc_choice_by.nd rfl (Or.inl rfl) (pe_call (ok_count_with T) (hr.mono (by decide)) (by rfl) T.d29.mg T.d29.fn.kp T.d29.b .nil pass0 (pa_cons (pv 3) (pa_cons (pe_op op_cat (pv 4) (pe_lst (pa_cons (pv 5) pa_nil))) (pa_cons (pv 5) pa_nil))))) (pss_one (ps_if (pt_cmp (pc_lt (pv 2) (pv 6))) (pss_one (ps_expr (pe_bm PySem.F.plainAttrs_list PySem.F.slot_list_append PySem.F.type_list_append mt_append (pv 4) (pa_cons (pv 5) pa_nil)))) (pss_one (ps_set (i := 2) sc_choice_by.nd rfl (Or.inl rfl) (pe_op op_sub (pv 2) (pv 6))))))) pss_nil))) (pss_one (ps_ret (pv 4)))))))), ?_⟩
    refine ⟨_, rfl, _, _, _, (x_web : (Int × (Tup (Int × Int)))), rfl, w0, (rep_pair q1 rep_i (rep_tup q2 h2)), ?_⟩
    refine (post_bind hm).mono (fun y3 hm v3 F3 H3 w3 s3 r3 => ?_) (fun _ z => z)
    replace q1 := s3 _ _ q1
    replace q2 := s3 _ _ q2
    replace h2 := A2.mono s3 h2
    replace sF := sF.trans s3
    obtain rfl : v3 = V.non := r3
    refine ⟨_, rfl, _, rfl, _, _, _, (x_web : (Int × (Tup (Int × Int)))), _, rfl, w3, (rep_pair q1 rep_i (rep_tup q2 h2)), ?_⟩
    refine (post_bind hm).mono (fun y4 hm v4 F4 H4 w4 s4 r4 => ?_) (fun _ z => z)
    replace q1 := s4 _ _ q1
    replace h2 := A2.mono s4 h2
    replace q2 := s4 _ _ q2
    replace sF := sF.trans s4
    obtain ⟨a5, vs5, rfl, q5, h5⟩ := r4
    refine stepN ?_
    try dsimp only
    refine stepSeq (stepIf ?_)
    refine stepNot ?_
    refine joinT hm (fun (j6 : Bool) c H' => c = j6 ∧ ∃ (F' : Hp), Same F4 F' ∧ W F' H' (os)) ?_ ?_
    · intro Q6 P6 q6 hm
      refine ⟨_, rfl, _, _, rfl, rfl, _, rfl, ?_⟩
      refine post_ite hm (fun k7 hm => ?_) (fun k7 hm => ?_)
      · skip
        have h8 : A2 (rep K F4) [] ([] : (List Int)) := .nil
        refine ⟨_, rfl, (by show 0 ≤ sizeLine; decide), fun p9 n9 => ?_⟩
        have w9 : W F4 _ ((p9, .lst []) :: os) := w4.new n9
        obtain ⟨F10, s10, w10, q10⟩ : ∃ F', Same F4 F' ∧ W F' _ (os) ∧ F' p9 = some (.lst []) := w9.freezeE (pre := [])
        replace q1 := s10 _ _ q1
        replace h2 := A2.mono s10 h2
        replace q2 := s10 _ _ q2
        replace h5 := A2.mono s10 h5
        replace q5 := s10 _ _ q5
        replace h8 := A2.mono s10 h8
        replace sF := sF.trans s10
        refine ⟨_, rfl, _, _, _, (y4 : (List ((List (List Int)) × Int))), _, (([] : (List Int)) : (List Int)), _, rfl, w10, (rep_lst q5 h5), (rep_lst q10 h8), ?_⟩
        refine (post_bind hm).mono (fun y11 hm v11 F11 H11 w11 s11 r11 => ?_) (fun _ z => z)
        replace q1 := s11 _ _ q1
        replace h2 := A2.mono s11 h2
        replace q2 := s11 _ _ q2
        replace h5 := A2.mono s11 h5
        replace q5 := s11 _ _ q5
        replace h8 := A2.mono s11 h8
        replace q10 := s11 _ _ q10
        replace sF := sF.trans s11
        obtain rfl : v11 = V.int y11 := r11
        exact ⟨_, _, rfl, rfl, _, rfl, q6 _ (post_ok hm) _ _ ⟨rfl, _, (s10.trans s11), w11⟩⟩
      · skip
        exact ⟨_, rfl, q6 _ (post_ok hm) _ _ ⟨rfl, _, Same.refl _, w4⟩⟩
    intro j6 c6 H6 hc6 hm
    obtain ⟨rfl, F6, s6, w6⟩ := hc6
    replace q1 := s6 _ _ q1
    replace h2 := A2.mono s6 h2
    replace q2 := s6 _ _ q2
    replace h5 := A2.mono s6 h5
    replace q5 := s6 _ _ q5
    replace sF := sF.trans s6
    refine post_ite hm (fun k14 hm => ?_) (fun k14 hm => ?_)
    · skip
      try dsimp only
      exact hm
    · skip
      have h15 : A2 (rep K F6) [] ([] : (List Int)) := .nil
      refine ⟨(by show 0 ≤ sizeLine; decide), fun p16 n16 => ?_⟩
      have w16 : W F6 _ ((p16, .lst []) :: os) := w6.new n16
      refine ⟨_, rfl, _, _, _, (y4 : (List ((List (List Int)) × Int))), rfl, w16, (rep_lst q5 h5), ?_⟩
      refine (post_bind hm).mono (fun y18 hm v18 F18 H18 w18 s18 r18 => ?_) (fun _ z => z)
      replace q1 := s18 _ _ q1
      replace h2 := A2.mono s18 h2
      replace q2 := s18 _ _ q2
      replace h5 := A2.mono s18 h5
      replace q5 := s18 _ _ q5
      replace h15 := A2.mono s18 h15
      replace sF := sF.trans s18
      obtain ⟨a19, vs19, rfl, q19, h19⟩ := r18
      refine ⟨_, rfl, ⟨_, SqL.of (w18.same _ _ q19)⟩, ?_⟩
      refine forS (tw_list (a := a19) h19) hm (fun (g17 : Int × (List Int)) σ H' => ∃ (F' : Hp) (vs17_0 : List V) (o17_6 : Option V) (o17_5 : Option V), σ = [some (.ref a1), some (.str x_kind), some (.int g17.1), some (.ref a5), some (.ref p16), o17_5, o17_6] ∧ Same F18 F' ∧ W F' H' ((p16, .lst vs17_0) :: os) ∧ A2 (rep K F') vs17_0 g17.2) ⟨_, _, _, _, rfl, Same.refl _, w18, h15⟩ (fun g σ H' hI => by obtain ⟨F', _, _, _, _, s, w, _⟩ := hI; exact SqL.of (w.same _ _ (s _ _ q19))) ?_ ?_
      · -- a turn
        intro b17 g17 x17 σ17 H17 H17' N17 P17 hI hy hN17 hm
        obtain ⟨F17, vs17_0, o17_6, o17_5, rfl, s17, w17, h17_0⟩ := hI
        replace q1 := s17 _ _ q1
        replace h2 := A2.mono s17 h2
        replace q2 := s17 _ _ q2
        replace h5 := A2.mono s17 h5
        replace q5 := s17 _ _ q5
        replace q19 := s17 _ _ q19
        replace h19 := A2.mono s17 h19
        replace sF := sF.trans s17
        obtain ⟨rfl, r20⟩ := hy
        obtain rfl : x17 = V.int b17 := r20
        refine ⟨_, rfl, _, _, _, rfl, .inl (SqL.of (w17.get (pre := []))), h17_0.length, _, rfl, _, _, _, (y4 : (List ((List (List Int)) × Int))), rfl, w17, (rep_lst q5 h5), ?_⟩
        refine (post_bind hm).mono (fun y21 hm v21 F21 H21 w21 s21 r21 => ?_) (fun _ z => z)
        replace q1 := s21 _ _ q1
        replace h2 := A2.mono s21 h2
        replace q2 := s21 _ _ q2
        replace h5 := A2.mono s21 h5
        replace q5 := s21 _ _ q5
        replace h17_0 := A2.mono s21 h17_0
        replace sF := sF.trans s21
        obtain rfl : v21 = V.int y21 := r21
        refine ⟨_, _, rfl, rfl, _, rfl, ?_⟩
        refine post_ite hm (fun k22 hm => ?_) (fun k22 hm => ?_)
        · skip
          have h23 : A2 (rep K F21) [(.int b17)] ([b17] : (List Int)) := .cons rep_i (.nil)
          refine ⟨_, rfl, _, rfl, _, rfl, (by show 1 ≤ sizeLine; decide), fun p24 n24 => ?_⟩
          have w24 : W F21 _ ((p24, .lst [(.int b17)]) :: (p16, .lst vs17_0) :: os) := w21.new n24
          obtain ⟨l25, z25, e25, hm⟩ := pn_extend hm
          have h25 : A2 (rep K F21) (vs17_0 ++ [(.int b17)]) l25 := e25 ▸ A2.append h17_0 h23
          refine ⟨_, _, _, _, rfl, rfl, (w24.get (pre := [_])), (w24.get (pre := [])), (A2.le2 h17_0 h23 z25), fun p26 n26 => ?_⟩
          have w26 : W F21 _ ((p26, .lst (vs17_0 ++ [(.int b17)])) :: (p24, .lst [(.int b17)]) :: (p16, .lst vs17_0) :: os) := w24.new n26
          obtain ⟨F27, s27, w27, q27⟩ : ∃ F', Same F21 F' ∧ W F' _ ((p24, .lst [(.int b17)]) :: (p16, .lst vs17_0) :: os) ∧ F' p26 = some (.lst (vs17_0 ++ [(.int b17)])) := w26.freezeE (pre := [])
          replace q1 := s27 _ _ q1
          replace h2 := A2.mono s27 h2
          replace q2 := s27 _ _ q2
          replace h5 := A2.mono s27 h5
          replace q5 := s27 _ _ q5
          replace h17_0 := A2.mono s27 h17_0
          replace h23 := A2.mono s27 h23
          replace h25 := A2.mono s27 h25
          replace sF := sF.trans s27
          refine ⟨_, rfl, _, _, _, (y4 : (List ((List (List Int)) × Int))), _, (l25 : (List Int)), _, rfl, w27, (rep_lst q5 h5), (rep_lst q27 h25), ?_⟩
          refine (post_bind hm).mono (fun y28 hm v28 F28 H28 w28 s28 r28 => ?_) (fun _ z => z)
          replace q1 := s28 _ _ q1
          replace h2 := A2.mono s28 h2
          replace q2 := s28 _ _ q2
          replace h5 := A2.mono s28 h5
          replace q5 := s28 _ _ q5
          replace h17_0 := A2.mono s28 h17_0
          replace h23 := A2.mono s28 h23
          replace h25 := A2.mono s28 h25
          replace q27 := s28 _ _ q27
          replace sF := sF.trans s28
          obtain rfl : v28 = V.int y28 := r28
          have w29 : W F28 _ ((p16, .lst vs17_0) :: os) := w28.drop (pre := [])
          refine ⟨_, rfl, _, rfl, _, _, rfl, rfl, _, rfl, ?_⟩
          refine post_ite hm (fun k30 hm => ?_) (fun k30 hm => ?_)
          · skip
            obtain ⟨l31, z31, e31, hm⟩ := pn_app hm
            refine ⟨_, rfl, .inl ⟨rfl, _, SqL.of (w29.get (pre := []))⟩, _, rfl, _, _, _, rfl, rfl, (w29.get (pre := [])), (A2.lt h17_0 z31), ?_⟩
            have h31 : A2 (rep K F28) (vs17_0 ++ [(V.int b17)]) l31 := e31 ▸ A2.snoc h17_0 rep_i
            have w32 : W F28 _ ((p16, .lst (vs17_0 ++ [(V.int b17)])) :: os) := w29.set (pre := [])
            exact hN17 _ (post_ok hm) _ _ ⟨_, _, _, _, rfl, (s17.trans (s21.trans (s27.trans s28))), w32, h31⟩
          · skip
            exact ⟨_, rfl, _, rfl, _, _, rfl, rfl, hN17 _ (post_ok hm) _ _ ⟨_, _, _, _, rfl, (s17.trans (s21.trans (s27.trans s28))), w29, h17_0⟩⟩
        · skip
          exact hN17 _ (post_ok hm) _ _ ⟨_, _, _, _, rfl, (s17.trans s21), w21, h17_0⟩
      intro g17 σ17 H17 hI hm
      obtain ⟨F17, vs17_0, o17_6, o17_5, rfl, s17, w17, h17_0⟩ := hI
      replace q1 := s17 _ _ q1
      replace h2 := A2.mono s17 h2
      replace q2 := s17 _ _ q2
      replace h5 := A2.mono s17 h5
      replace q5 := s17 _ _ q5
      replace q19 := s17 _ _ q19
      replace h19 := A2.mono s17 h19
      replace sF := sF.trans s17
      exact ⟨_, rfl, (post_ok hm) _ _ _ _ w17 sF h17_0⟩
def sp_is_choice (K : Fg) : Sp := fun vs H Q E => ∃ (F : Hp) (os : List (Addr × HO)) (v_lots : V) (x_lots : (List ((List (List Int)) × Int))) (v_looks : V) (x_looks : (List Int)), vs = [v_lots, v_looks] ∧ W F H (os) ∧ rep K F v_lots x_lots ∧ rep K F v_looks x_looks ∧ Post (is_choice x_lots x_looks) (Ret K F os Q) noX
theorem sc_is_choice : FnScope ["lots", "looks"] ["lots", "looks"] (defScope s_is_choice) := ⟨rfl, rfl, rfl, by decide +kernel, rfl, by decide +kernel, by decide +kernel⟩
theorem ok_is_choice (T : Tx K mg A FD) : FnOk P w K mg base CX0 3 (A 34) (FD 34) ["lots", "looks"] (sp_is_choice K) := by
  refine T.d34.fn.ok sc_is_choice (fun vs H Q E h => ?_) (fun cdv Ar outer s H vs Q E hr h => ?_)
  · obtain ⟨F, os, v_lots, x_lots, v_looks, x_looks, rfl, _⟩ := h
    rfl
  · obtain ⟨F0, os, v_lots, x_lots, v_looks, x_looks, rfl, w0, r_lots, r_looks, hm⟩ := h
    have sF : Same F0 F0 := Same.refl _
    obtain ⟨a1, vs1, rfl, q1, h1⟩ := r_lots
    obtain ⟨a2, vs2, rfl, q2, h2⟩ := r_looks
    refine ⟨_, (pss_cons (ps_if (PW.pt (pw_or (pt_cmp (pc_neI (pe_callB (call_lenN (K := K) rfl) (by rfl) T.n_len (by decide +kernel) (pa_cons (pv 1) pa_nil)) (pe_call (ok_looks_by T) (hr.mono (by decide)) (by rfl) T.d27.mg T.d27.fn.kp T.d27.b .nil pass0 (pa_cons (pv 0) pa_nil)))) (pw_or1 (pt_cmpR (op_neDt (K := K) rfl (List Int) (by decide) hr.units) (pv 1) (pe_callB (cr_sortSet (w := w) rfl rfl) (by rfl) T.n_sorted (by decide +kernel) (pa_cons (pe_callTy (cr_setLI (K := K) (w := w) rfl rfl rfl) (by rfl) T.n_set (by decide +kernel) (pa_cons (pv 1) pa_nil)) pa_nil)) (nomark _))))) (pss_one (ps_ret pe_bl)) pss_nil) (pss_one (ps_ret (pe_cmp (pc_eqI (pe_call (ok_count_with T) (hr.mono (by decide)) (by rfl) T.d29.mg T.d29.fn.kp T.d29.b .nil pass0 (pa_cons (pv 0) (pa_cons (pv 1) (pa_cons (pe_op op_add (pe_callB (cr_maxI (K := K) rfl rfl) (by rfl) T.n_max (by decide +kernel) (pa_cons (pe_op op_cat (pv 1) (pe_lst (pa_cons pe_int pa_nil))) pa_nil)) (pe_op op_pow pe_int pe_int)) pa_nil)))) pe_int))))), ?_⟩
    try dsimp only
    refine stepSeq (stepIf ?_)
    refine joinT hm (fun (j3 : Bool) c H' => c = j3 ∧ ∃ (F' : Hp), Same F0 F' ∧ W F' H' (os)) ?_ ?_
    · intro Q3 P3 q3 hm
      refine ⟨_, rfl, _, _, _, rfl, .inl (SqL.of (w0.same _ _ q2)), h2.length, _, rfl, _, _, _, (x_lots : (List ((List (List Int)) × Int))), rfl, w0, (rep_lst q1 h1), ?_⟩
      refine (post_bind hm).mono (fun y4 hm v4 F4 H4 w4 s4 r4 => ?_) (fun _ z => z)
      replace q1 := s4 _ _ q1
      replace h1 := A2.mono s4 h1
      replace q2 := s4 _ _ q2
      replace h2 := A2.mono s4 h2
      replace sF := sF.trans s4
      obtain rfl : v4 = V.int y4 := r4
      refine ⟨_, _, rfl, rfl, _, rfl, ?_⟩
      refine post_ite hm (fun k5 hm => ?_) (fun k5 hm => ?_)
      · skip
        exact q3 _ (post_ok hm) _ _ ⟨rfl, _, s4, w4⟩
      · skip
        obtain ⟨l7, c7, e7, hm⟩ := pb_ss hm
        refine ⟨_, rfl, _, rfl, _, _, rfl, ints_q (SqL.of (w4.same _ _ q2)) h2, c7.1, fun p7 n7 => ?_⟩
        obtain ⟨F7, s7, w7, q7⟩ := w4.frzE (o := SetO w p7 (fun j => decide (j ∈ x_looks)) (nub x_looks).length) n7
        replace q1 := s7 _ _ q1
        replace h1 := A2.mono s7 h1
        replace q2 := s7 _ _ q2
        replace h2 := A2.mono s7 h2
        replace sF := sF.trans s7
        refine ⟨_, _, _, rfl, w7.same _ _ q7, c7.2, fun ns8 p8 u8 i8 j8 n8 => ?_⟩
        obtain rfl : ns8 = l7 := (ssI_uniq u8 i8).trans e7.symm
        have h8 : A2 (rep K F7) (ns8.map V.int) ns8 := A2.of_ints
        have w8 : W F7 _ ((p8, .lst (ns8.map V.int)) :: os) := w7.new n8
        have w10 : W F7 _ (os) := w8.drop (pre := [])
        exact ⟨(x_looks : (List Int)), (ns8 : (List Int)), (Rep.mono w8.same (rep_lst q2 h2)), (rep_own (pre := []) w8 h8), _, rfl, q3 _ (post_ok hm) _ _ ⟨rfl, _, (s4.trans s7), w10⟩⟩
    intro j3 c3 H3 hc3 hm
    obtain ⟨rfl, F3, s3, w3⟩ := hc3
    replace q1 := s3 _ _ q1
    replace h1 := A2.mono s3 h1
    replace q2 := s3 _ _ q2
    replace h2 := A2.mono s3 h2
    replace sF := sF.trans s3
    refine post_ite hm (fun k11 hm => ?_) (fun k11 hm => ?_)
    · skip
      exact (post_ok hm) _ _ _ w3 sF rep_b
    · skip
      have h12 : A2 (rep K F3) [(.int 0)] ([(0 : Int)] : (List Int)) := .cons rep_i (.nil)
      refine ⟨_, rfl, _, rfl, _, rfl, (by show 1 ≤ sizeLine; decide), fun p13 n13 => ?_⟩
      have w13 : W F3 _ ((p13, .lst [(.int 0)]) :: os) := w3.new n13
      obtain ⟨l14, z14, e14, hm⟩ := pn_extend hm
      have h14 : A2 (rep K F3) (vs2 ++ [(.int 0)]) l14 := e14 ▸ A2.append h2 h12
      refine ⟨_, _, _, _, rfl, rfl, (w13.same _ _ q2), (w13.get (pre := [])), (A2.le2 h2 h12 z14), fun p15 n15 => ?_⟩
      have w15 : W F3 _ ((p15, .lst (vs2 ++ [(.int 0)])) :: (p13, .lst [(.int 0)]) :: os) := w13.new n15
      obtain ⟨t16, e16, hm⟩ := pb_max hm
      refine ⟨_, _, _, rfl, ints_q (SqL.of (w15.get (pre := []))) h14, e16, _, _, rfl, rfl, (by refine ⟨?_, ?_, ?_⟩ <;> decide), _, _, rfl, rfl, _, _, _, (x_lots : (List ((List (List Int)) × Int))), _, (x_looks : (List Int)), _, rfl, w15, (rep_lst q1 h1), (rep_lst q2 h2), ?_⟩
      refine (post_bind hm).mono (fun y18 hm v18 F18 H18 w18 s18 r18 => ?_) (fun _ z => z)
      replace q1 := s18 _ _ q1
      replace h1 := A2.mono s18 h1
      replace q2 := s18 _ _ q2
      replace h2 := A2.mono s18 h2
      replace h12 := A2.mono s18 h12
      replace h14 := A2.mono s18 h14
      replace sF := sF.trans s18
      obtain rfl : v18 = V.int y18 := r18
      have w19 : W F18 _ ((p13, .lst [(.int 0)]) :: os) := w18.drop (pre := [])
      have w20 : W F18 _ (os) := w19.drop (pre := [])
      exact ⟨_, _, rfl, rfl, (post_ok hm) _ _ _ w20 sF rep_b⟩
def sp_choice_number (K : Fg) : Sp := fun vs H Q E => ∃ (F : Hp) (os : List (Addr × HO)) (v_web : V) (x_web : (Int × (Tup (Int × Int)))) (x_kind : Str) (v_looks : V) (x_looks : (List Int)), vs = [v_web, .str x_kind, v_looks] ∧ W F H (os) ∧ rep K F v_web x_web ∧ rep K F v_looks x_looks ∧ Post (choice_number x_web x_kind x_looks) (Ret K F os Q) noX
theorem sc_choice_number : FnScope ["web", "kind", "looks", "lots", "number", "at", "look", "place"] ["web", "kind", "looks"] (defScope s_choice_number) := ⟨rfl, rfl, rfl, by decide +kernel, rfl, by decide +kernel, by decide +kernel⟩
theorem ok_choice_number (T : Tx K mg A FD) : FnOk P w K mg base CX0 4 (A 35) (FD 35) ["web", "kind", "looks"] (sp_choice_number K) := by
  refine T.d35.fn.ok sc_choice_number (fun vs H Q E h => ?_) (fun cdv Ar outer s H vs Q E hr h => ?_)
  · obtain ⟨F, os, v_web, x_web, x_kind, v_looks, x_looks, rfl, _⟩ := h
    rfl
  · obtain ⟨F0, os, v_web, x_web, x_kind, v_looks, x_looks, rfl, w0, r_web, r_looks, hm⟩ := h
    have sF : Same F0 F0 := Same.refl _
    obtain ⟨a1, u1, z1, rfl, q1, r1a, r1b⟩ := r_web
    obtain rfl : u1 = V.int x_web.1 := r1a
    obtain ⟨a2, vs2, rfl, q2, h2⟩ := r1b
    obtain ⟨a3, vs3, rfl, q3, h3⟩ := r_looks
    refine ⟨_, (pss_cons (ps_expr (pe_call (ok_grown_asked T) (hr.mono (by decide)) (by rfl) T.d23.mg T.d23.fn.kp T.d23.b .nil pass0 (pa_cons (pv 0) pa_nil))) (pss_cons (ps_set (i := 3) sc_choice_number.nd rfl (Or.inl rfl) (pe_call (ok_lots_of T) (hr.mono (by decide)) (by rfl) T.d26.mg T.d26.fn.kp T.d26.b .nil pass0 (pa_cons (pv 0) (pa_cons (pv 1) pa_nil)))) (pss_cons (ps_if (pt_not (pt_val (pe_call (ok_is_choice T) (hr.mono (by decide)) (by rfl) T.d34.mg T.d34.fn.kp T.d34.b .nil pass0 (pa_cons (pv 3) (pa_cons (pv 2) pa_nil))))) (pss_one ps_absurd) pss_nil) (pss_cons (ps_set (i := 4) sc_choice_number.nd rfl (Or.inl rfl) pe_int1) (pss_cons (ps_for PassesOwn.never rfl (pi_k (K := K) (wi := fun K => iEnum K _) rfl (pi_enum (by rfl) T.n_enumerate (pa_cons (pv 2) pa_nil))) (pg_k (K := K) (t := fun K => gTup K 2 _) rfl (pg_tup (n := 2) rfl (pgs_cons (pg_name (i := 5) sc_choice_number.nd rfl (Or.inl rfl)) (pgs_cons (pg_name (i := 6) sc_choice_number.nd rfl (Or.inl rfl)) pgs_nil)))) (pss_one (ps_for PassesOwn.never rfl (pi_listK (K := K) rfl (pe_call (ok_places_in T) (hr.mono (by decide)) (by rfl) T.d30.mg T.d30.fn.kp T.d30.b .nil pass0 (pa_cons (pv 3) pa_nil))) (pg_name (i := 7) sc_choice_number.nd rfl (Or.inl rfl)) (pss_one (ps_if (PW.pt (pw_and (pt_cmp (pc_lt (pv 7) (pv 6))) (pw_and1 (PW.pt (pw_or (pt_cmp (pc_eqI (pv 5) pe_int)) (pw_or1 (pt_cmp (pc_gt (pv 7) (pe_ix (ix_listK (K := K) rfl) (pv 2) (pe_op op_sub (pv 5) pe_int) (fun _ _ => rfl)))))))))) (pss_one (ps_set (i := 4) sc_choice_number.nd rfl (Or.inl rfl) (pe_op op_add (pv 4) (pe_call (ok_count_with T) (hr.mono (by decide)) (by rfl) T.d29.mg T.d29.fn.kp T.d29.b .nil pass0 (pa_cons (pv 3) (pa_cons (pe_op op_cat (pe_slice (sl_listK (K := K) rfl) (pv 2) po_none (po_some (pv 5))) (pe_lst (pa_cons (pv 7) pa_nil))) (pa_cons (pv 7) pa_nil))))))) pss_nil))))) (pss_one (ps_ret (pv 4)))))))), ?_⟩
    refine ⟨_, rfl, _, _, _, (x_web : (Int × (Tup (Int × Int)))), rfl, w0, (rep_pair q1 rep_i (rep_tup q2 h2)), ?_⟩
    refine (post_bind hm).mono (fun y4 hm v4 F4 H4 w4 s4 r4 => ?_) (fun _ z => z)
    replace q1 := s4 _ _ q1
    replace q2 := s4 _ _ q2
    replace h2 := A2.mono s4 h2
    replace q3 := s4 _ _ q3
    replace h3 := A2.mono s4 h3
    replace sF := sF.trans s4
    obtain rfl : v4 = V.non := r4
    refine ⟨_, rfl, _, rfl, _, _, _, (x_web : (Int × (Tup (Int × Int)))), _, rfl, w4, (rep_pair q1 rep_i (rep_tup q2 h2)), ?_⟩
    refine (post_bind hm).mono (fun y5 hm v5 F5 H5 w5 s5 r5 => ?_) (fun _ z => z)
    replace q1 := s5 _ _ q1
    replace h2 := A2.mono s5 h2
    replace q2 := s5 _ _ q2
    replace h3 := A2.mono s5 h3
    replace q3 := s5 _ _ q3
    replace sF := sF.trans s5
    obtain ⟨a6, vs6, rfl, q6, h6⟩ := r5
    refine ⟨_, rfl, _, rfl, _, _, _, (y5 : (List ((List (List Int)) × Int))), _, (x_looks : (List Int)), rfl, w5, (rep_lst q6 h6), (rep_lst q3 h3), ?_⟩
    refine (post_bind hm).mono (fun y7 hm v7 F7 H7 w7 s7 r7 => ?_) (fun _ z => z)
    replace q1 := s7 _ _ q1
    replace h2 := A2.mono s7 h2
    replace q2 := s7 _ _ q2
    replace h3 := A2.mono s7 h3
    replace q3 := s7 _ _ q3
    replace h6 := A2.mono s7 h6
    replace q6 := s7 _ _ q6
    replace sF := sF.trans s7
    obtain rfl : v7 = V.bl y7 := r7
    refine ⟨_, rfl, ?_⟩
    refine post_ite hm (fun k8 hm => ?_) (fun k8 hm => ?_)
    · skip
      try dsimp only
      exact hm
    · skip
      refine ⟨trivial, _, rfl, _, _, rfl, SqL.of (w7.same _ _ q3), ?_⟩
      refine forS (tw_enum (a := a3) h3) hm (fun (g9 : Int) σ H' => ∃ (F' : Hp) (o9_7 : Option V) (o9_5 : Option V) (o9_6 : Option V), σ = [some (.ref a1), some (.str x_kind), some (.ref a3), some (.ref a6), some (.int g9), o9_5, o9_6, o9_7] ∧ Same F7 F' ∧ W F' H' (os)) ⟨_, _, _, _, rfl, Same.refl _, w7⟩ (fun g σ H' hI => by obtain ⟨F', _, _, _, _, s, w⟩ := hI; exact SqL.of (w.same _ _ (s _ _ q3))) ?_ ?_
      · -- a turn
        intro b9 g9 x9 σ9 H9 H9' N9 P9 hI hy hN9 hm
        obtain ⟨F9, o9_7, o9_5, o9_6, rfl, s9, w9⟩ := hI
        replace q1 := s9 _ _ q1
        replace h2 := A2.mono s9 h2
        replace q2 := s9 _ _ q2
        replace h3 := A2.mono s9 h3
        replace q3 := s9 _ _ q3
        replace h6 := A2.mono s9 h6
        replace q6 := s9 _ _ q6
        replace sF := sF.trans s9
        obtain ⟨T10, u10, rfl, n10, rfl, r10⟩ := hy
        obtain ⟨F10, s10, w10, q10⟩ := w9.frzE (o := .tup [.int b9.1, u10]) n10
        replace r10 := Rep.mono s9 r10
        replace q1 := s10 _ _ q1
        replace h2 := A2.mono s10 h2
        replace q2 := s10 _ _ q2
        replace h3 := A2.mono s10 h3
        replace q3 := s10 _ _ q3
        replace h6 := A2.mono s10 h6
        replace q6 := s10 _ _ q6
        replace sF := sF.trans s10
        replace r10 := Rep.mono s10 r10
        obtain rfl : u10 = V.int b9.2 := r10
        refine ⟨_, _, rfl, SqT.of (w10.same _ _ q10), rfl, _, _, rfl, _, _, rfl, rfl, _, rfl, _, _, _, (y5 : (List ((List (List Int)) × Int))), rfl, w10, (rep_lst q6 h6), ?_⟩
        refine (post_bind hm).mono (fun y12 hm v12 F12 H12 w12 s12 r12 => ?_) (fun _ z => z)
        replace q1 := s12 _ _ q1
        replace h2 := A2.mono s12 h2
        replace q2 := s12 _ _ q2
        replace h3 := A2.mono s12 h3
        replace q3 := s12 _ _ q3
        replace h6 := A2.mono s12 h6
        replace q6 := s12 _ _ q6
        replace sF := sF.trans s12
        obtain ⟨a13, vs13, rfl, q13, h13⟩ := r12
        refine ⟨_, rfl, ⟨_, SqL.of (w12.same _ _ q13)⟩, ?_⟩
        refine forS (tw_list (a := a13) h13) hm (fun (g11 : Int) σ H' => ∃ (F' : Hp) (o11_7 : Option V), σ = [some (.ref a1), some (.str x_kind), some (.ref a3), some (.ref a6), some (.int g11), some (.int b9.1), some (.int b9.2), o11_7] ∧ Same F12 F' ∧ W F' H' (os)) ⟨_, _, rfl, Same.refl _, w12⟩ (fun g σ H' hI => by obtain ⟨F', _, _, s, w⟩ := hI; exact SqL.of (w.same _ _ (s _ _ q13))) ?_ ?_
        · -- a turn
          intro b11 g11 x11 σ11 H11 H11' N11 P11 hI hy hN11 hm
          obtain ⟨F11, o11_7, rfl, s11, w11⟩ := hI
          replace q1 := s11 _ _ q1
          replace h2 := A2.mono s11 h2
          replace q2 := s11 _ _ q2
          replace h3 := A2.mono s11 h3
          replace q3 := s11 _ _ q3
          replace h6 := A2.mono s11 h6
          replace q6 := s11 _ _ q6
          replace q13 := s11 _ _ q13
          replace h13 := A2.mono s11 h13
          replace sF := sF.trans s11
          obtain ⟨rfl, r14⟩ := hy
          obtain rfl : x11 = V.int b11 := r14
          refine stepN ?_
          try dsimp only
          refine stepIf ?_
          refine joinT hm (fun (j15 : Bool) c H' => c = j15 ∧ ∃ (F' : Hp), Same F11 F' ∧ W F' H' (os)) ?_ ?_
          · intro Q15 P15 q15 hm
            refine ⟨_, rfl, _, rfl, _, _, rfl, rfl, _, rfl, ?_⟩
            refine post_ite hm (fun k16 hm => ?_) (fun k16 hm => ?_)
            · skip
              refine joinT hm (fun (j17 : Bool) c H' => c = j17 ∧ ∃ (F' : Hp), Same F11 F' ∧ W F' H' (os)) ?_ ?_
              · intro Q17 P17 q17 hm
                refine ⟨_, rfl, _, _, rfl, rfl, _, rfl, ?_⟩
                refine post_ite hm (fun k18 hm => ?_) (fun k18 hm => ?_)
                · skip
                  exact q17 _ (post_ok hm) _ _ ⟨rfl, _, Same.refl _, w11⟩
                · skip
                  obtain ⟨t20, e20, hm⟩ := pb_get hm
                  obtain ⟨u20, f20, r20⟩ := A2.at h3 e20
                  obtain rfl : u20 = V.int t20 := r20
                  exact ⟨_, rfl, _, rfl, _, rfl, _, _, rfl, rfl, _, _, _, _, rfl, rfl, SqL.of (w11.same _ _ q3), f20, _, _, rfl, rfl, _, rfl, q17 _ (post_ok hm) _ _ ⟨rfl, _, Same.refl _, w11⟩⟩
              intro j17 c17 H17 hc17 hm
              obtain ⟨rfl, F17, s17, w17⟩ := hc17
              replace q1 := s17 _ _ q1
              replace h2 := A2.mono s17 h2
              replace q2 := s17 _ _ q2
              replace h3 := A2.mono s17 h3
              replace q3 := s17 _ _ q3
              replace h6 := A2.mono s17 h6
              replace q6 := s17 _ _ q6
              replace sF := sF.trans s17
              exact q15 _ (post_ok hm) _ _ ⟨rfl, _, s17, w17⟩
            · skip
              exact q15 _ (post_ok hm) _ _ ⟨rfl, _, Same.refl _, w11⟩
          intro j15 c15 H15 hc15 hm
          obtain ⟨rfl, F15, s15, w15⟩ := hc15
          replace q1 := s15 _ _ q1
          replace h2 := A2.mono s15 h2
          replace q2 := s15 _ _ q2
          replace h3 := A2.mono s15 h3
          replace q3 := s15 _ _ q3
          replace h6 := A2.mono s15 h6
          replace q6 := s15 _ _ q6
          replace sF := sF.trans s15
          refine post_ite hm (fun k24 hm => ?_) (fun k24 hm => ?_)
          · skip
            have h25 : A2 (rep K F15) (cutV vs3 none (some b9.1)) (cutL x_looks none (some b9.1)) := sl_cut h3 _ _
            refine ⟨_, rfl, _, rfl, _, rfl, _, rfl, _, rfl, _, _, rfl, SqL.of (w15.same _ _ q3), fun p26 n26 => ?_⟩
            have w26 : W F15 _ ((p26, .lst (cutV vs3 none (some b9.1))) :: os) := w15.new n26
            have h27 : A2 (rep K F15) [(.int b11)] ([b11] : (List Int)) := .cons rep_i (.nil)
            refine ⟨_, rfl, (by show 1 ≤ sizeLine; decide), fun p28 n28 => ?_⟩
            have w28 : W F15 _ ((p28, .lst [(.int b11)]) :: (p26, .lst (cutV vs3 none (some b9.1))) :: os) := w26.new n28
            obtain ⟨l29, z29, e29, hm⟩ := pn_extend hm
            have h29 : A2 (rep K F15) ((cutV vs3 none (some b9.1)) ++ [(.int b11)]) l29 := e29 ▸ A2.append h25 h27
            refine ⟨_, _, _, _, rfl, rfl, (w28.get (pre := [_])), (w28.get (pre := [])), (A2.le2 h25 h27 z29), fun p30 n30 => ?_⟩
            have w30 : W F15 _ ((p30, .lst ((cutV vs3 none (some b9.1)) ++ [(.int b11)])) :: (p28, .lst [(.int b11)]) :: (p26, .lst (cutV vs3 none (some b9.1))) :: os) := w28.new n30
            obtain ⟨F31, s31, w31, q31⟩ : ∃ F', Same F15 F' ∧ W F' _ ((p28, .lst [(.int b11)]) :: (p26, .lst (cutV vs3 none (some b9.1))) :: os) ∧ F' p30 = some (.lst ((cutV vs3 none (some b9.1)) ++ [(.int b11)])) := w30.freezeE (pre := [])
            replace q1 := s31 _ _ q1
            replace h2 := A2.mono s31 h2
            replace q2 := s31 _ _ q2
            replace h3 := A2.mono s31 h3
            replace q3 := s31 _ _ q3
            replace h6 := A2.mono s31 h6
            replace q6 := s31 _ _ q6
            replace h25 := A2.mono s31 h25
            replace h27 := A2.mono s31 h27
            replace h29 := A2.mono s31 h29
            replace sF := sF.trans s31
            refine ⟨_, rfl, _, _, _, (y5 : (List ((List (List Int)) × Int))), _, (l29 : (List Int)), _, rfl, w31, (rep_lst q6 h6), (rep_lst q31 h29), ?_⟩
            refine (post_bind hm).mono (fun y32 hm v32 F32 H32 w32 s32 r32 => ?_) (fun _ z => z)
            replace q1 := s32 _ _ q1
            replace h2 := A2.mono s32 h2
            replace q2 := s32 _ _ q2
            replace h3 := A2.mono s32 h3
            replace q3 := s32 _ _ q3
            replace h6 := A2.mono s32 h6
            replace q6 := s32 _ _ q6
            replace h25 := A2.mono s32 h25
            replace h27 := A2.mono s32 h27
            replace h29 := A2.mono s32 h29
            replace q31 := s32 _ _ q31
            replace sF := sF.trans s32
            obtain rfl : v32 = V.int y32 := r32
            have w33 : W F32 _ ((p26, .lst (cutV vs3 none (some b9.1))) :: os) := w32.drop (pre := [])
            have w34 : W F32 _ (os) := w33.drop (pre := [])
            exact ⟨_, _, rfl, rfl, hN11 _ (post_ok hm) _ _ ⟨_, _, rfl, (s11.trans (s15.trans (s31.trans s32))), w34⟩⟩
          · skip
            exact hN11 _ (post_ok hm) _ _ ⟨_, _, rfl, (s11.trans s15), w15⟩
        intro g11 σ11 H11 hI hm
        obtain ⟨F11, o11_7, rfl, s11, w11⟩ := hI
        replace q1 := s11 _ _ q1
        replace h2 := A2.mono s11 h2
        replace q2 := s11 _ _ q2
        replace h3 := A2.mono s11 h3
        replace q3 := s11 _ _ q3
        replace h6 := A2.mono s11 h6
        replace q6 := s11 _ _ q6
        replace q13 := s11 _ _ q13
        replace h13 := A2.mono s11 h13
        replace sF := sF.trans s11
        exact hN9 _ (post_ok hm) _ _ ⟨_, _, _, _, rfl, (s9.trans (s10.trans (s12.trans s11))), w11⟩
      intro g9 σ9 H9 hI hm
      obtain ⟨F9, o9_7, o9_5, o9_6, rfl, s9, w9⟩ := hI
      replace q1 := s9 _ _ q1
      replace h2 := A2.mono s9 h2
      replace q2 := s9 _ _ q2
      replace h3 := A2.mono s9 h3
      replace q3 := s9 _ _ q3
      replace h6 := A2.mono s9 h6
      replace q6 := s9 _ _ q6
      replace sF := sF.trans s9
      exact ⟨_, rfl, (post_ok hm) _ _ _ w9 sF rep_i⟩
def sp_law_cells (K : Fg) : Sp := fun vs H Q E => ∃ (F : Hp) (os : List (Addr × HO)) (v_script : V) (x_script : Scr) (x_many : Int), vs = [v_script, .int x_many] ∧ W F H (os) ∧ rep K F v_script x_script ∧ Post (law_cells x_script x_many) (RetL K F os Q) noX
theorem sc_law_cells : FnScope ["script", "many", "cells", "k", "cell"] ["script", "many"] (defScope s_law_cells) := ⟨rfl, rfl, rfl, by decide +kernel, rfl, by decide +kernel, by decide +kernel⟩
theorem ok_law_cells (T : Tx K mg A FD) : FnOk P w K mg base CX0 1 (A 37) (FD 37) ["script", "many"] (sp_law_cells K) := by
  refine T.d37.fn.ok sc_law_cells (fun vs H Q E h => ?_) (fun cdv Ar outer s H vs Q E hr h => ?_)
  · obtain ⟨F, os, v_script, x_script, x_many, rfl, _⟩ := h
    rfl
  · obtain ⟨F0, os, v_script, x_script, x_many, rfl, w0, r_script, hm⟩ := h
    have sF : Same F0 F0 := Same.refl _
    obtain ⟨a1, rfl, q1⟩ := r_script
    have h1 : A2 (rep K F0) (x_script.l.map V.int) x_script.l := A2.of_ints
    refine ⟨_, (pss_cons (ps_set (i := 2) sc_law_cells.nd rfl (Or.inl rfl) (pe_callTy (call_list_ofK (K := K) rfl) (by rfl) T.n_list (by decide +kernel) (pa_cons (pe_slice (sl_listK (K := K) rfl) (pv 0) po_none (po_some (pv 1))) pa_nil))) (pss_cons (ps_for PassesOwn.never rfl (pi_k (K := K) (wi := fun K => iEnum K _) rfl (pi_enum (by rfl) T.n_enumerate (pa_cons (pe_slice (sl_listK (K := K) rfl) (pv 0) (po_some (pv 1)) (po_some pe_int)) pa_nil))) (pg_k (K := K) (t := fun K => gTup K 2 _) rfl (pg_tup (n := 2) rfl (pgs_cons (pg_name (i := 3) sc_law_cells.nd rfl (Or.inl rfl)) (pgs_cons (pg_name (i := 4) sc_law_cells.nd rfl (Or.inl rfl)) pgs_nil)))) (pss_one (ps_asg (pe_op op_add (pe_op op_mul (pe_ix (ix_listK (K := K) rfl) (pv 2) (pe_op op_mod (pv 3) (pv 1)) (fun _ _ => rfl)) pe_int) (pv 4)) (pg_sub (pv 2) (pe_op op_mod (pv 3) (pv 1)) set_list)))) (pss_one (ps_ret (pv 2))))), ?_⟩
    have h2 : A2 (rep K F0) (cutV (x_script.l.map V.int) none (some x_many)) (cutL x_script.l none (some x_many)) := sl_cut h1 _ _
    refine ⟨_, rfl, _, rfl, _, rfl, _, _, rfl, w0.same.seq q1, fun p3 n3 => ?_⟩
    have w3 : W F0 _ ((p3, .lst (cutV (x_script.l.map V.int) none (some x_many))) :: os) := w0.new n3
    have h4 : A2 (rep K F0) (cutV (x_script.l.map V.int) none (some x_many)) (cutL x_script.l none (some x_many)) := h2
    refine ⟨_, _, rfl, .inl (SqL.of (w3.get (pre := []))), fun p5 n5 => ?_⟩
    have w5 : W F0 _ ((p5, .lst (cutV (x_script.l.map V.int) none (some x_many))) :: (p3, .lst (cutV (x_script.l.map V.int) none (some x_many))) :: os) := w3.new n5
    have w6 : W F0 _ ((p5, .lst (cutV (x_script.l.map V.int) none (some x_many))) :: os) := w5.drop (pre := [_])
    have h8 : A2 (rep K F0) (cutV (x_script.l.map V.int) (some x_many) (some (63 : Int))) (cutL x_script.l (some x_many) (some (63 : Int))) := sl_cut h1 _ _
    refine ⟨_, rfl, _, rfl, _, rfl, _, rfl, _, _, rfl, w6.same.seq q1, fun p9 n9 => ?_⟩
    have w9 : W F0 _ ((p9, .lst (cutV (x_script.l.map V.int) (some x_many) (some (63 : Int)))) :: (p5, .lst (cutV (x_script.l.map V.int) none (some x_many))) :: os) := w6.new n9
    obtain ⟨F10, s10, w10, q10⟩ : ∃ F', Same F0 F' ∧ W F' _ ((p5, .lst (cutV (x_script.l.map V.int) none (some x_many))) :: os) ∧ F' p9 = some (.lst (cutV (x_script.l.map V.int) (some x_many) (some (63 : Int)))) := w9.freezeE (pre := [])
    replace h1 := A2.mono s10 h1
    replace q1 := s10.seq q1
    replace h4 := A2.mono s10 h4
    replace h8 := A2.mono s10 h8
    replace sF := sF.trans s10
    refine ⟨_, _, rfl, SqL.of (w10.same _ _ q10), ?_⟩
    refine forS (tw_enum (a := p9) h8) hm (fun (g7 : (List Int)) σ H' => ∃ (F' : Hp) (vs7_0 : List V) (o7_3 : Option V) (o7_4 : Option V), σ = [some (.ref a1), some (.int x_many), some (.ref p5), o7_3, o7_4] ∧ Same F10 F' ∧ W F' H' ((p5, .lst vs7_0) :: os) ∧ A2 (rep K F') vs7_0 g7) ⟨_, _, _, _, rfl, Same.refl _, w10, h4⟩ (fun g σ H' hI => by obtain ⟨F', _, _, _, _, s, w, _⟩ := hI; exact SqL.of (w.same _ _ (s _ _ q10))) ?_ ?_
    · -- a turn
      intro b7 g7 x7 σ7 H7 H7' N7 P7 hI hy hN7 hm
      obtain ⟨F7, vs7_0, o7_3, o7_4, rfl, s7, w7, h7_0⟩ := hI
      replace h1 := A2.mono s7 h1
      replace q1 := s7.seq q1
      replace h8 := A2.mono s7 h8
      replace q10 := s7 _ _ q10
      replace sF := sF.trans s7
      obtain ⟨T11, u11, rfl, n11, rfl, r11⟩ := hy
      obtain ⟨F11, s11, w11, q11⟩ := w7.frzE (o := .tup [.int b7.1, u11]) n11
      replace r11 := Rep.mono s7 r11
      replace h1 := A2.mono s11 h1
      replace q1 := s11.seq q1
      replace h8 := A2.mono s11 h8
      replace q10 := s11 _ _ q10
      replace h7_0 := A2.mono s11 h7_0
      replace sF := sF.trans s11
      replace r11 := Rep.mono s11 r11
      obtain rfl : u11 = V.int b7.2 := r11
      obtain ⟨c12, hm⟩ := pb_mod hm
      obtain ⟨t13, e13, hm⟩ := pb_get hm
      obtain ⟨u13, f13, r13⟩ := A2.at h7_0 e13
      obtain rfl : u13 = V.int t13 := r13
      obtain ⟨c15, hm⟩ := pb_mod hm
      obtain ⟨j16, l16, z16, e16, hm⟩ := pn_set hm
      refine ⟨_, _, rfl, SqT.of (w11.same _ _ q11), rfl, _, _, rfl, _, _, rfl, rfl, _, rfl, _, rfl, _, rfl, _, _, rfl, rfl, c12, _, _, _, _, rfl, rfl, SqL.of (w11.get (pre := [])), f13, _, _, rfl, rfl, (.inr (by constructor <;> decide)), _, rfl, _, _, rfl, rfl, _, rfl, _, rfl, _, rfl, _, _, rfl, rfl, c15, _, _, _, _, rfl, rfl, (w11.get (pre := [])), (A2.ix h7_0 z16), ?_⟩
      have h16 : A2 (rep K F11) (vs7_0.set j16 (V.int ((t13 * (31 : Int)) + b7.2))) l16 := e16 ▸ A2.set rep_i j16 h7_0
      have w17 : W F11 _ ((p5, .lst (vs7_0.set j16 (V.int ((t13 * (31 : Int)) + b7.2)))) :: os) := w11.set (pre := [])
      exact hN7 _ (post_ok hm) _ _ ⟨_, _, _, _, rfl, (s7.trans s11), w17, h16⟩
    intro g7 σ7 H7 hI hm
    obtain ⟨F7, vs7_0, o7_3, o7_4, rfl, s7, w7, h7_0⟩ := hI
    replace h1 := A2.mono s7 h1
    replace q1 := s7.seq q1
    replace h8 := A2.mono s7 h8
    replace q10 := s7 _ _ q10
    replace sF := sF.trans s7
    exact ⟨_, rfl, (post_ok hm) _ _ _ _ w7 sF h7_0⟩
def sp_law_pool (K : Fg) : Sp := fun vs H Q E => ∃ (F : Hp) (os : List (Addr × HO)) (v_cells : V) (x_cells : (List Int)) (x_k : Int), vs = [v_cells, .int x_k] ∧ W F H (os) ∧ rep K F v_cells x_cells ∧ Post (law_pool x_cells x_k) (RetL K F os Q) noX
theorem sc_law_pool : FnScope ["cells", "k", "cell", "rest"] ["cells", "k"] (defScope s_law_pool) := ⟨rfl, rfl, rfl, by decide +kernel, rfl, by decide +kernel, by decide +kernel⟩
theorem ok_law_pool (T : Tx K mg A FD) : FnOk P w K mg base CX0 1 (A 38) (FD 38) ["cells", "k"] (sp_law_pool K) := by
  refine T.d38.fn.ok sc_law_pool (fun vs H Q E h => ?_) (fun cdv Ar outer s H vs Q E hr h => ?_)
  · obtain ⟨F, os, v_cells, x_cells, x_k, rfl, _⟩ := h
    rfl
  · obtain ⟨F0, os, v_cells, x_cells, x_k, rfl, w0, r_cells, hm⟩ := h
    have sF : Same F0 F0 := Same.refl _
    obtain ⟨a1, vs1, rfl, q1, h1⟩ := r_cells
    refine ⟨_, (pss_cons (ps_set (i := 2) sc_law_pool.nd rfl (Or.inl rfl) pe_int1) (pss_cons (ps_if (pt_cmp (pc_gt (pe_callB (call_lenN (K := K) rfl) (by rfl) T.n_len (by decide +kernel) (pa_cons (pv 0) pa_nil)) pe_int)) (pss_one (ps_set (i := 2) sc_law_pool.nd rfl (Or.inl rfl) (pe_op op_add (pe_ix (ix_listK (K := K) rfl) (pv 0) (pe_op op_mod (pv 1) (pe_callB (call_lenN (K := K) rfl) (by rfl) T.n_len (by decide +kernel) (pa_cons (pv 0) pa_nil))) (fun _ _ => rfl)) (pe_op op_fdivW (pv 1) (pe_callB (call_lenN (K := K) rfl) (by rfl) T.n_len (by decide +kernel) (pa_cons (pv 0) pa_nil)))))) pss_nil) (pss_cons (ps_set (i := 3) sc_law_pool.nd rfl (Or.inl rfl) pe_int1) (pss_cons (ps_if (PW.pt (pw_or (pt_cmp (pc_lt (pv 2) pe_int)) (pw_or1 (pt_cmp (pc_ge (pv 2) (pe_op op_pow pe_int pe_int)))))) (pss_one (ps_set (i := 3) sc_law_pool.nd rfl (Or.inl rfl) (pe_callB call_abs (by rfl) T.n_abs (by decide +kernel) (pa_cons (pv 2) pa_nil)))) pss_nil) (pss_one (ps_ret (pe_lst (pa_cons (pv 3) (pa_cons (pe_op op_mod (pe_op op_add (pe_op op_mul (pe_op op_mod (pv 2) pe_int) pe_int) (pe_op op_mul (pe_op op_mul pe_int (pe_op op_add (pv 1) pe_int)) (pe_op op_add (pv 1) pe_int))) pe_int) pa_nil))))))))), ?_⟩
    refine ⟨trivial, ?_⟩
    refine stepN ?_
    try dsimp only
    refine joinS hm (fun (g2 : Int) σ H' => ∃ (F' : Hp), σ = [some (.ref a1), some (.int x_k), some (.int g2), none] ∧ Same F0 F' ∧ W F' H' (os)) ?_ ?_
    · intro N2 P2 hN2 hm
      refine ⟨_, rfl, _, _, _, rfl, .inl (SqL.of (w0.same _ _ q1)), h1.length, _, _, rfl, rfl, _, rfl, ?_⟩
      refine post_ite hm (fun k3 hm => ?_) (fun k3 hm => ?_)
      · skip
        obtain ⟨c4, hm⟩ := pb_mod hm
        obtain ⟨t5, e5, hm⟩ := pb_get hm
        obtain ⟨u5, f5, r5⟩ := A2.at h1 e5
        obtain rfl : u5 = V.int t5 := r5
        obtain ⟨c6, hm⟩ := pb_div hm
        exact ⟨_, rfl, _, rfl, _, rfl, _, _, _, rfl, .inl (SqL.of (w0.same _ _ q1)), h1.length, _, _, rfl, rfl, c4, _, _, _, _, rfl, rfl, SqL.of (w0.same _ _ q1), f5, _, rfl, _, rfl, _, _, _, rfl, .inl (SqL.of (w0.same _ _ q1)), h1.length, _, _, rfl, rfl, c6, _, _, rfl, rfl, hN2 _ (post_ok hm) _ _ ⟨_, rfl, Same.refl _, w0⟩⟩
      · skip
        exact hN2 _ (post_ok hm) _ _ ⟨_, rfl, Same.refl _, w0⟩
    intro g2 σ2 H2 hI hm
    obtain ⟨F2, rfl, s2, w2⟩ := hI
    replace h1 := A2.mono s2 h1
    replace q1 := s2 _ _ q1
    replace sF := sF.trans s2
    refine ⟨trivial, ?_⟩
    refine stepN ?_
    try dsimp only
    refine joinS hm (fun (g7 : Int) σ H' => ∃ (F' : Hp), σ = [some (.ref a1), some (.int x_k), some (.int g2), some (.int g7)] ∧ Same F2 F' ∧ W F' H' (os)) ?_ ?_
    · intro N7 P7 hN7 hm
      refine stepIf ?_
      refine joinT hm (fun (j8 : Bool) c H' => c = j8 ∧ ∃ (F' : Hp), Same F2 F' ∧ W F' H' (os)) ?_ ?_
      · intro Q8 P8 q8 hm
        refine ⟨_, rfl, _, _, rfl, rfl, _, rfl, ?_⟩
        refine post_ite hm (fun k9 hm => ?_) (fun k9 hm => ?_)
        · skip
          exact q8 _ (post_ok hm) _ _ ⟨rfl, _, Same.refl _, w2⟩
        · skip
          exact ⟨_, rfl, _, _, rfl, rfl, (by refine ⟨?_, ?_, ?_⟩ <;> decide), _, _, rfl, rfl, _, rfl, q8 _ (post_ok hm) _ _ ⟨rfl, _, Same.refl _, w2⟩⟩
      intro j8 c8 H8 hc8 hm
      obtain ⟨rfl, F8, s8, w8⟩ := hc8
      replace h1 := A2.mono s8 h1
      replace q1 := s8 _ _ q1
      replace sF := sF.trans s8
      refine post_ite hm (fun k13 hm => ?_) (fun k13 hm => ?_)
      · skip
        exact ⟨_, rfl, _, rfl, hN7 _ (post_ok hm) _ _ ⟨_, rfl, s8, w8⟩⟩
      · skip
        exact hN7 _ (post_ok hm) _ _ ⟨_, rfl, s8, w8⟩
    intro g7 σ7 H7 hI hm
    obtain ⟨F7, rfl, s7, w7⟩ := hI
    replace h1 := A2.mono s7 h1
    replace q1 := s7 _ _ q1
    replace sF := sF.trans s7
    obtain ⟨c17, hm⟩ := pb_mul hm
    have h19 : A2 (rep K F7) [(.int g7), (.int ((((g2 % (2147483629 : Int)) * (69621 : Int)) + (((40009 : Int) * (x_k + (1 : Int))) * (x_k + (3 : Int)))) % (2147483629 : Int)))] ([g7, ((((g2 % (2147483629 : Int)) * (69621 : Int)) + (((40009 : Int) * (x_k + (1 : Int))) * (x_k + (3 : Int)))) % (2147483629 : Int))] : (List Int)) := .cons rep_i (.cons rep_i (.nil))
    refine ⟨_, rfl, _, rfl, _, _, rfl, rfl, (by show (0 : Int) < (2147483629 : Int); decide), _, _, rfl, rfl, (.inr (by constructor <;> decide)), _, rfl, _, _, rfl, rfl, _, _, rfl, rfl, (.inl (by constructor <;> decide)), _, rfl, _, _, rfl, rfl, _, _, rfl, rfl, c17, _, _, rfl, rfl, _, _, rfl, rfl, (by show (0 : Int) < (2147483629 : Int); decide), (by show 2 ≤ sizeLine; decide), fun p20 n20 => ?_⟩
    have w20 : W F7 _ ((p20, .lst [(.int g7), (.int ((((g2 % (2147483629 : Int)) * (69621 : Int)) + (((40009 : Int) * (x_k + (1 : Int))) * (x_k + (3 : Int)))) % (2147483629 : Int)))]) :: os) := w7.new n20
    exact (post_ok hm) _ _ _ _ w20 sF h19
def sp_law_take (K : Fg) : Sp := fun vs H Q E => ∃ (F : Hp) (os : List (Addr × HO)) (a_pool : Addr) (vs_pool : List V) (x_pool : (List Int)) (x_many : Int), vs = [.ref a_pool, .int x_many] ∧ W F H ((a_pool, .lst vs_pool) :: os) ∧ A2 (rep K F) vs_pool x_pool ∧ Post (law_take x_pool x_many) (RetM K F a_pool os Q) noX
theorem sc_law_take : FnScope ["pool", "many", "found"] ["pool", "many"] (defScope s_law_take) := ⟨rfl, rfl, rfl, by decide +kernel, rfl, by decide +kernel, by decide +kernel⟩
theorem ok_law_take (T : Tx K mg A FD) : FnOk P w K mg base CX0 1 (A 39) (FD 39) ["pool", "many"] (sp_law_take K) := by
  refine T.d39.fn.ok sc_law_take (fun vs H Q E h => ?_) (fun cdv Ar outer s H vs Q E hr h => ?_)
  · obtain ⟨F, os, a_pool, vs_pool, x_pool, x_many, rfl, _⟩ := h
    rfl
  · obtain ⟨F0, os, a_pool, vs_pool, x_pool, x_many, rfl, w0, h_pool, hm⟩ := h
    have sF : Same F0 F0 := Same.refl _
    refine ⟨_, (pss_cons (ps_if (pt_cmp (pc_gt (pe_ix (ix_listK (K := K) rfl) (pv 0) pe_int (fun _ _ => rfl)) pe_int)) (pss_cons (ps_set (i := 2) sc_law_take.nd rfl (Or.inl rfl) (pe_op op_mod (pe_ix (ix_listK (K := K) rfl) (pv 0) pe_int (fun _ _ => rfl)) (pv 1))) (pss_cons (ps_asg (pe_op op_fdivW (pe_ix (ix_listK (K := K) rfl) (pv 0) pe_int (fun _ _ => rfl)) (pv 1)) (pg_sub (pv 0) pe_int set_list)) (pss_one (ps_ret (pv 2))))) pss_nil) (pss_cons (ps_asg (pe_op op_mod (pe_op op_add (pe_op op_mul (pe_ix (ix_listK (K := K) rfl) (pv 0) pe_int (fun _ _ => rfl)) pe_int) pe_int) pe_int) (pg_sub (pv 0) pe_int set_list)) (pss_one (ps_ret (pe_op op_mod (pe_op op_fdiv (pe_op op_mod (pe_op op_mul (pe_op op_mod (pe_op op_mul (pe_ix (ix_listK (K := K) rfl) (pv 0) pe_int (fun _ _ => rfl)) (pe_ix (ix_listK (K := K) rfl) (pv 0) pe_int (fun _ _ => rfl))) pe_int) pe_int) pe_int) pe_int) (pv 1)))))), ?_⟩
    obtain ⟨t2, e2, hm⟩ := pb_get hm
    obtain ⟨u2, f2, r2⟩ := A2.at h_pool e2
    obtain rfl : u2 = V.int t2 := r2
    refine ⟨_, rfl, _, _, _, _, rfl, rfl, SqL.of (w0.get (pre := [])), f2, _, _, rfl, rfl, _, rfl, ?_⟩
    refine post_ite hm (fun k3 hm => ?_) (fun k3 hm => ?_)
    · skip
      obtain ⟨t4, e4, hm⟩ := pb_get hm
      obtain ⟨u4, f4, r4⟩ := A2.at h_pool e4
      obtain rfl : u4 = V.int t4 := r4
      obtain ⟨c5, hm⟩ := pb_mod hm
      obtain ⟨t6, e6, hm⟩ := pb_get hm
      obtain ⟨u6, f6, r6⟩ := A2.at h_pool e6
      obtain rfl : u6 = V.int t6 := r6
      obtain ⟨c7, hm⟩ := pb_div hm
      obtain ⟨j8, l8, z8, e8, hm⟩ := pn_set hm
      refine ⟨_, rfl, _, _, _, _, rfl, rfl, SqL.of (w0.get (pre := [])), f4, _, rfl, _, _, rfl, rfl, c5, _, rfl, _, _, _, _, rfl, rfl, SqL.of (w0.get (pre := [])), f6, _, rfl, _, _, rfl, rfl, c7, _, rfl, _, _, _, _, rfl, rfl, (w0.get (pre := [])), (A2.ix h_pool z8), ?_⟩
      have h8 : A2 (rep K F0) (vs_pool.set j8 (V.int (t6 / x_many))) l8 := e8 ▸ A2.set rep_i j8 h_pool
      have w9 : W F0 _ ((a_pool, .lst (vs_pool.set j8 (V.int (t6 / x_many)))) :: os) := w0.set (pre := [])
      exact ⟨_, rfl, (post_ok hm) _ _ _ _ w9 sF rep_i h8⟩
    · skip
      obtain ⟨t10, e10, hm⟩ := pb_get hm
      obtain ⟨u10, f10, r10⟩ := A2.at h_pool e10
      obtain rfl : u10 = V.int t10 := r10
      obtain ⟨j13, l13, z13, e13, hm⟩ := pn_set hm
      refine ⟨_, rfl, _, _, _, _, rfl, rfl, SqL.of (w0.get (pre := [])), f10, _, _, rfl, rfl, (.inr (by constructor <;> decide)), _, _, rfl, rfl, _, _, rfl, rfl, (by show (0 : Int) < (2147483647 : Int); decide), _, rfl, _, _, _, _, rfl, rfl, (w0.get (pre := [])), (A2.ix h_pool z13), ?_⟩
      have h13 : A2 (rep K F0) (vs_pool.set j13 (V.int (((t10 * (48271 : Int)) + (12820163 : Int)) % (2147483647 : Int)))) l13 := e13 ▸ A2.set rep_i j13 h_pool
      have w14 : W F0 _ ((a_pool, .lst (vs_pool.set j13 (V.int (((t10 * (48271 : Int)) + (12820163 : Int)) % (2147483647 : Int))))) :: os) := w0.set (pre := [])
      obtain ⟨t15, e15, hm⟩ := pb_get hm
      obtain ⟨u15, f15, r15⟩ := A2.at h13 e15
      obtain rfl : u15 = V.int t15 := r15
      obtain ⟨t16, e16, hm⟩ := pb_get hm
      obtain ⟨u16, f16, r16⟩ := A2.at h13 e16
      obtain rfl : u16 = V.int t16 := r16
      obtain ⟨c17, hm⟩ := pb_mul hm
      obtain ⟨c22, hm⟩ := pb_mod hm
      exact ⟨_, rfl, _, _, _, _, rfl, rfl, SqL.of (w14.get (pre := [])), f15, _, rfl, _, _, _, _, rfl, rfl, SqL.of (w14.get (pre := [])), f16, _, _, rfl, rfl, c17, _, _, rfl, rfl, (by show (0 : Int) < (2147483629 : Int); decide), _, _, rfl, rfl, (.inr (by constructor <;> decide)), _, _, rfl, rfl, (by show (0 : Int) < (2147483587 : Int); decide), _, _, rfl, rfl, (by constructor <;> decide), _, rfl, _, _, rfl, rfl, c22, (post_ok hm) _ _ _ _ w14 sF rep_i h13⟩
def sp_law_some (K : Fg) : Sp := fun vs H Q E => ∃ (F : Hp) (os : List (Addr × HO)) (a_pool : Addr) (vs_pool : List V) (x_pool : (List Int)) (v_menu : V) (x_menu : (List Int)) (x_many : Int), vs = [.ref a_pool, v_menu, .int x_many] ∧ W F H ((a_pool, .lst vs_pool) :: os) ∧ A2 (rep K F) vs_pool x_pool ∧ rep K F v_menu x_menu ∧ Post (law_some x_pool x_menu x_many) (RetLM K F a_pool os Q) noX
theorem sc_law_some : FnScope ["pool", "menu", "many", "rest", "k"] ["pool", "menu", "many"] (defScope s_law_some) := ⟨rfl, rfl, rfl, by decide +kernel, rfl, by decide +kernel, by decide +kernel⟩
theorem ok_law_some (T : Tx K mg A FD) : FnOk P w K mg base CX0 2 (A 40) (FD 40) ["pool", "menu", "many"] (sp_law_some K) := by
  refine T.d40.fn.ok sc_law_some (fun vs H Q E h => ?_) (fun cdv Ar outer s H vs Q E hr h => ?_)
  · obtain ⟨F, os, a_pool, vs_pool, x_pool, v_menu, x_menu, x_many, rfl, _⟩ := h
    rfl
  · obtain ⟨F0, os, a_pool, vs_pool, x_pool, v_menu, x_menu, x_many, rfl, w0, h_pool, r_menu, hm⟩ := h
    have sF : Same F0 F0 := Same.refl _
    obtain ⟨a2, vs2, rfl, q2, h2⟩ := r_menu
    refine ⟨_, (pss_cons (ps_set (i := 3) sc_law_some.nd rfl (Or.inr rfl) (pe_callTy (call_list_ofK (K := K) rfl) (by rfl) T.n_list (by decide +kernel) (pa_cons (pv 1) pa_nil))) (pss_one (ps_ret (pe_lc (own := [("k", 4)]) (g := gName 4) (by rfl) sc_law_some.nd (pi_range1 (by rfl) T.n_range (pa_cons (pv 2) pa_nil)) (blkOk_by (own := [("k", 4)]) (N := ["pool", "menu", "many", "rest", "k"]) (sc := defScope s_law_some) (by decide +kernel)) (fun _ _ _ _ _ => (pg_name (i := 4) sc_law_some.nd rfl (Or.inl rfl))) (fun _ _ _ _ _ => pts_nil) (fun _ _ _ _ _ => (pe_k (K := K) (t := fun K => tBM K _ _ _ _) rfl (pe_bm PySem.F.plainAttrs_list PySem.F.slot_list_pop PySem.F.type_list_pop mt_popAt (pv 3) (pa_cons (pe_call (ok_law_take T) (hr.mono (by decide)) (by rfl) T.d39.mg T.d39.fn.kp T.d39.b .nil pass0 (pa_cons (pv 0) (pa_cons (pe_callB (call_lenN (K := K) rfl) (by rfl) T.n_len (by decide +kernel) (pa_cons (pv 3) pa_nil)) pa_nil))) pa_nil)))))))), ?_⟩
    have h3 : A2 (rep K F0) vs2 x_menu := h2
    refine ⟨_, rfl, _, _, rfl, .inl (SqL.of (w0.same _ _ q2)), fun p4 n4 => ?_⟩
    have w4 : W F0 _ ((p4, .lst vs2) :: (a_pool, .lst vs_pool) :: os) := w0.new n4
    obtain ⟨c5, hm⟩ := pb_rng hm
    refine ⟨_, rfl, _, rfl, c5.2.2.1, c5.2.2.2, fun D6 nD6 => ?_⟩
    refine lcMap (K := K) (tw_rng0 (j := x_many)) hm (fun (g6 : (List Int) × (List Int)) F' os' => ∃ (vs6_0 : List V) (vs6_1 : List V), os' = (p4, .lst vs6_0) :: (a_pool, .lst vs6_1) :: os ∧ A2 (rep K F') vs6_0 g6.1 ∧ A2 (rep K F') vs6_1 g6.2) w4 ⟨_, _, rfl, h3, h_pool⟩ nD6 (fun g F' H' os' acc s w o => by obtain ⟨_, _, rfl, _, _⟩ := o; exact trivial) ?_ ?_
    · -- one turn
      intro b6 g6 x6 F6 H6 H6' os6 acc6 N6 P6 s6 w6 o6 y6 hN6 hm
      obtain ⟨vs6_0, vs6_1, rfl, h6_0, h6_1⟩ := o6
      replace h2 := A2.mono s6 h2
      replace q2 := s6 _ _ q2
      replace sF := sF.trans s6
      obtain ⟨rfl, rfl⟩ := y6
      have w9 : W F6 _ ((a_pool, .lst vs6_1) :: (D6, .lst acc6) :: (p4, .lst vs6_0) :: os) := w6.front (pre := [_, _])
      refine ⟨rfl, _, rfl, .inl ⟨rfl, _, SqL.of (w6.get (pre := [_]))⟩, _, rfl, _, rfl, _, _, _, rfl, .inl (SqL.of (w6.get (pre := [_]))), h6_0.length, _, _, _, _, _, _, rfl, w9, h6_1, ?_⟩
      refine (post_bind hm).mono (fun y10 hm v10 vs10 F10 H10 w10 s10 r10 h10 => ?_) (fun _ z => z)
      replace h2 := A2.mono s10 h2
      replace q2 := s10 _ _ q2
      replace h6_0 := A2.mono s10 h6_0
      replace sF := sF.trans s10
      obtain rfl : v10 = V.int y10.1 := r10
      obtain ⟨j8, x8, l8, z8, i8, y8, e8, hm⟩ := pn_popB hm
      obtain ⟨u8, f8, r8⟩ := A2.get h6_0 y8
      refine ⟨_, _, _, _, _, rfl, rfl, (w10.get (pre := [_, _])), z8.1, z8.2, (ixN_seq (A2.ix h6_0 i8)).1, f8, ?_⟩
      have h8 : A2 (rep K F10) (vs6_0.eraseIdx j8) l8 := e8 ▸ A2.eraseIdx j8 h6_0
      obtain rfl : u8 = V.int x8 := r8
      have w11 : W F10 _ ((a_pool, .lst vs10) :: (D6, .lst acc6) :: (p4, .lst (vs6_0.eraseIdx j8)) :: os) := w10.set (pre := [_, _])
      have w12 : W F10 _ ((p4, .lst (vs6_0.eraseIdx j8)) :: (a_pool, .lst vs10) :: (D6, .lst acc6) :: os) := w11.front (pre := [_, _])
      have w13 : W F10 _ ((D6, .lst acc6) :: (p4, .lst (vs6_0.eraseIdx j8)) :: (a_pool, .lst vs10) :: os) := w12.front (pre := [_, _])
      exact hN6 _ _ (post_ok hm) _ _ _ _ w13 s10 ⟨_, _, rfl, h8, h10⟩ rep_i
    intro g6 us6 F6 H6 os6 ys6 s6 w6 o6 gg6 hm
    obtain ⟨vs6_0, vs6_1, rfl, h6_0, h6_1⟩ := o6
    replace h2 := A2.mono s6 h2
    replace q2 := s6 _ _ q2
    replace sF := sF.trans s6
    have w15 : W F6 _ ((D6, .lst us6) :: (a_pool, .lst vs6_1) :: os) := w6.drop (pre := [_])
    exact (post_ok hm) _ _ _ _ _ w15 sF gg6 h6_1
def sp_law_named (K : Fg) : Sp := fun vs H Q E => ∃ (F : Hp) (os : List (Addr × HO)) (a_pool : Addr) (vs_pool : List V) (x_pool : (List Int)) (x_many : Int) (v_ties : V) (x_ties : (List (Int × Int))), vs = [.ref a_pool, .int x_many, v_ties] ∧ W F H ((a_pool, .lst vs_pool) :: os) ∧ A2 (rep K F) vs_pool x_pool ∧ rep K F v_ties x_ties ∧ Post (law_named x_pool x_many x_ties) (RetM K F a_pool os Q) noX
theorem sc_law_named : FnScope ["pool", "many", "ties", "names", "a", "b"] ["pool", "many", "ties"] (defScope s_law_named) := ⟨rfl, rfl, rfl, by decide +kernel, rfl, by decide +kernel, by decide +kernel⟩
theorem ok_law_named (T : Tx K mg A FD) : FnOk P w K mg base CX0 3 (A 41) (FD 41) ["pool", "many", "ties"] (sp_law_named K) := by
  refine T.d41.fn.ok sc_law_named (fun vs H Q E h => ?_) (fun cdv Ar outer s H vs Q E hr h => ?_)
  · obtain ⟨F, os, a_pool, vs_pool, x_pool, x_many, v_ties, x_ties, rfl, _⟩ := h
    rfl
  · obtain ⟨F0, os, a_pool, vs_pool, x_pool, x_many, v_ties, x_ties, rfl, w0, h_pool, r_ties, hm⟩ := h
    have sF : Same F0 F0 := Same.refl _
    obtain ⟨a2, vs2, rfl, q2, h2⟩ := r_ties
    refine ⟨_, (pss_cons (ps_set (i := 3) sc_law_named.nd rfl (Or.inr rfl) (pe_call (ok_law_some T) (hr.mono (by decide)) (by rfl) T.d40.mg T.d40.fn.kp T.d40.b .nil pass0 (pa_cons (pv 0) (pa_cons (pe_listRg rfl (by rfl) T.n_list (prg_1 (by rfl) T.n_range (pv 1))) (pa_cons (pv 1) pa_nil))))) (pss_one (ps_ret (pe_tup (pa_cons (pv 1) (pa_cons (pe_callTy (call_tuple_ofK (K := K) rfl) (by rfl) T.n_tuple (by decide +kernel) (pa_cons (pe_callB (cr_sortP (K := K) rfl) (by rfl) T.n_sorted (by decide +kernel) (pa_cons (pe_lc (own := [("a", 4), ("b", 5)]) (g := _) (by rfl) sc_law_named.nd (pi_listK (K := K) rfl (pv 2)) (blkOk_by (own := [("a", 4), ("b", 5)]) (N := ["pool", "many", "ties", "names", "a", "b"]) (sc := defScope s_law_named) (by decide +kernel)) (fun _ _ _ _ _ => (pg_k (K := K) (t := fun K => gTup K 2 _) rfl (pg_tup (n := 2) rfl (pgs_cons (pg_name (i := 4) sc_law_named.nd rfl (Or.inl rfl)) (pgs_cons (pg_name (i := 5) sc_law_named.nd rfl (Or.inl rfl)) pgs_nil))))) (fun _ _ _ _ _ => pts_nil) (fun _ _ _ _ _ => (pe_tup (pa_cons (pe_callB (call_min2 rfl) (by rfl) T.n_min (by decide +kernel) (pa_cons (pe_ix (ix_listK (K := K) rfl) (pv 3) (pv 4) (fun _ _ => rfl)) (pa_cons (pe_ix (ix_listK (K := K) rfl) (pv 3) (pv 5) (fun _ _ => rfl)) pa_nil))) (pa_cons (pe_callB (call_max2 rfl) (by rfl) T.n_max (by decide +kernel) (pa_cons (pe_ix (ix_listK (K := K) rfl) (pv 3) (pv 4) (fun _ _ => rfl)) (pa_cons (pe_ix (ix_listK (K := K) rfl) (pv 3) (pv 5) (fun _ _ => rfl)) pa_nil))) pa_nil))))) pa_nil)) pa_nil)) pa_nil)))))), ?_⟩
    obtain ⟨l3, z3, e3, hm⟩ := pb_lrng hm
    have h3 : A2 (rep K F0) (rgV 0 x_many) l3 := by rw [e3, rgV_eq]; exact A2.of_ints
    refine ⟨_, rfl, _, rfl, _, rfl, z3, fun p4 n4 => ?_⟩
    have w4 : W F0 _ ((p4, .lst (rgV 0 x_many)) :: (a_pool, .lst vs_pool) :: os) := w0.new n4
    obtain ⟨F5, s5, w5, q5⟩ : ∃ F', Same F0 F' ∧ W F' _ ((a_pool, .lst vs_pool) :: os) ∧ F' p4 = some (.lst (rgV 0 x_many)) := w4.freezeE (pre := [])
    replace h_pool := A2.mono s5 h_pool
    replace q2 := s5 _ _ q2
    replace h2 := A2.mono s5 h2
    replace h3 := A2.mono s5 h3
    replace sF := sF.trans s5
    refine ⟨_, rfl, _, _, _, _, _, _, (l3 : (List Int)), _, rfl, w5, h_pool, (rep_lst q5 h3), ?_⟩
    refine (post_bind hm).mono (fun y6 hm p6 us6 vs6 F6 H6 w6 s6 g6 h6 => ?_) (fun _ z => z)
    replace q2 := s6 _ _ q2
    replace h2 := A2.mono s6 h2
    replace h3 := A2.mono s6 h3
    replace q5 := s6 _ _ q5
    replace sF := sF.trans s6
    obtain ⟨F8, s8, w8, q8⟩ : ∃ F', Same F6 F' ∧ W F' _ ((a_pool, .lst vs6) :: os) ∧ F' p6 = some (.lst us6) := w6.freezeE (pre := [])
    replace q2 := s8 _ _ q2
    replace h2 := A2.mono s8 h2
    replace h3 := A2.mono s8 h3
    replace q5 := s8 _ _ q5
    replace h6 := A2.mono s8 h6
    replace g6 := A2.mono s8 g6
    replace sF := sF.trans s8
    refine ⟨_, rfl, _, rfl, _, rfl, ⟨_, SqL.of (w8.same _ _ q2)⟩, fun D9 nD9 => ?_⟩
    refine lcM (K := K) (tw_list (a := a2) h2) hm w8 nD9 (fun F' H' acc s w => SqL.of (w.same _ _ (s _ _ q2))) ?_ ?_
    · -- one turn
      intro b9 x9 F9 H9 H9' acc9 N9 P9 s9 w9 y9 hN9 hm
      replace h2 := A2.mono s9 h2
      replace q2 := s9 _ _ q2
      replace g6 := A2.mono s9 g6
      replace q8 := s9 _ _ q8
      replace h6 := A2.mono s9 h6
      replace sF := sF.trans s9
      obtain ⟨rfl, r11⟩ := y9
      replace r11 := Rep.mono s9 r11
      obtain ⟨a12, u12, z12, rfl, q12, r12a, r12b⟩ := r11
      obtain rfl : u12 = V.int b9.1 := r12a
      obtain rfl : z12 = V.int b9.2 := r12b
      obtain ⟨t13, e13, hm⟩ := pb_get hm
      obtain ⟨u13, f13, r13⟩ := A2.at g6 e13
      obtain rfl : u13 = V.int t13 := r13
      obtain ⟨t14, e14, hm⟩ := pb_get hm
      obtain ⟨u14, f14, r14⟩ := A2.at g6 e14
      obtain rfl : u14 = V.int t14 := r14
      obtain ⟨t15, e15, hm⟩ := pb_get hm
      obtain ⟨u15, f15, r15⟩ := A2.at g6 e15
      obtain rfl : u15 = V.int t15 := r15
      obtain ⟨t16, e16, hm⟩ := pb_get hm
      obtain ⟨u16, f16, r16⟩ := A2.at g6 e16
      obtain rfl : u16 = V.int t16 := r16
      refine ⟨_, _, rfl, SqT.of (w9.same _ _ q12), rfl, _, _, rfl, _, _, rfl, rfl, rfl, _, rfl, _, rfl, _, _, _, _, rfl, rfl, SqL.of (w9.same _ _ q8), f13, _, rfl, _, rfl, _, _, _, _, rfl, rfl, SqL.of (w9.same _ _ q8), f14, _, _, rfl, _, rfl, _, rfl, _, _, _, _, rfl, rfl, SqL.of (w9.same _ _ q8), f15, _, rfl, _, rfl, _, _, _, _, rfl, rfl, SqL.of (w9.same _ _ q8), f16, _, _, rfl, (by show 2 ≤ sizeLine; decide), fun p17 n17 => ?_⟩
      obtain ⟨F17, s17, w17, q17⟩ := w9.frzE (o := .tup [(.int (min2 t13 t14)), (.int (max2 t15 t16))]) n17
      replace h2 := A2.mono s17 h2
      replace q2 := s17 _ _ q2
      replace g6 := A2.mono s17 g6
      replace q8 := s17 _ _ q8
      replace h6 := A2.mono s17 h6
      replace q12 := s17 _ _ q12
      replace sF := sF.trans s17
      exact hN9 _ (post_ok hm) _ _ _ w17 s17 (rep_pair q17 rep_i rep_i)
    intro us9 F9 H9 ys9 s9 w9 gg9 hm
    replace h2 := A2.mono s9 h2
    replace q2 := s9 _ _ q2
    replace g6 := A2.mono s9 g6
    replace q8 := s9 _ _ q8
    replace h6 := A2.mono s9 h6
    replace sF := sF.trans s9
    refine ⟨_, _, F9, ys9, rfl, SqL.of (w9.get (pre := [])), w9.same, gg9, fun p19 us19 n19 h19 => ?_⟩
    have w19 : W F9 _ ((p19, .lst us19) :: (D9, .lst us9) :: (a_pool, .lst vs6) :: os) := w9.new n19
    have h21 : A2 (rep K F9) us19 (sortP ys9) := h19
    refine ⟨_, _, rfl, .inl ⟨SqL.of (w19.get (pre := [])), fun p22 n22 => ?_⟩⟩
    obtain ⟨F22, s22, w22, q22⟩ := w19.frzE (o := .tup us19) n22
    replace h2 := A2.mono s22 h2
    replace q2 := s22 _ _ q2
    replace g6 := A2.mono s22 g6
    replace q8 := s22 _ _ q8
    replace h6 := A2.mono s22 h6
    replace gg9 := A2.mono s22 gg9
    replace h19 := A2.mono s22 h19
    replace h21 := A2.mono s22 h21
    replace sF := sF.trans s22
    refine ⟨(by show 2 ≤ sizeLine; decide), fun p23 n23 => ?_⟩
    obtain ⟨F23, s23, w23, q23⟩ := w22.frzE (o := .tup [(.int x_many), (.ref p22)]) n23
    replace h2 := A2.mono s23 h2
    replace q2 := s23 _ _ q2
    replace g6 := A2.mono s23 g6
    replace q8 := s23 _ _ q8
    replace h6 := A2.mono s23 h6
    replace gg9 := A2.mono s23 gg9
    replace h19 := A2.mono s23 h19
    replace h21 := A2.mono s23 h21
    replace q22 := s23 _ _ q22
    replace sF := sF.trans s23
    have w24 : W F23 _ ((D9, .lst us9) :: (a_pool, .lst vs6) :: os) := w23.drop (pre := [])
    have w25 : W F23 _ ((a_pool, .lst vs6) :: os) := w24.drop (pre := [])
    exact (post_ok hm) _ _ _ _ w25 sF (rep_pair q23 rep_i (rep_tup q22 h21)) h6
def sp_law_tree (K : Fg) : Sp := fun vs H Q E => ∃ (F : Hp) (os : List (Addr × HO)) (a_pool : Addr) (vs_pool : List V) (x_pool : (List Int)) (x_most : Int), vs = [.ref a_pool, .int x_most] ∧ W F H ((a_pool, .lst vs_pool) :: os) ∧ A2 (rep K F) vs_pool x_pool ∧ Post (law_tree x_pool x_most) (RetM K F a_pool os Q) noX
theorem sc_law_tree : FnScope ["pool", "most", "many", "shape", "ties", "k", "ahead"] ["pool", "most"] (defScope s_law_tree) := ⟨rfl, rfl, rfl, by decide +kernel, rfl, by decide +kernel, by decide +kernel⟩
theorem ok_law_tree (T : Tx K mg A FD) : FnOk P w K mg base CX0 4 (A 42) (FD 42) ["pool", "most"] (sp_law_tree K) := by
  refine T.d42.fn.ok sc_law_tree (fun vs H Q E h => ?_) (fun cdv Ar outer s H vs Q E hr h => ?_)
  · obtain ⟨F, os, a_pool, vs_pool, x_pool, x_most, rfl, _⟩ := h
    rfl
  · obtain ⟨F0, os, a_pool, vs_pool, x_pool, x_most, rfl, w0, h_pool, hm⟩ := h
    have sF : Same F0 F0 := Same.refl _
    refine ⟨_, (pss_cons (ps_set (i := 2) sc_law_tree.nd rfl (Or.inl rfl) (pe_op op_add pe_int (pe_call (ok_law_take T) (hr.mono (by decide)) (by rfl) T.d39.mg T.d39.fn.kp T.d39.b .nil pass0 (pa_cons (pv 0) (pa_cons (pv 1) pa_nil))))) (pss_cons (ps_set (i := 3) sc_law_tree.nd rfl (Or.inl rfl) (pe_call (ok_law_take T) (hr.mono (by decide)) (by rfl) T.d39.mg T.d39.fn.kp T.d39.b .nil pass0 (pa_cons (pv 0) (pa_cons pe_int pa_nil)))) (pss_cons (ps_set (i := 4) sc_law_tree.nd rfl (Or.inl rfl) (pe_lst pa_nil)) (pss_cons (ps_for PassesOwn.never rfl (pi_range2 (by rfl) T.n_range (pa_cons pe_int (pa_cons (pv 2) pa_nil))) (pg_name (i := 5) sc_law_tree.nd rfl (Or.inl rfl)) (pss_cons (ps_set (i := 6) sc_law_tree.nd rfl (Or.inl rfl) (pe_lst (pa_cons (pe_op op_sub (pv 5) pe_int) (pa_cons pe_int (pa_cons (pe_call (ok_law_take T) (hr.mono (by decide)) (by rfl) T.d39.mg T.d39.fn.kp T.d39.b .nil pass0 (pa_cons (pv 0) (pa_cons (pv 5) pa_nil))) (pa_cons (pe_callB (call_max2 rfl) (by rfl) T.n_max (by decide +kernel) (pa_cons pe_int (pa_cons (pe_op op_sub (pe_op op_sub (pv 5) pe_int) (pe_call (ok_law_take T) (hr.mono (by decide)) (by rfl) T.d39.mg T.d39.fn.kp T.d39.b .nil pass0 (pa_cons (pv 0) (pa_cons pe_int pa_nil)))) pa_nil))) (pa_cons (pe_call (ok_law_take T) (hr.mono (by decide)) (by rfl) T.d39.mg T.d39.fn.kp T.d39.b .nil pass0 (pa_cons (pv 0) (pa_cons (pe_callB (call_min2 rfl) (by rfl) T.n_min (by decide +kernel) (pa_cons (pv 5) (pa_cons pe_int pa_nil))) pa_nil))) pa_nil))))))) (pss_one (ps_expr (pe_bm PySem.F.plainAttrs_list PySem.F.slot_list_append PySem.F.type_list_append mt_append (pv 4) (pa_cons (pe_tup (pa_cons (pe_ix (ix_listK (K := K) rfl) (pe_op op_cat (pv 6) (pe_lst (pa_cons (pe_op op_fdiv (pe_op op_sub (pv 5) pe_int) pe_int) pa_nil))) (pv 3) (fun _ _ => rfl)) (pa_cons (pv 5) pa_nil))) pa_nil)))))) (pss_one (ps_ret (pe_call (ok_law_named T) (hr.mono (by decide)) (by rfl) T.d41.mg T.d41.fn.kp T.d41.b .nil pass0 (pa_cons (pv 0) (pa_cons (pv 2) (pa_cons (pv 4) pa_nil)))))))))), ?_⟩
    refine ⟨_, rfl, _, rfl, _, _, _, _, _, _, rfl, w0, h_pool, ?_⟩
    refine (post_bind hm).mono (fun y2 hm v2 vs2 F2 H2 w2 s2 r2 h2 => ?_) (fun _ z => z)
    replace sF := sF.trans s2
    obtain rfl : v2 = V.int y2.1 := r2
    refine ⟨_, _, rfl, rfl, _, rfl, _, _, _, _, _, _, rfl, w2, h2, ?_⟩
    refine (post_bind hm).mono (fun y3 hm v3 vs3 F3 H3 w3 s3 r3 h3 => ?_) (fun _ z => z)
    replace sF := sF.trans s3
    obtain rfl : v3 = V.int y3.1 := r3
    have h4 : A2 (rep K F3) [] ([] : (List (Int × Int))) := .nil
    refine ⟨(by show 0 ≤ sizeLine; decide), fun p5 n5 => ?_⟩
    have w5 : W F3 _ ((p5, .lst []) :: (a_pool, .lst vs3) :: os) := w3.new n5
    obtain ⟨c7, hm⟩ := pb_rng hm
    refine ⟨_, rfl, _, _, rfl, c7, ?_⟩
    refine forS (tw_rng (i := (1 : Int)) (j := ((1 : Int) + y2.1))) hm (fun (g6 : (List (Int × Int)) × (List Int)) σ H' => ∃ (F' : Hp) (vs6_0 : List V) (vs6_1 : List V) (o6_6 : Option V) (o6_5 : Option V), σ = [some (.ref a_pool), some (.int x_most), some (.int ((1 : Int) + y2.1)), some (.int y3.1), some (.ref p5), o6_5, o6_6] ∧ Same F3 F' ∧ W F' H' ((p5, .lst vs6_0) :: (a_pool, .lst vs6_1) :: os) ∧ A2 (rep K F') vs6_0 g6.1 ∧ A2 (rep K F') vs6_1 g6.2) ⟨_, _, _, _, _, rfl, Same.refl _, w5, h4, h3⟩ (fun _ _ _ _ => trivial) ?_ ?_
    · -- a turn
      intro b6 g6 x6 σ6 H6 H6' N6 P6 hI hy hN6 hm
      obtain ⟨F6, vs6_0, vs6_1, o6_6, o6_5, rfl, s6, w6, h6_0, h6_1⟩ := hI
      replace sF := sF.trans s6
      obtain ⟨rfl, rfl⟩ := hy
      have w8 : W F6 _ ((a_pool, .lst vs6_1) :: (p5, .lst vs6_0) :: os) := w6.front (pre := [_])
      refine ⟨_, rfl, _, _, rfl, rfl, _, rfl, _, rfl, _, _, _, _, _, _, rfl, w8, h6_1, ?_⟩
      refine (post_bind hm).mono (fun y9 hm v9 vs9 F9 H9 w9 s9 r9 h9 => ?_) (fun _ z => z)
      replace h6_0 := A2.mono s9 h6_0
      replace sF := sF.trans s9
      obtain rfl : v9 = V.int y9.1 := r9
      refine ⟨_, rfl, _, _, rfl, rfl, _, rfl, _, _, _, _, _, _, rfl, w9, h9, ?_⟩
      refine (post_bind hm).mono (fun y10 hm v10 vs10 F10 H10 w10 s10 r10 h10 => ?_) (fun _ z => z)
      replace h6_0 := A2.mono s10 h6_0
      replace sF := sF.trans s10
      obtain rfl : v10 = V.int y10.1 := r10
      refine ⟨_, _, rfl, rfl, _, _, rfl, _, rfl, _, rfl, _, _, rfl, _, _, _, _, _, _, rfl, w10, h10, ?_⟩
      refine (post_bind hm).mono (fun y11 hm v11 vs11 F11 H11 w11 s11 r11 h11 => ?_) (fun _ z => z)
      replace h6_0 := A2.mono s11 h6_0
      replace sF := sF.trans s11
      obtain rfl : v11 = V.int y11.1 := r11
      have h12 : A2 (rep K F11) [(.int (b6 - (1 : Int))), (.int 0), (.int y9.1), (.int (max2 (0 : Int) ((b6 - (1 : Int)) - y10.1))), (.int y11.1)] ([(b6 - (1 : Int)), (0 : Int), y9.1, (max2 (0 : Int) ((b6 - (1 : Int)) - y10.1)), y11.1] : (List Int)) := .cons rep_i (.cons rep_i (.cons rep_i (.cons rep_i (.cons rep_i (.nil)))))
      refine ⟨(by show 5 ≤ sizeLine; decide), fun p13 n13 => ?_⟩
      have w13 : W F11 _ ((p13, .lst [(.int (b6 - (1 : Int))), (.int 0), (.int y9.1), (.int (max2 (0 : Int) ((b6 - (1 : Int)) - y10.1))), (.int y11.1)]) :: (a_pool, .lst vs11) :: (p5, .lst vs6_0) :: os) := w11.new n13
      obtain ⟨F14, s14, w14, q14⟩ : ∃ F', Same F11 F' ∧ W F' _ ((a_pool, .lst vs11) :: (p5, .lst vs6_0) :: os) ∧ F' p13 = some (.lst [(.int (b6 - (1 : Int))), (.int 0), (.int y9.1), (.int (max2 (0 : Int) ((b6 - (1 : Int)) - y10.1))), (.int y11.1)]) := w13.freezeE (pre := [])
      replace h6_0 := A2.mono s14 h6_0
      replace h11 := A2.mono s14 h11
      replace h12 := A2.mono s14 h12
      replace sF := sF.trans s14
      have h16 : A2 (rep K F14) [(.int ((b6 - (1 : Int)) / (2 : Int)))] ([((b6 - (1 : Int)) / (2 : Int))] : (List Int)) := .cons rep_i (.nil)
      refine ⟨_, rfl, .inl ⟨rfl, _, SqL.of (w14.get (pre := [_]))⟩, _, rfl, _, rfl, _, _, rfl, rfl, _, _, rfl, rfl, (by constructor <;> decide), (by show 1 ≤ sizeLine; decide), fun p17 n17 => ?_⟩
      have w17 : W F14 _ ((p17, .lst [(.int ((b6 - (1 : Int)) / (2 : Int)))]) :: (a_pool, .lst vs11) :: (p5, .lst vs6_0) :: os) := w14.new n17
      obtain ⟨l18, z18, e18, hm⟩ := pn_extend hm
      have h18 : A2 (rep K F14) ([(.int (b6 - (1 : Int))), (.int 0), (.int y9.1), (.int (max2 (0 : Int) ((b6 - (1 : Int)) - y10.1))), (.int y11.1)] ++ [(.int ((b6 - (1 : Int)) / (2 : Int)))]) l18 := e18 ▸ A2.append h12 h16
      refine ⟨_, _, _, _, rfl, rfl, (w17.same _ _ q14), (w17.get (pre := [])), (A2.le2 h12 h16 z18), fun p19 n19 => ?_⟩
      have w19 : W F14 _ ((p19, .lst ([(.int (b6 - (1 : Int))), (.int 0), (.int y9.1), (.int (max2 (0 : Int) ((b6 - (1 : Int)) - y10.1))), (.int y11.1)] ++ [(.int ((b6 - (1 : Int)) / (2 : Int)))])) :: (p17, .lst [(.int ((b6 - (1 : Int)) / (2 : Int)))]) :: (a_pool, .lst vs11) :: (p5, .lst vs6_0) :: os) := w17.new n19
      obtain ⟨t20, e20, hm⟩ := pb_get hm
      obtain ⟨u20, f20, r20⟩ := A2.at h18 e20
      obtain rfl : u20 = V.int t20 := r20
      refine ⟨_, rfl, _, _, _, _, rfl, rfl, SqL.of (w19.get (pre := [])), f20, _, rfl, (by show 2 ≤ sizeLine; decide), fun p21 n21 => ?_⟩
      obtain ⟨F21, s21, w21, q21⟩ := w19.frzE (o := .tup [(.int t20), (.int b6)]) n21
      replace h12 := A2.mono s21 h12
      replace q14 := s21 _ _ q14
      replace h11 := A2.mono s21 h11
      replace h6_0 := A2.mono s21 h6_0
      replace h16 := A2.mono s21 h16
      replace h18 := A2.mono s21 h18
      replace sF := sF.trans s21
      obtain ⟨l22, z22, e22, hm⟩ := pn_app hm
      refine ⟨_, _, _, rfl, rfl, (w21.get (pre := [_, _, _])), (A2.lt h6_0 z22), ?_⟩
      have h22 : A2 (rep K F21) (vs6_0 ++ [(V.ref p21)]) l22 := e22 ▸ A2.snoc h6_0 (rep_pair q21 rep_i rep_i)
      have w23 : W F21 _ ((p19, .lst ([(.int (b6 - (1 : Int))), (.int 0), (.int y9.1), (.int (max2 (0 : Int) ((b6 - (1 : Int)) - y10.1))), (.int y11.1)] ++ [(.int ((b6 - (1 : Int)) / (2 : Int)))])) :: (p17, .lst [(.int ((b6 - (1 : Int)) / (2 : Int)))]) :: (a_pool, .lst vs11) :: (p5, .lst (vs6_0 ++ [(V.ref p21)])) :: os) := w21.set (pre := [_, _, _])
      have w24 : W F21 _ ((p17, .lst [(.int ((b6 - (1 : Int)) / (2 : Int)))]) :: (a_pool, .lst vs11) :: (p5, .lst (vs6_0 ++ [(V.ref p21)])) :: os) := w23.drop (pre := [])
      have w25 : W F21 _ ((a_pool, .lst vs11) :: (p5, .lst (vs6_0 ++ [(V.ref p21)])) :: os) := w24.drop (pre := [])
      have w26 : W F21 _ ((p5, .lst (vs6_0 ++ [(V.ref p21)])) :: (a_pool, .lst vs11) :: os) := w25.front (pre := [_])
      exact hN6 _ (post_ok hm) _ _ ⟨_, _, _, _, _, rfl, (s6.trans (s9.trans (s10.trans (s11.trans (s14.trans s21))))), w26, h22, h11⟩
    intro g6 σ6 H6 hI hm
    obtain ⟨F6, vs6_0, vs6_1, o6_6, o6_5, rfl, s6, w6, h6_0, h6_1⟩ := hI
    replace sF := sF.trans s6
    obtain ⟨F27, s27, w27, q27⟩ : ∃ F', Same F6 F' ∧ W F' _ ((a_pool, .lst vs6_1) :: os) ∧ F' p5 = some (.lst vs6_0) := w6.freezeE (pre := [])
    replace h6_0 := A2.mono s27 h6_0
    replace h6_1 := A2.mono s27 h6_1
    replace sF := sF.trans s27
    refine ⟨_, rfl, _, rfl, _, rfl, _, _, _, _, _, _, _, (g6.1 : (List (Int × Int))), rfl, w27, h6_1, (rep_lst q27 h6_0), ?_⟩
    refine (post_bind hm).mono (fun y28 hm v28 vs28 F28 H28 w28 s28 r28 h28 => ?_) (fun _ z => z)
    replace h6_0 := A2.mono s28 h6_0
    replace q27 := s28 _ _ q27
    replace sF := sF.trans s28
    obtain ⟨a29, u29, z29, rfl, q29, r29a, r29b⟩ := r28
    obtain rfl : u29 = V.int y28.1.1 := r29a
    obtain ⟨a30, vs30, rfl, q30, h30⟩ := r29b
    exact (post_ok hm) _ _ _ _ w28 sF (rep_pair q29 rep_i (rep_tup q30 h30)) h28
def sp_law_whole (K : Fg) : Sp := fun vs H Q E => ∃ (F : Hp) (os : List (Addr × HO)) (x_thing : Int), vs = [.int x_thing] ∧ W F H (os) ∧ Post (law_whole x_thing) (Ret K F os Q) noX
theorem sc_law_whole : FnScope ["thing"] ["thing"] (defScope s_law_whole) := ⟨rfl, rfl, rfl, by decide +kernel, rfl, by decide +kernel, by decide +kernel⟩
theorem ok_law_whole (T : Tx K mg A FD) : FnOk P w K mg base CX0 1 (A 43) (FD 43) ["thing"] (sp_law_whole K) := by
  refine T.d43.fn.ok sc_law_whole (fun vs H Q E h => ?_) (fun cdv Ar outer s H vs Q E hr h => ?_)
  · obtain ⟨F, os, x_thing, rfl, _⟩ := h
    rfl
  · obtain ⟨F0, os, x_thing, rfl, w0, hm⟩ := h
    have sF : Same F0 F0 := Same.refl _
    refine ⟨_, (pss_one (ps_ret (pe_and (pe_callB (call_isB (K := K) rfl) (by rfl) T.n_isinstance (by decide +kernel) (pa_cons (pv 0) (pa_cons (pe_bltn (v := .ty "int") (by rfl) T.n_int (by decide +kernel) rfl) pa_nil))) (pe_one (pe_not (pe_callB (call_isB (K := K) rfl) (by rfl) T.n_isinstance (by decide +kernel) (pa_cons (pv 0) (pa_cons (pe_bltn (v := .ty "bool") (by rfl) T.n_bool (by decide +kernel) rfl) pa_nil)))))))), ?_⟩
    try dsimp only
    refine stepRet ?_
    refine cutE (fun c H' => c = V.bl ((true && (!false))) ∧ ∃ F', Same F0 F' ∧ W F' H' (os)) (fun Q1 q1 => ?_) (fun c1 H1 hc1 => ?_)
    · -- the ways
      refine ⟨_, rfl, _, _, _, true, rfl, (.int _), (by decide +kernel), _, rfl, ?_⟩
      refine ifB (fun k2 => ?_) (fun k2 => ?_)
      · skip
        exact ⟨_, rfl, _, _, _, false, rfl, (.int _), (by decide +kernel), _, rfl, q1 _ _ ⟨(by first | rfl | (simp [k2]; done) | ((try simp only [Bool.not_eq_true] at k2); simp only [k2, Bool.true_or, Bool.false_or, Bool.or_false, Bool.or_true, Bool.true_and, Bool.false_and, Bool.and_true, Bool.and_false])), _, Same.refl _, w0⟩⟩
      · skip
        exact q1 _ _ ⟨(by first | rfl | (simp [k2]; done) | ((try simp only [Bool.not_eq_true] at k2); simp only [k2, Bool.true_or, Bool.false_or, Bool.or_false, Bool.or_true, Bool.true_and, Bool.false_and, Bool.and_true, Bool.and_false])), _, Same.refl _, w0⟩
    obtain ⟨rfl, F1, s1, w1⟩ := hc1
    replace sF := sF.trans s1
    exact (post_ok hm) _ _ _ w1 sF rep_b
def sp_law_numbers (K : Fg) : Sp := fun vs H Q E => ∃ (F : Hp) (os : List (Addr × HO)) (a_pool : Addr) (vs_pool : List V) (x_pool : (List Int)) (x_count : Int), vs = [.ref a_pool, .int x_count] ∧ W F H ((a_pool, .lst vs_pool) :: os) ∧ A2 (rep K F) vs_pool x_pool ∧ Post (law_numbers x_pool x_count) (RetM K F a_pool os Q) noX
theorem sc_law_numbers : FnScope ["pool", "count", "found", "turn", "number"] ["pool", "count"] (defScope s_law_numbers) := ⟨rfl, rfl, rfl, by decide +kernel, rfl, by decide +kernel, by decide +kernel⟩
theorem ok_law_numbers (T : Tx K mg A FD) : FnOk P w K mg base CX0 2 (A 44) (FD 44) ["pool", "count"] (sp_law_numbers K) := by
  refine T.d44.fn.ok sc_law_numbers (fun vs H Q E h => ?_) (fun cdv Ar outer s H vs Q E hr h => ?_)
  · obtain ⟨F, os, a_pool, vs_pool, x_pool, x_count, rfl, _⟩ := h
    rfl
  · obtain ⟨F0, os, a_pool, vs_pool, x_pool, x_count, rfl, w0, h_pool, hm⟩ := h
    have sF : Same F0 F0 := Same.refl _
    refine ⟨_, (pss_cons (ps_set (i := 2) sc_law_numbers.nd rfl (Or.inl rfl) (pe_lst (pa_cons pe_int (pa_cons (pe_op op_sub (pv 1) pe_int) pa_nil)))) (pss_cons (ps_for PassesOwn.never rfl (pi_range1 (by rfl) T.n_range (pa_cons pe_int pa_nil)) (pg_name (i := 3) sc_law_numbers.nd rfl (Or.inl rfl)) (pss_cons (ps_set (i := 4) sc_law_numbers.nd rfl (Or.inl rfl) (pe_call (ok_law_take T) (hr.mono (by decide)) (by rfl) T.d39.mg T.d39.fn.kp T.d39.b .nil pass0 (pa_cons (pv 0) (pa_cons (pv 1) pa_nil)))) (pss_one (ps_expr (pe_bm PySem.F.plainAttrs_list PySem.F.slot_list_extend PySem.F.type_list_extend mt_extend (pv 2) (pa_cons (pe_lst (pa_cons (pv 4) (pa_cons (pe_callB (call_min2 rfl) (by rfl) T.n_min (by decide +kernel) (pa_cons (pe_op op_add (pv 4) pe_int) (pa_cons (pe_op op_sub (pv 1) pe_int) pa_nil))) pa_nil))) pa_nil)))))) (pss_one (ps_ret (pe_callB (cr_sortSet (w := w) rfl rfl) (by rfl) T.n_sorted (by decide +kernel) (pa_cons (pe_callTy (cr_setLI (K := K) (w := w) rfl rfl rfl) (by rfl) T.n_set (by decide +kernel) (pa_cons (pv 2) pa_nil)) pa_nil)))))), ?_⟩
    have h2 : A2 (rep K F0) [(.int 0), (.int (x_count - (1 : Int)))] ([(0 : Int), (x_count - (1 : Int))] : (List Int)) := .cons rep_i (.cons rep_i (.nil))
    refine ⟨_, rfl, _, _, rfl, rfl, (by show 2 ≤ sizeLine; decide), fun p3 n3 => ?_⟩
    have w3 : W F0 _ ((p3, .lst [(.int 0), (.int (x_count - (1 : Int)))]) :: (a_pool, .lst vs_pool) :: os) := w0.new n3
    refine ⟨_, rfl, (by decide), (by decide), ?_⟩
    refine forS (tw_rng0 (j := (2 : Int))) hm (fun (g4 : (List Int) × (List Int)) σ H' => ∃ (F' : Hp) (vs4_0 : List V) (vs4_1 : List V) (o4_4 : Option V) (o4_3 : Option V), σ = [some (.ref a_pool), some (.int x_count), some (.ref p3), o4_3, o4_4] ∧ Same F0 F' ∧ W F' H' ((p3, .lst vs4_0) :: (a_pool, .lst vs4_1) :: os) ∧ A2 (rep K F') vs4_0 g4.1 ∧ A2 (rep K F') vs4_1 g4.2) ⟨_, _, _, _, _, rfl, Same.refl _, w3, h2, h_pool⟩ (fun _ _ _ _ => trivial) ?_ ?_
    · -- a turn
      intro b4 g4 x4 σ4 H4 H4' N4 P4 hI hy hN4 hm
      obtain ⟨F4, vs4_0, vs4_1, o4_4, o4_3, rfl, s4, w4, h4_0, h4_1⟩ := hI
      replace sF := sF.trans s4
      obtain ⟨rfl, rfl⟩ := hy
      have w5 : W F4 _ ((a_pool, .lst vs4_1) :: (p3, .lst vs4_0) :: os) := w4.front (pre := [_])
      refine ⟨_, rfl, _, rfl, _, _, _, _, _, _, rfl, w5, h4_1, ?_⟩
      refine (post_bind hm).mono (fun y6 hm v6 vs6 F6 H6 w6 s6 r6 h6 => ?_) (fun _ z => z)
      replace h4_0 := A2.mono s6 h4_0
      replace sF := sF.trans s6
      obtain rfl : v6 = V.int y6.1 := r6
      have h7 : A2 (rep K F6) [(.int y6.1), (.int (min2 (y6.1 + (1 : Int)) (x_count - (1 : Int))))] ([y6.1, (min2 (y6.1 + (1 : Int)) (x_count - (1 : Int)))] : (List Int)) := .cons rep_i (.cons rep_i (.nil))
      refine ⟨_, rfl, .inl ⟨rfl, _, SqL.of (w6.get (pre := [_]))⟩, _, rfl, _, rfl, _, _, rfl, rfl, _, rfl, _, _, rfl, rfl, _, _, rfl, (by show 2 ≤ sizeLine; decide), fun p8 n8 => ?_⟩
      have w8 : W F6 _ ((p8, .lst [(.int y6.1), (.int (min2 (y6.1 + (1 : Int)) (x_count - (1 : Int))))]) :: (a_pool, .lst vs6) :: (p3, .lst vs4_0) :: os) := w6.new n8
      obtain ⟨l9, z9, e9, hm⟩ := pn_extend hm
      refine ⟨_, _, _, _, rfl, rfl, (w8.get (pre := [_, _])), (w8.get (pre := [])), (A2.le2 h4_0 h7 z9), ?_⟩
      have h9 : A2 (rep K F6) (vs4_0 ++ [(.int y6.1), (.int (min2 (y6.1 + (1 : Int)) (x_count - (1 : Int))))]) l9 := e9 ▸ A2.append h4_0 h7
      have w10 : W F6 _ ((p8, .lst [(.int y6.1), (.int (min2 (y6.1 + (1 : Int)) (x_count - (1 : Int))))]) :: (a_pool, .lst vs6) :: (p3, .lst (vs4_0 ++ [(.int y6.1), (.int (min2 (y6.1 + (1 : Int)) (x_count - (1 : Int))))])) :: os) := w8.set (pre := [_, _])
      have w11 : W F6 _ ((a_pool, .lst vs6) :: (p3, .lst (vs4_0 ++ [(.int y6.1), (.int (min2 (y6.1 + (1 : Int)) (x_count - (1 : Int))))])) :: os) := w10.drop (pre := [])
      have w12 : W F6 _ ((p3, .lst (vs4_0 ++ [(.int y6.1), (.int (min2 (y6.1 + (1 : Int)) (x_count - (1 : Int))))])) :: (a_pool, .lst vs6) :: os) := w11.front (pre := [_])
      exact hN4 _ (post_ok hm) _ _ ⟨_, _, _, _, _, rfl, (s4.trans s6), w12, h9, h6⟩
    intro g4 σ4 H4 hI hm
    obtain ⟨F4, vs4_0, vs4_1, o4_4, o4_3, rfl, s4, w4, h4_0, h4_1⟩ := hI
    replace sF := sF.trans s4
    obtain ⟨l13, c13, e13, hm⟩ := pb_ss hm
    refine ⟨_, rfl, _, _, rfl, ints_q (SqL.of (w4.get (pre := []))) h4_0, c13.1, fun p13 n13 => ?_⟩
    obtain ⟨F13, s13, w13, q13⟩ := w4.frzE (o := SetO w p13 (fun j => decide (j ∈ g4.1)) (nub g4.1).length) n13
    replace h4_0 := A2.mono s13 h4_0
    replace h4_1 := A2.mono s13 h4_1
    replace sF := sF.trans s13
    refine ⟨_, _, _, rfl, w13.same _ _ q13, c13.2, fun ns14 p14 u14 i14 j14 n14 => ?_⟩
    obtain rfl : ns14 = l13 := (ssI_uniq u14 i14).trans e13.symm
    have h14 : A2 (rep K F13) (ns14.map V.int) ns14 := A2.of_ints
    have w14 : W F13 _ ((p14, .lst (ns14.map V.int)) :: (p3, .lst vs4_0) :: (a_pool, .lst vs4_1) :: os) := w13.new n14
    obtain ⟨F15, s15, w15, q15⟩ : ∃ F', Same F13 F' ∧ W F' _ ((p3, .lst vs4_0) :: (a_pool, .lst vs4_1) :: os) ∧ F' p14 = some (.lst (ns14.map V.int)) := w14.freezeE (pre := [])
    replace h4_0 := A2.mono s15 h4_0
    replace h4_1 := A2.mono s15 h4_1
    replace h14 := A2.mono s15 h14
    replace sF := sF.trans s15
    have w16 : W F15 _ ((a_pool, .lst vs4_1) :: os) := w15.drop (pre := [])
    exact (post_ok hm) _ _ _ _ w16 sF (rep_lst q15 h14) h4_1
def sp_law_is_choice (K : Fg) : Sp := fun vs H Q E => ∃ (F : Hp) (os : List (Addr × HO)) (v_web : V) (x_web : (Int × (Tup (Int × Int)))) (x_kind : Str) (v_looks : V) (x_looks : (List Int)), vs = [v_web, .str x_kind, v_looks] ∧ W F H (os) ∧ rep K F v_web x_web ∧ rep K F v_looks x_looks ∧ Post (law_is_choice x_web x_kind x_looks) (Ret K F os Q) noX
theorem sc_law_is_choice : FnScope ["web", "kind", "looks", "look", "one"] ["web", "kind", "looks"] (defScope s_law_is_choice) := ⟨rfl, rfl, rfl, by decide +kernel, rfl, by decide +kernel, by decide +kernel⟩
theorem ok_law_is_choice (T : Tx K mg A FD) : FnOk P w K mg base CX0 6 (A 45) (FD 45) ["web", "kind", "looks"] (sp_law_is_choice K) := by
  refine T.d45.fn.ok sc_law_is_choice (fun vs H Q E h => ?_) (fun cdv Ar outer s H vs Q E hr h => ?_)
  · obtain ⟨F, os, v_web, x_web, x_kind, v_looks, x_looks, rfl, _⟩ := h
    rfl
  · obtain ⟨F0, os, v_web, x_web, x_kind, v_looks, x_looks, rfl, w0, r_web, r_looks, hm⟩ := h
    have sF : Same F0 F0 := Same.refl _
    obtain ⟨a1, u1, z1, rfl, q1, r1a, r1b⟩ := r_web
    obtain rfl : u1 = V.int x_web.1 := r1a
    obtain ⟨a2, vs2, rfl, q2, h2⟩ := r1b
    obtain ⟨a3, vs3, rfl, q3, h3⟩ := r_looks
    refine ⟨_, (pss_cons (ps_if (PW.pt (pw_or (pt_not (pt_val (pe_callB (call_isB (K := K) rfl) (by rfl) T.n_isinstance (by decide +kernel) (pa_cons (pv 2) (pa_cons (pe_bltn (v := .ty "list") (by rfl) T.n_list (by decide +kernel) rfl) pa_nil))))) (pw_or1 (pt_not (pt_val (pe_callB (cr_allK (K := K) rfl rfl) (by rfl) T.n_all (by decide +kernel) (pa_cons (pe_lc (own := [("look", 3)]) (g := gName 3) (by rfl) sc_law_is_choice.nd (pi_listK (K := K) rfl (pv 2)) (blkOk_by (own := [("look", 3)]) (N := ["web", "kind", "looks", "look", "one"]) (sc := defScope s_law_is_choice) (by decide +kernel)) (fun _ _ _ _ _ => (pg_name (i := 3) sc_law_is_choice.nd rfl (Or.inl rfl))) (fun _ _ _ _ _ => pts_nil) (fun _ _ _ _ _ => (pe_call (ok_law_whole T) (hr.mono (by decide)) (by rfl) T.d43.mg T.d43.fn.kp T.d43.b .nil pass0 (pa_cons (pv 3) pa_nil)))) pa_nil))))))) (pss_one (ps_ret pe_bl)) pss_nil) (pss_cons (ps_if (PW.pt (pw_or (pt_cmpR (op_neDt (K := K) rfl (List Int) (by decide) hr.units) (pv 2) (pe_callB (cr_sortSet (w := w) rfl rfl) (by rfl) T.n_sorted (by decide +kernel) (pa_cons (pe_callTy (cr_setLI (K := K) (w := w) rfl rfl rfl) (by rfl) T.n_set (by decide +kernel) (pa_cons (pv 2) pa_nil)) pa_nil)) (nomark _)) (pw_or1 (pt_cmp (pc_neI (pe_callB (call_lenN (K := K) rfl) (by rfl) T.n_len (by decide +kernel) (pa_cons (pv 2) pa_nil)) (pe_call (ok_tree_fewest T) (hr.mono (by decide)) (by rfl) T.d31.mg T.d31.fn.kp T.d31.b .nil pass0 (pa_cons (pv 0) (pa_cons (pv 1) pa_nil)))))))) (pss_one (ps_ret pe_bl)) pss_nil) (pss_cons (ps_if (pt_cmpR op_notN2 (pe_call (ok_tree_likes T) (hr.mono (by decide)) (by rfl) T.d21.mg T.d21.fn.kp T.d21.b .nil pass0 (pa_cons (pv 0) (pa_cons (pe_callTy (call_list_ofK (K := K) rfl) (by rfl) T.n_list (by decide +kernel) (pa_cons (pv 2) pa_nil)) (pa_cons (pv 1) pa_nil)))) pe_non (nomark _)) (pss_one (ps_ret pe_bl)) pss_nil) (pss_cons (ps_for PassesOwn.never rfl (pi_listK (K := K) rfl (pe_op op_cat (pe_slice (sl_listK (K := K) rfl) (pv 2) po_none (po_some pe_int)) (pe_slice (sl_listK (K := K) rfl) (pv 2) (po_some (pe_un un_neg pe_int)) po_none))) (pg_name (i := 3) sc_law_is_choice.nd rfl (Or.inr rfl)) (pss_one (ps_if (pt_cmpR op_isN2 (pe_call (ok_tree_likes T) (hr.mono (by decide)) (by rfl) T.d21.mg T.d21.fn.kp T.d21.b .nil pass0 (pa_cons (pv 0) (pa_cons (pe_lc (own := [("one", 4)]) (g := gName 4) (by rfl) sc_law_is_choice.nd (pi_listK (K := K) rfl (pv 2)) (blkOk_by (own := [("one", 4)]) (N := ["web", "kind", "looks", "look", "one"]) (sc := defScope s_law_is_choice) (by decide +kernel)) (fun _ _ _ _ _ => (pg_name (i := 4) sc_law_is_choice.nd rfl (Or.inl rfl))) (fun _ _ _ _ _ => (pts_one (pt_cmp (pc_neI (pv 4) (pv 3))))) (fun _ _ _ _ _ => (pv 4))) (pa_cons (pv 1) pa_nil)))) pe_non (nomark _)) (pss_one (ps_ret pe_bl)) pss_nil))) (pss_one (ps_ret pe_bl)))))), ?_⟩
    try dsimp only
    refine stepSeq (stepIf ?_)
    refine joinT hm (fun (j4 : Bool) c H' => c = j4 ∧ ∃ (F' : Hp), Same F0 F' ∧ W F' H' (os)) ?_ ?_
    · intro Q4 P4 q4 hm
      refine ⟨_, rfl, _, _, _, true, rfl, (.lst (w0.same _ _ q3)), (by decide +kernel), _, rfl, ?_⟩
      refine post_ite hm (fun k5 hm => ?_) (fun k5 hm => ?_)
      · skip
        exact q4 _ (post_ok hm) _ _ ⟨rfl, _, Same.refl _, w0⟩
      · skip
        refine ⟨_, rfl, _, rfl, ⟨_, SqL.of (w0.same _ _ q3)⟩, fun D7 nD7 => ?_⟩
        refine lcM (K := K) (tw_list (a := a3) h3) hm w0 nD7 (fun F' H' acc s w => SqL.of (w.same _ _ (s _ _ q3))) ?_ ?_
        · -- one turn
          intro b7 x7 F7 H7 H7' acc7 N7 P7 s7 w7 y7 hN7 hm
          replace q1 := s7 _ _ q1
          replace q2 := s7 _ _ q2
          replace h2 := A2.mono s7 h2
          replace q3 := s7 _ _ q3
          replace h3 := A2.mono s7 h3
          replace sF := sF.trans s7
          obtain ⟨rfl, r9⟩ := y7
          obtain rfl : x7 = V.int b7 := r9
          refine ⟨rfl, _, rfl, _, _, _, rfl, w7, ?_⟩
          refine (post_bind hm).mono (fun y10 hm v10 F10 H10 w10 s10 r10 => ?_) (fun _ z => z)
          replace q1 := s10 _ _ q1
          replace q2 := s10 _ _ q2
          replace h2 := A2.mono s10 h2
          replace q3 := s10 _ _ q3
          replace h3 := A2.mono s10 h3
          replace sF := sF.trans s10
          obtain rfl : v10 = V.bl y10 := r10
          exact hN7 _ (post_ok hm) _ _ _ w10 s10 rep_b
        intro us7 F7 H7 ys7 s7 w7 gg7 hm
        replace q1 := s7 _ _ q1
        replace q2 := s7 _ _ q2
        replace h2 := A2.mono s7 h2
        replace q3 := s7 _ _ q3
        replace h3 := A2.mono s7 h3
        replace sF := sF.trans s7
        have w13 : W F7 _ (os) := w7.drop (pre := [])
        exact ⟨_, _, rfl, bools_q (SqL.of (w7.get (pre := []))) gg7, _, rfl, q4 _ (post_ok hm) _ _ ⟨rfl, _, s7, w13⟩⟩
    intro j4 c4 H4 hc4 hm
    obtain ⟨rfl, F4, s4, w4⟩ := hc4
    replace q1 := s4 _ _ q1
    replace q2 := s4 _ _ q2
    replace h2 := A2.mono s4 h2
    replace q3 := s4 _ _ q3
    replace h3 := A2.mono s4 h3
    replace sF := sF.trans s4
    refine post_ite hm (fun k14 hm => ?_) (fun k14 hm => ?_)
    · skip
      exact (post_ok hm) _ _ _ w4 sF rep_b
    · skip
      refine stepX ?_
      try dsimp only
      refine stepSeq (stepIf ?_)
      refine joinT hm (fun (j15 : Bool) c H' => c = j15 ∧ ∃ (F' : Hp), Same F4 F' ∧ W F' H' (os)) ?_ ?_
      · intro Q15 P15 q15 hm
        obtain ⟨l16, c16, e16, hm⟩ := pb_ss hm
        refine ⟨_, rfl, _, rfl, _, _, rfl, ints_q (SqL.of (w4.same _ _ q3)) h3, c16.1, fun p16 n16 => ?_⟩
        obtain ⟨F16, s16, w16, q16⟩ := w4.frzE (o := SetO w p16 (fun j => decide (j ∈ x_looks)) (nub x_looks).length) n16
        replace q1 := s16 _ _ q1
        replace q2 := s16 _ _ q2
        replace h2 := A2.mono s16 h2
        replace q3 := s16 _ _ q3
        replace h3 := A2.mono s16 h3
        replace sF := sF.trans s16
        refine ⟨_, _, _, rfl, w16.same _ _ q16, c16.2, fun ns17 p17 u17 i17 j17 n17 => ?_⟩
        obtain rfl : ns17 = l16 := (ssI_uniq u17 i17).trans e16.symm
        have h17 : A2 (rep K F16) (ns17.map V.int) ns17 := A2.of_ints
        have w17 : W F16 _ ((p17, .lst (ns17.map V.int)) :: os) := w16.new n17
        refine ⟨(x_looks : (List Int)), (ns17 : (List Int)), (Rep.mono w17.same (rep_lst q3 h3)), (rep_own (pre := []) w17 h17), _, rfl, ?_⟩
        refine post_ite hm (fun k18 hm => ?_) (fun k18 hm => ?_)
        · skip
          have w20 : W F16 _ (os) := w17.drop (pre := [])
          exact q15 _ (post_ok hm) _ _ ⟨rfl, _, s16, w20⟩
        · skip
          refine ⟨_, rfl, _, _, _, rfl, .inl (SqL.of (w17.same _ _ q3)), h3.length, _, rfl, _, rfl, _, _, _, (x_web : (Int × (Tup (Int × Int)))), _, rfl, w17, (rep_pair q1 rep_i (rep_tup q2 h2)), ?_⟩
          refine (post_bind hm).mono (fun y21 hm v21 F21 H21 w21 s21 r21 => ?_) (fun _ z => z)
          replace q1 := s21 _ _ q1
          replace q2 := s21 _ _ q2
          replace h2 := A2.mono s21 h2
          replace q3 := s21 _ _ q3
          replace h3 := A2.mono s21 h3
          replace h17 := A2.mono s21 h17
          replace sF := sF.trans s21
          obtain rfl : v21 = V.int y21 := r21
          have w23 : W F21 _ (os) := w21.drop (pre := [])
          exact ⟨_, _, rfl, rfl, _, rfl, q15 _ (post_ok hm) _ _ ⟨rfl, _, (s16.trans s21), w23⟩⟩
      intro j15 c15 H15 hc15 hm
      obtain ⟨rfl, F15, s15, w15⟩ := hc15
      replace q1 := s15 _ _ q1
      replace q2 := s15 _ _ q2
      replace h2 := A2.mono s15 h2
      replace q3 := s15 _ _ q3
      replace h3 := A2.mono s15 h3
      replace sF := sF.trans s15
      refine post_ite hm (fun k24 hm => ?_) (fun k24 hm => ?_)
      · skip
        exact (post_ok hm) _ _ _ w15 sF rep_b
      · skip
        have h25 : A2 (rep K F15) vs3 x_looks := h3
        refine ⟨_, rfl, _, rfl, _, _, rfl, .inl (SqL.of (w15.same _ _ q3)), fun p26 n26 => ?_⟩
        have w26 : W F15 _ ((p26, .lst vs3) :: os) := w15.new n26
        obtain ⟨F27, s27, w27, q27⟩ : ∃ F', Same F15 F' ∧ W F' _ (os) ∧ F' p26 = some (.lst vs3) := w26.freezeE (pre := [])
        replace q1 := s27 _ _ q1
        replace q2 := s27 _ _ q2
        replace h2 := A2.mono s27 h2
        replace q3 := s27 _ _ q3
        replace h3 := A2.mono s27 h3
        replace h25 := A2.mono s27 h25
        replace sF := sF.trans s27
        refine ⟨_, rfl, _, _, _, (x_web : (Int × (Tup (Int × Int)))), _, (x_looks : (List Int)), _, rfl, w27, (rep_pair q1 rep_i (rep_tup q2 h2)), (rep_lst q27 h25), ?_⟩
        refine (post_bind hm).mono (fun y28 hm v28 F28 H28 w28 s28 r28 => ?_) (fun _ z => z)
        replace q1 := s28 _ _ q1
        replace q2 := s28 _ _ q2
        replace h2 := A2.mono s28 h2
        replace q3 := s28 _ _ q3
        replace h3 := A2.mono s28 h3
        replace h25 := A2.mono s28 h25
        replace q27 := s28 _ _ q27
        replace sF := sF.trans s28
        refine ⟨rfl, _, isN_eq r28, _, rfl, ?_⟩
        refine post_ite hm (fun k30 hm => ?_) (fun k30 hm => ?_)
        · skip
          exact (post_ok hm) _ _ _ w28 sF rep_b
        · skip
          have h32 : A2 (rep K F28) (cutV vs3 none (some (2 : Int))) (cutL x_looks none (some (2 : Int))) := sl_cut h3 _ _
          refine ⟨_, rfl, _, rfl, _, _, rfl, SqL.of (w28.same _ _ q3), fun p33 n33 => ?_⟩
          have w33 : W F28 _ ((p33, .lst (cutV vs3 none (some (2 : Int)))) :: os) := w28.new n33
          have h34 : A2 (rep K F28) (cutV vs3 (some (-(1 : Int))) none) (cutL x_looks (some (-(1 : Int))) none) := sl_cut h3 _ _
          refine ⟨_, rfl, _, rfl, _, rfl, _, _, rfl, SqL.of (w33.same _ _ q3), fun p35 n35 => ?_⟩
          have w35 : W F28 _ ((p35, .lst (cutV vs3 (some (-(1 : Int))) none)) :: (p33, .lst (cutV vs3 none (some (2 : Int)))) :: os) := w33.new n35
          obtain ⟨l36, z36, e36, hm⟩ := pn_extend hm
          have h36 : A2 (rep K F28) ((cutV vs3 none (some (2 : Int))) ++ (cutV vs3 (some (-(1 : Int))) none)) l36 := e36 ▸ A2.append h32 h34
          refine ⟨_, _, _, _, rfl, rfl, (w35.get (pre := [_])), (w35.get (pre := [])), (A2.le2 h32 h34 z36), fun p37 n37 => ?_⟩
          have w37 : W F28 _ ((p37, .lst ((cutV vs3 none (some (2 : Int))) ++ (cutV vs3 (some (-(1 : Int))) none))) :: (p35, .lst (cutV vs3 (some (-(1 : Int))) none)) :: (p33, .lst (cutV vs3 none (some (2 : Int)))) :: os) := w35.new n37
          obtain ⟨F38, s38, w38, q38⟩ : ∃ F', Same F28 F' ∧ W F' _ ((p35, .lst (cutV vs3 (some (-(1 : Int))) none)) :: (p33, .lst (cutV vs3 none (some (2 : Int)))) :: os) ∧ F' p37 = some (.lst ((cutV vs3 none (some (2 : Int))) ++ (cutV vs3 (some (-(1 : Int))) none))) := w37.freezeE (pre := [])
          replace q1 := s38 _ _ q1
          replace q2 := s38 _ _ q2
          replace h2 := A2.mono s38 h2
          replace q3 := s38 _ _ q3
          replace h3 := A2.mono s38 h3
          replace h25 := A2.mono s38 h25
          replace q27 := s38 _ _ q27
          replace r28 := Rep.mono s38 r28
          replace h32 := A2.mono s38 h32
          replace h34 := A2.mono s38 h34
          replace h36 := A2.mono s38 h36
          replace sF := sF.trans s38
          refine ⟨_, rfl, ⟨_, SqL.of (w38.same _ _ q38)⟩, ?_⟩
          have w39 : W F38 _ ((p33, .lst (cutV vs3 none (some (2 : Int)))) :: os) := w38.drop (pre := [])
          have w40 : W F38 _ (os) := w39.drop (pre := [])
          refine forX (tw_list (a := p37) h36) hm (fun (g31 : Unit) σ H' => ∃ (F' : Hp) (o31_3 : Option V), σ = [some (.ref a1), some (.str x_kind), some (.ref a3), o31_3, none] ∧ Same F38 F' ∧ W F' H' (os)) ⟨_, _, rfl, Same.refl _, w40⟩ (fun g σ H' hI => by obtain ⟨F', _, _, s, w⟩ := hI; exact SqL.of (w.same _ _ (s _ _ q38))) ?_ ?_
          · -- a turn
            intro b31 g31 x31 σ31 H31 H31' N31 B31 P31 hI hy hN31 hB31 hZ31 hm
            obtain ⟨F31, o31_3, rfl, s31, w31⟩ := hI
            replace q1 := s31 _ _ q1
            replace q2 := s31 _ _ q2
            replace h2 := A2.mono s31 h2
            replace q3 := s31 _ _ q3
            replace h3 := A2.mono s31 h3
            replace h25 := A2.mono s31 h25
            replace q27 := s31 _ _ q27
            replace r28 := Rep.mono s31 r28
            replace h36 := A2.mono s31 h36
            replace q38 := s31 _ _ q38
            replace sF := sF.trans s31
            obtain ⟨rfl, r41⟩ := hy
            obtain rfl : x31 = V.int b31 := r41
            refine ⟨_, rfl, _, rfl, _, rfl, ⟨_, SqL.of (w31.same _ _ q3)⟩, fun D42 nD42 => ?_⟩
            refine lcF (K := K) (tw_list (a := a3) h3) hm w31 nD42 (fun F' H' acc s w => SqL.of (w.same _ _ (s _ _ q3))) ?_ ?_
            · -- one turn
              intro b42 x42 F42 H42 H42' acc42 N42 M42 P42 s42 w42 y42 hN42 hM42 hm
              replace q1 := s42 _ _ q1
              replace h2 := A2.mono s42 h2
              replace q2 := s42 _ _ q2
              replace h3 := A2.mono s42 h3
              replace q3 := s42 _ _ q3
              replace sF := sF.trans s42
              obtain ⟨rfl, r44⟩ := y42
              obtain rfl : x42 = V.int b42 := r44
              refine ⟨rfl, _, rfl, _, rfl, _, _, rfl, rfl, _, rfl, ?_⟩
              refine post_ite hm (fun k45 hm => ?_) (fun k45 hm => ?_)
              · skip
                exact ⟨_, rfl, hN42 _ (post_ok hm) _ _ _ w42 (Same.refl _) rep_i⟩
              · skip
                exact hM42 (post_ok hm) _ _ w42 (Same.refl _)
            intro us42 F42 H42 ys42 s42 w42 gg42 hm
            replace q1 := s42 _ _ q1
            replace h2 := A2.mono s42 h2
            replace q2 := s42 _ _ q2
            replace h3 := A2.mono s42 h3
            replace q3 := s42 _ _ q3
            replace sF := sF.trans s42
            obtain ⟨F47, s47, w47, q47⟩ : ∃ F', Same F42 F' ∧ W F' _ (os) ∧ F' D42 = some (.lst us42) := w42.freezeE (pre := [])
            replace q1 := s47 _ _ q1
            replace h2 := A2.mono s47 h2
            replace q2 := s47 _ _ q2
            replace h3 := A2.mono s47 h3
            replace q3 := s47 _ _ q3
            replace gg42 := A2.mono s47 gg42
            replace sF := sF.trans s47
            refine ⟨_, rfl, _, _, _, (x_web : (Int × (Tup (Int × Int)))), _, (ys42 : (List Int)), _, rfl, w47, (rep_pair q1 rep_i (rep_tup q2 h2)), (rep_lst q47 gg42), ?_⟩
            refine (post_bind hm).mono (fun y48 hm v48 F48 H48 w48 s48 r48 => ?_) (fun _ z => z)
            replace q1 := s48 _ _ q1
            replace h2 := A2.mono s48 h2
            replace q2 := s48 _ _ q2
            replace h3 := A2.mono s48 h3
            replace q3 := s48 _ _ q3
            replace gg42 := A2.mono s48 gg42
            replace q47 := s48 _ _ q47
            replace sF := sF.trans s48
            refine ⟨rfl, _, isN_eq r48, _, rfl, ?_⟩
            refine post_ite hm (fun k50 hm => ?_) (fun k50 hm => ?_)
            · skip
              have hm := hZ31 _ (post_ok hm)
              exact (post_ok hm) _ _ _ w48 sF rep_b
            · skip
              exact hN31 _ (post_ok hm) _ _ ⟨_, _, rfl, (s31.trans (s42.trans (s47.trans s48))), w48⟩
          intro g31 σ31 H31 hI hm
          obtain ⟨F31, o31_3, rfl, s31, w31⟩ := hI
          replace q1 := s31 _ _ q1
          replace q2 := s31 _ _ q2
          replace h2 := A2.mono s31 h2
          replace q3 := s31 _ _ q3
          replace h3 := A2.mono s31 h3
          replace h25 := A2.mono s31 h25
          replace q27 := s31 _ _ q27
          replace r28 := Rep.mono s31 r28
          replace h36 := A2.mono s31 h36
          replace q38 := s31 _ _ q38
          replace sF := sF.trans s31
          exact (post_ok hm) _ _ _ w31 sF rep_b
def sp_law_right (K : Fg) : Sp := fun vs H Q E => ∃ (F : Hp) (os : List (Addr × HO)) (a_pool : Addr) (vs_pool : List V) (x_pool : (List Int)) (v_web : V) (x_web : (Int × (Tup (Int × Int)))) (x_kind : Str), vs = [.ref a_pool, v_web, .str x_kind] ∧ W F H ((a_pool, .lst vs_pool) :: os) ∧ A2 (rep K F) vs_pool x_pool ∧ rep K F v_web x_web ∧ Post (law_right x_pool x_web x_kind) (RetM K F a_pool os Q) noX
theorem sc_law_right : FnScope ["pool", "web", "kind", "last", "number", "looks"] ["pool", "web", "kind"] (defScope s_law_right) := ⟨rfl, rfl, rfl, by decide +kernel, rfl, by decide +kernel, by decide +kernel⟩
theorem ok_law_right (T : Tx K mg A FD) : FnOk P w K mg base CX0 7 (A 46) (FD 46) ["pool", "web", "kind"] (sp_law_right K) := by
  refine T.d46.fn.ok sc_law_right (fun vs H Q E h => ?_) (fun cdv Ar outer s H vs Q E hr h => ?_)
  · obtain ⟨F, os, a_pool, vs_pool, x_pool, v_web, x_web, x_kind, rfl, _⟩ := h
    rfl
  · obtain ⟨F0, os, a_pool, vs_pool, x_pool, v_web, x_web, x_kind, rfl, w0, h_pool, r_web, hm⟩ := h
    have sF : Same F0 F0 := Same.refl _
    obtain ⟨a2, u2, z2, rfl, q2, r2a, r2b⟩ := r_web
    obtain rfl : u2 = V.int x_web.1 := r2a
    obtain ⟨a3, vs3, rfl, q3, h3⟩ := r2b
    refine ⟨_, (pss_cons (ps_set (i := 3) sc_law_right.nd rfl (Or.inl rfl) pe_non1) (pss_cons (ps_for PassesOwn.never rfl (pi_listK (K := K) rfl (pe_call (ok_law_numbers T) (hr.mono (by decide)) (by rfl) T.d44.mg T.d44.fn.kp T.d44.b .nil pass0 (pa_cons (pv 0) (pa_cons (pe_call (ok_tree_choices T) (hr.mono (by decide)) (by rfl) T.d32.mg T.d32.fn.kp T.d32.b .nil pass0 (pa_cons (pv 1) (pa_cons (pv 2) pa_nil))) pa_nil)))) (pg_name (i := 4) sc_law_right.nd rfl (Or.inl rfl)) (pss_cons (ps_set (i := 5) sc_law_right.nd rfl (Or.inl rfl) (pe_call (ok_choice_by T) (hr.mono (by decide)) (by rfl) T.d33.mg T.d33.fn.kp T.d33.b .nil pass0 (pa_cons (pv 1) (pa_cons (pv 2) (pa_cons (pv 4) pa_nil))))) (pss_cons (ps_if (PW.pt (pw_or (pt_not (pt_val (pe_call (ok_law_is_choice T) (hr.mono (by decide)) (by rfl) T.d45.mg T.d45.fn.kp T.d45.b .nil pass0 (pa_cons (pv 1) (pa_cons (pv 2) (pa_cons (pv 5) pa_nil)))))) (pw_or1 (pt_cmp (pc_neI (pe_call (ok_choice_number T) (hr.mono (by decide)) (by rfl) T.d35.mg T.d35.fn.kp T.d35.b .nil pass0 (pa_cons (pv 1) (pa_cons (pv 2) (pa_cons (pe_callTy (call_list_ofK (K := K) rfl) (by rfl) T.n_list (by decide +kernel) (pa_cons (pv 5) pa_nil)) pa_nil)))) (pv 4)))))) (pss_one (ps_ret pe_bl)) pss_nil) (pss_cons (ps_if (PW.pt (pw_and (pt_cmpR op_notN2 (pv 3) pe_non (nomark _)) (pw_and1 (pt_cmpR (op_leLI (K := K) rfl hr.units) (pv 5) (pv 3) (nomark _))))) (pss_one (ps_ret pe_bl)) pss_nil) (pss_one (ps_set (i := 3) sc_law_right.nd rfl (Or.inl rfl) (pv 5))))))) (pss_one (ps_ret pe_bl)))), ?_⟩
    have r4 : rep K F0 .non (none : (Option (List Int))) := rep_none
    refine ⟨trivial, _, rfl, _, rfl, _, rfl, _, _, _, (x_web : (Int × (Tup (Int × Int)))), _, rfl, w0, (rep_pair q2 rep_i (rep_tup q3 h3)), ?_⟩
    refine (post_bind hm).mono (fun y6 hm v6 F6 H6 w6 s6 r6 => ?_) (fun _ z => z)
    replace q2 := s6 _ _ q2
    replace h3 := A2.mono s6 h3
    replace q3 := s6 _ _ q3
    replace r4 := Rep.mono s6 r4
    replace h_pool := A2.mono s6 h_pool
    replace sF := sF.trans s6
    obtain rfl : v6 = V.int y6 := r6
    refine ⟨_, _, _, _, _, _, rfl, w6, h_pool, ?_⟩
    refine (post_bind hm).mono (fun y7 hm v7 vs7 F7 H7 w7 s7 r7 h7 => ?_) (fun _ z => z)
    replace q2 := s7 _ _ q2
    replace h3 := A2.mono s7 h3
    replace q3 := s7 _ _ q3
    replace r4 := Rep.mono s7 r4
    replace sF := sF.trans s7
    obtain ⟨a8, vs8, rfl, q8, h8⟩ := r7
    refine ⟨_, rfl, ⟨_, SqL.of (w7.same _ _ q8)⟩, ?_⟩
    refine forX (tw_list (a := a8) h8) hm (fun (g5 : (Option (List Int))) σ H' => ∃ (F' : Hp) (v5_3 : V) (o5_5 : Option V) (o5_4 : Option V), σ = [some (.ref a_pool), some (.ref a2), some (.str x_kind), some v5_3, o5_4, o5_5] ∧ Same F7 F' ∧ W F' H' ((a_pool, .lst vs7) :: os) ∧ rep K F' v5_3 (g5 : (Option (List Int)))) ⟨_, _, _, _, rfl, Same.refl _, w7, r4⟩ (fun g σ H' hI => by obtain ⟨F', _, _, _, _, s, w, _⟩ := hI; exact SqL.of (w.same _ _ (s _ _ q8))) ?_ ?_
    · -- a turn
      intro b5 g5 x5 σ5 H5 H5' N5 B5 P5 hI hy hN5 hB5 hZ5 hm
      obtain ⟨F5, v5_3, o5_5, o5_4, rfl, s5, w5, r5_3⟩ := hI
      replace q2 := s5 _ _ q2
      replace h3 := A2.mono s5 h3
      replace q3 := s5 _ _ q3
      replace r4 := Rep.mono s5 r4
      replace h7 := A2.mono s5 h7
      replace q8 := s5 _ _ q8
      replace h8 := A2.mono s5 h8
      replace sF := sF.trans s5
      obtain ⟨rfl, r10⟩ := hy
      obtain rfl : x5 = V.int b5 := r10
      refine ⟨_, rfl, _, rfl, _, rfl, _, _, _, (x_web : (Int × (Tup (Int × Int)))), _, _, rfl, w5, (rep_pair q2 rep_i (rep_tup q3 h3)), ?_⟩
      refine (post_bind hm).mono (fun y11 hm p11 us11 F11 H11 w11 s11 g11 => ?_) (fun _ z => z)
      replace q2 := s11 _ _ q2
      replace h3 := A2.mono s11 h3
      replace q3 := s11 _ _ q3
      replace r5_3 := Rep.mono s11 r5_3
      replace h7 := A2.mono s11 h7
      replace sF := sF.trans s11
      obtain ⟨F13, s13, w13, q13⟩ : ∃ F', Same F11 F' ∧ W F' _ ((a_pool, .lst vs7) :: os) ∧ F' p11 = some (.lst us11) := w11.freezeE (pre := [])
      replace q2 := s13 _ _ q2
      replace h3 := A2.mono s13 h3
      replace q3 := s13 _ _ q3
      replace r5_3 := Rep.mono s13 r5_3
      replace h7 := A2.mono s13 h7
      replace g11 := A2.mono s13 g11
      replace sF := sF.trans s13
      refine stepN ?_
      try dsimp only
      refine stepSeq (stepIf ?_)
      refine joinT hm (fun (j14 : Bool) c H' => c = j14 ∧ ∃ (F' : Hp), Same F13 F' ∧ W F' H' ((a_pool, .lst vs7) :: os)) ?_ ?_
      · intro Q14 P14 q14 hm
        refine ⟨_, rfl, _, rfl, _, rfl, _, _, _, (x_web : (Int × (Tup (Int × Int)))), _, _, (y11 : (List Int)), rfl, w13, (rep_pair q2 rep_i (rep_tup q3 h3)), (rep_lst q13 g11), ?_⟩
        refine (post_bind hm).mono (fun y15 hm v15 F15 H15 w15 s15 r15 => ?_) (fun _ z => z)
        replace q2 := s15 _ _ q2
        replace h3 := A2.mono s15 h3
        replace q3 := s15 _ _ q3
        replace r5_3 := Rep.mono s15 r5_3
        replace g11 := A2.mono s15 g11
        replace q13 := s15 _ _ q13
        replace h7 := A2.mono s15 h7
        replace sF := sF.trans s15
        obtain rfl : v15 = V.bl y15 := r15
        refine ⟨_, rfl, ?_⟩
        refine post_ite hm (fun k16 hm => ?_) (fun k16 hm => ?_)
        · skip
          exact q14 _ (post_ok hm) _ _ ⟨rfl, _, s15, w15⟩
        · skip
          have h18 : A2 (rep K F15) us11 y11 := g11
          refine ⟨_, rfl, _, rfl, _, rfl, _, _, rfl, .inl (SqL.of (w15.same _ _ q13)), fun p19 n19 => ?_⟩
          have w19 : W F15 _ ((p19, .lst us11) :: (a_pool, .lst vs7) :: os) := w15.new n19
          obtain ⟨F20, s20, w20, q20⟩ : ∃ F', Same F15 F' ∧ W F' _ ((a_pool, .lst vs7) :: os) ∧ F' p19 = some (.lst us11) := w19.freezeE (pre := [])
          replace q2 := s20 _ _ q2
          replace h3 := A2.mono s20 h3
          replace q3 := s20 _ _ q3
          replace r5_3 := Rep.mono s20 r5_3
          replace g11 := A2.mono s20 g11
          replace q13 := s20 _ _ q13
          replace h7 := A2.mono s20 h7
          replace h18 := A2.mono s20 h18
          replace sF := sF.trans s20
          refine ⟨_, _, _, (x_web : (Int × (Tup (Int × Int)))), _, _, (y11 : (List Int)), rfl, w20, (rep_pair q2 rep_i (rep_tup q3 h3)), (rep_lst q20 h18), ?_⟩
          refine (post_bind hm).mono (fun y21 hm v21 F21 H21 w21 s21 r21 => ?_) (fun _ z => z)
          replace q2 := s21 _ _ q2
          replace h3 := A2.mono s21 h3
          replace q3 := s21 _ _ q3
          replace r5_3 := Rep.mono s21 r5_3
          replace g11 := A2.mono s21 g11
          replace q13 := s21 _ _ q13
          replace h7 := A2.mono s21 h7
          replace h18 := A2.mono s21 h18
          replace q20 := s21 _ _ q20
          replace sF := sF.trans s21
          obtain rfl : v21 = V.int y21 := r21
          exact ⟨_, rfl, _, _, rfl, rfl, _, rfl, q14 _ (post_ok hm) _ _ ⟨rfl, _, (s15.trans (s20.trans s21)), w21⟩⟩
      intro j14 c14 H14 hc14 hm
      obtain ⟨rfl, F14, s14, w14⟩ := hc14
      replace q2 := s14 _ _ q2
      replace h3 := A2.mono s14 h3
      replace q3 := s14 _ _ q3
      replace r5_3 := Rep.mono s14 r5_3
      replace g11 := A2.mono s14 g11
      replace q13 := s14 _ _ q13
      replace h7 := A2.mono s14 h7
      replace sF := sF.trans s14
      refine post_ite hm (fun k23 hm => ?_) (fun k23 hm => ?_)
      · skip
        have hm := hZ5 _ (post_ok hm)
        exact (post_ok hm) _ _ _ _ w14 sF rep_b h7
      · skip
        refine stepX ?_
        try dsimp only
        refine stepSeq (stepIf ?_)
        refine joinT hm (fun (j24 : Bool) c H' => c = j24 ∧ ∃ (F' : Hp), Same F14 F' ∧ W F' H' ((a_pool, .lst vs7) :: os)) ?_ ?_
        · intro Q24 P24 q24 hm
          refine ⟨_, rfl, rfl, _, isN_eq r5_3, _, rfl, ?_⟩
          refine post_ite hm (fun k25 hm => ?_) (fun k25 hm => ?_)
          · skip
            obtain ⟨t26, e26, hm⟩ := pb_ofO hm
            have r26 : rep K F14 v5_3 t26 := (show rep K F14 v5_3 (some t26) from e26 ▸ r5_3)
            obtain ⟨a27, vs27, rfl, q27, h27⟩ := r26
            exact ⟨_, rfl, _, rfl, (y11 : List Int), (t26 : List Int), (Rep.mono w14.same (rep_lst q13 g11)), (Rep.mono w14.same (rep_lst q27 h27)), _, rfl, q24 _ (post_ok hm) _ _ ⟨rfl, _, Same.refl _, w14⟩⟩
          · skip
            exact q24 _ (post_ok hm) _ _ ⟨rfl, _, Same.refl _, w14⟩
        intro j24 c24 H24 hc24 hm
        obtain ⟨rfl, F24, s24, w24⟩ := hc24
        replace q2 := s24 _ _ q2
        replace h3 := A2.mono s24 h3
        replace q3 := s24 _ _ q3
        replace r5_3 := Rep.mono s24 r5_3
        replace g11 := A2.mono s24 g11
        replace q13 := s24 _ _ q13
        replace h7 := A2.mono s24 h7
        replace sF := sF.trans s24
        refine post_ite hm (fun k30 hm => ?_) (fun k30 hm => ?_)
        · skip
          have hm := hZ5 _ (post_ok hm)
          exact (post_ok hm) _ _ _ _ w24 sF rep_b h7
        · skip
          have r31 : rep K F24 (.ref p11) ((some y11) : (Option (List Int))) := (rep_some (rep_lst q13 g11))
          exact ⟨_, rfl, hN5 _ (post_ok hm) _ _ ⟨_, _, _, _, rfl, (s5.trans (s11.trans (s13.trans (s14.trans s24)))), w24, r31⟩⟩
    intro g5 σ5 H5 hI hm
    obtain ⟨F5, v5_3, o5_5, o5_4, rfl, s5, w5, r5_3⟩ := hI
    replace q2 := s5 _ _ q2
    replace h3 := A2.mono s5 h3
    replace q3 := s5 _ _ q3
    replace r4 := Rep.mono s5 r4
    replace h7 := A2.mono s5 h7
    replace q8 := s5 _ _ q8
    replace h8 := A2.mono s5 h8
    replace sF := sF.trans s5
    exact (post_ok hm) _ _ _ _ w5 sF rep_b h7
def sp_law (K : Fg) : Sp := fun vs H Q E => ∃ (F : Hp) (os : List (Addr × HO)) (v_script : V) (x_script : Scr), vs = [v_script] ∧ W F H (os) ∧ rep K F v_script x_script ∧ Post (law x_script) (Ret K F os Q) noX
theorem sc_law : FnScope ["script", "cells", "k", "pool", "web", "kind"] ["script"] (defScope s_law) := ⟨rfl, rfl, rfl, by decide +kernel, rfl, by decide +kernel, by decide +kernel⟩
theorem ok_law (T : Tx K mg A FD) : FnOk P w K mg base CX0 8 (A 47) (FD 47) ["script"] (sp_law K) := by
  refine T.d47.fn.ok sc_law (fun vs H Q E h => ?_) (fun cdv Ar outer s H vs Q E hr h => ?_)
  · obtain ⟨F, os, v_script, x_script, rfl, _⟩ := h
    rfl
  · obtain ⟨F0, os, v_script, x_script, rfl, w0, r_script, hm⟩ := h
    have sF : Same F0 F0 := Same.refl _
    obtain ⟨a1, rfl, q1⟩ := r_script
    have h1 : A2 (rep K F0) (x_script.l.map V.int) x_script.l := A2.of_ints
    refine ⟨_, (pss_cons (ps_set (i := 1) sc_law.nd rfl (Or.inl rfl) (pe_call (ok_law_cells T) (hr.mono (by decide)) (by rfl) T.d37.mg T.d37.fn.kp T.d37.b .nil pass0 (pa_cons (pv 0) (pa_cons pe_int pa_nil)))) (pss_cons (ps_for PassesOwn.never rfl (pi_range1 (by rfl) T.n_range (pa_cons (pe_callB (call_max2 rfl) (by rfl) T.n_max (by decide +kernel) (pa_cons pe_int (pa_cons (pe_callB (call_lenN (K := K) rfl) (by rfl) T.n_len (by decide +kernel) (pa_cons (pv 1) pa_nil)) pa_nil))) pa_nil)) (pg_name (i := 2) sc_law.nd rfl (Or.inl rfl)) (pss_cons (ps_set (i := 3) sc_law.nd rfl (Or.inl rfl) (pe_call (ok_law_pool T) (hr.mono (by decide)) (by rfl) T.d38.mg T.d38.fn.kp T.d38.b .nil pass0 (pa_cons (pv 1) (pa_cons (pv 2) pa_nil)))) (pss_cons (ps_set (i := 4) sc_law.nd rfl (Or.inl rfl) (pe_call (ok_law_tree T) (hr.mono (by decide)) (by rfl) T.d42.mg T.d42.fn.kp T.d42.b .nil pass0 (pa_cons (pv 3) (pa_cons (pe_ix (ix_listK (K := K) rfl) (pe_lst (pa_cons pe_int (pa_cons pe_int pa_nil))) (pe_callTy call_intB (by rfl) T.n_int (by decide +kernel) (pa_cons (pe_cmp (pc_eqI (pe_call (ok_law_take T) (hr.mono (by decide)) (by rfl) T.d39.mg T.d39.fn.kp T.d39.b .nil pass0 (pa_cons (pv 3) (pa_cons pe_int pa_nil))) pe_int)) pa_nil)) (fun _ _ => rfl)) pa_nil)))) (pss_one (ps_for PassesOwn.never rfl (pi_listK (K := K) rfl (pe_lst (pa_cons pe_str (pa_cons pe_str (pa_cons pe_str pa_nil))))) (pg_name (i := 5) sc_law.nd rfl (Or.inl rfl)) (pss_one (ps_if (pt_not (pt_val (pe_call (ok_law_right T) (hr.mono (by decide)) (by rfl) T.d46.mg T.d46.fn.kp T.d46.b .nil pass0 (pa_cons (pv 3) (pa_cons (pv 4) (pa_cons (pv 5) pa_nil)))))) (pss_one (ps_ret pe_bl)) pss_nil))))))) (pss_one (ps_ret pe_bl)))), ?_⟩
    refine ⟨_, rfl, _, _, _, (x_script : Scr), _, rfl, w0, ⟨_, rfl, q1⟩, ?_⟩
    refine (post_bind hm).mono (fun y2 hm p2 us2 F2 H2 w2 s2 g2 => ?_) (fun _ z => z)
    replace q1 := s2.seq q1
    replace h1 := A2.mono s2 h1
    replace sF := sF.trans s2
    obtain ⟨F4, s4, w4, q4⟩ : ∃ F', Same F2 F' ∧ W F' _ (os) ∧ F' p2 = some (.lst us2) := w2.freezeE (pre := [])
    replace q1 := s4.seq q1
    replace h1 := A2.mono s4 h1
    replace g2 := A2.mono s4 g2
    replace sF := sF.trans s4
    obtain ⟨c6, hm⟩ := pb_rng hm
    refine ⟨_, rfl, _, _, _, rfl, .inl (SqL.of (w4.same _ _ q4)), g2.length, _, _, rfl, _, rfl, c6.2.2.1, c6.2.2.2, ?_⟩
    refine forX (tw_rng0 (j := (max2 (1 : Int) (y2.length : Int)))) hm (fun (g5 : Unit) σ H' => ∃ (F' : Hp) (o5_3 : Option V) (o5_4 : Option V) (o5_5 : Option V) (o5_2 : Option V), σ = [some (.ref a1), some (.ref p2), o5_2, o5_3, o5_4, o5_5] ∧ Same F4 F' ∧ W F' H' (os)) ⟨_, _, _, _, _, rfl, Same.refl _, w4⟩ (fun _ _ _ _ => trivial) ?_ ?_
    · -- a turn
      intro b5 g5 x5 σ5 H5 H5' N5 B5 P5 hI hy hN5 hB5 hZ5 hm
      obtain ⟨F5, o5_3, o5_4, o5_5, o5_2, rfl, s5, w5⟩ := hI
      replace h1 := A2.mono s5 h1
      replace q1 := s5.seq q1
      replace g2 := A2.mono s5 g2
      replace q4 := s5 _ _ q4
      replace sF := sF.trans s5
      obtain ⟨rfl, rfl⟩ := hy
      refine ⟨_, rfl, _, rfl, _, _, _, (y2 : (List Int)), _, rfl, w5, (rep_lst q4 g2), ?_⟩
      refine (post_bind hm).mono (fun y7 hm p7 us7 F7 H7 w7 s7 g7 => ?_) (fun _ z => z)
      replace h1 := A2.mono s7 h1
      replace q1 := s7.seq q1
      replace g2 := A2.mono s7 g2
      replace q4 := s7 _ _ q4
      replace sF := sF.trans s7
      have h9 : A2 (rep K F7) [(.int 24), (.int 40)] ([(24 : Int), (40 : Int)] : (List Int)) := .cons rep_i (.cons rep_i (.nil))
      refine ⟨_, rfl, (by show 2 ≤ sizeLine; decide), fun p10 n10 => ?_⟩
      have w10 : W F7 _ ((p10, .lst [(.int 24), (.int 40)]) :: (p7, .lst us7) :: os) := w7.new n10
      have w11 : W F7 _ ((p7, .lst us7) :: (p10, .lst [(.int 24), (.int 40)]) :: os) := w10.front (pre := [_])
      refine ⟨_, rfl, _, _, _, _, _, _, rfl, w11, g7, ?_⟩
      refine (post_bind hm).mono (fun y12 hm v12 vs12 F12 H12 w12 s12 r12 h12 => ?_) (fun _ z => z)
      replace h1 := A2.mono s12 h1
      replace q1 := s12.seq q1
      replace g2 := A2.mono s12 g2
      replace q4 := s12 _ _ q4
      replace h9 := A2.mono s12 h9
      replace sF := sF.trans s12
      obtain rfl : v12 = V.int y12.1 := r12
      obtain ⟨t13, e13, hm⟩ := pb_get hm
      obtain ⟨u13, f13, r13⟩ := A2.at h9 e13
      obtain rfl : u13 = V.int t13 := r13
      refine ⟨_, _, rfl, rfl, _, rfl, _, _, _, _, rfl, rfl, SqL.of (w12.get (pre := [_])), f13, _, _, _, _, _, _, rfl, w12, h12, ?_⟩
      refine (post_bind hm).mono (fun y14 hm v14 vs14 F14 H14 w14 s14 r14 h14 => ?_) (fun _ z => z)
      replace h1 := A2.mono s14 h1
      replace q1 := s14.seq q1
      replace g2 := A2.mono s14 g2
      replace q4 := s14 _ _ q4
      replace h9 := A2.mono s14 h9
      replace sF := sF.trans s14
      obtain ⟨a15, u15, z15, rfl, q15, r15a, r15b⟩ := r14
      obtain rfl : u15 = V.int y14.1.1 := r15a
      obtain ⟨a16, vs16, rfl, q16, h16⟩ := r15b
      have w17 : W F14 _ ((p7, .lst vs14) :: os) := w14.drop (pre := [_])
      have h19 : A2 (rep K F14) [(.str "places"), (.str "ties"), (.str "all")] ([("places" : Str), ("ties" : Str), ("all" : Str)] : (List Str)) := .cons rep_s (.cons rep_s (.cons rep_s (.nil)))
      refine ⟨(by show 3 ≤ sizeLine; decide), fun p20 n20 => ?_⟩
      have w20 : W F14 _ ((p20, .lst [(.str "places"), (.str "ties"), (.str "all")]) :: (p7, .lst vs14) :: os) := w17.new n20
      obtain ⟨F21, s21, w21, q21⟩ : ∃ F', Same F14 F' ∧ W F' _ ((p7, .lst vs14) :: os) ∧ F' p20 = some (.lst [(.str "places"), (.str "ties"), (.str "all")]) := w20.freezeE (pre := [])
      replace h1 := A2.mono s21 h1
      replace q1 := s21.seq q1
      replace g2 := A2.mono s21 g2
      replace q4 := s21 _ _ q4
      replace q15 := s21 _ _ q15
      replace h16 := A2.mono s21 h16
      replace q16 := s21 _ _ q16
      replace h14 := A2.mono s21 h14
      replace h19 := A2.mono s21 h19
      replace sF := sF.trans s21
      refine ⟨_, rfl, ⟨_, SqL.of (w21.same _ _ q21)⟩, ?_⟩
      refine forX (tw_list (a := p20) h19) hm (fun (g18 : (List Int)) σ H' => ∃ (F' : Hp) (vs18_0 : List V) (o18_5 : Option V), σ = [some (.ref a1), some (.ref p2), some (.int b5), some (.ref p7), some (.ref a15), o18_5] ∧ Same F21 F' ∧ W F' H' ((p7, .lst vs18_0) :: os) ∧ A2 (rep K F') vs18_0 g18) ⟨_, _, _, rfl, Same.refl _, w21, h14⟩ (fun g σ H' hI => by obtain ⟨F', _, _, _, s, w, _⟩ := hI; exact SqL.of (w.same _ _ (s _ _ q21))) ?_ ?_
      · -- a turn
        intro b18 g18 x18 σ18 H18 H18' N18 B18 P18 hI hy hN18 hB18 hZ18 hm
        obtain ⟨F18, vs18_0, o18_5, rfl, s18, w18, h18_0⟩ := hI
        replace h1 := A2.mono s18 h1
        replace q1 := s18.seq q1
        replace g2 := A2.mono s18 g2
        replace q4 := s18 _ _ q4
        replace q15 := s18 _ _ q15
        replace h16 := A2.mono s18 h16
        replace q16 := s18 _ _ q16
        replace h19 := A2.mono s18 h19
        replace q21 := s18 _ _ q21
        replace sF := sF.trans s18
        obtain ⟨rfl, r22⟩ := hy
        obtain rfl : x18 = V.str b18 := r22
        refine ⟨_, rfl, _, rfl, _, rfl, _, _, _, _, _, _, (y14.1 : (Int × (Tup (Int × Int)))), _, rfl, w18, h18_0, (rep_pair q15 rep_i (rep_tup q16 h16)), ?_⟩
        refine (post_bind hm).mono (fun y23 hm v23 vs23 F23 H23 w23 s23 r23 h23 => ?_) (fun _ z => z)
        replace h1 := A2.mono s23 h1
        replace q1 := s23.seq q1
        replace g2 := A2.mono s23 g2
        replace q4 := s23 _ _ q4
        replace q15 := s23 _ _ q15
        replace h16 := A2.mono s23 h16
        replace q16 := s23 _ _ q16
        replace sF := sF.trans s23
        obtain rfl : v23 = V.bl y23.1 := r23
        refine ⟨_, rfl, ?_⟩
        refine post_ite hm (fun k24 hm => ?_) (fun k24 hm => ?_)
        · skip
          have hm := hZ18 _ (post_ok hm)
          have hm := hZ5 _ (post_ok hm)
          have w25 : W F23 _ (os) := w23.drop (pre := [])
          exact (post_ok hm) _ _ _ w25 sF rep_b
        · skip
          exact hN18 _ (post_ok hm) _ _ ⟨_, _, _, rfl, (s18.trans s23), w23, h23⟩
      intro g18 σ18 H18 hI hm
      obtain ⟨F18, vs18_0, o18_5, rfl, s18, w18, h18_0⟩ := hI
      replace h1 := A2.mono s18 h1
      replace q1 := s18.seq q1
      replace g2 := A2.mono s18 g2
      replace q4 := s18 _ _ q4
      replace q15 := s18 _ _ q15
      replace h16 := A2.mono s18 h16
      replace q16 := s18 _ _ q16
      replace h19 := A2.mono s18 h19
      replace q21 := s18 _ _ q21
      replace sF := sF.trans s18
      have w26 : W F18 _ (os) := w18.drop (pre := [])
      exact hN5 _ (post_ok hm) _ _ ⟨_, _, _, _, _, rfl, (s5.trans (s7.trans (s12.trans (s14.trans (s21.trans s18))))), w26⟩
    intro g5 σ5 H5 hI hm
    obtain ⟨F5, o5_3, o5_4, o5_5, o5_2, rfl, s5, w5⟩ := hI
    replace h1 := A2.mono s5 h1
    replace q1 := s5.seq q1
    replace g2 := A2.mono s5 g2
    replace q4 := s5 _ _ q4
    replace sF := sF.trans s5
    exact (post_ok hm) _ _ _ w5 sF rep_b
end
end G
/-! MA2: webs drawn from a pool -/
namespace G
open PySem L2 Z
structure TiesOk (b : Nat) (n : Int) (ts : List (Int × Int)) : Prop where
  rg : ∀ p ∈ ts, 0 ≤ p.1 ∧ p.1 < p.2 ∧ p.2 < n
  nd : ts.Nodup
  conn : Conn n ts
  len : ts.length ≤ b
theorem TiesOk.up {b c : Nat} {n : Int} {ts : List (Int × Int)} (h : TiesOk b n ts) (hl : b ≤ c) : TiesOk c n ts := ⟨h.rg, h.nd, h.conn, Nat.le_trans h.len hl⟩
structure WebOk (n : Int) (ts : List (Int × Int)) : Prop where
  n1 : 1 ≤ n
  n60 : n ≤ 60
  rg : ∀ p ∈ ts, 0 ≤ p.1 ∧ p.1 < p.2 ∧ p.2 < n
  nd : ts.Nodup
  conn : Conn n ts
  len : ts.length ≤ 700
  srt : sortP ts = ts
theorem WebOk.rg4 {n : Int} {ts : List (Int × Int)} (h : WebOk n ts) : ∀ q ∈ ts, 0 ≤ q.1 ∧ q.1 < n ∧ 0 ≤ q.2 ∧ q.2 < n := fun q hq => by
  have := h.rg q hq
  omega
def moved (o : List Int) (p : Int × Int) : Int × Int := (min2 (o.getD p.1.toNat 0) (o.getD p.2.toNat 0), max2 (o.getD p.1.toNat 0) (o.getD p.2.toNat 0))
theorem perm_get {o : List Int} {n : Int} (h : o.Perm (rng 0 n)) (n0 : 0 ≤ n) {k : Int} (k0 : 0 ≤ k) (k1 : k < n) : ∃ x, o[k.toNat]? = some x ∧ 0 ≤ x ∧ x < n := by
  have hl := h.length_eq
  rw [rng_length] at hl
  have hk : k.toNat < o.length := by omega
  refine ⟨o[k.toNat], List.getElem?_eq_getElem hk, ?_⟩
  exact rng_mem.mp (h.mem_iff.mp (List.getElem_mem hk))
theorem perm_getD {o : List Int} {n : Int} (h : o.Perm (rng 0 n)) (n0 : 0 ≤ n) {k : Int} (k0 : 0 ≤ k) (k1 : k < n) : 0 ≤ o.getD k.toNat 0 ∧ o.getD k.toNat 0 < n := by
  obtain ⟨x, e, x0, x1⟩ := perm_get h n0 k0 k1
  rw [List.getD_eq_getElem?_getD, e]
  exact ⟨x0, x1⟩
theorem perm_inj {o : List Int} {n : Int} (h : o.Perm (rng 0 n)) (n0 : 0 ≤ n) {j k : Int} (j0 : 0 ≤ j) (j1 : j < n) (k0 : 0 ≤ k) (k1 : k < n) (e : o.getD j.toNat 0 = o.getD k.toNat 0) : j = k := by
  have hl := h.length_eq
  rw [rng_length] at hl
  have hnd : o.Nodup := (h.nodup_iff).mpr (rng_nodup 0 n)
  have hj : j.toNat < o.length := by omega
  have hk : k.toNat < o.length := by omega
  rw [List.getD_eq_getElem?_getD, List.getD_eq_getElem?_getD, List.getElem?_eq_getElem hj, List.getElem?_eq_getElem hk] at e
  have e' : o[j.toNat] = o[k.toNat] := e
  have hpw := List.pairwise_iff_getElem.mp hnd
  rcases Nat.lt_trichotomy j.toNat k.toNat with q | q | q
  · exact absurd e' (hpw _ _ hj hk q)
  · omega
  · exact absurd e'.symm (hpw _ _ hk hj q)
theorem perm_surj {o : List Int} {n : Int} (h : o.Perm (rng 0 n)) (n0 : 0 ≤ n) {x : Int} (x0 : 0 ≤ x) (x1 : x < n) : ∃ k, 0 ≤ k ∧ k < n ∧ o.getD k.toNat 0 = x := by
  have hx : x ∈ o := h.mem_iff.mpr (rng_mem.mpr ⟨x0, x1⟩)
  obtain ⟨i, hi⟩ := List.mem_iff_getElem?.mp hx
  have hl := h.length_eq
  rw [rng_length] at hl
  have hil := (List.getElem?_eq_some_iff.mp hi).1
  refine ⟨i, by omega, by omega, ?_⟩
  rw [List.getD_eq_getElem?_getD, Int.toNat_natCast, hi]
  rfl
theorem mm_cases (a b : Int) : (min2 a b = a ∧ max2 a b = b ∧ a ≤ b) ∨ (min2 a b = b ∧ max2 a b = a ∧ b ≤ a) := by
  unfold min2 max2
  by_cases h : b < a
  · rw [if_pos h, if_neg (by omega)]
    exact .inr ⟨rfl, rfl, by omega⟩
  · rw [if_neg h]
    by_cases h2 : b > a
    · rw [if_pos h2]
      exact .inl ⟨rfl, rfl, by omega⟩
    · rw [if_neg h2]
      have : a = b := by omega
      subst this
      exact .inl ⟨rfl, rfl, by omega⟩
theorem moved_inj {o : List Int} {n : Int} (h : o.Perm (rng 0 n)) (n0 : 0 ≤ n) {p q : Int × Int} (hp : 0 ≤ p.1 ∧ p.1 < p.2 ∧ p.2 < n) (hq : 0 ≤ q.1 ∧ q.1 < q.2 ∧ q.2 < n) (e : moved o p = moved o q) : p = q := by
  unfold moved at e
  injection e with e1 e2
  have i1 := fun e => perm_inj h n0 (j := p.1) (k := q.1) hp.1 (by omega) hq.1 (by omega) e
  have i2 := fun e => perm_inj h n0 (j := p.2) (k := q.2) (by omega) hp.2.2 (by omega) hq.2.2 e
  have i3 := fun e => perm_inj h n0 (j := p.1) (k := q.2) hp.1 (by omega) (by omega) hq.2.2 e
  have i4 := fun e => perm_inj h n0 (j := p.2) (k := q.1) (by omega) hp.2.2 hq.1 (by omega) e
  rcases mm_cases (o.getD p.1.toNat 0) (o.getD p.2.toNat 0) with ⟨a1, a2, _⟩ | ⟨a1, a2, _⟩ <;> rcases mm_cases (o.getD q.1.toNat 0) (o.getD q.2.toNat 0) with ⟨b1, b2, _⟩ | ⟨b1, b2, _⟩ <;> rw [a1, b1] at e1 <;> rw [a2, b2] at e2
  · exact Prod.ext (i1 e1) (i2 e2)
  · have := i3 e1
    have := i4 e2
    omega
  · have := i4 e1
    have := i3 e2
    omega
  · exact Prod.ext (i1 e2) (i2 e1)
theorem moved_ok {o : List Int} {n : Int} {ts : List (Int × Int)} (ho : o.Perm (rng 0 n)) (n0 : 1 ≤ n) (n1 : n ≤ 60) (h : TiesOk 700 n ts) : WebOk n (sortP (ts.map (moved o))) := by
  have hperm := sortP_perm (ts.map (moved o))
  refine ⟨n0, n1, fun p hp => ?_, ?_, ?_, ?_, ?_⟩
  · obtain ⟨q, hq, rfl⟩ := List.mem_map.mp (hperm.mem_iff.mp hp)
    have hr := h.rg q hq
    have r1 := perm_getD ho (by omega) (k := q.1) hr.1 (by omega)
    have r2 := perm_getD ho (by omega) (k := q.2) (by omega) hr.2.2
    have ne : o.getD q.1.toNat 0 ≠ o.getD q.2.toNat 0 := fun e => by
      have := perm_inj ho (by omega) hr.1 (by omega) (by omega) hr.2.2 e
      omega
    unfold moved
    dsimp only
    rcases mm_cases (o.getD q.1.toNat 0) (o.getD q.2.toNat 0) with ⟨a1, a2, _⟩ | ⟨a1, a2, _⟩ <;> rw [a1, a2] <;> omega
  · refine hperm.nodup_iff.mpr ?_
    refine List.Pairwise.map (R := fun p q => p ≠ q ∧ p ∈ ts ∧ q ∈ ts) _ (fun p q hpq e => hpq.1 (moved_inj ho (by omega) (h.rg p hpq.2.1) (h.rg q hpq.2.2) e)) ?_
    exact h.nd.imp_of_mem fun hp hq hne => ⟨hne, hp, hq⟩
  · intro S h0 hc
    obtain ⟨r, r0, r1, er⟩ := perm_surj ho (by omega) (x := 0) (by omega) (by omega)
    have key := h.conn.any (S := fun k => S (o.getD k.toNat 0)) r0 r1 (by show S (o.getD r.toNat 0); rw [er]; exact h0) fun p hp => by
      have hm : moved o p ∈ sortP (ts.map (moved o)) := hperm.mem_iff.mpr (List.mem_map.mpr ⟨p, hp, rfl⟩)
      have := hc _ hm
      unfold moved at this
      dsimp only at this
      rcases mm_cases (o.getD p.1.toNat 0) (o.getD p.2.toNat 0) with ⟨a1, a2, _⟩ | ⟨a1, a2, _⟩
      · rw [a1, a2] at this
        exact this
      · rw [a1, a2] at this
        exact this.symm
    intro k k0 k1
    obtain ⟨j, j0, j1, ej⟩ := perm_surj ho (by omega) k0 k1
    rw [← ej]
    exact key j j0 j1
  · rw [hperm.length_eq, List.length_map]
    exact h.len
  · exact (sortP_eq (List.Perm.refl _) (sortP_sorted _)).symm
/-! ### the pool -/
def PoolOk (s : List Int) : Prop := ∃ a b : Int, s = [a, b] ∧ 0 ≤ a ∧ 0 ≤ b ∧ b < 2147483647
theorem take_ok {s : List Int} {m : Int} (h : PoolOk s) (h0 : 0 < m) (h1 : m < 1073741824) : Post (law_take s m) (fun r => 0 ≤ r.1 ∧ r.1 < m ∧ PoolOk r.2) noX := by
  obtain ⟨a, b, rfl, a0, b0, b1⟩ := h
  unfold law_take
  refine po_getE (x := a) rfl (po_if (fun c => ?_) fun c => ?_)
  · refine po_getE (x := a) rfl (po_mod h0 fun r0 r1 => po_getE (x := a) rfl (po_div h0 h1 (po_set (Int.le_refl _) (by show (0 : Int) < 2; decide) ?_)))
    exact ⟨r0, r1, a / m, b, rfl, Int.ediv_nonneg a0 (by omega), b0, b1⟩
  · have c0 : 0 ≤ (b * 48271 + 12820163) % 2147483647 := Int.emod_nonneg _ (by decide)
    have c1 : (b * 48271 + 12820163) % 2147483647 < 2147483647 := Int.emod_lt_of_pos _ (by decide)
    refine po_getE (x := b) rfl (po_set (by decide) (by show (1 : Int) < 2; decide) ?_)
    show Post (getI [a, (b * 48271 + 12820163) % 2147483647] 1 >>= _) _ _
    generalize (b * 48271 + 12820163) % 2147483647 = d at c0 c1
    refine po_getE (x := d) rfl (po_getE (x := d) rfl (po_mul (.inl ⟨by omega, by omega⟩) (po_mod h0 fun r0 r1 => ?_)))
    exact ⟨r0, r1, a, d, rfl, a0, c0, c1⟩
theorem pool_ok {cs : List Int} {k : Int} (k0 : 0 ≤ k) (k1 : k < 1000) (hl : cs.length < 1000) : Post (law_pool cs k) PoolOk noX := by
  unfold law_pool
  refine po_bind (Q := fun _ => True) (po_if (fun c => ?_) fun _ => trivial) fun g2 _ => ?_
  · have c' := of_decide_eq_true c
    exact po_mod c' fun r0 r1 => po_get r0 r1 fun t _ _ => po_div c' (by omega) trivial
  · refine po_bind (Q := fun g : Int => 0 ≤ g) (po_bind (Q := fun _ => True) (po_if (fun _ => trivial) fun _ => trivial) fun j _ => po_if (fun _ => ?_) fun _ => Int.le_refl _) fun g7 h7 => ?_
    · show 0 ≤ absI g2
      unfold absI
      split <;> omega
    · refine po_mul (.inr ⟨by omega, by omega⟩) ?_
      exact ⟨_, _, rfl, h7, Int.emod_nonneg _ (by decide), Int.lt_trans (Int.emod_lt_of_pos _ (by decide)) (by decide)⟩
theorem cells_ok {sc : Scr} {m : Nat} (h : sc.l.length ≤ 63) (m0 : 0 < m) (m1 : m < 60) : Post (law_cells sc m) (fun l => l.length ≤ m) noX := by
  unfold law_cells
  rw [cut_take, show (some (63 : Int)) = some ((63 : Nat) : Int) from rfl, cut_mid]
  refine po_bind (Q := fun l => l.length ≤ m) ?_ fun _ h => h
  refine Post.mono (po_fold (fun g => g.length = (sc.l.take m).length) rfl fun g x hg hx => ?_) (fun g hg => by rw [hg, List.length_take]; omega) fun _ z => z
  have hlen : (sc.l.take m).length = m := by
    obtain ⟨i, hi⟩ := List.mem_iff_getElem?.mp hx
    have := (List.getElem?_eq_some_iff.mp hi).1
    rw [enum_length, List.length_take, List.length_drop] at this
    rw [List.length_take]
    omega
  have hm : (0 : Int) < (m : Int) := by omega
  refine po_mod hm fun r0 r1 => po_get r0 (by omega) fun _ _ _ => po_mod hm fun s0 s1 => po_set s0 (by omega) ?_
  show (List.set _ _ _).length = _
  rw [List.length_set]
  exact hg
theorem some_ok {s menu : List Int} {m : Int} (h : PoolOk s) (m0 : 0 ≤ m) (m1 : m ≤ menu.length) (m2 : menu.length < 10000) : Post (law_some s menu m) (fun r => (∃ left, (r.1 ++ left).Perm menu) ∧ (r.1.length : Int) = m ∧ PoolOk r.2) noX := by
  unfold law_some
  have hl : (rng 0 m).length = m.toNat := by rw [rng_length]; omega
  refine po_rng (by decide) (by decide) (by omega) (by omega) ?_
  refine po_bind (po_mapStA (fun pre acc g => (acc ++ g.1).Perm menu ∧ pre.length = acc.length ∧ PoolOk g.2) (by omega) ⟨List.Perm.refl _, rfl, h⟩ ?_) ?_
  · rintro pre acc ⟨left, pot⟩ x post e ⟨h1, h2, h3⟩
    have h1' : (acc ++ left).Perm menu := h1
    have hlen := h1'.length_eq
    rw [List.length_append] at hlen
    have hxl : pre.length + (post.length + 1) = m.toNat := by
      have := congrArg List.length e
      rw [hl] at this
      simp at this
      omega
    have h2' : pre.length = acc.length := h2
    refine po_bind (take_ok h3 (by show (0 : Int) < left.length; omega) (by show (left.length : Int) < _; omega)) fun y ⟨y0, y1, hy⟩ => ?_
    have y1' : y.1 < (left.length : Int) := y1
    refine po_popB y0 y1' (by omega) fun z hz => ?_
    refine ⟨?_, by show (pre ++ [x]).length = (acc ++ [z]).length; rw [List.length_append, List.length_append, h2']; rfl, hy⟩
    show ((acc ++ [z]) ++ left.eraseIdx y.1.toNat).Perm _
    refine List.Perm.trans ?_ h1'
    rw [List.append_assoc]
    refine List.Perm.append_left _ ?_
    have hj := (List.getElem?_eq_some_iff.mp hz)
    obtain ⟨hj1, hj2⟩ := hj
    have : left.Perm (z :: left.eraseIdx y.1.toNat) := by
      have e1 : left = left.take y.1.toNat ++ z :: left.drop (y.1.toNat + 1) := by
        rw [← hj2, ← List.drop_eq_getElem_cons hj1, List.take_append_drop]
      have e2 : left.eraseIdx y.1.toNat = left.take y.1.toNat ++ left.drop (y.1.toNat + 1) := List.eraseIdx_eq_take_drop_succ _ _
      rw [e2]
      conv => lhs; rw [e1]
      exact List.perm_middle
    exact this.symm
  · rintro ⟨acc, left, pot⟩ ⟨h1, h2, h3⟩
    have h2' : (rng 0 m).length = acc.length := h2
    exact ⟨⟨left, h1⟩, by show (acc.length : Int) = m; omega, h3⟩
/-- places called by drawn numbers -/
theorem named_ok {s : List Int} {n : Int} {ts : List (Int × Int)} (h : PoolOk s) (n0 : 1 ≤ n) (n1 : n ≤ 60) (ht : TiesOk 700 n ts) : Post (law_named s n ts) (fun r => r.1.1 = n ∧ WebOk r.1.1 r.1.2.l ∧ PoolOk r.2) noX := by
  unfold law_named
  have hln : (rng 0 n).length = n.toNat := by rw [rng_length]; omega
  refine po_listRng (by decide) (by decide) (by omega) (by omega) (by omega) ?_
  refine po_bind (some_ok h (by omega) (by omega) (by omega)) fun y6 ⟨⟨left, hp⟩, hl, h6⟩ => ?_
  have ho : y6.1.Perm (rng 0 n) := by
    have := hp.length_eq
    rw [List.length_append, hln] at this
    have e : left = [] := List.eq_nil_of_length_eq_zero (by omega)
    rw [e, List.append_nil] at hp
    exact hp
  have hlt := ht.len
  refine po_mapGE (g := moved y6.1) (by omega) (fun x hx => ?_) ?_
  · have hr := ht.rg x hx
    obtain ⟨u, eu, _⟩ := perm_get ho (by omega) (k := x.1) hr.1 (by omega)
    obtain ⟨v, ev, _⟩ := perm_get ho (by omega) (k := x.2) (by omega) hr.2.2
    rw [getI_eq hr.1 eu, ok_bind, getI_eq (by omega) ev, ok_bind, ok_bind, ok_bind]
    unfold moved
    rw [List.getD_eq_getElem?_getD, List.getD_eq_getElem?_getD, eu, ev]
    rfl
  · exact ⟨rfl, moved_ok ho n0 n1 ht, h6⟩
/-! ### ties in a dict -/
/-- ties below k, each place from 1 on tied to a lesser one -/
structure DOk (k : Int) (g : List ((Int × Int) × Bool)) : Prop where
  rg : ∀ p ∈ mkeys g, 0 ≤ p.1 ∧ p.1 < p.2 ∧ p.2 < k
  nd : (mkeys g).Nodup
  dn : ∀ j, 1 ≤ j → j < k → ∃ i, 0 ≤ i ∧ i < j ∧ (i, j) ∈ mkeys g
theorem keys_put {g : List ((Int × Int) × Bool)} {p q : Int × Int} : q ∈ mkeys (mput g p true) ↔ q ∈ mkeys g ∨ q = p := by
  rw [mkeys_mput]
  split
  · rename_i h
    exact ⟨.inl, fun z => z.elim id fun e => e ▸ h⟩
  · rw [List.mem_append, List.mem_singleton]
theorem keys_put_nd {g : List ((Int × Int) × Bool)} {p : Int × Int} (h : (mkeys g).Nodup) : (mkeys (mput g p true)).Nodup := by
  rw [mkeys_mput]
  split
  · exact h
  · rename_i q
    rw [List.nodup_append]
    refine ⟨h, by simp, fun a ha b hb e => ?_⟩
    simp at hb
    subst hb
    exact q (e ▸ ha)
theorem keys_len {g : List ((Int × Int) × Bool)} : (mkeys g).length = g.length := by unfold mkeys; rw [List.length_map]
theorem put_len {g : List ((Int × Int) × Bool)} {p : Int × Int} : (mput g p true).length ≤ g.length + 1 := by
  rw [← keys_len, ← keys_len, mkeys_mput]
  split
  · omega
  · rw [List.length_append, List.length_singleton]
    exact Nat.le_refl _
/-- pairs of few places are few -/
theorem few_pairs {ps : List (Int × Int)} {n : Int} (hn : n ≤ 24) (hd : ps.Nodup) (hr : ∀ p ∈ ps, 0 ≤ p.1 ∧ p.1 < p.2 ∧ p.2 < n) : ps.length ≤ 576 := by
  have h1 : (ps.map fun p => p.1 * 24 + p.2).Nodup := by
    refine List.Pairwise.map (R := fun p q => p ≠ q ∧ p ∈ ps ∧ q ∈ ps) _ (fun p q hpq e => ?_) (hd.imp_of_mem fun hp hq hne => ⟨hne, hp, hq⟩)
    have a := hr p hpq.2.1
    have b := hr q hpq.2.2
    have e' : p.1 * 24 + p.2 = q.1 * 24 + q.2 := e
    exact hpq.1 (Prod.ext (by omega) (by omega))
  have h2 := nodup_le h1 (ys := rng 0 576) fun x hx => by
    obtain ⟨p, hp, rfl⟩ := List.mem_map.mp hx
    have a := hr p hp
    exact rng_mem.mpr ⟨by omega, by omega⟩
  rw [List.length_map, rng_length] at h2
  omega
theorem DOk.put {k : Int} {g : List ((Int × Int) × Bool)} {p : Int × Int} (h : DOk k g) (hp : 0 ≤ p.1 ∧ p.1 < p.2 ∧ p.2 < k) : DOk k (mput g p true) :=
  ⟨fun q hq => (keys_put.mp hq).elim (h.rg q) fun e => e ▸ hp, keys_put_nd h.nd, fun j j1 jk => by
    obtain ⟨i, i0, ij, hi⟩ := h.dn j j1 jk
    exact ⟨i, i0, ij, keys_put.mpr (.inl hi)⟩⟩
theorem DOk.ties {n : Int} {g : List ((Int × Int) × Bool)} (h : DOk n g) (hl : g.length ≤ 700) : TiesOk 700 n (mkeys g) :=
  ⟨h.rg, h.nd, conn_tree fun k k1 kn => by
    obtain ⟨i, i0, ik, hi⟩ := h.dn k k1 kn
    exact ⟨i, i0, ik, .inl hi⟩, by rw [keys_len]; exact hl⟩
/-- ties below k, and some of k -/
structure EOk (k : Int) (g : List ((Int × Int) × Bool)) : Prop where
  rg : ∀ p ∈ mkeys g, 0 ≤ p.1 ∧ p.1 < p.2 ∧ p.2 ≤ k
  nd : (mkeys g).Nodup
  dn : ∀ j, 1 ≤ j → j < k → ∃ i, 0 ≤ i ∧ i < j ∧ (i, j) ∈ mkeys g
theorem EOk.put {k i : Int} {g : List ((Int × Int) × Bool)} (h : EOk k g) (i0 : 0 ≤ i) (ik : i < k) : EOk k (mput g (i, k) true) :=
  ⟨fun q hq => (keys_put.mp hq).elim (h.rg q) fun e => by rw [e]; exact ⟨i0, ik, Int.le_refl _⟩, keys_put_nd h.nd, fun j j1 jk => by
    obtain ⟨x, x0, xj, hx⟩ := h.dn j j1 jk
    exact ⟨x, x0, xj, keys_put.mpr (.inl hx)⟩⟩
theorem DOk.e {k : Int} {g : List ((Int × Int) × Bool)} (h : DOk k g) : EOk k g := ⟨fun p hp => by have := h.rg p hp; omega, h.nd, h.dn⟩
theorem EOk.d {k : Int} {g : List ((Int × Int) × Bool)} (h : EOk k g) (hk : 1 ≤ k → ∃ i, 0 ≤ i ∧ i < k ∧ (i, k) ∈ mkeys g) : DOk (k + 1) g :=
  ⟨fun p hp => by have := h.rg p hp; omega, h.nd, fun j j1 jk => by
    by_cases e : j = k
    · rw [e] at j1 ⊢
      exact hk j1
    · exact h.dn j j1 (by omega)⟩
/-- a tree: a web of one tie less than places -/
structure TreeOk (n : Int) (ts : List (Int × Int)) : Prop where
  web : WebOk n ts
  len : (ts.length : Int) = n - 1
theorem sortP_len (ts : List (Int × Int)) : (sortP ts).length = ts.length := (sortP_perm ts).length_eq
theorem named_tree {s : List Int} {n : Int} {ts : List (Int × Int)} (h : PoolOk s) (n0 : 1 ≤ n) (n1 : n ≤ 60) (ht : TiesOk 700 n ts) (hlen : (ts.length : Int) = n - 1) : Post (law_named s n ts) (fun r => r.1.1 = n ∧ TreeOk r.1.1 r.1.2.l ∧ PoolOk r.2) noX := by
  unfold law_named
  have hln : (rng 0 n).length = n.toNat := by rw [rng_length]; omega
  refine po_listRng (by decide) (by decide) (by omega) (by omega) (by omega) ?_
  refine po_bind (some_ok h (by omega) (by omega) (by omega)) fun y6 ⟨⟨left, hp⟩, hl, h6⟩ => ?_
  have ho : y6.1.Perm (rng 0 n) := by
    have := hp.length_eq
    rw [List.length_append, hln] at this
    have e : left = [] := List.eq_nil_of_length_eq_zero (by omega)
    rw [e, List.append_nil] at hp
    exact hp
  have hlt := ht.len
  refine po_mapGE (g := moved y6.1) (by omega) (fun x hx => ?_) ?_
  · have hr := ht.rg x hx
    obtain ⟨u, eu, _⟩ := perm_get ho (by omega) (k := x.1) hr.1 (by omega)
    obtain ⟨v, ev, _⟩ := perm_get ho (by omega) (k := x.2) (by omega) hr.2.2
    rw [getI_eq hr.1 eu, ok_bind, getI_eq (by omega) ev, ok_bind, ok_bind, ok_bind]
    unfold moved
    rw [List.getD_eq_getElem?_getD, List.getD_eq_getElem?_getD, eu, ev]
    rfl
  · refine ⟨rfl, ⟨moved_ok ho n0 n1 ht, ?_⟩, h6⟩
    show ((sortP (ts.map (moved y6.1))).length : Int) = n - 1
    rw [sortP_len, List.length_map]
    exact hlen
theorem tree_ok {s : List Int} {m : Int} (h : PoolOk s) (m0 : 1 ≤ m) (m1 : m ≤ 60) : Post (law_tree s m) (fun r => TreeOk r.1.1 r.1.2.l ∧ r.1.1 ≤ m ∧ PoolOk r.2) noX := by
  unfold law_tree
  refine po_bind (take_ok h (by omega) (by omega)) fun y2 ⟨a0, a1, h2⟩ => ?_
  refine po_bind (take_ok h2 (by decide) (by decide)) fun y3 ⟨b0, b1, h3⟩ => ?_
  generalize hn : (1 : Int) + y2.1 = n
  refine po_rng (by decide) (by decide) (by omega) (by omega) ?_
  refine po_bind (po_foldP (fun pre (g : List (Int × Int) × List Int) => (∀ p ∈ g.1, 0 ≤ p.1 ∧ p.1 < p.2) ∧ g.1.map (·.2) = pre ∧ PoolOk g.2) ⟨fun _ h => (nomatch h), rfl, h3⟩ fun pre g k post e ⟨q1, q2, q3⟩ => ?_) fun g6 ⟨q1, q2, q3⟩ => ?_
  · obtain ⟨e1, k1, kn⟩ := rng_split e
    have hgl : g.1.length = pre.length := by rw [← q2, List.length_map]
    have hpl : pre.length < 100 := by
      have := congrArg List.length e
      rw [rng_length] at this
      simp at this
      omega
    refine po_bind (take_ok q3 (by omega) (by omega)) fun y9 ⟨c0, c1, h9⟩ => ?_
    refine po_bind (take_ok h9 (by decide) (by decide)) fun y10 ⟨d0, d1, h10⟩ => ?_
    have hmm : 0 < min2 k 3 ∧ min2 k 3 ≤ 3 ∧ min2 k 3 ≤ k := by
      rcases mm_cases k 3 with ⟨w1, _⟩ | ⟨w1, _⟩ <;> rw [w1] <;> omega
    refine po_bind (take_ok h10 hmm.1 (by omega)) fun y11 ⟨f0, f1, h11⟩ => ?_
    refine po_extend (by show 5 + 1 < 100000; omega) (po_get b0 (by show y3.1 < ((5 + 1 : Nat) : Int); omega) fun t20 ht _ => ?_)
    have ht' : 0 ≤ t20 ∧ t20 < k := by
      have hmx : 0 ≤ max2 0 (k - 1 - y10.1) ∧ max2 0 (k - 1 - y10.1) < k := by
        rcases mm_cases 0 (k - 1 - y10.1) with ⟨_, w2, _⟩ | ⟨_, w2, _⟩ <;> rw [w2] <;> omega
      have hdv : 0 ≤ (k - 1) / 2 ∧ (k - 1) / 2 < k := by omega
      have ht2 : t20 ∈ ([k - 1, 0, y9.1, max2 0 (k - 1 - y10.1), y11.1, (k - 1) / 2] : List Int) := ht
      simp only [List.mem_cons, List.not_mem_nil, or_false] at ht2
      omega
    refine po_app (by omega) ⟨fun p hp => ?_, ?_, h11⟩
    · rcases List.mem_append.mp hp with hp | hp
      · exact q1 p hp
      · rw [List.mem_singleton.mp hp]
        exact ht'
    · show (g.1 ++ [(t20, k)]).map (·.2) = pre ++ [k]
      rw [List.map_append, q2]
      rfl
  · have hlen : g6.1.length = (n - 1).toNat := by
      have := congrArg List.length q2
      rw [List.length_map, rng_length] at this
      exact this
    have hk : ∀ p ∈ g6.1, 1 ≤ p.2 ∧ p.2 < n := fun p hp => rng_mem.mp (q2 ▸ List.mem_map_of_mem (f := fun p : Int × Int => p.2) hp)
    have hT : TiesOk 700 n g6.1 := by
      refine ⟨fun p hp => ⟨(q1 p hp).1, (q1 p hp).2, (hk p hp).2⟩, ?_, conn_tree fun k k1 kn => ?_, by omega⟩
      · have : (g6.1.map (·.2)).Nodup := by rw [q2]; exact rng_nodup 1 n
        exact (List.pairwise_map.mp this).imp fun h e => h (by rw [e])
      · have : k ∈ g6.1.map (·.2) := by rw [q2]; exact rng_mem.mpr ⟨k1, kn⟩
        obtain ⟨p, hp, e⟩ := List.mem_map.mp this
        have := q1 p hp
        exact ⟨p.1, this.1, by rw [← e]; exact this.2, .inl (by rw [← e]; exact hp)⟩
    refine po_bind (named_tree q3 (by omega) (by omega) hT (by omega)) fun y28 ⟨e1, u1, u2⟩ => ?_
    exact ⟨u1, by show y28.1.1 ≤ m; omega, u2⟩
end G
/-! MB: neighbours and fars, as the program reckons them -/
namespace G
open PySem L2 Z
/-- the places tied to one, in the ties' order -/
def nbs (ts : List (Int × Int)) (i : Int) : List Int := ts.flatMap fun p => (if p.1 = i then [p.2] else []) ++ (if p.2 = i then [p.1] else [])
theorem nbs_snoc (ts : List (Int × Int)) (x : Int × Int) (i : Int) : nbs (ts ++ [x]) i = nbs ts i ++ ((if x.1 = i then [x.2] else []) ++ (if x.2 = i then [x.1] else [])) := by
  unfold nbs
  rw [List.flatMap_append]
  simp
theorem nbs_mem {ts : List (Int × Int)} {i j : Int} : j ∈ nbs ts i ↔ Adj ts i j := by
  unfold nbs Adj
  rw [List.mem_flatMap]
  constructor
  · rintro ⟨p, hp, h⟩
    rcases List.mem_append.mp h with h | h
    · split at h
      · rename_i e
        rw [List.mem_singleton] at h
        rw [← e, h]
        exact .inl hp
      · cases h
    · split at h
      · rename_i e
        rw [List.mem_singleton] at h
        rw [← e, h]
        exact .inr hp
      · cases h
  · rintro (h | h)
    · exact ⟨_, h, List.mem_append_left _ (by simp)⟩
    · exact ⟨_, h, List.mem_append_right _ (by simp)⟩
theorem nbs_len (ts : List (Int × Int)) (i : Int) : (nbs ts i).length ≤ 2 * ts.length := by
  induction ts with
  | nil => exact Nat.le_refl _
  | cons p ts ih =>
    have e : nbs (p :: ts) i = ((if p.1 = i then [p.2] else []) ++ (if p.2 = i then [p.1] else [])) ++ nbs ts i := rfl
    rw [e, List.length_append, List.length_append, List.length_cons]
    have h1 : (if p.1 = i then [p.2] else []).length ≤ 1 := by split <;> simp
    have h2 : (if p.2 = i then [p.1] else []).length ≤ 1 := by split <;> simp
    omega
theorem map_rng_get {α : Type} {n : Int} {F : Int → α} {j : Int} (h0 : 0 ≤ j) (h1 : j < n) : ((rng 0 n).map F)[j.toNat]? = some (F j) := by
  rw [List.getElem?_map, rng_atE (by omega)]
  show some (F (0 + (j.toNat : Int))) = _
  rw [show (0 : Int) + (j.toNat : Int) = j by omega]
theorem map_rng_set {α : Type} {n : Int} {F : Int → α} {j : Int} {y : α} (h0 : 0 ≤ j) : ((rng 0 n).map F).set j.toNat y = (rng 0 n).map fun i => if i = j then y else F i := by
  apply List.ext_getElem?
  intro k
  rw [List.getElem?_set, List.getElem?_map, List.getElem?_map, List.length_map]
  by_cases hk : k < (n - 0).toNat
  · rw [rng_atE hk]
    by_cases e : j.toNat = k
    · rw [if_pos e, if_pos (by rw [rng_length]; omega)]
      show some y = some (if (0 : Int) + (k : Int) = j then y else F (0 + k))
      rw [if_pos (by omega)]
    · rw [if_neg e]
      show some (F (0 + k)) = some (if (0 : Int) + (k : Int) = j then y else F (0 + k))
      rw [if_neg (by omega)]
  · rw [List.getElem?_eq_none (by rw [rng_length]; omega)]
    by_cases e : j.toNat = k
    · rw [if_pos e, if_neg (by rw [rng_length]; omega)]; rfl
    · rw [if_neg e]
      rfl
theorem map_rng_congr {α : Type} {n : Int} {F G : Int → α} (h : ∀ i, 0 ≤ i → i < n → F i = G i) : (rng 0 n).map F = (rng 0 n).map G := List.map_congr_left fun i hi => h i (rng_mem.mp hi).1 (rng_mem.mp hi).2
theorem range_get {N : Nat} {j : Int} (h0 : 0 ≤ j) (h1 : j < N) : getI (List.range N) j = R.ok j.toNat := by
  refine getI_eq h0 ?_
  rw [List.getElem?_range (by omega)]
def nears (n : Int) (ts : List (Int × Int)) : List (List Int) := (rng 0 n).map fun i => sortI (nbs ts i)
theorem near_lists_ok {n : Int} {ts : List (Int × Int)} (n0 : 0 ≤ n) (n1 : n < 1000) (hl : ts.length < 40000) (hr : ∀ p ∈ ts, 0 ≤ p.1 ∧ p.1 < n ∧ 0 ≤ p.2 ∧ p.2 < n) : near_lists (n, ⟨ts⟩) = R.ok (nears n ts) := by
  refine po_iff ?_
  unfold near_lists
  refine po_rng (by decide) (by decide) (by show -(2 ^ 62) ≤ n; omega) (by show n < 2 ^ 62; omega) ?_
  have hN : (rng 0 n).length = n.toNat := by rw [rng_length]; omega
  refine po_bind (po_mapStA (fun pre acc s => acc = List.range pre.length ∧ s = List.replicate pre.length []) (by show (rng 0 n).length < 100000; omega) ⟨rfl, rfl⟩ fun pre acc s x post e ⟨h1, h2⟩ => ?_) fun l5 ⟨a1, a2⟩ => ?_
  · refine po_newS ⟨?_, ?_⟩
    · show acc ++ [s.length] = _
      rw [h1, h2, List.length_replicate, List.length_append, List.length_singleton, List.range_succ]
    · show s ++ [[]] = _
      rw [h2, List.length_append, List.length_singleton, List.replicate_succ']
  · rw [hN] at a1 a2
    refine po_bind (po_foldP (fun pre g => g = (rng 0 n).map fun i => nbs pre i) ?_ fun pre g x post e hg => ?_) fun g11 hg => ?_
    · rw [a2]
      apply List.ext_getElem?
      intro k
      rw [List.getElem?_replicate, List.getElem?_map]
      by_cases hk : k < n.toNat
      · rw [if_pos hk, rng_atE (by omega)]; rfl
      · rw [if_neg hk, List.getElem?_eq_none (by rw [rng_length]; omega)]; rfl
    · obtain ⟨x1, x2, x3, x4⟩ := hr x (by rw [show ts = pre ++ x :: post from e]; simp)
      have hpl : pre.length < 40000 := by
        have : ts.length = pre.length + (post.length + 1) := by rw [show ts = pre ++ x :: post from e]; simp
        omega
      have hl1 := nbs_len pre x.1
      have hl2 := nbs_len pre x.2
      rw [a1]
      refine po_getE (range_get x1 (by omega)) (po_getS (by rw [hg]; exact map_rng_get x1 x2) (po_app (by omega) (po_setS ?_)))
      rw [hg, map_rng_set x1]
      refine po_getE (range_get x3 (by omega)) (po_getS (map_rng_get x3 x4) (po_app ?_ (po_setS ?_)))
      · split
        · rw [List.length_append, List.length_singleton]; omega
        · omega
      · rw [map_rng_set x3]
        show _ = _
        refine map_rng_congr fun i i0 i1 => ?_
        rw [nbs_snoc]
        by_cases e1 : x.1 = i
        · by_cases e2 : x.2 = i
          · subst e1
            rw [e2]
            simp
          · subst e1
            rw [if_neg (fun q => e2 q.symm), if_pos rfl, if_pos rfl, if_neg e2, List.append_nil]
        · by_cases e2 : x.2 = i
          · subst e2
            rw [if_pos rfl, if_neg (fun q => e1 q.symm), if_neg e1, if_pos rfl, List.nil_append]
          · rw [if_neg (fun q => e2 q.symm), if_neg (fun q => e1 q.symm), if_neg e1, if_neg e2, List.append_nil, List.append_nil]
    · have hg' : g11 = (rng 0 n).map fun i => nbs ts i := hg
      rw [a1]
      refine po_bind (Q := fun l => l = nears n ts) (po_eq (mapG_ok (g := fun b => sortI (nbs ts (b : Nat))) (by rw [List.length_range]; omega) fun b hb => ?_) ?_) fun l h => h
      · have hb' := List.mem_range.mp hb
        refine po_iff (po_getS (xs := nbs ts (b : Nat)) ?_ rfl)
        rw [hg']
        have := map_rng_get (n := n) (F := fun i => nbs ts i) (j := (b : Int)) (by omega) (by omega)
        rw [Int.toNat_natCast] at this
        exact this
      · unfold nears
        apply List.ext_getElem?
        intro k
        rw [List.getElem?_map, List.getElem?_map]
        by_cases hk : k < n.toNat
        · rw [rng_atE (by omega), List.getElem?_range hk]
          show some (sortI (nbs ts (k : Nat))) = some (sortI (nbs ts (0 + (k : Nat))))
          rw [Int.zero_add]
        · rw [List.getElem?_eq_none (by rw [List.length_range]; omega), List.getElem?_eq_none (by rw [rng_length]; omega)]; rfl
theorem sortI_mem {xs : List Int} {x : Int} : x ∈ sortI xs ↔ x ∈ xs := (sortI_perm xs).mem_iff
/-- so many empty lists -/
theorem empties_ok {N : Int} (h0 : 0 ≤ N) (h1 : N < 1000) : Post (mapStG (fun (g5 : (List (List Int))) (b5 : Int) => do
      let r9 ← newS g5 ([] : (List Int))
      R.ok (r9.1, r9.2)) ([] : List (List Int)) (rng 0 N)) (fun l => l.1 = List.range N.toNat ∧ l.2 = List.replicate N.toNat []) noX := by
  have hN : (rng 0 N).length = N.toNat := by rw [rng_length]; omega
  refine Post.mono (po_mapStA (fun pre acc s => acc = List.range pre.length ∧ s = List.replicate pre.length []) (by omega) ⟨rfl, rfl⟩ fun pre acc s x post e ⟨h1, h2⟩ => ?_) (fun l ⟨a1, a2⟩ => by rw [hN] at a1 a2; exact ⟨a1, a2⟩) fun _ z => z
  refine po_newS ⟨?_, ?_⟩
  · show acc ++ [s.length] = _
    rw [h1, h2, List.length_replicate, List.length_append, List.length_singleton, List.range_succ]
  · show s ++ [[]] = _
    rw [h2, List.length_append, List.length_singleton, List.replicate_succ']
/-- ties gathered at both ends -/
theorem gather_ok {n : Int} {ts : List (Int × Int)} (n0 : 0 ≤ n) (n1 : n < 1000) (hl : ts.length < 40000) (hr : ∀ p ∈ ts, 0 ≤ p.1 ∧ p.1 < n ∧ 0 ≤ p.2 ∧ p.2 < n) : Post (foldR (fun (g11 : (List (List Int))) (b11 : (Int × Int)) => do
      let t14 ← getI (List.range n.toNat) b11.1
      let x16 ← getS g11 t14
      let l17 ← app x16 b11.2
      let r17 ← setS g11 t14 l17
      let t18 ← getI (List.range n.toNat) b11.2
      let x20 ← getS r17 t18
      let l21 ← app x20 b11.1
      let r21 ← setS r17 t18 l21
      R.ok r21) (List.replicate n.toNat []) ts) (fun g => g = (rng 0 n).map fun i => nbs ts i) noX := by
  refine po_foldP (fun pre g => g = (rng 0 n).map fun i => nbs pre i) ?_ fun pre g x post e hg => ?_
  · apply List.ext_getElem?
    intro k
    rw [List.getElem?_replicate, List.getElem?_map]
    by_cases hk : k < n.toNat
    · rw [if_pos hk, rng_atE (by omega)]; rfl
    · rw [if_neg hk, List.getElem?_eq_none (by rw [rng_length]; omega)]; rfl
  · obtain ⟨x1, x2, x3, x4⟩ := hr x (by rw [show ts = pre ++ x :: post from e]; simp)
    have hpl : pre.length < 40000 := by
      have : ts.length = pre.length + (post.length + 1) := by rw [show ts = pre ++ x :: post from e]; simp
      omega
    have hl1 := nbs_len pre x.1
    have hl2 := nbs_len pre x.2
    refine po_getE (range_get x1 (by omega)) (po_getS (by rw [hg]; exact map_rng_get x1 x2) (po_app (by omega) (po_setS ?_)))
    rw [hg, map_rng_set x1]
    refine po_getE (range_get x3 (by omega)) (po_getS (map_rng_get x3 x4) (po_app ?_ (po_setS ?_)))
    · split
      · rw [List.length_append, List.length_singleton]; omega
      · omega
    · rw [map_rng_set x3]
      show _ = _
      refine map_rng_congr fun i i0 i1 => ?_
      rw [nbs_snoc]
      by_cases e1 : x.1 = i
      · by_cases e2 : x.2 = i
        · subst e1
          rw [e2]
          simp
        · subst e1
          rw [if_neg (fun q => e2 q.symm), if_pos rfl, if_pos rfl, if_neg e2, List.append_nil]
      · by_cases e2 : x.2 = i
        · subst e2
          rw [if_pos rfl, if_neg (fun q => e1 q.symm), if_neg e1, if_pos rfl, List.nil_append]
        · rw [if_neg (fun q => e2 q.symm), if_neg (fun q => e1 q.symm), if_neg e1, if_neg e2, List.append_nil, List.append_nil]
theorem deref_range {α : Type} {st : List (List α)} {k : Nat} (h : st.length = k) : deref st (List.range k) = R.ok st := by
  unfold deref
  have h1 : mapR (getS st) (List.range k) = R.ok ((List.range k).map fun i => st[i]?.getD []) := mapR_ok fun i hi => by
    have hi' := List.mem_range.mp hi
    unfold getS
    rw [List.getElem?_eq_getElem (by omega)]
    rfl
  rw [h1]
  congr 1
  apply List.ext_getElem?
  intro i
  rw [List.getElem?_map]
  by_cases hi : i < k
  · rw [List.getElem?_range hi, List.getElem?_eq_getElem (by omega)]
    show some (st[i]?.getD []) = _
    rw [List.getElem?_eq_getElem (by omega)]
    rfl
  · rw [List.getElem?_eq_none (by rw [List.length_range]; omega), List.getElem?_eq_none (by omega)]
    rfl
end G
/-! MC: drawn webs: neighbours, fars -/
namespace G
open PySem L2 Z
theorem web_near {n : Int} {ts : List (Int × Int)} (h : WebOk n ts) : near_lists (n, ⟨ts⟩) = R.ok (nears n ts) := near_lists_ok (by have := h.n1; omega) (by have := h.n60; omega) (by have := h.len; omega) h.rg4
theorem enum_mem {α : Type} {xs : List α} {b : Int × α} (h : b ∈ enum xs) : 0 ≤ b.1 ∧ b.1 < (xs.length : Int) ∧ xs[b.1.toNat]? = some b.2 := by
  unfold enum at h
  obtain ⟨i, hi⟩ := List.mem_iff_getElem?.mp h
  rw [List.getElem?_zip_eq_some] at hi
  obtain ⟨h1, h2⟩ := hi
  have hl := (List.getElem?_eq_some_iff.mp h2).1
  rw [rng_atE (by omega)] at h1
  have e : b.1 = (i : Int) := by
    injection h1 with h1
    omega
  rw [e]
  exact ⟨by omega, by omega, by rw [Int.toNat_natCast]; exact h2⟩
theorem web_dist {n : Int} {ts : List (Int × Int)} {p : Int} (h : WebOk n ts) (p0 : 0 ≤ p) (p1 : p < n) : IsDist n ts p (dst n ts p) := conn_ex h.rg4 h.conn p0 p1
theorem WebOk.adj {n : Int} {ts : List (Int × Int)} (h : WebOk n ts) {a b : Int} (q : Adj ts a b) : 0 ≤ a ∧ a < n ∧ 0 ≤ b ∧ b < n ∧ a ≠ b := by
  rcases q with q | q <;> have := h.rg _ q <;> dsimp only at this <;> omega
section
variable {n : Int} {ts : List (Int × Int)} (h : WebOk n ts)
include h
theorem dst_zero {p v : Int} (p0 : 0 ≤ p) (p1 : p < n) (v0 : 0 ≤ v) (v1 : v < n) : dst n ts p v = 0 ↔ v = p := by
  have d := web_dist h p0 p1
  constructor
  · intro e
    apply Classical.byContradiction
    intro hne
    obtain ⟨w, w0, w1, _, ew⟩ := d.desc v v0 v1 hne
    have := d.nn w w0 w1
    omega
  · rintro rfl
    exact d.zero
theorem dst_nn {p v : Int} (p0 : 0 ≤ p) (p1 : p < n) (v0 : 0 ≤ v) (v1 : v < n) : 0 ≤ dst n ts p v := (web_dist h p0 p1).nn v v0 v1
theorem dst_tri {a b x : Int} (q : Adj ts a b) (x0 : 0 ≤ x) (x1 : x < n) : dst n ts a x ≤ dst n ts b x + 1 := by
  obtain ⟨a0, a1, b0, b1, _⟩ := h.adj q
  have da := web_dist h a0 a1
  have db := web_dist h b0 b1
  have key : ∀ (m : Nat) (x : Int), (dst n ts b x).toNat ≤ m → 0 ≤ x → x < n → dst n ts a x ≤ dst n ts b x + 1 := by
    intro m
    induction m with
    | zero =>
      intro x hm x0 x1
      have hx := db.nn x x0 x1
      have e : x = b := (dst_zero h b0 b1 x0 x1).mp (by omega)
      subst e
      have := da.lip a x q
      rw [da.zero] at this
      rw [db.zero]
      exact this
    | succ m ih =>
      intro x hm x0 x1
      by_cases e : x = b
      · subst e
        have := da.lip a x q
        rw [da.zero] at this
        rw [db.zero]
        exact this
      · obtain ⟨y, y0, y1, hy, ey⟩ := db.desc x x0 x1 e
        have := db.nn y y0 y1
        have h1 := ih y (by omega) y0 y1
        have h2 := da.lip y x hy
        omega
  exact key _ x (Nat.le_refl _) x0 x1
theorem dst_le_symm {p v : Int} (p0 : 0 ≤ p) (p1 : p < n) (v0 : 0 ≤ v) (v1 : v < n) : dst n ts v p ≤ dst n ts p v := by
  have dp := web_dist h p0 p1
  have key : ∀ (m : Nat) (v : Int), (dst n ts p v).toNat ≤ m → 0 ≤ v → v < n → dst n ts v p ≤ dst n ts p v := by
    intro m
    induction m with
    | zero =>
      intro v hm v0 v1
      have hx := dp.nn v v0 v1
      have e : v = p := (dst_zero h p0 p1 v0 v1).mp (by omega)
      subst e
      exact Int.le_refl _
    | succ m ih =>
      intro v hm v0 v1
      by_cases e : v = p
      · subst e
        exact Int.le_refl _
      · obtain ⟨w, w0, w1, hw, ew⟩ := dp.desc v v0 v1 e
        have := dp.nn w w0 w1
        have h1 := ih w (by omega) w0 w1
        have h2 := dst_tri h hw.symm p0 p1
        omega
  exact key _ v (Nat.le_refl _) v0 v1
theorem dst_symm {p v : Int} (p0 : 0 ≤ p) (p1 : p < n) (v0 : 0 ≤ v) (v1 : v < n) : dst n ts v p = dst n ts p v := Int.le_antisymm (dst_le_symm h p0 p1 v0 v1) (dst_le_symm h v0 v1 p0 p1)
/-- neighbours are just one far -/
theorem dst_one {p v : Int} (p0 : 0 ≤ p) (p1 : p < n) (v0 : 0 ≤ v) (v1 : v < n) : dst n ts p v = 1 ↔ Adj ts p v := by
  have d := web_dist h p0 p1
  constructor
  · intro e
    obtain ⟨w, w0, w1, hw, ew⟩ := d.desc v v0 v1 (fun q => by
      have := (dst_zero h p0 p1 v0 v1).mpr q
      omega)
    have : w = p := (dst_zero h p0 p1 w0 w1).mp (by omega)
    rw [← this]
    exact hw
  · intro q
    have h1 := d.lip p v q
    rw [d.zero] at h1
    have h2 := d.nn v v0 v1
    have h3 : dst n ts p v ≠ 0 := fun e => (h.adj q).2.2.2.2 ((dst_zero h p0 p1 v0 v1).mp e).symm
    omega
end
theorem perm_nodup {xs ys : List Int} (h1 : xs.Nodup) (h2 : ys.Nodup) (h : ∀ x, x ∈ xs ↔ x ∈ ys) : xs.Perm ys := by
  rw [List.perm_iff_count]
  intro a
  rw [h1.count, h2.count]
  by_cases q : a ∈ xs
  · rw [if_pos q, if_pos ((h a).mp q)]
  · rw [if_neg q, if_neg (fun z => q ((h a).mpr z))]
theorem nbs_nodup {ts : List (Int × Int)} (hn : ts.Nodup) (hr : ∀ p ∈ ts, p.1 < p.2) (i : Int) : (nbs ts i).Nodup := by
  induction ts with
  | nil => exact List.nodup_nil
  | cons p ts ih =>
    have e : nbs (p :: ts) i = ((if p.1 = i then [p.2] else []) ++ (if p.2 = i then [p.1] else [])) ++ nbs ts i := rfl
    obtain ⟨hn1, hn2⟩ := List.nodup_cons.mp hn
    have ih' := ih hn2 fun q hq => hr q (List.mem_cons_of_mem _ hq)
    have hp := hr p List.mem_cons_self
    rw [e]
    by_cases h1 : p.1 = i
    · have h2 : p.2 ≠ i := by omega
      rw [if_pos h1, if_neg h2, List.append_nil]
      refine List.nodup_cons.mpr ⟨fun q => ?_, ih'⟩
      rcases nbs_mem.mp q with q | q
      · exact hn1 (by rw [← h1] at q; exact q)
      · have := hr _ (List.mem_cons_of_mem _ q)
        dsimp only at this
        omega
    · by_cases h2 : p.2 = i
      · rw [if_neg h1, if_pos h2, List.nil_append]
        refine List.nodup_cons.mpr ⟨fun q => ?_, ih'⟩
        rcases nbs_mem.mp q with q | q
        · have := hr _ (List.mem_cons_of_mem _ q)
          dsimp only at this
          omega
        · exact hn1 (by rw [← h2] at q; exact q)
      · rw [if_neg h1, if_neg h2, List.append_nil, List.nil_append]
        exact ih'
theorem rng_sorted (i j : Int) : (rng i j).Pairwise (· < ·) := by
  unfold rng
  refine List.Pairwise.map _ (fun a b h => ?_) List.pairwise_lt_range
  show i + (a : Int) < i + b
  omega
/-- the neighbours of a place, gathered otherwise -/
theorem sort_nbs {n : Int} {ts : List (Int × Int)} (h : WebOk n ts) (i : Int) (P : Int → Bool) (hP : ∀ v, 0 ≤ v → v < n → (P v = true ↔ Adj ts i v)) : sortI (nbs ts i) = (rng 0 n).filter P := by
  refine (sortI_eq ?_ ?_).symm
  · refine perm_nodup ((rng_nodup 0 n).filter _) (nbs_nodup h.nd (fun p hp => (h.rg p hp).2.1) i) fun x => ?_
    rw [List.mem_filter, nbs_mem, rng_mem]
    constructor
    · rintro ⟨⟨x0, x1⟩, hx⟩
      exact (hP x x0 x1).mp hx
    · intro hx
      have := h.adj hx
      exact ⟨⟨this.2.2.1, this.2.2.2.1⟩, (hP x this.2.2.1 this.2.2.2.1).mpr hx⟩
  · exact ((rng_sorted 0 n).sublist List.filter_sublist).imp fun h => Int.le_of_lt h
theorem nears_get {n p : Int} {ts : List (Int × Int)} (p0 : 0 ≤ p) (p1 : p < n) : getI (nears n ts) p = R.ok (sortI (nbs ts p)) := getI_eq p0 (map_rng_get p0 p1)
theorem nbs_len_n {n : Int} {ts : List (Int × Int)} (h : WebOk n ts) (i : Int) : (nbs ts i).length ≤ n.toNat := by
  have := nodup_le (nbs_nodup h.nd (fun p hp => (h.rg p hp).2.1) i) (ys := rng 0 n) fun x hx => by
    have := h.adj (nbs_mem.mp hx)
    exact rng_mem.mpr ⟨this.2.2.1, this.2.2.2.1⟩
  rw [rng_length] at this
  omega
theorem fil_ite {α : Type} (l : List α) (P : α → Bool) : l.filterMap (fun b => if P b = true then some b else none) = l.filter P := by
  induction l with
  | nil => rfl
  | cons a l ih =>
    rw [List.filterMap_cons, List.filter_cons]
    cases P a
    · exact ih
    · show a :: _ = a :: _
      rw [ih]
end G
/-! MT: trees: which places lie beyond a neighbour, and what looks tell two things apart -/
namespace G
open PySem L2 Z
theorem all_of_len {α : Type} [DecidableEq α] {xs ys : List α} (hx : xs.Nodup) (hs : ∀ x ∈ xs, x ∈ ys) (hl : ys.length ≤ xs.length) : ∀ y ∈ ys, y ∈ xs := fun y hy => by
  apply Classical.byContradiction
  intro hno
  have := nodup_le (xs := y :: xs) (ys := ys) (List.nodup_cons.mpr ⟨hno, hx⟩) fun z hz => by
    rcases List.mem_cons.mp hz with rfl | hz
    · exact hy
    · exact hs z hz
  rw [List.length_cons] at this
  omega
section
variable {n : Int} {ts : List (Int × Int)}
theorem dst_lip (h : WebOk n ts) {r a b : Int} (r0 : 0 ≤ r) (r1 : r < n) (q : Adj ts a b) : dst n ts r b ≤ dst n ts r a + 1 := (web_dist h r0 r1).lip a b q
theorem dst_self (h : WebOk n ts) {r : Int} (r0 : 0 ≤ r) (r1 : r < n) : dst n ts r r = 0 := (web_dist h r0 r1).zero
theorem dst_near (h : WebOk n ts) {r v : Int} (r0 : 0 ≤ r) (r1 : r < n) (v0 : 0 ≤ v) (v1 : v < n) (hv : v ≠ r) : ∃ w, 0 ≤ w ∧ w < n ∧ Adj ts w v ∧ dst n ts r w + 1 = dst n ts r v := (web_dist h r0 r1).desc v v0 v1 hv
theorem tri (h : WebOk n ts) {a b : Int} (a0 : 0 ≤ a) (a1 : a < n) (b0 : 0 ≤ b) (b1 : b < n) : ∀ (m : Nat) (c : Int), (dst n ts b c).toNat ≤ m → 0 ≤ c → c < n → dst n ts a c ≤ dst n ts a b + dst n ts b c := by
  intro m
  induction m with
  | zero =>
    intro c hm c0 c1
    have := dst_nn h b0 b1 c0 c1
    have e : c = b := (dst_zero h b0 b1 c0 c1).mp (by omega)
    subst e
    omega
  | succ m ih =>
    intro c hm c0 c1
    by_cases e : c = b
    · subst e
      have := dst_nn h b0 b1 c0 c1
      omega
    · obtain ⟨w, w0, w1, qa, ew⟩ := dst_near h b0 b1 c0 c1 e
      have := ih w (by omega) w0 w1
      have := dst_lip h a0 a1 qa
      omega
theorem dtri (h : WebOk n ts) {a b c : Int} (a0 : 0 ≤ a) (a1 : a < n) (b0 : 0 ≤ b) (b1 : b < n) (c0 : 0 ≤ c) (c1 : c < n) : dst n ts a c ≤ dst n ts a b + dst n ts b c := tri h a0 a1 b0 b1 _ c (Nat.le_refl _) c0 c1
theorem adj_one (h : WebOk n ts) {a b : Int} (q : Adj ts a b) : dst n ts a b = 1 := by
  obtain ⟨a0, a1, b0, b1, _⟩ := h.adj q
  exact (dst_one h a0 a1 b0 b1).mpr q
end
section
variable {n : Int} {ts : List (Int × Int)} (t : TreeOk n ts)
include t
/-- each tie of a tree leads from a place to the one ahead of it -/
theorem tree_par {r : Int} (r0 : 0 ≤ r) (r1 : r < n) : ∃ w : Int → Int, ∀ a b, Adj ts a b → (b ≠ r ∧ a = w b ∧ dst n ts r a + 1 = dst n ts r b) ∨ (a ≠ r ∧ b = w a ∧ dst n ts r b + 1 = dst n ts r a) := by
  have h := t.web
  have hw : ∀ v, ∃ w, 0 ≤ v → v < n → v ≠ r → Adj ts w v ∧ dst n ts r w + 1 = dst n ts r v := fun v => by
    by_cases c : 0 ≤ v ∧ v < n ∧ v ≠ r
    · obtain ⟨w, _, _, q, e⟩ := dst_near h r0 r1 c.1 c.2.1 c.2.2
      exact ⟨w, fun _ _ _ => ⟨q, e⟩⟩
    · exact ⟨0, fun c1 c2 c3 => absurd ⟨c1, c2, c3⟩ c⟩
  obtain ⟨w, hw⟩ := Classical.axiomOfChoice hw
  refine ⟨w, ?_⟩
  -- the tie ahead of each place
  let E : Int → Int × Int := fun v => if (w v, v) ∈ ts then (w v, v) else (v, w v)
  have hE : ∀ v, 0 ≤ v → v < n → v ≠ r → E v ∈ ts := fun v v0 v1 v2 => by
    show (if (w v, v) ∈ ts then (w v, v) else (v, w v)) ∈ ts
    by_cases c : (w v, v) ∈ ts
    · rw [if_pos c]; exact c
    · rw [if_neg c]
      exact (hw v v0 v1 v2).1.resolve_left c
  have hEc : ∀ v, E v = (w v, v) ∨ E v = (v, w v) := fun v => by
    show (if (w v, v) ∈ ts then (w v, v) else (v, w v)) = _ ∨ (if (w v, v) ∈ ts then (w v, v) else (v, w v)) = _
    by_cases c : (w v, v) ∈ ts
    · rw [if_pos c]; exact .inl rfl
    · rw [if_neg c]; exact .inr rfl
  have hV : ∀ v, v ∈ (rng 0 n).filter (fun v => !decide (v = r)) ↔ (0 ≤ v ∧ v < n) ∧ v ≠ r := fun v => by
    rw [List.mem_filter, rng_mem]
    simp
  have hinj : ∀ u v, (0 ≤ u ∧ u < n) ∧ u ≠ r → (0 ≤ v ∧ v < n) ∧ v ≠ r → E u = E v → u = v := fun u v hu hv e => by
    have e1 := (hw u hu.1.1 hu.1.2 hu.2).2
    have e2 := (hw v hv.1.1 hv.1.2 hv.2).2
    rcases hEc u with a | a <;> rcases hEc v with b | b <;> rw [a, b] at e <;> injection e with x y
    · rw [x, y] at e1
      omega
    · rw [y, x] at e1
      omega
  have hnd : (((rng 0 n).filter fun v => !decide (v = r)).map E).Nodup := by
    refine List.pairwise_map.mpr ?_
    have := (rng_nodup 0 n).filter fun v => !decide (v = r)
    refine List.Pairwise.imp_of_mem ?_ this
    intro u v hu hv hne e
    exact hne (hinj u v ((hV u).mp hu) ((hV v).mp hv) e)
  have hlen : ts.length ≤ (((rng 0 n).filter fun v => !decide (v = r)).map E).length := by
    rw [List.length_map]
    have h1 := nodup_le (xs := rng 0 n) (ys := r :: (rng 0 n).filter fun v => !decide (v = r)) (rng_nodup 0 n) fun v hv => by
      by_cases c : v = r
      · rw [c]; exact List.mem_cons_self
      · exact List.mem_cons_of_mem _ ((hV v).mpr ⟨rng_mem.mp hv, c⟩)
    rw [List.length_cons, rng_length] at h1
    have := t.len
    omega
  have hall := all_of_len hnd (fun p hp => by
    obtain ⟨v, hv, rfl⟩ := List.mem_map.mp hp
    have hv := (hV v).mp hv
    exact hE v hv.1.1 hv.1.2 hv.2) hlen
  have one : ∀ a b, (a, b) ∈ ts → (b ≠ r ∧ a = w b ∧ dst n ts r a + 1 = dst n ts r b) ∨ (a ≠ r ∧ b = w a ∧ dst n ts r b + 1 = dst n ts r a) := fun a b hab => by
    obtain ⟨v, hv, e⟩ := List.mem_map.mp (hall _ hab)
    have hv := (hV v).mp hv
    have e1 := (hw v hv.1.1 hv.1.2 hv.2).2
    rcases hEc v with c | c <;> rw [c] at e <;> injection e with x y
    · subst y
      subst x
      exact .inl ⟨hv.2, rfl, e1⟩
    · subst x
      subst y
      exact .inr ⟨hv.2, rfl, e1⟩
  intro a b q
  rcases q with q | q
  · exact one a b q
  · exact (one b a q).symm
theorem edge_one {r a b : Int} (r0 : 0 ≤ r) (r1 : r < n) (q : Adj ts a b) : dst n ts r a + 1 = dst n ts r b ∨ dst n ts r b + 1 = dst n ts r a := by
  obtain ⟨w, hw⟩ := tree_par t r0 r1
  exact (hw a b q).imp (fun z => z.2.2) fun z => z.2.2
theorem near_uniq {r a c b : Int} (r0 : 0 ≤ r) (r1 : r < n) (q : Adj ts a b) (q' : Adj ts c b) (e : dst n ts r a + 1 = dst n ts r b) (e' : dst n ts r c + 1 = dst n ts r b) : a = c := by
  obtain ⟨w, hw⟩ := tree_par t r0 r1
  rcases hw a b q with ⟨_, h1, _⟩ | ⟨_, _, h1⟩
  · rcases hw c b q' with ⟨_, h2, _⟩ | ⟨_, _, h2⟩
    · rw [h1, h2]
    · omega
  · omega
/-- no place beyond s leads back but by p -/
theorem side_up {p s y z : Int} (q : Adj ts p s) (y0 : 0 ≤ y) (y1 : y < n) (hy : dst n ts p y + 1 = dst n ts s y) (qz : Adj ts z y) (ez : dst n ts p z + 1 = dst n ts p y) : dst n ts p z + 1 = dst n ts s z := by
  have h := t.web
  obtain ⟨p0, p1, s0, s1, _⟩ := h.adj q
  obtain ⟨z0, z1, _⟩ := h.adj qz
  have e1 := edge_one t z0 z1 q
  rw [dst_symm h p0 p1 z0 z1, dst_symm h s0 s1 z0 z1] at e1
  rcases e1 with e1 | e1
  · exact e1
  · have := dst_lip h s0 s1 qz
    omega
/-- the way from a place beyond s to one that is not goes by p -/
theorem path_ok {p s l : Int} (q : Adj ts p s) (l0 : 0 ≤ l) (l1 : l < n) (hl : dst n ts l s + 1 = dst n ts l p) : ∀ (m : Nat) (y : Int), (dst n ts p y).toNat ≤ m → 0 ≤ y → y < n → dst n ts p y + 1 = dst n ts s y → dst n ts l y = dst n ts l p + dst n ts p y := by
  have h := t.web
  obtain ⟨p0, p1, s0, s1, _⟩ := h.adj q
  intro m
  induction m with
  | zero =>
    intro y hm y0 y1 hy
    have := dst_nn h p0 p1 y0 y1
    have e : y = p := (dst_zero h p0 p1 y0 y1).mp (by omega)
    subst e
    omega
  | succ m ih =>
    intro y hm y0 y1 hy
    have hn := dst_nn h p0 p1 y0 y1
    by_cases e : y = p
    · subst e
      have := dst_self h p0 p1
      omega
    · obtain ⟨z, z0, z1, qz, ez⟩ := dst_near h p0 p1 y0 y1 e
      have hzs := side_up t q y0 y1 hy qz ez
      have iz := ih z (by omega) z0 z1 hzs
      rcases edge_one t l0 l1 qz with c | c
      · omega
      · exfalso
        by_cases e2 : z = p
        · subst e2
          have := near_uniq t l0 l1 qz.symm q.symm c hl
          subst this
          have := dst_self h s0 s1
          omega
        · obtain ⟨z', z0', z1', qz', ez'⟩ := dst_near h p0 p1 z0 z1 e2
          have iz' := ih z' (by omega) z0' z1' (side_up t q z0 z1 hzs qz' ez')
          have := near_uniq t l0 l1 qz.symm qz' c (by omega)
          subst this
          omega
theorem path_eq {p s l y : Int} (q : Adj ts p s) (l0 : 0 ≤ l) (l1 : l < n) (hl : dst n ts l s + 1 = dst n ts l p) (y0 : 0 ≤ y) (y1 : y < n) (hy : dst n ts y p + 1 = dst n ts y s) : dst n ts l y = dst n ts l p + dst n ts p y := by
  have h := t.web
  obtain ⟨p0, p1, s0, s1, _⟩ := h.adj q
  refine path_ok t q l0 l1 hl _ y (Nat.le_refl _) y0 y1 ?_
  rw [dst_symm h p0 p1 y0 y1, dst_symm h s0 s1 y0 y1] at hy
  exact hy
/-- a place on the way -/
theorem mid_ex {x y : Int} (x0 : 0 ≤ x) (x1 : x < n) (y0 : 0 ≤ y) (y1 : y < n) : ∀ (k : Nat), (k : Int) ≤ dst n ts x y → ∃ m, 0 ≤ m ∧ m < n ∧ dst n ts x m = dst n ts x y - k ∧ dst n ts m y = k := by
  have h := t.web
  intro k
  induction k with
  | zero =>
    intro _
    exact ⟨y, y0, y1, by omega, dst_self h y0 y1⟩
  | succ k ih =>
    intro hk
    obtain ⟨m, m0, m1, e1, e2⟩ := ih (by omega)
    have hne : m ≠ x := fun e => by
      subst e
      have := dst_self h m0 m1
      omega
    obtain ⟨z, z0, z1, qz, ez⟩ := dst_near h x0 x1 m0 m1 hne
    have a1 := dst_tri h qz y0 y1
    have a2 := dtri h x0 x1 z0 z1 y0 y1
    exact ⟨z, z0, z1, by omega, by omega⟩
end
end G
namespace G
open PySem L2 Z
theorem place_ok {n p : Int} {t : Tup (Int × Int)} (p0 : 0 ≤ p) (p1 : p < n) : place_asked (n, t) p = R.ok () := by
  unfold place_asked
  dsimp only
  rw [decide_eq_true p0, decide_eq_true p1]
  rfl
theorem nbr_ok {n p : Int} {ts : List (Int × Int)} (h : WebOk n ts) (p0 : 0 ≤ p) (p1 : p < n) : neighbours_of (n, ⟨ts⟩) p = R.ok (sortI (nbs ts p)) := by
  unfold neighbours_of
  rw [place_ok p0 p1, ok_bind, web_near h, ok_bind, nears_get p0 p1]
  rfl
/-- how far a thing is -/
noncomputable def farT (n : Int) (ts : List (Int × Int)) (p : Int) : Thing → Int
  | .pl i => dst n ts p i
  | .ti a b => min2 (dst n ts p a) (dst n ts p b)
def ThOk (n : Int) (ts : List (Int × Int)) : Thing → Prop
  | .pl i => 0 ≤ i ∧ i < n
  | .ti a b => (a, b) ∈ ts
def allT (n : Int) (ts : List (Int × Int)) : List Thing := mkpl (rng 0 n) ++ mkti ts
def kindT (n : Int) (ts : List (Int × Int)) (k : Str) : List Thing := if decide (k = "places") = true then mkpl (rng 0 n) else if decide (k = "ties") = true then mkti ts else allT n ts
theorem pl_mem {n : Int} {t : Thing} : t ∈ mkpl (rng 0 n) ↔ ∃ i, t = .pl i ∧ 0 ≤ i ∧ i < n := by
  unfold mkpl
  rw [List.mem_map]
  constructor
  · rintro ⟨i, hi, rfl⟩
    exact ⟨i, rfl, rng_mem.mp hi⟩
  · rintro ⟨i, rfl, hi⟩
    exact ⟨i, rng_mem.mpr hi, rfl⟩
theorem ti_mem {ts : List (Int × Int)} {t : Thing} : t ∈ mkti ts ↔ ∃ a b, t = .ti a b ∧ (a, b) ∈ ts := by
  unfold mkti
  rw [List.mem_map]
  constructor
  · rintro ⟨p, hp, rfl⟩
    exact ⟨p.1, p.2, rfl, hp⟩
  · rintro ⟨a, b, rfl, h⟩
    exact ⟨(a, b), h, rfl⟩
theorem allT_mem {n : Int} {ts : List (Int × Int)} {t : Thing} : t ∈ allT n ts ↔ ThOk n ts t := by
  unfold allT
  rw [List.mem_append, pl_mem, ti_mem]
  cases t with
  | pl i =>
    constructor
    · rintro (⟨j, e, h⟩ | ⟨a, b, e, _⟩)
      · cases e; exact h
      · cases e
    · intro h
      exact .inl ⟨i, rfl, h⟩
  | ti a b =>
    constructor
    · rintro (⟨j, e, h⟩ | ⟨c, d, e, h⟩)
      · cases e
      · cases e; exact h
    · intro h
      exact .inr ⟨a, b, rfl, h⟩
theorem kindT_ok {n : Int} {ts : List (Int × Int)} {k : Str} {t : Thing} (h : t ∈ kindT n ts k) : ThOk n ts t := by
  unfold kindT at h
  split at h
  · exact allT_mem.mp (List.mem_append_left _ h)
  · split at h
    · exact allT_mem.mp (List.mem_append_right _ h)
    · exact allT_mem.mp h
theorem allT_len {n : Int} {ts : List (Int × Int)} (n0 : 0 ≤ n) : ((allT n ts).length : Int) = n + ts.length := by
  unfold allT mkpl mkti
  rw [List.length_append, List.length_map, List.length_map, rng_length]
  omega
/-- two lists, item by item -/
inductive PW2 {α β : Type} (r : α → β → Prop) : List α → List β → Prop
  | nil : PW2 r [] []
  | cons {a : α} {b : β} {as : List α} {bs : List β} : r a b → PW2 r as bs → PW2 r (a :: as) (b :: bs)
theorem PW2.length {α β : Type} {r : α → β → Prop} {as : List α} {bs : List β} (h : PW2 r as bs) : as.length = bs.length := by
  induction h with
  | nil => rfl
  | cons _ _ ih => rw [List.length_cons, List.length_cons, ih]
/-- a rising list of places -/
structure LooksOk (n : Int) (ls : List Int) : Prop where
  rg : ∀ l ∈ ls, 0 ≤ l ∧ l < n
  up : ls.Pairwise (· < ·)
theorem LooksOk.len {n : Int} {ls : List Int} (h : LooksOk n ls) : ls.length ≤ n.toNat := by
  have := nodup_le (h.up.imp fun z => Int.ne_of_lt z) (ys := rng 0 n) fun v hv => rng_mem.mpr (h.rg v hv)
  rw [rng_length] at this
  omega
noncomputable def codeT (n : Int) (ts : List (Int × Int)) (ls : List Int) (t : Thing) : List Int := ls.map fun l => farT n ts l t
/-- at how many places two codes are unlike -/
def unl (a b : List Int) : Int := (((a.zip b).filter fun p => !decide (p.1 = p.2)).length : Int)
def lstep (o : Option Int) (u : Int) : Option Int := match o with
  | none => some u
  | some t => if u < t then some u else some t
def leastL (cs : List (List Int)) : Option Int := (enum cs).foldl (fun o p => (cs.take p.1.toNat).foldl (fun o b => lstep o (unl p.2 b)) o) none
theorem enum_map (cs : List (List Int)) : enum cs = (rng 0 cs.length).map fun k => (k, cs.getD k.toNat []) := by
  unfold enum
  refine List.ext_getElem? fun i => ?_
  rw [List.getElem?_map]
  by_cases hi : i < cs.length
  · have hz : i < ((rng 0 cs.length).zip cs).length := by rw [List.length_zip, rng_length]; omega
    rw [rng_atE (by omega), List.getElem?_eq_getElem hz, List.getElem_zip]
    have e : (rng 0 cs.length)[i]? = some (0 + (i : Int)) := rng_atE (by omega)
    obtain ⟨h1, h2⟩ := List.getElem?_eq_some_iff.mp e
    rw [h2]
    show some (_, cs[i]) = some (_, cs.getD ((0 : Int) + (i : Int)).toNat [])
    rw [show ((0 : Int) + (i : Int)).toNat = i by omega, List.getD_eq_getElem?_getD, List.getElem?_eq_getElem hi]
    rfl
  · rw [List.getElem?_eq_none (by rw [List.length_zip]; omega), List.getElem?_eq_none (by rw [rng_length]; omega)]
    rfl
/-- the numbers of which leastL is the least -/
def pairsU (cs : List (List Int)) : List Int := (enum cs).flatMap fun p => (cs.take p.1.toNat).map fun b => unl p.2 b
theorem leastL_fold (cs : List (List Int)) : leastL cs = (pairsU cs).foldl lstep none := by
  unfold leastL pairsU
  generalize (none : Option Int) = o
  induction enum cs generalizing o with
  | nil => rfl
  | cons p ps ih =>
    rw [List.foldl_cons, List.flatMap_cons, List.foldl_append, List.foldl_map]
    exact ih _
theorem lstep_fold {us : List Int} {m : Int} : ∃ r, us.foldl lstep (some m) = some r ∧ r ≤ m ∧ (∀ u ∈ us, r ≤ u) ∧ (r = m ∨ r ∈ us) := by
  induction us generalizing m with
  | nil => exact ⟨m, rfl, Int.le_refl _, fun _ h => (nomatch h), .inl rfl⟩
  | cons u us ih =>
    rw [List.foldl_cons]
    have el : lstep (some m) u = if u < m then some u else some m := rfl
    rw [el]
    by_cases q : u < m
    · rw [if_pos q]
      obtain ⟨r, e, h1, h2, h3⟩ := ih (m := u)
      refine ⟨r, e, by omega, fun v hv => ?_, .inr (h3.elim (fun z => by rw [z]; exact List.mem_cons_self) fun z => List.mem_cons_of_mem _ z)⟩
      rcases List.mem_cons.mp hv with rfl | hv
      · exact h1
      · exact h2 v hv
    · rw [if_neg q]
      obtain ⟨r, e, h1, h2, h3⟩ := ih (m := m)
      refine ⟨r, e, h1, fun v hv => ?_, h3.imp id fun z => List.mem_cons_of_mem _ z⟩
      rcases List.mem_cons.mp hv with rfl | hv
      · omega
      · exact h2 v hv
theorem lfold_some {us : List Int} {r : Int} (h : us.foldl lstep none = some r) : (∀ u ∈ us, r ≤ u) ∧ r ∈ us := by
  cases us with
  | nil => cases h
  | cons u us =>
    obtain ⟨r', e, h1, h2, h3⟩ := lstep_fold (us := us) (m := u)
    have h' : us.foldl lstep (some u) = some r := h
    rw [e] at h'
    cases h'
    refine ⟨fun v hv => ?_, h3.elim (fun z => by rw [z]; exact List.mem_cons_self) fun z => List.mem_cons_of_mem _ z⟩
    rcases List.mem_cons.mp hv with rfl | hv
    · exact h1
    · exact h2 v hv
theorem lfold_none {us : List Int} (h : us.foldl lstep none = none) : us = [] := by
  cases us with
  | nil => rfl
  | cons u us =>
    obtain ⟨r', e, _⟩ := lstep_fold (us := us) (m := u)
    have h' : us.foldl lstep (some u) = none := h
    rw [e] at h'
    cases h'
theorem lfold_eq {us : List Int} {r : Int} (h1 : ∀ u ∈ us, r ≤ u) (h2 : r ∈ us) : us.foldl lstep none = some r := by
  cases e : us.foldl lstep none with
  | none => rw [lfold_none e] at h2; cases h2
  | some r' =>
    obtain ⟨a, b⟩ := lfold_some e
    have := a _ h2
    have := h1 _ b
    rw [show r' = r by omega]
theorem pairsU_mem {cs : List (List Int)} {u : Int} : u ∈ pairsU cs ↔ ∃ i j : Nat, ∃ a b, i < j ∧ cs[i]? = some a ∧ cs[j]? = some b ∧ u = unl b a := by
  unfold pairsU
  rw [List.mem_flatMap]
  constructor
  · rintro ⟨p, hp, hu⟩
    obtain ⟨p0, p1, ep⟩ := enum_mem hp
    obtain ⟨a, ha, rfl⟩ := List.mem_map.mp hu
    obtain ⟨i, hi, e⟩ := List.mem_take_iff_getElem.mp ha
    exact ⟨i, p.1.toNat, a, p.2, by omega, by rw [← e]; exact List.getElem?_eq_getElem _, ep, rfl⟩
  · rintro ⟨i, j, a, b, hij, ha, hb, rfl⟩
    obtain ⟨hj, ej⟩ := List.getElem?_eq_some_iff.mp hb
    obtain ⟨hi, ei⟩ := List.getElem?_eq_some_iff.mp ha
    refine ⟨((j : Int), b), ?_, List.mem_map.mpr ⟨a, ?_, rfl⟩⟩
    · rw [enum_map]
      refine List.mem_map.mpr ⟨(j : Int), rng_mem.mpr ⟨by omega, by omega⟩, ?_⟩
      rw [List.getD_eq_getElem?_getD, show ((j : Int)).toNat = j by omega, hb]
      rfl
    · rw [List.mem_take_iff_getElem]
      exact ⟨i, by show i < min ((j : Int)).toNat cs.length; omega, ei⟩
theorem unl_symm {a b : List Int} : unl a b = unl b a := by
  unfold unl
  congr 1
  induction a generalizing b with
  | nil => cases b <;> rfl
  | cons x a ih =>
    cases b with
    | nil => rfl
    | cons y b =>
      rw [List.zip_cons_cons, List.zip_cons_cons, List.filter_cons, List.filter_cons]
      by_cases q : x = y
      · rw [if_neg (by simp [q]), if_neg (by simp [q])]
        exact ih
      · rw [if_pos (by simp [q]), if_pos (by simp [Ne.symm q]), List.length_cons, List.length_cons, ih]
theorem least_le {α : Type} {xs : List α} {f : α → List Int} {r : Int} (h : leastL (xs.map f) = some r) {x y : α} (hx : x ∈ xs) (hy : y ∈ xs) (hne : x ≠ y) : r ≤ unl (f x) (f y) := by
  rw [leastL_fold] at h
  obtain ⟨i, hi, ei⟩ := List.mem_iff_getElem.mp hx
  obtain ⟨j, hj, ej⟩ := List.mem_iff_getElem.mp hy
  have e1 : (xs.map f)[i]? = some (f x) := by rw [List.getElem?_map, List.getElem?_eq_getElem hi, ei]; rfl
  have e2 : (xs.map f)[j]? = some (f y) := by rw [List.getElem?_map, List.getElem?_eq_getElem hj, ej]; rfl
  rcases Nat.lt_trichotomy i j with q | q | q
  · rw [unl_symm]
    exact (lfold_some h).1 _ (pairsU_mem.mpr ⟨i, j, _, _, q, e1, e2, rfl⟩)
  · subst q
    exact absurd (ei.symm.trans ej) hne
  · exact (lfold_some h).1 _ (pairsU_mem.mpr ⟨j, i, _, _, q, e2, e1, rfl⟩)
theorem least_at {α : Type} {xs : List α} {f : α → List Int} {r : Int} (h : leastL (xs.map f) = some r) : ∃ i j : Nat, ∃ x y, i < j ∧ xs[i]? = some x ∧ xs[j]? = some y ∧ unl (f y) (f x) = r := by
  rw [leastL_fold] at h
  obtain ⟨i, j, a, b, hij, ha, hb, e⟩ := pairsU_mem.mp (lfold_some h).2
  rw [List.getElem?_map, Option.map_eq_some_iff] at ha hb
  obtain ⟨x, hx, rfl⟩ := ha
  obtain ⟨y, hy, rfl⟩ := hb
  exact ⟨i, j, x, y, hij, hx, hy, e.symm⟩
theorem least_no {α : Type} {xs : List α} {f : α → List Int} (h : leastL (xs.map f) = none) : xs.length ≤ 1 := by
  rw [leastL_fold] at h
  apply Classical.byContradiction
  intro q
  have h0 : 0 < xs.length := by omega
  have h1 : 1 < xs.length := by omega
  have : unl (f xs[1]) (f xs[0]) ∈ pairsU (xs.map f) := pairsU_mem.mpr ⟨0, 1, f xs[0], f xs[1], by omega, by rw [List.getElem?_map, List.getElem?_eq_getElem h0]; rfl, by rw [List.getElem?_map, List.getElem?_eq_getElem h1]; rfl, rfl⟩
  rw [lfold_none h] at this
  cases this
/-! ### what has one code, in lists -/
section
variable {κ α : Type} [DecidableEq κ]
def kstep (ks : List κ) (k : κ) : List κ := if k ∈ ks then ks else ks ++ [k]
def keysG (c : α → κ) (ts : List α) : List κ := (ts.map c).foldl kstep []
def rowsG (c : α → κ) (ks : List κ) (ts : List α) : List (List α) := ks.map fun k => ts.filter fun t => decide (c t = k)
def likesG (c : α → κ) (ts : List α) : List (List α) := (rowsG c (keysG c ts) ts).filter fun r => decide ((1 : Int) < (r.length : Int))
theorem keysG_snoc (c : α → κ) (ts : List α) (t : α) : keysG c (ts ++ [t]) = kstep (keysG c ts) (c t) := by
  unfold keysG
  rw [List.map_append, List.foldl_append]
  rfl
theorem kstep_mem {ks : List κ} {k j : κ} : j ∈ kstep ks k ↔ j ∈ ks ∨ j = k := by
  unfold kstep
  by_cases h : k ∈ ks
  · rw [if_pos h]
    exact ⟨.inl, fun z => z.elim id fun e => e ▸ h⟩
  · rw [if_neg h]
    simp
theorem kstep_nodup {ks : List κ} {k : κ} (h : ks.Nodup) : (kstep ks k).Nodup := by
  unfold kstep
  by_cases q : k ∈ ks
  · rw [if_pos q]; exact h
  · rw [if_neg q]
    rw [List.nodup_append]
    refine ⟨h, by simp, fun a ha b hb e => ?_⟩
    simp at hb
    subst hb
    exact q (e ▸ ha)
theorem snoc_ind {α : Type} {P : List α → Prop} (h0 : P []) (hs : ∀ xs x, P xs → P (xs ++ [x])) (xs : List α) : P xs := by
  have : P xs.reverse.reverse := by
    induction xs.reverse with
    | nil => exact h0
    | cons x l ih =>
      rw [List.reverse_cons]
      exact hs _ _ ih
  rwa [List.reverse_reverse] at this
theorem keysG_mem {c : α → κ} {ts : List α} {k : κ} : k ∈ keysG c ts ↔ ∃ t ∈ ts, c t = k := by
  induction ts using snoc_ind with
  | h0 => simp [keysG]
  | hs ts t ih =>
    rw [keysG_snoc, kstep_mem, ih]
    constructor
    · rintro (⟨u, hu, e⟩ | rfl)
      · exact ⟨u, List.mem_append_left _ hu, e⟩
      · exact ⟨t, by simp, rfl⟩
    · rintro ⟨u, hu, e⟩
      rcases List.mem_append.mp hu with h | h
      · exact .inl ⟨u, h, e⟩
      · simp at h
        exact .inr (h ▸ e.symm)
theorem keysG_nodup {c : α → κ} {ts : List α} : (keysG c ts).Nodup := by
  induction ts using snoc_ind with
  | h0 => exact List.Pairwise.nil
  | hs ts t ih => rw [keysG_snoc]; exact kstep_nodup ih
theorem keysG_len {c : α → κ} {ts : List α} : (keysG c ts).length ≤ ts.length := by
  induction ts using snoc_ind with
  | h0 => exact Nat.le_refl _
  | hs ts t ih =>
    rw [keysG_snoc, List.length_append]
    unfold kstep
    split
    · omega
    · rw [List.length_append]; simp; omega
theorem fidx_mem {k : κ} : ∀ {ks : List κ}, k ∈ ks → ∃ j, fidx k ks = some j ∧ ks[j]? = some k
  | [], h => nomatch h
  | x :: xs, h => by
    by_cases e : x = k
    · exact ⟨0, by unfold fidx; rw [if_pos e], by rw [e]; rfl⟩
    · obtain ⟨j, h1, h2⟩ := fidx_mem (k := k) (ks := xs) ((List.mem_cons.mp h).resolve_left fun z => e z.symm)
      exact ⟨j + 1, by unfold fidx; rw [if_neg e, h1]; rfl, by simpa using h2⟩
/-- the rows once a new code has an empty row -/
theorem rowsG_new {c : α → κ} {ts : List α} {k : κ} (h : k ∉ keysG c ts) : rowsG c (keysG c ts ++ [k]) ts = rowsG c (keysG c ts) ts ++ [[]] := by
  unfold rowsG
  rw [List.map_append, List.map_cons, List.map_nil]
  congr 2
  rw [List.filter_eq_nil_iff]
  intro t ht e
  exact h (keysG_mem.mpr ⟨t, ht, of_decide_eq_true e⟩)
theorem rowsG_get {c : α → κ} {ks : List κ} {ts : List α} {j : Nat} {k : κ} (h : ks[j]? = some k) : (rowsG c ks ts)[j]? = some (ts.filter fun t => decide (c t = k)) := by
  unfold rowsG
  rw [List.getElem?_map, h]
  rfl
theorem rowsG_set {c : α → κ} {ks : List κ} {ts : List α} {t : α} {j : Nat} (hd : ks.Nodup) (h : ks[j]? = some (c t)) : (rowsG c ks ts).set j ((ts.filter fun u => decide (c u = c t)) ++ [t]) = rowsG c ks (ts ++ [t]) := by
  refine List.ext_getElem? fun i => ?_
  unfold rowsG
  rw [List.getElem?_set, List.getElem?_map, List.getElem?_map, List.length_map]
  obtain ⟨hj, ej⟩ := List.getElem?_eq_some_iff.mp h
  by_cases e : j = i
  · subst e
    rw [if_pos rfl, if_pos hj, h]
    simp
  · rw [if_neg e]
    cases q : ks[i]? with
    | none => rfl
    | some k =>
      have : c t ≠ k := fun z => by
        obtain ⟨hi, ei⟩ := List.getElem?_eq_some_iff.mp q
        rcases Nat.lt_or_gt_of_ne e with l | l
        · exact List.pairwise_iff_getElem.mp hd _ _ hj hi l (by rw [ej, ei, z])
        · exact List.pairwise_iff_getElem.mp hd _ _ hi hj l (by rw [ej, ei, z])
      simp [this]
theorem keysG_comp {β : Type} [DecidableEq β] {f : κ → β} (hf : ∀ a b, f a = f b → a = b) (c : α → κ) (ts : List α) : keysG (fun t => f (c t)) ts = (keysG c ts).map f := by
  induction ts using snoc_ind with
  | h0 => rfl
  | hs ts t ih =>
    rw [keysG_snoc, keysG_snoc, ih]
    unfold kstep
    by_cases h : c t ∈ keysG c ts
    · rw [if_pos h, if_pos (List.mem_map_of_mem h)]
    · rw [if_neg h, if_neg, List.map_append]
      · rfl
      · intro z
        obtain ⟨u, h1, h2⟩ := List.mem_map.mp z
        exact h (hf _ _ h2 ▸ h1)
theorem rowsG_comp {β : Type} [DecidableEq β] {f : κ → β} (hf : ∀ a b, f a = f b → a = b) (c : α → κ) (ks : List κ) (ts : List α) : rowsG (fun t => f (c t)) (ks.map f) ts = rowsG c ks ts := by
  unfold rowsG
  rw [List.map_map]
  refine List.map_congr_left fun k _ => List.filter_congr fun t _ => ?_
  by_cases e : c t = k
  · rw [decide_eq_true e, decide_eq_true (congrArg f e)]
  · rw [decide_eq_false e, decide_eq_false fun z => e (hf _ _ z)]
def mkG (i : Nat) : List κ → List (κ × Nat)
  | [] => []
  | k :: ks => (k, i) :: mkG (i + 1) ks
theorem mkG_len : ∀ (i : Nat) (ks : List κ), (mkG i ks).length = ks.length
  | _, [] => rfl
  | i, k :: ks => by show (mkG (i + 1) ks).length + 1 = _; rw [mkG_len]; rfl
theorem mkG_has {k : κ} : ∀ (i : Nat) (ks : List κ), mhas (mkG i ks) k = decide (k ∈ ks)
  | _, [] => rfl
  | i, j :: ks => by
    show (decide (j = k) || mhas (mkG (i + 1) ks) k) = _
    rw [mkG_has (i + 1) ks]
    by_cases e : j = k
    · rw [decide_eq_true e, decide_eq_true (show k ∈ j :: ks from e ▸ List.mem_cons_self)]; rfl
    · rw [decide_eq_false e, Bool.false_or]
      by_cases q : k ∈ ks
      · rw [decide_eq_true q, decide_eq_true (List.mem_cons_of_mem _ q)]
      · rw [decide_eq_false q, decide_eq_false fun z => (List.mem_cons.mp z).elim (fun w => e w.symm) q]
theorem mkG_snoc {k : κ} : ∀ (i : Nat) (ks : List κ), mkG i (ks ++ [k]) = mkG i ks ++ [(k, i + ks.length)]
  | _, [] => rfl
  | i, j :: ks => by
    show (j, i) :: mkG (i + 1) (ks ++ [k]) = (j, i) :: (mkG (i + 1) ks ++ [(k, i + (ks.length + 1))])
    rw [mkG_snoc (i + 1) ks, show i + 1 + ks.length = i + (ks.length + 1) by omega]
theorem mkG_get {k : κ} : ∀ (i : Nat) (ks : List κ), mget (mkG i ks) k = (fidx k ks).map (i + ·)
  | _, [] => rfl
  | i, j :: ks => by
    show mget ((j, i) :: mkG (i + 1) ks) k = _
    rw [mget_cons]
    unfold fidx
    by_cases e : j = k
    · rw [if_pos e, if_pos e]; rfl
    · rw [if_neg e, if_neg e, mkG_get (i + 1) ks, Option.map_map]
      cases fidx k ks with
      | none => rfl
      | some x => show some (i + 1 + x) = some (i + (x + 1)); congr 1; omega
theorem mkG_vals : ∀ (i : Nat) (ks : List κ), (mkG i ks).map (·.2) = List.range' i ks.length
  | _, [] => rfl
  | i, k :: ks => by
    show i :: (mkG (i + 1) ks).map (·.2) = List.range' i (ks.length + 1)
    rw [mkG_vals (i + 1) ks]
    rfl
end
theorem filSt_const {α β γ : Type} {f : γ → α → R (Option β × γ)} {g : α → Option β} {s : γ} : ∀ {xs : List α}, (∀ x ∈ xs, f s x = R.ok (g x, s)) → filSt f s xs = R.ok (xs.filterMap g, s)
  | [], _ => rfl
  | x :: xs, h => by
    unfold filSt
    rw [h x List.mem_cons_self, ok_bind]
    show filSt f s xs >>= _ = _
    rw [filSt_const fun y hy => h y (List.mem_cons_of_mem _ hy), ok_bind, List.filterMap_cons]
    cases g x <;> rfl
theorem mapR_some {α β : Type} {f : α → R β} {g : α → Option β} : ∀ {xs : List α}, (∀ x ∈ xs, ∃ y, g x = some y ∧ f x = R.ok y) → mapR f xs = R.ok (xs.filterMap g)
  | [], _ => rfl
  | x :: xs, h => by
    obtain ⟨y, h1, h2⟩ := h x List.mem_cons_self
    unfold mapR
    rw [h2, ok_bind, mapR_some fun y hy => h y (List.mem_cons_of_mem _ hy), List.filterMap_cons, h1]
    rfl
theorem range_pick {β γ : Type} (st : List β) (p : β → Option γ) : (List.range st.length).filterMap (fun i => st[i]?.bind p) = st.filterMap p := by
  have key : ∀ m, m ≤ st.length → (List.range m).filterMap (fun i => st[i]?.bind p) = (st.take m).filterMap p := by
    intro m
    induction m with
    | zero => intro _; rfl
    | succ m ih =>
      intro h
      have e : st[m]? = some st[m] := List.getElem?_eq_getElem (by omega)
      rw [List.range_succ, List.filterMap_append, ih (by omega), List.take_add_one, List.filterMap_append, e]
      congr 1
      simp [List.filterMap_cons, e]
  rw [key _ (Nat.le_refl _), List.take_length]
/-- the rows of two or more: their numbers, and what they hold -/
theorem pick_deref {β : Type} (st : List (List β)) : deref st ((List.range st.length).filterMap fun i => st[i]?.bind fun (r : List β) => if decide ((1 : Int) < (r.length : Int)) = true then some i else none) = R.ok (st.filter fun r => decide ((1 : Int) < (r.length : Int))) := by
  unfold deref
  rw [mapR_some (g := fun i => st[i]?)]
  · congr 1
    rw [List.filterMap_filterMap]
    have : (fun (i : Nat) => (st[i]?.bind fun (r : List β) => if decide ((1 : Int) < (r.length : Int)) = true then some i else none).bind fun i => st[i]?) = fun (i : Nat) => st[i]?.bind fun (r : List β) => if decide ((1 : Int) < (r.length : Int)) = true then some r else none := by
      funext i
      cases e : st[i]? with
      | none => rfl
      | some r =>
        show ((if decide ((1 : Int) < (r.length : Int)) = true then some i else none).bind fun i => st[i]?) = (if decide ((1 : Int) < (r.length : Int)) = true then some r else none)
        by_cases q : decide ((1 : Int) < (r.length : Int)) = true
        · rw [if_pos q, if_pos q]; exact e
        · rw [if_neg q, if_neg q]; rfl
    rw [this, range_pick st fun (r : List β) => if decide ((1 : Int) < (r.length : Int)) = true then some r else none]
    rw [fil_ite]
  · intro i hi
    obtain ⟨k, _, hk⟩ := List.mem_filterMap.mp hi
    cases e : st[k]? with
    | none => rw [e] at hk; cases hk
    | some r =>
      rw [e] at hk
      have : k = i := by
        change (if decide ((1 : Int) < (r.length : Int)) = true then some k else none) = some i at hk
        split at hk
        · exact Option.some.inj hk
        · cases hk
      subst this
      exact ⟨r, e, by unfold getS; rw [e]; rfl⟩
theorem kind_len {n : Int} {ts : List (Int × Int)} {k : Str} (h : WebOk n ts) : (kindT n ts k).length ≤ 800 := by
  have hn1 := h.n1
  have hn := h.n60
  have hl := h.len
  have : (kindT n ts k).length ≤ (allT n ts).length := by
    unfold kindT allT
    rw [List.length_append]
    split
    · omega
    · split
      · omega
      · rw [List.length_append]; omega
  have := allT_len (ts := ts) (show 0 ≤ n by omega)
  omega
/-! pieces of a tree -/
abbrev Sd (n : Int) (ts : List (Int × Int)) (p s v : Int) : Prop := dst n ts v s + 1 = dst n ts v p
noncomputable def pieceL (n : Int) (ts : List (Int × Int)) (p s : Int) : List Int := (rng 0 n).filter fun v => decide (Sd n ts p s v)
theorem pieceL_mem {n : Int} {ts : List (Int × Int)} {p s v : Int} : v ∈ pieceL n ts p s ↔ (0 ≤ v ∧ v < n) ∧ Sd n ts p s v := by
  unfold pieceL
  rw [List.mem_filter, rng_mem, decide_eq_true_iff]
theorem side_adj {n : Int} {ts : List (Int × Int)} (t : TreeOk n ts) {p s u w : Int} (q : Adj ts p s) (hu : Sd n ts p s u) (qa : Adj ts u w) (hw : w ≠ p) : Sd n ts p s w := by
  have h := t.web
  obtain ⟨p0, p1, s0, s1, _⟩ := h.adj q
  obtain ⟨u0, u1, w0, w1, _⟩ := h.adj qa
  rcases edge_one t w0 w1 q with c | c
  · exfalso
    have := path_eq t q u0 u1 hu w0 w1 c
    have e1 := adj_one h qa
    have e2 := dst_nn h u0 u1 s0 s1
    have e3 := dst_nn h p0 p1 w0 w1
    unfold Sd at hu
    exact hw ((dst_zero h p0 p1 w0 w1).mp (by omega))
  · exact c
theorem side_self {n : Int} {ts : List (Int × Int)} (h : WebOk n ts) {p s : Int} (q : Adj ts p s) : Sd n ts p s s := by
  obtain ⟨p0, p1, s0, s1, _⟩ := h.adj q
  unfold Sd
  rw [dst_self h s0 s1, adj_one h q.symm]
  rfl
theorem side_not {n : Int} {ts : List (Int × Int)} (h : WebOk n ts) {p s : Int} (q : Adj ts p s) : ¬ Sd n ts p s p := by
  obtain ⟨p0, p1, s0, s1, _⟩ := h.adj q
  unfold Sd
  rw [dst_self h p0 p1, adj_one h q]
  decide
/-- what holds of a neighbour and goes from place to place beyond it holds of all of them -/
theorem side_ind {n : Int} {ts : List (Int × Int)} (t : TreeOk n ts) {p s : Int} (q : Adj ts p s) (S : Int → Prop) (h0 : S s) (hs : ∀ z v, S z → Adj ts z v → z ≠ p → v ≠ p → S v) : ∀ (m : Nat) (v : Int), (dst n ts s v).toNat ≤ m → 0 ≤ v → v < n → Sd n ts p s v → S v := by
  have h := t.web
  obtain ⟨p0, p1, s0, s1, _⟩ := h.adj q
  intro m
  induction m with
  | zero =>
    intro v hm v0 v1 _
    have := dst_nn h s0 s1 v0 v1
    have e : v = s := (dst_zero h s0 s1 v0 v1).mp (by omega)
    rw [e]
    exact h0
  | succ m ih =>
    intro v hm v0 v1 hv
    by_cases e : v = s
    · rw [e]; exact h0
    · obtain ⟨z, z0, z1, qz, ez⟩ := dst_near h s0 s1 v0 v1 e
      have hvp : v ≠ p := fun e => by rw [e] at hv; exact side_not h q hv
      have hzp : z ≠ p := fun e => by
        subst e
        have e1 := adj_one h q.symm
        have e2 := adj_one h qz.symm
        have e3 := dst_symm h s0 s1 v0 v1
        unfold Sd at hv
        omega
      exact hs z v (ih z (by omega) z0 z1 (side_adj t q hv qz.symm hzp)) qz hzp hvp
theorem piece_ok {n p s : Int} {ts : List (Int × Int)} (t : TreeOk n ts) (q : Adj ts p s) : piece_from (nears n ts) p s = R.ok (pieceL n ts p s) := by
  have h := t.web
  have hn1 := h.n1
  have hn := h.n60
  obtain ⟨p0, p1, s0, s1, hps⟩ := h.adj q
  refine po_iff ?_
  unfold piece_from
  have hk0 : ∀ v, v ∈ mkeys (mmk ([(p, true), (s, true)] : List (Int × Bool))) ↔ v = p ∨ v ∈ [s] := fun v => by
    show v ∈ mkeys (mput (mput ([] : List (Int × Bool)) p true) s true) ↔ _
    rw [mkeys_mput, mkeys_mput]
    show v ∈ (if s ∈ [p] then [p] else [p] ++ [s]) ↔ _
    rw [if_neg fun z => hps (List.mem_singleton.mp z).symm]
    simp
  refine po_bind (Q := fun g : Int × List Int × List (Int × Bool) => g.2.1.Nodup ∧ (∀ v, v ∈ g.2.1 ↔ (0 ≤ v ∧ v < n) ∧ Sd n ts p s v)) (po_while (fun g => 0 ≤ g.1 ∧ g.1 ≤ (g.2.1.length : Int) ∧ g.2.1.Nodup ∧ s ∈ g.2.1 ∧ (∀ v ∈ g.2.1, (0 ≤ v ∧ v < n) ∧ Sd n ts p s v) ∧ (∀ v, v ∈ mkeys g.2.2 ↔ v = p ∨ v ∈ g.2.1) ∧ g.2.2.length ≤ g.2.1.length + 1 ∧ ∀ i u, i < g.1.toNat → g.2.1[i]? = some u → ∀ w, Adj ts u w → w ∈ mkeys g.2.2) (fun g => n.toNat + 1 - g.1.toNat) ?_ (n := fu 1000) ?_ ?_) fun g ⟨g1, g2⟩ => ?_
  · rintro ⟨a, line, fd⟩ ⟨a0, a1, nd, hs, hm, hk, hl, hd⟩
    have a0' : 0 ≤ a := a0
    have a1' : a ≤ (line.length : Int) := a1
    have nd' : line.Nodup := nd
    have hs' : s ∈ line := hs
    have hm' : ∀ v ∈ line, (0 ≤ v ∧ v < n) ∧ Sd n ts p s v := hm
    have hk' : ∀ v, v ∈ mkeys fd ↔ v = p ∨ v ∈ line := hk
    have hl' : fd.length ≤ line.length + 1 := hl
    have hd' : ∀ i u, i < a.toNat → line[i]? = some u → ∀ w, Adj ts u w → w ∈ mkeys fd := hd
    clear a0 a1 nd hs hm hk hl hd
    have few : ∀ l : List Int, l.Nodup → (∀ v ∈ l, (0 ≤ v ∧ v < n) ∧ Sd n ts p s v) → l.length ≤ n.toNat := fun l h1 h2 => by
      have := nodup_le h1 (ys := rng 0 n) fun v hv => rng_mem.mpr (h2 v hv).1
      rw [rng_length] at this
      omega
    refine ⟨fun ht => ?_, fun hf => ?_⟩
    · have ht : a < (line.length : Int) := of_decide_eq_true ht
      refine po_get a0' ht fun u hu e2 => ?_
      have hu' := hm' u hu
      have hup : u ≠ p := fun e => by rw [e] at hu'; exact side_not h q hu'.2
      refine po_getE (nears_get hu'.1.1 hu'.1.2) ?_
      refine po_bind (po_foldP (fun pre (g : List Int × List (Int × Bool)) => (∃ more, g.1 = line ++ more) ∧ g.1.Nodup ∧ (∀ v ∈ g.1, (0 ≤ v ∧ v < n) ∧ Sd n ts p s v) ∧ (∀ v, v ∈ mkeys g.2 ↔ v = p ∨ v ∈ g.1) ∧ g.2.length ≤ g.1.length + 1 ∧ ∀ w ∈ pre, w ∈ mkeys g.2) ⟨⟨[], by rw [List.append_nil]⟩, nd', hm', hk', hl', fun _ h => nomatch h⟩ ?_) ?_
      · rintro pre ⟨ln, fd2⟩ w post ew ⟨⟨more, em⟩, k1, k2, k3, k4, k5⟩
        have em' : ln = line ++ more := em
        have k1' : ln.Nodup := k1
        have k2' : ∀ v ∈ ln, (0 ≤ v ∧ v < n) ∧ Sd n ts p s v := k2
        have k3' : ∀ v, v ∈ mkeys fd2 ↔ v = p ∨ v ∈ ln := k3
        have k4' : fd2.length ≤ ln.length + 1 := k4
        have k5' : ∀ w ∈ pre, w ∈ mkeys fd2 := k5
        clear em k1 k2 k3 k4 k5
        have hln := few ln k1' k2'
        have hw : w ∈ sortI (nbs ts u) := by rw [show sortI (nbs ts u) = pre ++ w :: post from ew]; simp
        have hw := nbs_mem.mp (sortI_mem.mp hw)
        obtain ⟨_, _, w0, w1, _⟩ := h.adj hw
        refine po_if (fun c => ?_) fun c => ?_
        · have hno : w ∉ mkeys fd2 := fun z => by
            rw [mhas_keys.mpr z] at c
            exact absurd c (by decide)
          have hwp : w ≠ p := fun e => hno ((k3' w).mpr (.inl e))
          have hwl : w ∉ ln := fun z => hno ((k3' w).mpr (.inr z))
          have hmk : mkeys (mput fd2 w true) = mkeys fd2 ++ [w] := by rw [mkeys_mput, if_neg hno]
          refine po_mput (by show fd2.length < 100000; omega) (po_app (by show ln.length < 100000; omega) ⟨⟨more ++ [w], ?_⟩, ?_, fun v hv => ?_, fun v => ?_, ?_, fun v hv => ?_⟩)
          · show ln ++ [w] = _
            rw [em', List.append_assoc]
          · refine List.nodup_append.mpr ⟨k1', List.nodup_cons.mpr ⟨by simp, List.nodup_nil⟩, fun x hx y hy e => ?_⟩
            rw [List.mem_singleton] at hy
            rw [hy] at e
            exact hwl (e ▸ hx)
          · rcases List.mem_append.mp hv with hv | hv
            · exact k2' v hv
            · rw [List.mem_singleton.mp hv]
              exact ⟨⟨w0, w1⟩, side_adj t q hu'.2 hw hwp⟩
          · show v ∈ mkeys (mput fd2 w true) ↔ v = p ∨ v ∈ ln ++ [w]
            rw [hmk, List.mem_append, List.mem_append, k3' v, or_assoc]
          · show (mput fd2 w true).length ≤ (ln ++ [w]).length + 1
            have := congrArg List.length hmk
            rw [mkeys_length, List.length_append, mkeys_length] at this
            rw [this, List.length_append]
            simp only [List.length_singleton]
            omega
          · show v ∈ mkeys (mput fd2 w true)
            rw [hmk]
            rcases List.mem_append.mp hv with hv | hv
            · exact List.mem_append_left _ (k5' v hv)
            · rw [List.mem_singleton.mp hv]
              simp
        · have hyes : w ∈ mkeys fd2 := by
            refine mhas_keys.mp ?_
            cases e : mhas fd2 w with
            | true => rfl
            | false => exact absurd (by rw [e]; rfl) c
          refine ⟨⟨more, em'⟩, k1', k2', k3', k4', fun v hv => ?_⟩
          rcases List.mem_append.mp hv with hv | hv
          · exact k5' v hv
          · rw [List.mem_singleton.mp hv]
            exact hyes
      · rintro ⟨ln, fd2⟩ ⟨⟨more, em⟩, k1, k2, k3, k4, k5⟩
        have em' : ln = line ++ more := em
        have k5' : ∀ w ∈ sortI (nbs ts u), w ∈ mkeys fd2 := k5
        have k3' : ∀ v, v ∈ mkeys fd2 ↔ v = p ∨ v ∈ ln := k3
        have hln := few ln k1 k2
        have hll : ln.length = line.length + more.length := by rw [em', List.length_append]
        refine ⟨⟨by show 0 ≤ a + 1; omega, by show a + 1 ≤ (ln.length : Int); omega, k1, ?_, k2, k3, k4, fun i v hi hv w qw => ?_⟩, ?_⟩
        · show s ∈ ln
          rw [em']
          exact List.mem_append_left _ hs'
        · show w ∈ mkeys fd2
          have hi' : i < (a + 1).toNat := hi
          have hv' : ln[i]? = some v := hv
          rw [em', List.getElem?_append_left (by omega)] at hv'
          by_cases hia : i < a.toNat
          · have := (hk' w).mp (hd' i v hia hv' w qw)
            refine (k3' w).mpr (this.imp id fun z => ?_)
            rw [em']
            exact List.mem_append_left _ z
          · have : i = a.toNat := by omega
            subst this
            rw [e2] at hv'
            cases hv'
            exact k5' w (sortI_mem.mpr (nbs_mem.mpr qw))
        · show n.toNat + 1 - (a + 1).toNat < n.toNat + 1 - a.toNat
          have := few line nd' hm'
          omega
    · have hf : ¬ a < (line.length : Int) := of_decide_eq_false hf
      have ea : a.toNat = line.length := by omega
      refine ⟨nd', fun v => ⟨hm' v, fun ⟨hv, hsd⟩ => ?_⟩⟩
      refine side_ind t q (fun v => v ∈ line) hs' (fun z v hz qz hzp hvp => ?_) _ v (Nat.le_refl _) hv.1 hv.2 hsd
      obtain ⟨i, hi, e⟩ := List.mem_iff_getElem.mp hz
      have := hd' i z (by omega) (by rw [List.getElem?_eq_getElem hi, e]) v qz
      exact ((hk' v).mp this).resolve_left hvp
  · refine ⟨Int.le_refl _, by show (0 : Int) ≤ ((1 : Nat) : Int); decide, List.nodup_cons.mpr ⟨by simp, List.nodup_nil⟩, List.mem_singleton.mpr rfl, fun v hv => ?_, hk0, ?_, fun i u hi => absurd hi (Nat.not_lt_zero _)⟩
    · rw [List.mem_singleton.mp hv]
      exact ⟨⟨s0, s1⟩, side_self h q⟩
    · have e : mkeys (mmk ([(p, true), (s, true)] : List (Int × Bool))) = [p] ++ [s] := by
        show mkeys (mput (mput ([] : List (Int × Bool)) p true) s true) = _
        rw [mkeys_mput, mkeys_mput]
        show (if s ∈ [p] then [p] else [p] ++ [s]) = _
        rw [if_neg fun z => hps (List.mem_singleton.mp z).symm]
      have := congrArg List.length e
      rw [mkeys_length] at this
      show (mmk ([(p, true), (s, true)] : List (Int × Bool))).length ≤ _
      rw [this]
      exact Nat.le_refl 2
  · rw [fu_eq]
    show n.toNat + 1 - 0 < 1000
    omega
  · show sortI g.2.1 = pieceL n ts p s
    refine (sortI_eq (perm_nodup ((rng_nodup 0 n).filter _) g1 fun x => ?_) (((rng_sorted 0 n).sublist List.filter_sublist).imp fun h => Int.le_of_lt h)).symm
    rw [g2 x]
    exact pieceL_mem
theorem all_near_ok {n : Int} {ts : List (Int × Int)} (h : WebOk n ts) : all_near (n, ⟨ts⟩) = R.ok (nears n ts) := by
  have hn1 := h.n1
  have hn := h.n60
  refine po_iff ?_
  unfold all_near
  refine po_rng (by decide) (by decide) (by show -(2 ^ 62) ≤ n; omega) (by show n < 2 ^ 62; omega) ?_
  refine po_mapGE (g := fun p => sortI (nbs ts p)) (by show (rng 0 n).length < 100000; rw [rng_length]; omega) (fun p hp => by rw [nbr_ok h (rng_mem.mp hp).1 (rng_mem.mp hp).2]; rfl) rfl
/-! what looks tell two things of a tree apart -/
section
variable {n : Int} {ts : List (Int × Int)}
def isEnd (v : Int) : Thing → Prop
  | .pl i => i = v
  | .ti a b => a = v ∨ b = v
/-- v is the end of a thing that is the nearer one, from m -/
def NearEnd (n : Int) (ts : List (Int × Int)) (m v : Int) : Thing → Prop
  | .pl i => i = v
  | .ti a b => (a = v ∧ dst n ts m v + 1 = dst n ts m b) ∨ (b = v ∧ dst n ts m v + 1 = dst n ts m a)
theorem end_rg (h : WebOk n ts) {v : Int} {Y : Thing} (hY : ThOk n ts Y) (e : isEnd v Y) : 0 ≤ v ∧ v < n := by
  cases Y with
  | pl i =>
    have e' : i = v := e
    rw [← e']; exact hY
  | ti a b =>
    have hab : (a, b) ∈ ts := hY
    have := h.rg4 _ hab
    rcases (show a = v ∨ b = v from e) with e | e <;> rw [← e]
    · exact ⟨this.1, this.2.1⟩
    · exact this.2.2
theorem far_le {l v : Int} {Y : Thing} (e : isEnd v Y) : farT n ts l Y ≤ dst n ts l v := by
  cases Y with
  | pl i =>
    have e' : i = v := e
    rw [← e']; exact Int.le_refl _
  | ti a b =>
    show min2 (dst n ts l a) (dst n ts l b) ≤ _
    rcases (show a = v ∨ b = v from e) with e | e <;> rw [← e] <;> rcases mm_cases (dst n ts l a) (dst n ts l b) with ⟨w, _⟩ | ⟨w, _⟩ <;> rw [w] <;> omega
theorem near_end {m v : Int} {Y : Thing} (e : NearEnd n ts m v Y) : isEnd v Y := by
  cases Y with
  | pl i => exact e
  | ti a b => exact e.imp (fun z => z.1) fun z => z.1
end
section
variable {n : Int} {ts : List (Int × Int)} (t : TreeOk n ts)
include t
theorem far_out {m s v l : Int} {Y : Thing} (hY : ThOk n ts Y) (e : NearEnd n ts m v Y) (q : Adj ts m s) (hv : Sd n ts m s v) (l0 : 0 ≤ l) (l1 : l < n) (hl : dst n ts l m + 1 = dst n ts l s) : farT n ts l Y = dst n ts l m + dst n ts m v := by
  have h := t.web
  obtain ⟨m0, m1, s0, s1, _⟩ := h.adj q
  obtain ⟨v0, v1⟩ := end_rg h hY (near_end e)
  have p1 := path_eq t q v0 v1 hv l0 l1 hl
  rw [dst_symm h l0 l1 v0 v1, dst_symm h m0 m1 v0 v1, dst_symm h l0 l1 m0 m1] at p1
  have other : ∀ w, 0 ≤ w → w < n → Adj ts v w → dst n ts m v + 1 = dst n ts m w → dst n ts l w = dst n ts l m + dst n ts m v + 1 := fun w w0 w1 qw ew => by
    have hw : Sd n ts m s w := by
      rcases edge_one t w0 w1 q with c | c
      · exfalso
        have := path_eq t q v0 v1 hv w0 w1 c
        rw [adj_one h qw, dst_symm h m0 m1 v0 v1] at this
        unfold Sd at hv
        rw [dst_symm h m0 m1 v0 v1] at hv
        have := dst_nn h v0 v1 s0 s1
        omega
      · exact c
    have p2 := path_eq t q w0 w1 hw l0 l1 hl
    rw [dst_symm h l0 l1 w0 w1, dst_symm h m0 m1 w0 w1, dst_symm h l0 l1 m0 m1] at p2
    omega
  cases Y with
  | pl i =>
    have e' : i = v := e
    subst e'
    show dst n ts l i = _
    omega
  | ti a b =>
    have hab : (a, b) ∈ ts := hY
    have hr := h.rg4 _ hab
    show min2 (dst n ts l a) (dst n ts l b) = _
    rcases (show (a = v ∧ dst n ts m v + 1 = dst n ts m b) ∨ (b = v ∧ dst n ts m v + 1 = dst n ts m a) from e) with ⟨e1, e2⟩ | ⟨e1, e2⟩
    · subst e1
      have := other b hr.2.2.1 hr.2.2.2 (.inl hab) e2
      rcases mm_cases (dst n ts l a) (dst n ts l b) with ⟨w, _⟩ | ⟨w, _⟩ <;> rw [w] <;> omega
    · subst e1
      have := other a hr.1 hr.2.1 (.inr hab) e2
      rcases mm_cases (dst n ts l a) (dst n ts l b) with ⟨w, _⟩ | ⟨w, _⟩ <;> rw [w] <;> omega
theorem far_in {m s v l : Int} {Y : Thing} (hY : ThOk n ts Y) (e : isEnd v Y) (q : Adj ts m s) (hv : Sd n ts m s v) (l0 : 0 ≤ l) (l1 : l < n) (hl : Sd n ts m s l) : farT n ts l Y ≤ dst n ts l m + dst n ts m v - 2 := by
  have h := t.web
  obtain ⟨m0, m1, s0, s1, _⟩ := h.adj q
  obtain ⟨v0, v1⟩ := end_rg h hY e
  have e1 := far_le (n := n) (ts := ts) (l := l) e
  have e2 := dtri h l0 l1 s0 s1 v0 v1
  unfold Sd at hv hl
  rw [dst_symm h s0 s1 v0 v1, dst_symm h m0 m1 v0 v1] at hv
  omega
theorem near_of {u v m k : Int} {Y : Thing} (hY : ThOk n ts Y) (e : isEnd v Y) (u0 : 0 ≤ u) (u1 : u < n) (m0 : 0 ≤ m) (m1 : m < n) (hk : ∀ w, isEnd w Y → k ≤ dst n ts u w) (hm : dst n ts u m + dst n ts m v = k) : NearEnd n ts m v Y := by
  have h := t.web
  cases Y with
  | pl i => exact e
  | ti a b =>
    have hab : (a, b) ∈ ts := hY
    have hr := h.rg4 _ hab
    rcases (show a = v ∨ b = v from e) with e1 | e1
    · subst e1
      refine .inl ⟨rfl, ?_⟩
      rcases edge_one t m0 m1 (.inl hab : Adj ts a b) with c | c
      · exact c
      · exfalso
        have h1 := hk b (.inr rfl)
        have h2 := dtri h u0 u1 m0 m1 (c := b) hr.2.2.1 hr.2.2.2
        omega
    · subst e1
      refine .inr ⟨rfl, ?_⟩
      rcases edge_one t m0 m1 (.inr hab : Adj ts b a) with c | c
      · exact c
      · exfalso
        have h1 := hk a (.inl rfl)
        have h2 := dtri h u0 u1 m0 m1 (c := a) hr.1 hr.2.1
        omega
/-- a place has one neighbour alone towards another one -/
theorem side_one {m s s' l : Int} (l0 : 0 ≤ l) (l1 : l < n) (q : Adj ts m s) (q' : Adj ts m s') (h1 : Sd n ts m s l) (h2 : Sd n ts m s' l) : s = s' := near_uniq t l0 l1 q.symm q'.symm h1 h2
theorem not_side {m s l : Int} (l0 : 0 ≤ l) (l1 : l < n) (q : Adj ts m s) (h1 : ¬ Sd n ts m s l) : dst n ts l m + 1 = dst n ts l s := (edge_one t l0 l1 q).resolve_right h1
theorem parted {X Y : Thing} (hX : ThOk n ts X) (hY : ThOk n ts Y) (hne : X ≠ Y) :
    (∀ l, 0 ≤ l → l < n → farT n ts l X ≠ farT n ts l Y) ∨
    (∃ m s s', Adj ts m s ∧ Adj ts m s' ∧ s ≠ s' ∧ ∀ l, 0 ≤ l → l < n → Sd n ts m s l ∨ Sd n ts m s' l → farT n ts l X ≠ farT n ts l Y) ∨
    (∃ m s, Adj ts m s ∧ ((∃ i a b, X = .pl i ∧ Y = .ti a b) ∨ (∃ i a b, X = .ti a b ∧ Y = .pl i)) ∧ ∀ l, 0 ≤ l → l < n → Sd n ts m s l → farT n ts l X ≠ farT n ts l Y) := by
  have h := t.web
  -- the nearest ends
  have hex : ∀ Z : Thing, ∃ v, isEnd v Z := fun Z => by
    cases Z with
    | pl i => exact ⟨i, rfl⟩
    | ti a b => exact ⟨a, .inl rfl⟩
  obtain ⟨k, ⟨u, v, hu, hv, ek⟩, hmin⟩ := least (P := fun k : Nat => ∃ u v, isEnd u X ∧ isEnd v Y ∧ dst n ts u v = (k : Int)) (by
    obtain ⟨u, hu⟩ := hex X
    obtain ⟨v, hv⟩ := hex Y
    obtain ⟨u0, u1⟩ := end_rg h hX hu
    obtain ⟨v0, v1⟩ := end_rg h hY hv
    have := dst_nn h u0 u1 v0 v1
    exact ⟨(dst n ts u v).toNat, u, v, hu, hv, by omega⟩)
  obtain ⟨u0, u1⟩ := end_rg h hX hu
  obtain ⟨v0, v1⟩ := end_rg h hY hv
  have hmin' : ∀ u' v', isEnd u' X → isEnd v' Y → (k : Int) ≤ dst n ts u' v' := fun u' v' hu' hv' => by
    apply Classical.byContradiction
    intro hc
    obtain ⟨a0, a1⟩ := end_rg h hX hu'
    obtain ⟨b0, b1⟩ := end_rg h hY hv'
    have := dst_nn h a0 a1 b0 b1
    exact hmin (dst n ts u' v').toNat (by omega) ⟨u', v', hu', hv', by omega⟩
  have hminY : ∀ w, isEnd w Y → (k : Int) ≤ dst n ts u w := fun w hw => hmin' u w hu hw
  have hminX : ∀ w, isEnd w X → (k : Int) ≤ dst n ts v w := fun w hw => by
    obtain ⟨w0, w1⟩ := end_rg h hX hw
    rw [dst_symm h w0 w1 v0 v1]
    exact hmin' w v hw hv
  have ek' : dst n ts v u = (k : Int) := by rw [dst_symm h u0 u1 v0 v1]; exact ek
  obtain ⟨j, hj⟩ : ∃ j, k = 2 * j ∨ k = 2 * j + 1 := ⟨k / 2, by omega⟩
  rcases hj with hj | hj
  · by_cases j0 : j = 0
    · -- a common end
      have euv : v = u := (dst_zero h u0 u1 v0 v1).mp (by omega)
      subst euv
      cases X with
      | pl i =>
        have ei : i = v := hu
        subst ei
        cases Y with
        | pl i' =>
          have ei' : i' = i := hv
          subst ei'
          exact absurd rfl hne
        | ti a b =>
          have hab : (a, b) ∈ ts := hY
          have key : ∀ w, Adj ts i w → (∀ l, farT n ts l (.ti a b) = min2 (dst n ts l i) (dst n ts l w) ∨ farT n ts l (.ti a b) = min2 (dst n ts l w) (dst n ts l i)) → _ := fun w qw hf => (.inr (.inr ⟨i, w, qw, .inl ⟨i, a, b, rfl, rfl⟩, fun l l0 l1 hs => by
            unfold Sd at hs
            show dst n ts l i ≠ _
            rcases hf l with e | e <;> rw [e]
            · rcases mm_cases (dst n ts l i) (dst n ts l w) with ⟨z, _⟩ | ⟨z, _⟩ <;> rw [z] <;> omega
            · rcases mm_cases (dst n ts l w) (dst n ts l i) with ⟨z, _⟩ | ⟨z, _⟩ <;> rw [z] <;> omega⟩) : (∀ l, 0 ≤ l → l < n → farT n ts l (.pl i) ≠ farT n ts l (.ti a b)) ∨
    (∃ m s s', Adj ts m s ∧ Adj ts m s' ∧ s ≠ s' ∧ ∀ l, 0 ≤ l → l < n → Sd n ts m s l ∨ Sd n ts m s' l → farT n ts l (.pl i) ≠ farT n ts l (.ti a b)) ∨
    (∃ m s, Adj ts m s ∧ ((∃ i' a' b', Thing.pl i = .pl i' ∧ Thing.ti a b = .ti a' b') ∨ (∃ i' a' b', Thing.pl i = .ti a' b' ∧ Thing.ti a b = .pl i')) ∧ ∀ l, 0 ≤ l → l < n → Sd n ts m s l → farT n ts l (.pl i) ≠ farT n ts l (.ti a b)))
          rcases (show a = i ∨ b = i from hv) with e | e
          · subst e
            exact key b (.inl hab) fun l => .inl rfl
          · subst e
            exact key a (.inr hab) fun l => .inr rfl
      | ti a b =>
        have hab : (a, b) ∈ ts := hX
        cases Y with
        | pl i =>
          have ei : i = v := hv
          subst ei
          rcases (show a = i ∨ b = i from hu) with e | e
          · subst e
            refine .inr (.inr ⟨a, b, .inl hab, .inr ⟨a, a, b, rfl, rfl⟩, fun l l0 l1 hs => ?_⟩)
            unfold Sd at hs
            show min2 (dst n ts l a) (dst n ts l b) ≠ dst n ts l a
            rcases mm_cases (dst n ts l a) (dst n ts l b) with ⟨z, _⟩ | ⟨z, _⟩ <;> rw [z] <;> omega
          · subst e
            refine .inr (.inr ⟨b, a, .inr hab, .inr ⟨b, a, b, rfl, rfl⟩, fun l l0 l1 hs => ?_⟩)
            unfold Sd at hs
            show min2 (dst n ts l a) (dst n ts l b) ≠ dst n ts l b
            rcases mm_cases (dst n ts l a) (dst n ts l b) with ⟨z, _⟩ | ⟨z, _⟩ <;> rw [z] <;> omega
        | ti c d =>
          have hcd : (c, d) ∈ ts := hY
          have far2 : ∀ x y l, (x, y) ∈ ts → ∀ w, (x = v ∧ y = w) ∨ (y = v ∧ x = w) → Adj ts v w ∧ ((farT n ts l (.ti x y) = dst n ts l v ∨ farT n ts l (.ti x y) = dst n ts l w) ∧ farT n ts l (.ti x y) ≤ dst n ts l v ∧ farT n ts l (.ti x y) ≤ dst n ts l w) := fun x y l hxy w e => by
            show _ ∧ ((min2 (dst n ts l x) (dst n ts l y) = _ ∨ min2 (dst n ts l x) (dst n ts l y) = _) ∧ min2 (dst n ts l x) (dst n ts l y) ≤ _ ∧ min2 (dst n ts l x) (dst n ts l y) ≤ _)
            rcases e with ⟨e1, e2⟩ | ⟨e1, e2⟩
            · rw [← e1, ← e2]
              refine ⟨.inl hxy, ?_⟩
              rcases mm_cases (dst n ts l x) (dst n ts l y) with ⟨z, _⟩ | ⟨z, _⟩ <;> rw [z] <;> omega
            · rw [← e1, ← e2]
              refine ⟨.inr hxy, ?_⟩
              rcases mm_cases (dst n ts l x) (dst n ts l y) with ⟨z, _⟩ | ⟨z, _⟩ <;> rw [z] <;> omega
          obtain ⟨w, hw⟩ : ∃ w, (a = v ∧ b = w) ∨ (b = v ∧ a = w) := (show a = v ∨ b = v from hu).elim (fun z => ⟨b, .inl ⟨z, rfl⟩⟩) fun z => ⟨a, .inr ⟨z, rfl⟩⟩
          obtain ⟨w', hw'⟩ : ∃ w', (c = v ∧ d = w') ∨ (d = v ∧ c = w') := (show c = v ∨ d = v from hv).elim (fun z => ⟨d, .inl ⟨z, rfl⟩⟩) fun z => ⟨c, .inr ⟨z, rfl⟩⟩
          have q1 := (far2 a b v hab w hw).1
          have q2 := (far2 c d v hcd w' hw').1
          have r1 := h.rg _ hab
          have r2 := h.rg _ hcd
          have hww : w ≠ w' := fun e => by
            refine hne ?_
            have : a = c ∧ b = d := by
              dsimp only at r1 r2
              omega
            rw [this.1, this.2]
          refine .inr (.inl ⟨v, w, w', q1, q2, hww, fun l l0 l1 hs => ?_⟩)
          have f1 := (far2 a b l hab w hw).2
          have f2 := (far2 c d l hcd w' hw').2
          have g1 : Sd n ts v w l ∨ dst n ts l v + 1 = dst n ts l w := (edge_one t l0 l1 q1).symm
          have g2 : Sd n ts v w' l ∨ dst n ts l v + 1 = dst n ts l w' := (edge_one t l0 l1 q2).symm
          have g3 : ¬ (Sd n ts v w l ∧ Sd n ts v w' l) := fun z => hww (side_one t l0 l1 q1 q2 z.1 z.2)
          unfold Sd at g1 g2 g3 hs
          omega
    · -- a place in the middle
      obtain ⟨m, m0, m1, e1, e2⟩ := mid_ex t u0 u1 v0 v1 j (by omega)
      have hmu : m ≠ u := fun e => by
        subst e
        have := dst_self h m0 m1
        omega
      have hmv : m ≠ v := fun e => by
        subst e
        have := dst_self h m0 m1
        omega
      obtain ⟨s, s0, s1, qs, es⟩ := dst_near h u0 u1 m0 m1 hmu
      obtain ⟨s', s0', s1', qs', es'⟩ := dst_near h v0 v1 m0 m1 hmv
      have e2' : dst n ts v m = (j : Int) := by rw [dst_symm h m0 m1 v0 v1]; exact e2
      have e1' : dst n ts m u = (j : Int) := by rw [dst_symm h u0 u1 m0 m1]; omega
      have hss : s ≠ s' := fun e => by
        subst e
        have := dtri h u0 u1 s0 s1 v0 v1
        rw [dst_symm h v0 v1 s0 s1] at this
        omega
      have nY := near_of t (m := m) hY hv u0 u1 m0 m1 hminY (by omega)
      have nX := near_of t (m := m) hX hu v0 v1 m0 m1 hminX (by omega)
      have sv : Sd n ts m s' v := es'
      have su : Sd n ts m s u := es
      refine .inr (.inl ⟨m, s, s', qs.symm, qs'.symm, hss, fun l l0 l1 hs => ?_⟩)
      rcases hs with hs | hs
      · have hn : ¬ Sd n ts m s' l := fun z => hss (side_one t l0 l1 qs.symm qs'.symm hs z)
        have f1 := far_in t hX hu qs.symm su l0 l1 hs
        have f2 := far_out t hY nY qs'.symm sv l0 l1 (not_side t l0 l1 qs'.symm hn)
        omega
      · have hn : ¬ Sd n ts m s l := fun z => hss (side_one t l0 l1 qs.symm qs'.symm z hs)
        have f1 := far_in t hY hv qs'.symm sv l0 l1 hs
        have f2 := far_out t hX nX qs.symm su l0 l1 (not_side t l0 l1 qs.symm hn)
        omega
  · -- a tie in the middle
    obtain ⟨p, p0, p1, e1, e2⟩ := mid_ex t u0 u1 v0 v1 (j + 1) (by omega)
    have hpv : p ≠ v := fun e => by
      subst e
      have := dst_self h p0 p1
      omega
    obtain ⟨q, q0, q1, qq, eq⟩ := dst_near h v0 v1 p0 p1 hpv
    have e2' : dst n ts v p = (j : Int) + 1 := by rw [dst_symm h p0 p1 v0 v1]; omega
    have e1' : dst n ts u p = (j : Int) := by omega
    have t1 := dtri h u0 u1 q0 q1 v0 v1
    rw [dst_symm h v0 v1 q0 q1] at t1
    have t2 := dst_lip h u0 u1 qq.symm
    have euq : dst n ts u q = (j : Int) + 1 := by omega
    have evq : dst n ts v q = (j : Int) := by omega
    have nY := near_of t (m := p) hY hv u0 u1 p0 p1 hminY (by omega)
    have nX := near_of t (m := q) hX hu v0 v1 q0 q1 hminX (by rw [dst_symm h u0 u1 q0 q1]; omega)
    refine .inl fun l l0 l1 => ?_
    rcases edge_one t l0 l1 qq.symm with c | c
    · have f2 := far_out t hY nY qq.symm (show dst n ts v q + 1 = dst n ts v p by omega) l0 l1 c
      have f1 := far_le (n := n) (ts := ts) (l := l) hu
      have f3 := dtri h l0 l1 p0 p1 u0 u1
      rw [dst_symm h u0 u1 p0 p1] at f3
      omega
    · have f2 := far_out t hX nX qq (show dst n ts u p + 1 = dst n ts u q by omega) l0 l1 c
      have f1 := far_le (n := n) (ts := ts) (l := l) hv
      have f3 := dtri h l0 l1 q0 q1 v0 v1
      rw [dst_symm h v0 v1 q0 q1] at f3
      rw [dst_symm h u0 u1 q0 q1] at f2
      omega
end
/-! counting looks -/
theorem fil_mono {α : Type} {p r : α → Bool} : ∀ {xs : List α}, (∀ x ∈ xs, p x = true → r x = true) → (xs.filter p).length ≤ (xs.filter r).length
  | [], _ => Nat.le_refl _
  | x :: xs, h => by
    have ih := fil_mono fun y hy => h y (List.mem_cons_of_mem _ hy)
    rw [List.filter_cons, List.filter_cons]
    by_cases c : p x = true
    · rw [if_pos c, if_pos (h x List.mem_cons_self c), List.length_cons, List.length_cons]
      omega
    · rw [if_neg c]
      split
      · rw [List.length_cons]; omega
      · exact ih
theorem fil_or {α : Type} {p q : α → Bool} : ∀ {xs : List α}, (∀ x ∈ xs, ¬ (p x = true ∧ q x = true)) → (xs.filter fun x => p x || q x).length = (xs.filter p).length + (xs.filter q).length
  | [], _ => rfl
  | x :: xs, h => by
    have ih := fil_or fun y hy => h y (List.mem_cons_of_mem _ hy)
    have hx := h x List.mem_cons_self
    rw [List.filter_cons, List.filter_cons, List.filter_cons]
    cases ep : p x <;> cases eq : q x
    · exact ih
    · show _ + 1 = _ + (_ + 1)
      rw [ih]
      rfl
    · show _ + 1 = _ + 1 + (xs.filter q).length
      rw [ih]
      omega
    · exact absurd ⟨ep, eq⟩ hx
section
variable {n : Int} {ts : List (Int × Int)} {ls : List Int}
/-- how many looks lie beyond a neighbour -/
noncomputable def cnt (n : Int) (ts : List (Int × Int)) (ls : List Int) (m s : Int) : Int := ((ls.filter fun l => decide (Sd n ts m s l)).length : Int)
theorem cnt_nn {m s : Int} : 0 ≤ cnt n ts ls m s := by unfold cnt; omega
theorem unl_code {X Y : Thing} : unl (codeT n ts ls X) (codeT n ts ls Y) = ((ls.filter fun l => !decide (farT n ts l X = farT n ts l Y)).length : Int) := by
  unfold unl codeT
  rw [List.zip_map', List.filter_map, List.length_map]
  rfl
theorem unl_all {X Y : Thing} (hl : LooksOk n ls) (h : ∀ l, 0 ≤ l → l < n → farT n ts l X ≠ farT n ts l Y) : unl (codeT n ts ls X) (codeT n ts ls Y) = (ls.length : Int) := by
  rw [unl_code]
  congr 2
  refine List.filter_eq_self.mpr fun l hm => ?_
  rw [decide_eq_false (h l (hl.rg l hm).1 (hl.rg l hm).2)]
  rfl
theorem cnt_one_le {m s : Int} {X Y : Thing} (hl : LooksOk n ls) (h : ∀ l, 0 ≤ l → l < n → Sd n ts m s l → farT n ts l X ≠ farT n ts l Y) : cnt n ts ls m s ≤ unl (codeT n ts ls X) (codeT n ts ls Y) := by
  rw [unl_code]
  unfold cnt
  have := fil_mono (xs := ls) (p := fun l => decide (Sd n ts m s l)) (r := fun l => !decide (farT n ts l X = farT n ts l Y)) fun l hm hs => by
    rw [decide_eq_false (h l (hl.rg l hm).1 (hl.rg l hm).2 (of_decide_eq_true hs))]
    rfl
  omega
theorem cnt_one_eq {m s : Int} {X Y : Thing} (hl : LooksOk n ls) (h : ∀ l, 0 ≤ l → l < n → (Sd n ts m s l ↔ farT n ts l X ≠ farT n ts l Y)) : unl (codeT n ts ls X) (codeT n ts ls Y) = cnt n ts ls m s := by
  rw [unl_code]
  unfold cnt
  congr 2
  refine List.filter_congr fun l hm => ?_
  have := h l (hl.rg l hm).1 (hl.rg l hm).2
  by_cases c : farT n ts l X = farT n ts l Y
  · rw [decide_eq_true c, decide_eq_false fun z => this.mp z c]
    rfl
  · rw [decide_eq_false c, decide_eq_true (this.mpr c)]
    rfl
end
section
variable {n : Int} {ts : List (Int × Int)} {ls : List Int} (t : TreeOk n ts) (hl : LooksOk n ls)
include t hl
theorem cnt_sum {m s s' : Int} (q : Adj ts m s) (q' : Adj ts m s') (hne : s ≠ s') : cnt n ts ls m s + cnt n ts ls m s' = ((ls.filter fun l => decide (Sd n ts m s l) || decide (Sd n ts m s' l)).length : Int) := by
  unfold cnt
  rw [fil_or fun l hm z => hne (side_one t (hl.rg l hm).1 (hl.rg l hm).2 q q' (of_decide_eq_true z.1) (of_decide_eq_true z.2))]
  omega
theorem cnt_two_le {m s s' : Int} {X Y : Thing} (q : Adj ts m s) (q' : Adj ts m s') (hne : s ≠ s') (h : ∀ l, 0 ≤ l → l < n → Sd n ts m s l ∨ Sd n ts m s' l → farT n ts l X ≠ farT n ts l Y) : cnt n ts ls m s + cnt n ts ls m s' ≤ unl (codeT n ts ls X) (codeT n ts ls Y) := by
  rw [cnt_sum t hl q q' hne, unl_code]
  have := fil_mono (xs := ls) (p := fun l => decide (Sd n ts m s l) || decide (Sd n ts m s' l)) (r := fun l => !decide (farT n ts l X = farT n ts l Y)) fun l hm hs => by
    rw [Bool.or_eq_true, decide_eq_true_iff, decide_eq_true_iff] at hs
    rw [decide_eq_false (h l (hl.rg l hm).1 (hl.rg l hm).2 hs)]
    rfl
  omega
theorem cnt_two_eq {m s s' : Int} {X Y : Thing} (q : Adj ts m s) (q' : Adj ts m s') (hne : s ≠ s') (h : ∀ l, 0 ≤ l → l < n → (Sd n ts m s l ∨ Sd n ts m s' l ↔ farT n ts l X ≠ farT n ts l Y)) : unl (codeT n ts ls X) (codeT n ts ls Y) = cnt n ts ls m s + cnt n ts ls m s' := by
  rw [cnt_sum t hl q q' hne, unl_code]
  congr 2
  refine List.filter_congr fun l hm => ?_
  have := h l (hl.rg l hm).1 (hl.rg l hm).2
  by_cases c : farT n ts l X = farT n ts l Y
  · rw [decide_eq_true c, decide_eq_false fun z => this.mp (.inl z) c, decide_eq_false fun z => this.mp (.inr z) c]
    rfl
  · rw [decide_eq_false c]
    rcases this.mpr c with z | z
    · rw [decide_eq_true z]; rfl
    · rw [decide_eq_true z, Bool.or_true]; rfl
theorem cnt_sum_le {m s s' : Int} (q : Adj ts m s) (q' : Adj ts m s') (hne : s ≠ s') : cnt n ts ls m s + cnt n ts ls m s' ≤ (ls.length : Int) := by
  rw [cnt_sum t hl q q' hne]
  have := List.length_filter_le (fun l => decide (Sd n ts m s l) || decide (Sd n ts m s' l)) ls
  omega
omit t hl
/-- the tie of two neighbours -/
def tieT (m s : Int) : Thing := .ti (min2 m s) (max2 m s)
theorem tieT_ok (h : WebOk n ts) {m s : Int} (q : Adj ts m s) : ThOk n ts (tieT m s) := by
  show (min2 m s, max2 m s) ∈ ts
  rcases q with q | q
  · have := h.rg _ q
    rcases mm_cases m s with ⟨w1, w2, w3⟩ | ⟨w1, w2, w3⟩ <;> rw [w1, w2]
    · exact q
    · dsimp only at this; omega
  · have := h.rg _ q
    rcases mm_cases m s with ⟨w1, w2, w3⟩ | ⟨w1, w2, w3⟩ <;> rw [w1, w2]
    · dsimp only at this; omega
    · exact q
theorem tieT_far {m s l : Int} : farT n ts l (tieT m s) ≤ dst n ts l m ∧ farT n ts l (tieT m s) ≤ dst n ts l s ∧ (farT n ts l (tieT m s) = dst n ts l m ∨ farT n ts l (tieT m s) = dst n ts l s) := by
  show min2 (dst n ts l (min2 m s)) (dst n ts l (max2 m s)) ≤ _ ∧ min2 (dst n ts l (min2 m s)) (dst n ts l (max2 m s)) ≤ _ ∧ (min2 (dst n ts l (min2 m s)) (dst n ts l (max2 m s)) = _ ∨ min2 (dst n ts l (min2 m s)) (dst n ts l (max2 m s)) = _)
  rcases mm_cases m s with ⟨w1, w2, _⟩ | ⟨w1, w2, _⟩ <;> rw [w1, w2]
  · rcases mm_cases (dst n ts l m) (dst n ts l s) with ⟨w, _⟩ | ⟨w, _⟩ <;> rw [w] <;> omega
  · rcases mm_cases (dst n ts l s) (dst n ts l m) with ⟨w, _⟩ | ⟨w, _⟩ <;> rw [w] <;> omega
theorem tieT_inj {m s s' : Int} (h : tieT m s = tieT m s') (h1 : m ≠ s) (h2 : m ≠ s') : s = s' := by
  unfold tieT at h
  injection h with a b
  rcases mm_cases m s with ⟨w1, w2, _⟩ | ⟨w1, w2, _⟩ <;> rcases mm_cases m s' with ⟨w1', w2', _⟩ | ⟨w1', w2', _⟩ <;> rw [w1, w1'] at a <;> rw [w2, w2'] at b <;> omega
include t
theorem sides {m s l : Int} (l0 : 0 ≤ l) (l1 : l < n) (q : Adj ts m s) : (Sd n ts m s l ∧ dst n ts l s + 1 = dst n ts l m) ∨ (¬ Sd n ts m s l ∧ dst n ts l m + 1 = dst n ts l s) := by
  rcases edge_one t l0 l1 q with c | c
  · exact .inr ⟨fun z => by unfold Sd at z; omega, c⟩
  · exact .inl ⟨c, c⟩
theorem parts_places {m s s' l : Int} (l0 : 0 ≤ l) (l1 : l < n) (q : Adj ts m s) (q' : Adj ts m s') (hne : s ≠ s') : Sd n ts m s l ∨ Sd n ts m s' l ↔ farT n ts l (.pl s) ≠ farT n ts l (.pl s') := by
  show _ ↔ dst n ts l s ≠ dst n ts l s'
  have h1 := sides t l0 l1 q
  have h2 := sides t l0 l1 q'
  have h3 : ¬ (Sd n ts m s l ∧ Sd n ts m s' l) := fun z => hne (side_one t l0 l1 q q' z.1 z.2)
  rcases h1 with ⟨a, b⟩ | ⟨a, b⟩ <;> rcases h2 with ⟨c, d⟩ | ⟨c, d⟩
  · exact absurd ⟨a, c⟩ h3
  · exact ⟨fun _ => by omega, fun _ => .inl a⟩
  · exact ⟨fun _ => by omega, fun _ => .inr c⟩
  · exact ⟨fun z => absurd z (fun z => z.elim a c), fun z => by omega⟩
theorem parts_ties {m s s' l : Int} (l0 : 0 ≤ l) (l1 : l < n) (q : Adj ts m s) (q' : Adj ts m s') (hne : s ≠ s') : Sd n ts m s l ∨ Sd n ts m s' l ↔ farT n ts l (tieT m s) ≠ farT n ts l (tieT m s') := by
  have h1 := sides t l0 l1 q
  have h2 := sides t l0 l1 q'
  have h3 : ¬ (Sd n ts m s l ∧ Sd n ts m s' l) := fun z => hne (side_one t l0 l1 q q' z.1 z.2)
  have f1 := tieT_far (n := n) (ts := ts) (m := m) (s := s) (l := l)
  have f2 := tieT_far (n := n) (ts := ts) (m := m) (s := s') (l := l)
  rcases h1 with ⟨a, b⟩ | ⟨a, b⟩ <;> rcases h2 with ⟨c, d⟩ | ⟨c, d⟩
  · exact absurd ⟨a, c⟩ h3
  · exact ⟨fun _ => by omega, fun _ => .inl a⟩
  · exact ⟨fun _ => by omega, fun _ => .inr c⟩
  · exact ⟨fun z => absurd z (fun z => z.elim a c), fun z => by omega⟩
theorem parts_both {m s l : Int} (l0 : 0 ≤ l) (l1 : l < n) (q : Adj ts m s) : Sd n ts m s l ↔ farT n ts l (.pl m) ≠ farT n ts l (tieT m s) := by
  show _ ↔ dst n ts l m ≠ _
  have h1 := sides t l0 l1 q
  have f1 := tieT_far (n := n) (ts := ts) (m := m) (s := s) (l := l)
  rcases h1 with ⟨a, b⟩ | ⟨a, b⟩
  · exact ⟨fun _ => by omega, fun _ => a⟩
  · exact ⟨fun z => absurd z a, fun z => by omega⟩
omit t
theorem pairs_of {xs : List Thing} {f : Thing → List Int} {X Y : Thing} (hX : X ∈ xs) (hY : Y ∈ xs) (hne : X ≠ Y) : unl (f X) (f Y) ∈ pairsU (xs.map f) := by
  obtain ⟨i, hi, ei⟩ := List.mem_iff_getElem.mp hX
  obtain ⟨j, hj, ej⟩ := List.mem_iff_getElem.mp hY
  have e1 : (xs.map f)[i]? = some (f X) := by rw [List.getElem?_map, List.getElem?_eq_getElem hi, ei]; rfl
  have e2 : (xs.map f)[j]? = some (f Y) := by rw [List.getElem?_map, List.getElem?_eq_getElem hj, ej]; rfl
  rcases Nat.lt_trichotomy i j with q | q | q
  · rw [unl_symm]
    exact pairsU_mem.mpr ⟨i, j, _, _, q, e1, e2, rfl⟩
  · subst q
    exact absurd (ei.symm.trans ej) hne
  · exact pairsU_mem.mpr ⟨j, i, _, _, q, e2, e1, rfl⟩
theorem least_is {xs : List Thing} {f : Thing → List Int} {r : Int} (hn : xs.Nodup) (h1 : ∀ X ∈ xs, ∀ Y ∈ xs, X ≠ Y → r ≤ unl (f X) (f Y)) (h2 : ∃ X ∈ xs, ∃ Y ∈ xs, X ≠ Y ∧ unl (f X) (f Y) = r) : leastL (xs.map f) = some r := by
  rw [leastL_fold]
  obtain ⟨X, hX, Y, hY, hne, e⟩ := h2
  refine lfold_eq (fun u hu => ?_) (e ▸ pairs_of hX hY hne)
  obtain ⟨i, j, a, b, hij, ha, hb, rfl⟩ := pairsU_mem.mp hu
  rw [List.getElem?_map, Option.map_eq_some_iff] at ha hb
  obtain ⟨x, hx, rfl⟩ := ha
  obtain ⟨y, hy, rfl⟩ := hb
  refine h1 y (List.mem_of_getElem? hy) x (List.mem_of_getElem? hx) fun e => ?_
  obtain ⟨i1, e1⟩ := List.getElem?_eq_some_iff.mp hx
  obtain ⟨i2, e2⟩ := List.getElem?_eq_some_iff.mp hy
  have := (List.getElem_inj hn).mp (e2.trans (e.trans e1.symm))
  omega
theorem least_none {xs : List Thing} {f : Thing → List Int} (h : xs.length ≤ 1) : leastL (xs.map f) = none := by
  rw [leastL_fold]
  have : pairsU (xs.map f) = [] := List.eq_nil_iff_forall_not_mem.mpr fun u hu => by
    obtain ⟨i, j, a, b, hij, ha, hb, _⟩ := pairsU_mem.mp hu
    have h1 := (List.getElem?_eq_some_iff.mp hb).1
    rw [List.length_map] at h1
    omega
  rw [this]
  rfl
include t hl
theorem two_kind {xs : List Thing} {r : Int} (hn : xs.Nodup) (hok : ∀ X ∈ xs, ThOk n ts X) (h3 : ∀ X ∈ xs, ∀ Y ∈ xs, ¬ ((∃ i a b, X = .pl i ∧ Y = .ti a b) ∨ (∃ i a b, X = .ti a b ∧ Y = .pl i)))
    (hat : ∀ m s s', Adj ts m s → Adj ts m s' → s ≠ s' → ∃ X ∈ xs, ∃ Y ∈ xs, X ≠ Y ∧ unl (codeT n ts ls X) (codeT n ts ls Y) = cnt n ts ls m s + cnt n ts ls m s')
    (h1 : ∀ m s s', Adj ts m s → Adj ts m s' → s ≠ s' → r ≤ cnt n ts ls m s + cnt n ts ls m s') (h2 : ∃ m s s', Adj ts m s ∧ Adj ts m s' ∧ s ≠ s' ∧ r = cnt n ts ls m s + cnt n ts ls m s') : leastL (xs.map (codeT n ts ls)) = some r := by
  obtain ⟨m0, s0, s0', q0, q0', hne0, er⟩ := h2
  refine least_is hn (fun X hX Y hY hne => ?_) ?_
  · rcases parted t (hok X hX) (hok Y hY) hne with c | ⟨m, s, s', q, q', hss, c⟩ | ⟨m, s, q, c, _⟩
    · rw [unl_all hl c, er]
      exact cnt_sum_le t hl q0 q0' hne0
    · exact Int.le_trans (h1 m s s' q q' hss) (cnt_two_le t hl q q' hss c)
    · exact absurd c (h3 X hX Y hY)
  · rw [er]
    exact hat m0 s0 s0' q0 q0' hne0
theorem all_kind {xs : List Thing} {r : Int} (hn : xs.Nodup) (hok : ∀ X, X ∈ xs ↔ ThOk n ts X) (h1 : ∀ m s, Adj ts m s → r ≤ cnt n ts ls m s) (h2 : ∃ m s, Adj ts m s ∧ r = cnt n ts ls m s) : leastL (xs.map (codeT n ts ls)) = some r := by
  obtain ⟨m0, s0, q0, er⟩ := h2
  refine least_is hn (fun X hX Y hY hne => ?_) ?_
  · rcases parted t ((hok X).mp hX) ((hok Y).mp hY) hne with c | ⟨m, s, s', q, q', hss, c⟩ | ⟨m, s, q, _, c⟩
    · rw [unl_all hl c, er]
      unfold cnt
      have := List.length_filter_le (fun l => decide (Sd n ts m0 s0 l)) ls
      omega
    · have e1 := h1 m s q
      have e2 := cnt_nn (n := n) (ts := ts) (ls := ls) (m := m) (s := s')
      have e3 := cnt_two_le t hl q q' hss c
      omega
    · exact Int.le_trans (h1 m s q) (cnt_one_le hl c)
  · obtain ⟨a0, a1, _⟩ := t.web.adj q0
    refine ⟨.pl m0, (hok _).mpr ⟨a0, a1⟩, tieT m0 s0, (hok _).mpr (tieT_ok t.web q0), (fun e => by unfold tieT at e; cases e), ?_⟩
    rw [er]
    exact cnt_one_eq hl fun l l0 l1 => parts_both t l0 l1 q0
omit hl
/-- three places: one of them, or another one, has two neighbours -/
theorem fork_ex (n3 : 3 ≤ n) : ∃ m s s', Adj ts m s ∧ Adj ts m s' ∧ s ≠ s' := by
  have h := t.web
  have far : ∀ x y, 0 ≤ x → x < n → 0 ≤ y → y < n → 2 ≤ dst n ts x y → ∃ m s s', Adj ts m s ∧ Adj ts m s' ∧ s ≠ s' := fun x y x0 x1 y0 y1 hd => by
    have hyx : y ≠ x := fun e => by
      subst e
      have := dst_self h y0 y1
      omega
    obtain ⟨z, z0, z1, qz, ez⟩ := dst_near h x0 x1 y0 y1 hyx
    have hzx : z ≠ x := fun e => by
      subst e
      have := dst_self h z0 z1
      omega
    obtain ⟨w, w0, w1, qw, ew⟩ := dst_near h x0 x1 z0 z1 hzx
    exact ⟨z, y, w, qz, qw.symm, fun e => by subst e; omega⟩
  by_cases c1 : 2 ≤ dst n ts 0 1
  · exact far 0 1 (by omega) (by omega) (by omega) (by omega) c1
  by_cases c2 : 2 ≤ dst n ts 0 2
  · exact far 0 2 (by omega) (by omega) (by omega) (by omega) c2
  have adj : ∀ y, 0 < y → y < n → ¬ 2 ≤ dst n ts 0 y → Adj ts 0 y := fun y y0 y1 hc => by
    have e1 := dst_nn h (p := 0) (v := y) (by omega) (by omega) (by omega) y1
    have e2 : dst n ts 0 y ≠ 0 := fun z => by
      have := (dst_zero h (p := 0) (v := y) (by omega) (by omega) (by omega) y1).mp z
      omega
    exact (dst_one h (by omega) (by omega) (by omega) y1).mp (by omega)
  exact ⟨0, 1, 2, adj 1 (by omega) (by omega) c1, adj 2 (by omega) (by omega) c2, by decide⟩
theorem nb_ex (n2 : 2 ≤ n) {m : Int} (m0 : 0 ≤ m) (m1 : m < n) : ∃ s, Adj ts m s := by
  have h := t.web
  obtain ⟨v, v0, v1, hv⟩ : ∃ v, 0 ≤ v ∧ v < n ∧ m ≠ v := by
    by_cases c : m = 0
    · exact ⟨1, by omega, by omega, by omega⟩
    · exact ⟨0, by omega, by omega, c⟩
  obtain ⟨w, _, _, q, _⟩ := dst_near h v0 v1 m0 m1 hv
  exact ⟨w, q.symm⟩
end
theorem kind_pl {n : Int} {ts : List (Int × Int)} : kindT n ts "places" = mkpl (rng 0 n) := rfl
theorem kind_ti {n : Int} {ts : List (Int × Int)} : kindT n ts "ties" = mkti ts := rfl
theorem kind_all {n : Int} {ts : List (Int × Int)} : kindT n ts "all" = allT n ts := rfl
theorem kindT_nodup {n : Int} {ts : List (Int × Int)} (h : WebOk n ts) (k : Str) : (kindT n ts k).Nodup := by
  have h1 : (mkpl (rng 0 n)).Nodup := List.Pairwise.map _ (fun a b h e => h (by cases e; rfl)) (rng_nodup 0 n)
  have h2 : (mkti ts).Nodup := List.Pairwise.map _ (fun a b h e => h (by obtain ⟨a1, a2⟩ := a; obtain ⟨b1, b2⟩ := b; cases e; rfl)) h.nd
  unfold kindT
  split
  · exact h1
  · split
    · exact h2
    · refine List.nodup_append.mpr ⟨h1, h2, fun a ha b hb e => ?_⟩
      obtain ⟨i, ei, _⟩ := pl_mem.mp ha
      obtain ⟨c, d, ed, _⟩ := ti_mem.mp hb
      rw [ei, ed] at e
      cases e
theorem places_least {n : Int} {ts : List (Int × Int)} {ls : List Int} {r : Int} (t : TreeOk n ts) (hl : LooksOk n ls) (h1 : ∀ m s s', Adj ts m s → Adj ts m s' → s ≠ s' → r ≤ cnt n ts ls m s + cnt n ts ls m s') (h2 : ∃ m s s', Adj ts m s ∧ Adj ts m s' ∧ s ≠ s' ∧ r = cnt n ts ls m s + cnt n ts ls m s') : leastL ((kindT n ts "places").map (codeT n ts ls)) = some r := by
  refine two_kind t hl (kindT_nodup t.web _) (fun X hX => kindT_ok hX) (fun X hX Y hY => ?_) (fun m s s' q q' hne => ?_) h1 h2
  · rw [kind_pl] at hX hY
    obtain ⟨i, rfl, _⟩ := pl_mem.mp hX
    obtain ⟨j, rfl, _⟩ := pl_mem.mp hY
    rintro (⟨_, _, _, _, e⟩ | ⟨_, _, _, e, _⟩) <;> cases e
  · obtain ⟨_, _, a0, a1, _⟩ := t.web.adj q
    obtain ⟨_, _, b0, b1, _⟩ := t.web.adj q'
    rw [kind_pl]
    exact ⟨.pl s, pl_mem.mpr ⟨s, rfl, a0, a1⟩, .pl s', pl_mem.mpr ⟨s', rfl, b0, b1⟩, fun e => by cases e; exact hne rfl, cnt_two_eq t hl q q' hne fun l l0 l1 => parts_places t l0 l1 q q' hne⟩
theorem ties_least {n : Int} {ts : List (Int × Int)} {ls : List Int} {r : Int} (t : TreeOk n ts) (hl : LooksOk n ls) (h1 : ∀ m s s', Adj ts m s → Adj ts m s' → s ≠ s' → r ≤ cnt n ts ls m s + cnt n ts ls m s') (h2 : ∃ m s s', Adj ts m s ∧ Adj ts m s' ∧ s ≠ s' ∧ r = cnt n ts ls m s + cnt n ts ls m s') : leastL ((kindT n ts "ties").map (codeT n ts ls)) = some r := by
  refine two_kind t hl (kindT_nodup t.web _) (fun X hX => kindT_ok hX) (fun X hX Y hY => ?_) (fun m s s' q q' hne => ?_) h1 h2
  · rw [kind_ti] at hX hY
    obtain ⟨a, b, rfl, _⟩ := ti_mem.mp hX
    obtain ⟨c, d, rfl, _⟩ := ti_mem.mp hY
    rintro (⟨_, _, _, e, _⟩ | ⟨_, _, _, _, e⟩) <;> cases e
  · have n1 := (t.web.adj q).2.2.2.2
    have n2 := (t.web.adj q').2.2.2.2
    rw [kind_ti]
    exact ⟨tieT m s, ti_mem.mpr ⟨_, _, rfl, tieT_ok t.web q⟩, tieT m s', ti_mem.mpr ⟨_, _, rfl, tieT_ok t.web q'⟩, fun e => hne (tieT_inj e n1 n2), cnt_two_eq t hl q q' hne fun l l0 l1 => parts_ties t l0 l1 q q' hne⟩
theorem all_least {n : Int} {ts : List (Int × Int)} {ls : List Int} {r : Int} (t : TreeOk n ts) (hl : LooksOk n ls) (h1 : ∀ m s, Adj ts m s → r ≤ cnt n ts ls m s) (h2 : ∃ m s, Adj ts m s ∧ r = cnt n ts ls m s) : leastL ((kindT n ts "all").map (codeT n ts ls)) = some r := by
  refine all_kind t hl (kindT_nodup t.web _) (fun X => ?_) h1 h2
  rw [kind_all]
  exact allT_mem
theorem ssI_up (xs : List Int) : (ssI xs).Pairwise (· < ·) := by
  have hd : (ssI xs).Nodup := by
    unfold ssI
    exact (sortI_perm _).nodup_iff.mpr (nub_nodup _)
  have hs : (ssI xs).Pairwise (· ≤ ·) := sortI_sorted _
  refine List.Pairwise.imp (R := fun a b => a ≤ b ∧ a ≠ b) (fun {a b} h => by omega) ?_
  exact hs.and hd
theorem po_ssL {δ : Type} {xs : List Int} {f : List Int → R δ} {S : δ → Prop} {X : Exn → Prop} (hl : xs.length < 64) (hk : Post (f (ssI xs)) S X) : Post (ssR xs >>= f) S X := by
  have h2 : (nub xs).length < 64 := Nat.lt_of_le_of_lt (nodup_le (nub_nodup xs) fun x hx => nub_mem.mp hx) hl
  unfold ssR
  rw [decide_eq_true (show xs.length < 4000 by omega), decide_eq_true h2]
  exact hk
theorem asked_ok {n : Int} {ts : List (Int × Int)} (h : (ts.length : Int) = n - 1) : tree_asked (n, ⟨ts⟩) = R.ok () := by
  show (if (!decide ((ts.length : Int) = n - 1)) = true then (R.bad : R Unit) else R.ok ()) = _
  rw [decide_eq_true h]
  rfl
theorem rising_asked_ok {n : Int} {t : Tup (Int × Int)} {ls : List Int} (h : LooksOk n ls) (hl : ls.length < 64) : rising_asked (n, t) ls = R.ok () := by
  refine po_iff ?_
  unfold rising_asked
  have e : ls = ssI ls := ssI_uniq h.up fun k => by rw [decide_eq_true_iff]
  refine po_bind (Q := fun j => j = false) (po_ssL hl (po_if (fun c => ?_) fun _ => ?_)) fun j hj => ?_
  · rw [decide_eq_true e] at c
    exact absurd c (by decide)
  · refine po_mapGE (g := fun _ => true) (by omega) (fun l hm => ?_) ?_
    · rw [decide_eq_true (h.rg l hm).1, decide_eq_true (show l < (n, t).1 from (h.rg l hm).2)]
      rfl
    · have : ((ls.map fun _ => true).all id) = true := by
        rw [List.all_eq_true]
        intro x hx
        obtain ⟨_, _, rfl⟩ := List.mem_map.mp hx
        rfl
      show (!(ls.map fun _ => true).all id) = false
      rw [this]
      rfl
  · subst hj
    exact rfl
theorem nb_adj {n p : Int} {ts : List (Int × Int)} {s : Int} : s ∈ sortI (nbs ts p) ↔ Adj ts p s := by
  rw [sortI_mem, nbs_mem]
theorem nb_nodup {n p : Int} {ts : List (Int × Int)} (h : WebOk n ts) : (sortI (nbs ts p)).Nodup := (sortI_perm _).nodup_iff.mpr (nbs_nodup h.nd (fun q hq => (h.rg q hq).2.1) p)
theorem nb_len {n p : Int} {ts : List (Int × Int)} (h : WebOk n ts) : (sortI (nbs ts p)).length ≤ 60 := by
  have := nbs_len_n h p
  have hn := h.n60
  rw [(sortI_perm _).length_eq]
  omega
theorem pieces_by_ok {n p : Int} {ts : List (Int × Int)} (t : TreeOk n ts) (p0 : 0 ≤ p) (p1 : p < n) : pieces_by (nears n ts) p = R.ok ((sortI (nbs ts p)).map (pieceL n ts p)) := by
  have hl := nb_len (p := p) t.web
  unfold pieces_by
  rw [nears_get p0 p1, ok_bind, mapG_ok (g := pieceL n ts p) (by omega) fun s hs => by rw [piece_ok t ((nb_adj (n := n)).mp hs)]; rfl]
  rfl
theorem looks_in_ok {n p : Int} {ts : List (Int × Int)} {ls : List Int} (t : TreeOk n ts) (hl : LooksOk n ls) (p0 : 0 ≤ p) (p1 : p < n) : looks_in (nears n ts) p ls = R.ok ((sortI (nbs ts p)).map (cnt n ts ls p)) := by
  have hll := hl.len
  have hn := t.web.n60
  have hnl := nb_len (p := p) t.web
  refine po_iff ?_
  unfold looks_in
  rw [pieces_by_ok t p0 p1, ok_bind]
  have key : ∀ s, (do
      let l9 ← filG (fun (b9 : Int) => do
          if (inB b9 (pieceL n ts p s)) = true then do
            R.ok (some b9)
          else
            R.ok none) ls
      R.ok (l9.length : Int)) = R.ok (cnt n ts ls p s) := fun s => by
    refine po_iff (po_filGE (g := fun l => if decide (Sd n ts p s l) = true then some l else none) (by omega) (fun l hm => ?_) ?_)
    · have hb : inB l (pieceL n ts p s) = decide (Sd n ts p s l) := by
        by_cases c : Sd n ts p s l
        · rw [decide_eq_true c]
          exact inB_t.mpr (pieceL_mem.mpr ⟨hl.rg l hm, c⟩)
        · rw [decide_eq_false c]
          cases e : inB l (pieceL n ts p s) with
          | false => rfl
          | true => exact absurd (pieceL_mem.mp (inB_t.mp e)).2 c
      rw [hb]
      by_cases c : decide (Sd n ts p s l) = true
      · rw [if_pos c, if_pos c]
      · rw [if_neg c, if_neg c]
    · rw [fil_ite]
      rfl
  have e2 : ∀ S : List Int, S.length < 1000 → mapG (fun (b5 : (List Int)) => do
      let l9 ← filG (fun (b9 : Int) => do
          if (inB b9 b5) = true then do
            R.ok (some b9)
          else
            R.ok none) ls
      R.ok (l9.length : Int)) (S.map (pieceL n ts p)) = R.ok (S.map (cnt n ts ls p)) := fun S hS => by
    unfold mapG
    rw [grd_t (decide_eq_true (by rw [List.length_map]; omega)), ok_bind]
    clear hS
    induction S with
    | nil => rfl
    | cons s S ih =>
      rw [List.map_cons, List.map_cons]
      unfold mapR
      rw [key s, ok_bind, ih]
      rfl
  rw [e2 _ (by omega), ok_bind]
  exact rfl
/-- of a web of one place, and of the tie of two -/
theorem kind_few {n : Int} {ts : List (Int × Int)} {k : Str} (t : TreeOk n ts) (h : n = 1 ∨ n = 2 ∧ k = "ties") : (kindT n ts k).length ≤ 1 := by
  have hl := t.len
  have hn1 := t.web.n1
  have h1 : (mkpl (rng 0 n)).length = n.toNat := by unfold mkpl; rw [List.length_map, rng_length]; omega
  have h2 : (mkti ts).length = ts.length := by unfold mkti; rw [List.length_map]
  rcases h with h | ⟨h, rfl⟩
  · unfold kindT
    split
    · omega
    · split
      · omega
      · unfold allT
        rw [List.length_append]
        omega
  · rw [kind_ti]
    omega
theorem zip_self {α β : Type} (f : α → β) (xs : List α) : xs.zip (xs.map f) = xs.map fun x => (x, f x) := by
  induction xs with
  | nil => rfl
  | cons x xs ih => rw [List.map_cons, List.zip_cons_cons, ih]; rfl
theorem po_foldXu {α ρ : Type} {f : Unit → α → R (Sum ρ (Bool × Unit))} {P : ρ → Prop} {N : α → Prop} {X : Exn → Prop} : ∀ {xs : List α}, (∀ b ∈ xs, Post (f () b) (fun r => (∃ z, r = .inl z ∧ P z) ∨ (r = .inr (true, ()) ∧ N b)) X) → Post (foldX f () xs) (fun r => (∃ z, r = .inl z ∧ P z) ∨ (r = .inr () ∧ ∀ b ∈ xs, N b)) X
  | [], _ => .inr ⟨rfl, fun _ h => nomatch h⟩
  | x :: xs, hf => by
    refine po_bind (hf x List.mem_cons_self) fun r hr => ?_
    rcases hr with ⟨z, rfl, hz⟩ | ⟨rfl, hn⟩
    · exact .inl ⟨z, rfl, hz⟩
    · refine Post.mono (po_foldXu fun b hb => hf b (List.mem_cons_of_mem _ hb)) (fun r hr => hr.imp id fun ⟨e, h⟩ => ⟨e, fun b hb => ?_⟩) fun _ z => z
      rcases List.mem_cons.mp hb with rfl | hb
      · exact hn
      · exact h b hb
theorem at_tie {m s : Int} : tie_of m s = R.ok (min2 m s, max2 m s) := rfl
theorem unl_zero {n : Int} {ts : List (Int × Int)} {ls : List Int} {X Y : Thing} : unl (codeT n ts ls X) (codeT n ts ls Y) = 0 ↔ codeT n ts ls X = codeT n ts ls Y := by
  rw [unl_code]
  constructor
  · intro h
    have e : ls.filter (fun l => !decide (farT n ts l X = farT n ts l Y)) = [] := List.eq_nil_of_length_eq_zero (by omega)
    unfold codeT
    refine List.map_congr_left fun l hm => ?_
    apply Classical.byContradiction
    intro hne
    have : l ∈ ls.filter (fun l => !decide (farT n ts l X = farT n ts l Y)) := List.mem_filter.mpr ⟨hm, by rw [decide_eq_false hne]; rfl⟩
    rw [e] at this
    cases this
  · intro h
    have hf : ∀ l ∈ ls, farT n ts l X = farT n ts l Y := List.map_inj_left.mp h
    have : ls.filter (fun l => !decide (farT n ts l X = farT n ts l Y)) = [] := List.filter_eq_nil_iff.mpr fun l hm => by
      rw [decide_eq_true (hf l hm)]
      decide
    rw [this]
    rfl
/-- two things of one kind that have one code -/
def Alike (n : Int) (ts : List (Int × Int)) (ls : List Int) (k : Str) (z : Tup Thing) : Prop := ∃ X ∈ kindT n ts k, ∃ Y ∈ kindT n ts k, X ≠ Y ∧ z = ⟨[X, Y]⟩ ∧ codeT n ts ls X = codeT n ts ls Y
theorem likes_at_ok {n p : Int} {ts : List (Int × Int)} {ls : List Int} {k : Str} (t : TreeOk n ts) (hl : LooksOk n ls) (hk : k = "places" ∨ k = "ties" ∨ k = "all") (p0 : 0 ≤ p) (p1 : p < n) : Post (likes_at (nears n ts) p ls k) (fun o => (o = none → (k = "all" → ∀ s, Adj ts p s → cnt n ts ls p s ≠ 0) ∧ (k ≠ "all" → ∀ s s', Adj ts p s → Adj ts p s' → s ≠ s' → ¬ (cnt n ts ls p s = 0 ∧ cnt n ts ls p s' = 0))) ∧ ∀ z, o = some z → Alike n ts ls k z) noX := by
  have h := t.web
  have hnl := nb_len (p := p) h
  unfold likes_at
  rw [nears_get p0 p1, ok_bind, looks_in_ok t hl p0 p1, ok_bind, zip_self]
  have hzl : ((sortI (nbs ts p)).map fun s => (s, cnt n ts ls p s)).length ≤ 60 := by rw [List.length_map]; exact hnl
  refine po_filGE (g := fun b : Int × Int => if decide (b.2 = (0 : Int)) = true then some b.1 else none) (by omega) (fun b _ => by
    by_cases c : decide (b.2 = (0 : Int)) = true
    · rw [if_pos c, if_pos c]
    · rw [if_neg c, if_neg c]) ?_
  have eB : (((sortI (nbs ts p)).map fun s => (s, cnt n ts ls p s)).filterMap fun b : Int × Int => if decide (b.2 = (0 : Int)) = true then some b.1 else none) = (sortI (nbs ts p)).filter fun s => decide (cnt n ts ls p s = 0) := by
    rw [List.filterMap_map]
    exact fil_ite _ _
  rw [eB]
  generalize hB : (sortI (nbs ts p)).filter (fun s => decide (cnt n ts ls p s = 0)) = B
  have hm : ∀ s, s ∈ B ↔ Adj ts p s ∧ cnt n ts ls p s = 0 := fun s => by
    rw [← hB, List.mem_filter, nb_adj (n := n), decide_eq_true_iff]
  have hd : B.Nodup := hB ▸ (nb_nodup (n := n) h).filter _
  have two : 1 < B.length → ∃ s s', getI B 0 = R.ok s ∧ getI B 1 = R.ok s' ∧ s ≠ s' ∧ (Adj ts p s ∧ cnt n ts ls p s = 0) ∧ (Adj ts p s' ∧ cnt n ts ls p s' = 0) := fun hB2 => by
    match B, hB2, hm, hd with
    | s :: s' :: B', _, hm, hd =>
      exact ⟨s, s', getI_eq (by decide) rfl, getI_eq (by decide) rfl, fun e => (List.nodup_cons.mp hd).1 (by rw [e]; exact List.mem_cons_self), (hm s).mp List.mem_cons_self, (hm s').mp (List.mem_cons_of_mem _ List.mem_cons_self)⟩
  refine po_if (fun c => ?_) fun c => po_if (fun c2 => ?_) fun c2 => po_if (fun c3 => ?_) fun c3 => ?_
  · rw [Bool.and_eq_true, decide_eq_true_iff, decide_eq_true_iff] at c
    obtain ⟨rfl, c⟩ := c
    refine po_get (by decide) c fun s hs _ => ?_
    obtain ⟨q, ec⟩ := (hm s).mp hs
    rw [at_tie, ok_bind]
    refine ⟨fun z => (nomatch z), fun z hz => ?_⟩
    cases hz
    refine ⟨.pl p, ?_, tieT p s, ?_, (fun e => by unfold tieT at e; cases e), rfl, unl_zero.mp ?_⟩
    · rw [kind_all]; exact allT_mem.mpr ⟨p0, p1⟩
    · rw [kind_all]; exact allT_mem.mpr (tieT_ok h q)
    · rw [cnt_one_eq hl fun l l0 l1 => parts_both t l0 l1 q, ec]
  · rw [Bool.and_eq_true, decide_eq_true_iff, decide_eq_true_iff] at c2
    obtain ⟨rfl, c2⟩ := c2
    obtain ⟨s, s', e0, e1, hne, ⟨q, ec⟩, q', ec'⟩ := two (by omega)
    refine po_getE e0 ?_
    rw [at_tie, ok_bind]
    refine po_getE e1 ?_
    rw [at_tie, ok_bind]
    refine ⟨fun z => (nomatch z), fun z hz => ?_⟩
    cases hz
    refine ⟨tieT p s, ?_, tieT p s', ?_, fun e => hne (tieT_inj e (h.adj q).2.2.2.2 (h.adj q').2.2.2.2), rfl, unl_zero.mp ?_⟩
    · rw [kind_ti]; exact ti_mem.mpr ⟨_, _, rfl, tieT_ok h q⟩
    · rw [kind_ti]; exact ti_mem.mpr ⟨_, _, rfl, tieT_ok h q'⟩
    · rw [cnt_two_eq t hl q q' hne fun l l0 l1 => parts_ties t l0 l1 q q' hne, ec, ec']
      rfl
  · rw [Bool.and_eq_true, decide_eq_true_iff, decide_eq_true_iff] at c3
    obtain ⟨rfl, c3⟩ := c3
    obtain ⟨s, s', e0, e1, hne, ⟨q, ec⟩, q', ec'⟩ := two (by omega)
    refine po_getE e0 (po_getE e1 ?_)
    refine ⟨fun z => (nomatch z), fun z hz => ?_⟩
    cases hz
    have a := h.adj q
    have b := h.adj q'
    refine ⟨.pl s, ?_, .pl s', ?_, fun e => by cases e; exact hne rfl, rfl, unl_zero.mp ?_⟩
    · rw [kind_pl]; exact pl_mem.mpr ⟨_, rfl, a.2.2.1, a.2.2.2.1⟩
    · rw [kind_pl]; exact pl_mem.mpr ⟨_, rfl, b.2.2.1, b.2.2.2.1⟩
    · rw [cnt_two_eq t hl q q' hne fun l l0 l1 => parts_places t l0 l1 q q' hne, ec, ec']
      rfl
  · have few : k ≠ "all" → ¬ 1 < B.length := fun ka hB2 => by
      rcases hk with rfl | rfl | z
      · exact c3 (by rw [Bool.and_eq_true, decide_eq_true_iff, decide_eq_true_iff]; exact ⟨rfl, by omega⟩)
      · exact c2 (by rw [Bool.and_eq_true, decide_eq_true_iff, decide_eq_true_iff]; exact ⟨rfl, by omega⟩)
      · exact ka z
    refine ⟨fun _ => ⟨fun ka s q ec => ?_, fun ka s s' q q' hne z => few ka ?_⟩, fun z hz => nomatch hz⟩
    · have := List.length_pos_of_mem ((hm s).mpr ⟨q, ec⟩)
      exact c (by rw [Bool.and_eq_true, decide_eq_true_iff, decide_eq_true_iff]; exact ⟨ka, by omega⟩)
    · have := nodup_le (xs := [s, s']) (ys := B) (by simp [hne]) fun x hx => by
        rcases List.mem_cons.mp hx with rfl | hx
        · exact (hm _).mpr ⟨q, z.1⟩
        · rw [List.mem_singleton.mp hx]
          exact (hm _).mpr ⟨q', z.2⟩
      exact this
theorem few_no {α : Type} {xs : List α} {x y : α} (hx : x ∈ xs) (hy : y ∈ xs) (h : xs.length ≤ 1) : x = y := by
  match xs, hx, hy, h with
  | [a], hx, hy, _ => rw [List.mem_singleton.mp hx, List.mem_singleton.mp hy]
theorem likes_tree {n : Int} {ts : List (Int × Int)} {ls : List Int} {k : Str} (t : TreeOk n ts) (hl : LooksOk n ls) (hk : k = "places" ∨ k = "ties" ∨ k = "all") : ∃ o, tree_likes (n, ⟨ts⟩) ls k = R.ok o ∧ (o = none → ∀ X ∈ kindT n ts k, ∀ Y ∈ kindT n ts k, X ≠ Y → codeT n ts ls X ≠ codeT n ts ls Y) ∧ ∀ z, o = some z → Alike n ts ls k z := by
  have h := t.web
  have hn1 := h.n1
  have hn := h.n60
  have hll := hl.len
  refine po_ex ?_
  unfold tree_likes
  rw [asked_ok t.len, ok_bind, rising_asked_ok hl (by omega), ok_bind]
  refine po_if (fun c => ?_) fun c => ?_
  · rw [Bool.and_eq_true, Bool.and_eq_true, decide_eq_true_iff, decide_eq_true_iff, decide_eq_true_iff] at c
    obtain ⟨c1, rfl, c2⟩ := c
    have c1' : n = 2 := c1
    have e : ls = [] := List.eq_nil_of_length_eq_zero (by omega)
    subst e
    refine ⟨fun z => (nomatch z), fun z hz => ?_⟩
    cases hz
    refine ⟨.pl 0, ?_, .pl 1, ?_, (fun e => by cases e), rfl, rfl⟩
    · rw [kind_pl]; exact pl_mem.mpr ⟨0, rfl, by omega, by omega⟩
    · rw [kind_pl]; exact pl_mem.mpr ⟨1, rfl, by omega, by omega⟩
  · rw [all_near_ok h, ok_bind]
    refine po_rng (by decide) (by decide) (by show -(2 ^ 62) ≤ n; omega) (by show n < 2 ^ 62; omega) ?_
    refine po_bind (po_foldXu (P := fun o : Option (Tup Thing) => ∃ z, o = some z ∧ Alike n ts ls k z) (N := fun p => (k = "all" → ∀ s, Adj ts p s → cnt n ts ls p s ≠ 0) ∧ (k ≠ "all" → ∀ s s', Adj ts p s → Adj ts p s' → s ≠ s' → ¬ (cnt n ts ls p s = 0 ∧ cnt n ts ls p s' = 0))) fun p hp => ?_) fun r hr => ?_
    · obtain ⟨p0, p1⟩ := rng_mem.mp hp
      refine po_bind (likes_at_ok t hl hk p0 p1) fun o ⟨o1, o2⟩ => ?_
      cases o with
      | none => exact .inr ⟨rfl, o1 rfl⟩
      | some z => exact .inl ⟨some z, rfl, z, rfl, o2 z rfl⟩
    · rcases hr with ⟨o, rfl, z, rfl, hz⟩ | ⟨rfl, hno⟩
      · refine ⟨fun w => (nomatch w), fun w hw => ?_⟩
        cases hw
        exact hz
      · refine ⟨fun _ X hX Y hY hne he => ?_, fun w hw => (nomatch hw)⟩
        have hno' : ∀ m s, Adj ts m s → (k = "all" → ∀ s, Adj ts m s → cnt n ts ls m s ≠ 0) ∧ (k ≠ "all" → ∀ s s', Adj ts m s → Adj ts m s' → s ≠ s' → ¬ (cnt n ts ls m s = 0 ∧ cnt n ts ls m s' = 0)) := fun m s q => by
          obtain ⟨m0, m1, _⟩ := h.adj q
          exact hno m (rng_mem.mpr ⟨m0, m1⟩)
        have hu := unl_zero.mpr he
        rcases parted t (kindT_ok hX) (kindT_ok hY) hne with c' | ⟨m, s, s', q, q', hss, c'⟩ | ⟨m, s, q, c1, c'⟩
        · have e : ls = [] := by
            rw [unl_all hl c'] at hu
            exact List.eq_nil_of_length_eq_zero (by omega)
          subst e
          have hc0 : ∀ m s, cnt n ts [] m s = 0 := fun _ _ => rfl
          by_cases n1 : n = 1 ∨ n = 2 ∧ k = "ties"
          · exact hne (few_no hX hY (kind_few t n1))
          · by_cases ka : k = "all"
            · obtain ⟨s, q⟩ := nb_ex t (show 2 ≤ n by omega) (m := 0) (by omega) (by omega)
              exact (hno' 0 s q).1 ka s q (hc0 _ _)
            · have n3 : 3 ≤ n := by
                apply Classical.byContradiction
                intro z
                have n2 : n = 2 := by omega
                rcases hk with rfl | rfl | w
                · exact c (by rw [Bool.and_eq_true, Bool.and_eq_true, decide_eq_true_iff, decide_eq_true_iff, decide_eq_true_iff]; exact ⟨n2, rfl, rfl⟩)
                · exact n1 (.inr ⟨n2, rfl⟩)
                · exact ka w
              obtain ⟨m, s, s', q, q', hss⟩ := fork_ex t n3
              exact (hno' m s q).2 ka s s' q q' hss ⟨hc0 _ _, hc0 _ _⟩
        · have e1 := cnt_two_le t hl q q' hss c'
          have e2 := cnt_nn (n := n) (ts := ts) (ls := ls) (m := m) (s := s)
          have e3 := cnt_nn (n := n) (ts := ts) (ls := ls) (m := m) (s := s')
          by_cases ka : k = "all"
          · exact (hno' m s q).1 ka s q (by omega)
          · exact (hno' m s q).2 ka s s' q q' hss ⟨by omega, by omega⟩
        · have e1 := cnt_one_le hl c'
          have e2 := cnt_nn (n := n) (ts := ts) (ls := ls) (m := m) (s := s)
          have ka : k = "all" := by
            rcases hk with rfl | rfl | w
            · rw [kind_pl] at hX hY
              obtain ⟨i, rfl, _⟩ := pl_mem.mp hX
              obtain ⟨j, rfl, _⟩ := pl_mem.mp hY
              rcases c1 with ⟨_, _, _, _, e⟩ | ⟨_, _, _, e, _⟩ <;> cases e
            · rw [kind_ti] at hX hY
              obtain ⟨a, b, rfl, _⟩ := ti_mem.mp hX
              obtain ⟨c, d, rfl, _⟩ := ti_mem.mp hY
              rcases c1 with ⟨_, _, _, e, _⟩ | ⟨_, _, _, _, e⟩ <;> cases e
            · exact w
          exact (hno' m s q).1 ka s q (by omega)
/-! legs -/
def deg (ts : List (Int × Int)) (v : Int) : Nat := (nbs ts v).length
section
variable {n : Int} {ts : List (Int × Int)}
theorem deg_pos {v w : Int} (q : Adj ts v w) : 0 < deg ts v := List.length_pos_of_mem (nbs_mem.mpr q)
theorem deg_ex {v : Int} (h : 0 < deg ts v) : ∃ w, Adj ts v w := by
  obtain ⟨w, hw⟩ := List.exists_mem_of_length_pos h
  exact ⟨w, nbs_mem.mp hw⟩
theorem nbs_nd (h : WebOk n ts) (v : Int) : (nbs ts v).Nodup := nbs_nodup h.nd (fun q hq => (h.rg q hq).2.1) v
theorem deg_le {v : Int} {S : List Int} (h : WebOk n ts) (hs : ∀ w, Adj ts v w → w ∈ S) : deg ts v ≤ S.length := nodup_le (nbs_nd h v) fun w hw => hs w (nbs_mem.mp hw)
theorem one_nb {v a c : Int} (hd : deg ts v = 1) (q : Adj ts v a) (q' : Adj ts v c) : c = a := by
  have h1 := nbs_mem.mpr q
  have h2 := nbs_mem.mpr q'
  unfold deg at hd
  match nbs ts v, hd, h1, h2 with
  | [x], _, h1, h2 => rw [List.mem_singleton.mp h1, List.mem_singleton.mp h2]
theorem two_nbs {v a : Int} (h : WebOk n ts) (hd : deg ts v = 2) (q : Adj ts v a) : ∃ b, b ≠ a ∧ Adj ts v b ∧ (sortI (nbs ts v)).sum = a + b ∧ ∀ c, Adj ts v c → c = a ∨ c = b := by
  have hp := sortI_perm (nbs ts v)
  have hn : (sortI (nbs ts v)).Nodup := hp.nodup_iff.mpr (nbs_nd h v)
  have hl : (sortI (nbs ts v)).length = 2 := hp.length_eq.trans hd
  have hm : ∀ c, c ∈ sortI (nbs ts v) ↔ Adj ts v c := fun c => by rw [sortI_mem, nbs_mem]
  match sortI (nbs ts v), hl, hn, hm with
  | [x, y], _, hn, hm =>
    have hxy : x ≠ y := fun e => (List.nodup_cons.mp hn).1 (by rw [e]; exact List.mem_cons_self)
    have hx := (hm x).mp List.mem_cons_self
    have hy := (hm y).mp (List.mem_cons_of_mem _ List.mem_cons_self)
    have hs : ([x, y] : List Int).sum = x + y := by simp
    have hc : ∀ c, Adj ts v c → c = x ∨ c = y := fun c qc => by
      rcases List.mem_cons.mp ((hm c).mpr qc) with e | e
      · exact .inl e
      · exact .inr (List.mem_singleton.mp e)
    rcases hc a q with rfl | rfl
    · exact ⟨y, Ne.symm hxy, hy, hs, hc⟩
    · exact ⟨x, hxy, hx, by rw [hs]; omega, fun c qc => (hc c qc).symm⟩
end
section
variable {n : Int} {ts : List (Int × Int)} (t : TreeOk n ts)
include t
/-- a leg and the place ahead of it, once that has two neighbours -/
theorem side_grow {a b k v : Int} (qk : Adj ts a k) (qb : Adj ts a b) (hne : b ≠ k) (hc : ∀ c, Adj ts a c → c = k ∨ c = b) (v0 : 0 ≤ v) (v1 : v < n) : Sd n ts b a v ↔ v = a ∨ Sd n ts a k v := by
  have h := t.web
  obtain ⟨a0, a1, k0, k1, _⟩ := h.adj qk
  constructor
  · intro hs
    by_cases e : v = a
    · exact .inl e
    · obtain ⟨w, w0, w1, qw, ew⟩ := dst_near h v0 v1 a0 a1 (Ne.symm e)
      rcases hc w qw.symm with rfl | rfl
      · exact .inr ew
      · unfold Sd at hs
        omega
  · rintro (rfl | hs)
    · unfold Sd
      rw [dst_self h v0 v1, adj_one h qb]
      rfl
    · rcases edge_one t v0 v1 qb with c | c
      · exact c
      · exact absurd (near_uniq t v0 v1 qk.symm qb.symm hs c) (Ne.symm hne)
theorem leg_ex {e : Int} (e0 : 0 ≤ e) (e1 : e < n) (he : deg ts e = 1) : ∃ f s, leg_from (nears n ts) e = R.ok (f, pieceL n ts f s) ∧ Adj ts f s ∧ deg ts f ≠ 2 ∧ Sd n ts f s e ∧ ∀ v, 0 ≤ v → v < n → Sd n ts f s v → v = e ∨ deg ts v = 2 := by
  have h := t.web
  have hn1 := h.n1
  have hn := h.n60
  obtain ⟨a, qa⟩ := deg_ex (show 0 < deg ts e by omega)
  obtain ⟨_, _, a0, a1, hea⟩ := h.adj qa
  have hlen : ∀ v, (sortI (nbs ts v)).length = deg ts v := fun v => (sortI_perm _).length_eq
  have ga : getI (sortI (nbs ts e)) 0 = R.ok a := by
    have hl := hlen e
    rw [he] at hl
    have hm : a ∈ sortI (nbs ts e) := sortI_mem.mpr (nbs_mem.mpr qa)
    match sortI (nbs ts e), hl, hm with
    | [x], _, hm => rw [List.mem_singleton.mp hm]; exact getI_eq (by decide) rfl
  suffices hP : Post (leg_from (nears n ts) e) (fun r => ∃ f s, r = (f, pieceL n ts f s) ∧ Adj ts f s ∧ deg ts f ≠ 2 ∧ Sd n ts f s e ∧ ∀ v, 0 ≤ v → v < n → Sd n ts f s v → v = e ∨ deg ts v = 2) noX by
    obtain ⟨r, er, f, s, e2, rest⟩ := po_ex hP
    exact ⟨f, s, by rw [er, e2], rest⟩
  unfold leg_from
  refine po_getE (nears_get e0 e1) (po_getE ga ?_)
  refine po_bind (Q := fun g : Int × List Int => ∃ s, Adj ts g.1 s ∧ deg ts g.1 ≠ 2 ∧ g.2.Nodup ∧ (∀ v, v ∈ g.2 ↔ (0 ≤ v ∧ v < n) ∧ Sd n ts g.1 s v) ∧ e ∈ g.2 ∧ ∀ v ∈ g.2, v = e ∨ deg ts v = 2) (po_while (fun g => ∃ pre s, g.2 = pre ++ [s] ∧ Adj ts g.1 s ∧ g.2.Nodup ∧ (∀ v, v ∈ g.2 ↔ (0 ≤ v ∧ v < n) ∧ Sd n ts g.1 s v) ∧ e ∈ g.2 ∧ ∀ v ∈ g.2, v = e ∨ deg ts v = 2) (fun g => n.toNat + 1 - g.2.length) ?_ (n := fu 1000) ?_ ?_) fun g ⟨s, g1, g2, g3, g4, g5, g6⟩ => ?_
  · rintro ⟨b, leg⟩ ⟨pre, s, el, q, nd, hm, hel, hd⟩
    have el' : leg = pre ++ [s] := el
    have q' : Adj ts b s := q
    have nd' : leg.Nodup := nd
    have hm' : ∀ v, v ∈ leg ↔ (0 ≤ v ∧ v < n) ∧ Sd n ts b s v := hm
    have hel' : e ∈ leg := hel
    have hd' : ∀ v ∈ leg, v = e ∨ deg ts v = 2 := hd
    clear el q nd hm hel hd
    obtain ⟨b0, b1, s0, s1, _⟩ := h.adj q'
    have few : leg.length ≤ n.toNat := by
      have := nodup_le nd' (ys := rng 0 n) fun v hv => rng_mem.mpr ((hm' v).mp hv).1
      rw [rng_length] at this
      omega
    refine po_getE (nears_get b0 b1) ⟨fun ht => ?_, fun hf => ?_⟩
    · have hb2 : deg ts b = 2 := by
        have := of_decide_eq_true ht
        rw [hlen b] at this
        omega
      obtain ⟨c, hcs, qc, hsum, hall⟩ := two_nbs h hb2 q'
      refine po_getE (nears_get b0 b1) ?_
      have gl : getI leg (-1) = R.ok s := by rw [el']; exact getI_last s
      refine po_getE gl (po_app (by show leg.length < 100000; omega) ?_)
      have hbl : b ∉ leg := fun z => side_not h q' ((hm' b).mp z).2
      rw [hsum, show s + c - s = c by omega]
      refine ⟨⟨leg, b, rfl, qc.symm, ?_, fun v => ?_, List.mem_append_left _ hel', fun v hv => ?_⟩, ?_⟩
      · refine List.nodup_append.mpr ⟨nd', List.nodup_cons.mpr ⟨by simp, List.nodup_nil⟩, fun x hx y hy e => ?_⟩
        rw [List.mem_singleton] at hy
        rw [hy] at e
        have e' : x = b := e
        exact hbl (by rw [← e']; exact hx)
      · show v ∈ leg ++ [b] ↔ _
        rw [List.mem_append, List.mem_singleton, hm' v]
        constructor
        · rintro (⟨hr, hs⟩ | rfl)
          · exact ⟨hr, (side_grow t q' qc hcs hall hr.1 hr.2).mpr (.inr hs)⟩
          · exact ⟨⟨b0, b1⟩, (side_grow t q' qc hcs hall b0 b1).mpr (.inl rfl)⟩
        · rintro ⟨hr, hs⟩
          rcases (side_grow t q' qc hcs hall hr.1 hr.2).mp hs with rfl | hs
          · exact .inr rfl
          · exact .inl ⟨hr, hs⟩
      · rcases List.mem_append.mp hv with hv | hv
        · exact hd' v hv
        · rw [List.mem_singleton.mp hv]
          exact .inr hb2
      · show n.toNat + 1 - (leg ++ [b]).length < n.toNat + 1 - leg.length
        rw [List.length_append, List.length_singleton]
        omega
    · have hb2 : deg ts b ≠ 2 := fun z => by
        have := of_decide_eq_false hf
        rw [hlen b, z] at this
        exact this rfl
      exact ⟨s, q', hb2, nd', hm', hel', hd'⟩
  · refine ⟨[], e, rfl, qa.symm, List.nodup_cons.mpr ⟨by simp, List.nodup_nil⟩, fun v => ?_, List.mem_singleton.mpr rfl, fun v hv => .inl (List.mem_singleton.mp hv)⟩
    show v ∈ [e] ↔ _
    rw [List.mem_singleton]
    constructor
    · rintro rfl
      exact ⟨⟨e0, e1⟩, side_self h qa.symm⟩
    · rintro ⟨hr, hs⟩
      apply Classical.byContradiction
      intro hne
      -- towards v there is a neighbour of e, but the one
      obtain ⟨w, w0, w1, qw, ew⟩ := dst_near h hr.1 hr.2 e0 e1 (Ne.symm hne)
      have hwa : w = a := one_nb he qa qw.symm
      subst hwa
      unfold Sd at hs
      have hs' : dst n ts v e + 1 = dst n ts v w := hs
      omega
  · rw [fu_eq]
    show n.toNat + 1 - 1 < 1000
    omega
  · refine ⟨g.1, s, ?_, g1, g2, ((g4 e).mp g5).2, fun v v0 v1 hs => g6 v ((g4 v).mpr ⟨⟨v0, v1⟩, hs⟩)⟩
    have : sortI g.2 = pieceL n ts g.1 s := (sortI_eq (perm_nodup ((rng_nodup 0 n).filter _) g3 fun x => by rw [g4 x]; exact pieceL_mem) (((rng_sorted 0 n).sublist List.filter_sublist).imp fun h => Int.le_of_lt h)).symm
    show (g.1, sortI g.2) = _
    rw [this]
/-- beyond each neighbour there is a place with one neighbour -/
theorem side_leaf {p s : Int} (q : Adj ts p s) : ∃ e, (0 ≤ e ∧ e < n) ∧ Sd n ts p s e ∧ deg ts e = 1 := by
  have h := t.web
  obtain ⟨p0, p1, s0, s1, _⟩ := h.adj q
  -- the farthest one
  have key : ∀ (m : Nat) (v : Int), 0 ≤ v → v < n → Sd n ts p s v → n.toNat ≤ (dst n ts p v).toNat + m → ∃ e, (0 ≤ e ∧ e < n) ∧ Sd n ts p s e ∧ deg ts e = 1 := by
    intro m
    induction m with
    | zero =>
      intro v v0 v1 _ hm
      have := (web_dist h p0 p1).lt v v0 v1
      omega
    | succ m ih =>
      intro v v0 v1 hv hm
      have hvp : v ≠ p := fun e => by rw [e] at hv; exact side_not h q hv
      obtain ⟨w, w0, w1, qw, ew⟩ := dst_near h p0 p1 v0 v1 hvp
      by_cases c : deg ts v = 1
      · exact ⟨v, ⟨v0, v1⟩, hv, c⟩
      · -- another neighbour, farther
        have hx : ∃ x, Adj ts v x ∧ x ≠ w := by
          apply Classical.byContradiction
          intro hno
          have h1 := deg_le (v := v) (S := [w]) h fun x qx => by
            rw [List.mem_singleton]
            apply Classical.byContradiction
            intro z
            exact hno ⟨x, qx, z⟩
          have h2 := deg_pos qw.symm
          have : ([w] : List Int).length = 1 := rfl
          omega
        obtain ⟨x, qx, hxw⟩ := hx
        obtain ⟨_, _, x0, x1, _⟩ := h.adj qx
        rcases edge_one t p0 p1 qx with d | d
        · have hxp : x ≠ p := fun e => by
            rw [e, dst_self h p0 p1] at d
            have := dst_nn h p0 p1 v0 v1
            omega
          have := dst_nn h p0 p1 v0 v1
          exact ih x x0 x1 (side_adj t q hv qx hxp) (by omega)
        · exact absurd (near_uniq t p0 p1 qx.symm qw d ew) hxw
  exact key n.toNat s s0 s1 (side_self h q) (by omega)
/-- two pieces of places with two neighbours but one leaf, behind places that are none such -/
theorem leg_uniq {f s f' s' e : Int} (e0 : 0 ≤ e) (e1 : e < n) (q : Adj ts f s) (q' : Adj ts f' s') (hf : 3 ≤ deg ts f) (hf' : 3 ≤ deg ts f') (he : Sd n ts f s e) (he' : Sd n ts f' s' e) (hd : ∀ v, 0 ≤ v → v < n → Sd n ts f s v → deg ts v ≤ 2) (hd' : ∀ v, 0 ≤ v → v < n → Sd n ts f' s' v → deg ts v ≤ 2) : f = f' ∧ s = s' := by
  have h := t.web
  obtain ⟨f0, f1, s0, s1, _⟩ := h.adj q
  obtain ⟨f0', f1', s0', s1', _⟩ := h.adj q'
  have n1 : ¬ Sd n ts f s f' := fun z => by have := hd f' f0' f1' z; omega
  have n2 : ¬ Sd n ts f' s' f := fun z => by have := hd' f f0 f1 z; omega
  have o1 := (edge_one t f0' f1' q).resolve_right n1
  have o2 := (edge_one t f0 f1 q').resolve_right n2
  have p1 := path_eq t q e0 e1 he f0' f1' o1
  have p2 := path_eq t q' e0 e1 he' f0 f1 o2
  have d1 := dst_nn h f0 f1 f0' f1'
  have d2 := dst_symm h f0 f1 f0' f1'
  have ef : f' = f := (dst_zero h f0 f1 f0' f1').mp (by omega)
  subst ef
  exact ⟨rfl, near_uniq t e0 e1 q.symm q'.symm he he'⟩
end
/-! products and sums -/
def prodL : List Int → Int
  | [] => 1
  | x :: xs => x * prodL xs
/-- the ways to leave one out -/
def outL : List Int → Int
  | [] => 0
  | x :: xs => x * outL xs + prodL xs
theorem prodL_perm {xs ys : List Int} (h : xs.Perm ys) : prodL xs = prodL ys := by
  induction h with
  | nil => rfl
  | cons x _ ih => show x * _ = x * _; rw [ih]
  | swap x y l => show y * (x * prodL l) = x * (y * prodL l); rw [Int.mul_left_comm]
  | trans _ _ h1 h2 => exact h1.trans h2
theorem outL_perm {xs ys : List Int} (h : xs.Perm ys) : outL xs = outL ys := by
  induction h with
  | nil => rfl
  | cons x p ih => show x * _ + _ = x * _ + _; rw [ih, prodL_perm p]
  | swap x y l =>
    show y * (x * outL l + prodL l) + x * prodL l = x * (y * outL l + prodL l) + y * prodL l
    rw [Int.mul_add, Int.mul_add, Int.mul_left_comm]
    omega
  | trans _ _ h1 h2 => exact h1.trans h2
theorem sum_perm {xs ys : List Int} (h : xs.Perm ys) : xs.sum = ys.sum := by
  induction h with
  | nil => rfl
  | cons x _ ih => rw [List.sum_cons, List.sum_cons, ih]
  | swap x y l => rw [List.sum_cons, List.sum_cons, List.sum_cons, List.sum_cons]; omega
  | trans _ _ h1 h2 => exact h1.trans h2
theorem prodL_dvd {x : Int} : ∀ {xs : List Int}, x ∈ xs → x ∣ prodL xs
  | y :: xs, h => by
    rcases List.mem_cons.mp h with rfl | h
    · exact Int.dvd_mul_right _ _
    · exact Int.dvd_trans (prodL_dvd h) (Int.dvd_mul_left _ _)
theorem outL_div : ∀ {xs : List Int}, (∀ x ∈ xs, 0 < x) → (xs.map fun x => prodL xs / x).sum = outL xs
  | [], _ => rfl
  | y :: xs, h => by
    have hy := h y List.mem_cons_self
    rw [List.map_cons, List.sum_cons]
    show y * prodL xs / y + (xs.map fun x => y * prodL xs / x).sum = y * outL xs + prodL xs
    rw [Int.mul_ediv_cancel_left _ (by omega), ← outL_div fun x hx => h x (List.mem_cons_of_mem _ hx)]
    have e : (xs.map fun x => y * prodL xs / x) = xs.map fun x => y * (prodL xs / x) := List.map_congr_left fun x hx => Int.mul_ediv_assoc _ (prodL_dvd hx)
    rw [e]
    have e2 : ∀ zs : List Int, (zs.map fun x => y * (prodL xs / x)).sum = y * (zs.map fun x => prodL xs / x).sum := fun zs => by
      induction zs with
      | nil => rw [List.map_nil, List.map_nil]; show (0 : Int) = y * 0; omega
      | cons z zs ih => rw [List.map_cons, List.map_cons, List.sum_cons, List.sum_cons, ih, Int.mul_add]
    rw [e2]
    omega
theorem two_pow (x : Nat) : (x : Int) + 1 ≤ 2 ^ x := by
  have h := Nat.lt_two_pow_self (n := x)
  have : ((x + 1 : Nat) : Int) ≤ ((2 ^ x : Nat) : Int) := Int.ofNat_le.mpr h
  rw [Int.natCast_pow] at this
  exact this
theorem pow_bd : ∀ {ms : List Nat}, 0 ≤ prodL (ms.map fun m : Nat => (m : Int)) ∧ prodL (ms.map fun m : Nat => (m : Int)) ≤ 2 ^ ms.sum ∧ 0 ≤ outL (ms.map fun m : Nat => (m : Int)) ∧ outL (ms.map fun m : Nat => (m : Int)) ≤ 2 ^ ms.sum
  | [] => ⟨by decide, by decide, by decide, by decide⟩
  | m :: ms => by
    obtain ⟨h1, h2, h3, h4⟩ := pow_bd (ms := ms)
    rw [List.sum_cons, Int.pow_add]
    have hp := two_pow m
    generalize hP : prodL (ms.map fun m : Nat => (m : Int)) = P at h1 h2
    generalize hO : outL (ms.map fun m : Nat => (m : Int)) = O at h3 h4
    generalize (2 : Int) ^ ms.sum = q at h2 h4
    generalize (2 : Int) ^ m = r at hp
    have e1 : prodL ((m :: ms).map fun m : Nat => (m : Int)) = (m : Int) * P := by rw [← hP]; rfl
    have e2 : outL ((m :: ms).map fun m : Nat => (m : Int)) = (m : Int) * O + P := by rw [← hP, ← hO]; rfl
    rw [e1, e2]
    have m0 : (0 : Int) ≤ (m : Int) := Int.natCast_nonneg m
    have q0 : 0 ≤ q := Int.le_trans h1 h2
    have a1 : (m : Int) * P ≤ (m : Int) * q := Int.mul_le_mul_of_nonneg_left h2 m0
    have a2 : (m : Int) * O ≤ (m : Int) * q := Int.mul_le_mul_of_nonneg_left h4 m0
    have a3 : ((m : Int) + 1) * q ≤ r * q := Int.mul_le_mul_of_nonneg_right hp q0
    have a4 : ((m : Int) + 1) * q = (m : Int) * q + q := by rw [Int.add_mul, Int.one_mul]
    have b1 : 0 ≤ (m : Int) * P := Int.mul_nonneg m0 h1
    have b2 : 0 ≤ (m : Int) * O := Int.mul_nonneg m0 h3
    exact ⟨b1, by omega, by omega, by omega⟩
def lensL (row : List (List Int)) : List Int := row.map fun l => (l.length : Int)
theorem lens_cast (row : List (List Int)) : lensL row = (row.map fun l => l.length).map fun m : Nat => (m : Int) := by
  unfold lensL
  rw [List.map_map]
  rfl
theorem out_bd {row : List (List Int)} (h : (row.map fun l => l.length).sum ≤ 60) : 0 ≤ outL (lensL row) ∧ outL (lensL row) < 2 ^ 64 := by
  obtain ⟨_, _, h3, h4⟩ := pow_bd (ms := row.map fun l => l.length)
  rw [lens_cast]
  refine ⟨h3, Int.lt_of_le_of_lt h4 ?_⟩
  have : (2 : Nat) ^ (row.map fun l => l.length).sum ≤ 2 ^ 60 := Nat.pow_le_pow_right (by decide) h
  have h5 : (((2 : Nat) ^ (row.map fun l => l.length).sum : Nat) : Int) ≤ ((2 ^ 60 : Nat) : Int) := Int.ofNat_le.mpr this
  rw [Int.natCast_pow] at h5
  exact Int.lt_of_le_of_lt h5 (by decide)
/-! ### what the program counts -/
theorem ways_fold {f : List Int → List Int → R (Sum Int (Bool × List Int))} : ∀ {legs : List (List Int)} {a b : Int}, (∀ a b leg, leg ∈ legs → f [a, b] leg = R.ok (.inr (true, [a * (leg.length : Int), b * (leg.length : Int) + a]))) → foldX f [a, b] legs = R.ok (.inr [a * prodL (lensL legs), b * prodL (lensL legs) + a * outL (lensL legs)])
  | [], a, b, _ => by
    show (R.ok (Sum.inr [a, b]) : R (Sum Int (List Int))) = R.ok (Sum.inr [a * 1, b * 1 + a * 0])
    rw [Int.mul_one, Int.mul_one, Int.mul_zero, Int.add_zero]
  | leg :: legs, a, b, h => by
    unfold foldX
    rw [h a b leg List.mem_cons_self, ok_bind]
    show foldX f [a * (leg.length : Int), b * (leg.length : Int) + a] legs = _
    rw [ways_fold fun a b l hl => h a b l (List.mem_cons_of_mem _ hl)]
    have e1 : prodL (lensL (leg :: legs)) = (leg.length : Int) * prodL (lensL legs) := rfl
    have e2 : outL (lensL (leg :: legs)) = (leg.length : Int) * outL (lensL legs) + prodL (lensL legs) := rfl
    rw [e1, e2]
    generalize prodL (lensL legs) = P
    generalize outL (lensL legs) = O
    generalize (leg.length : Int) = l
    have g1 : a * l * P = a * (l * P) := Int.mul_assoc _ _ _
    have g2 : (b * l + a) * P + a * l * O = b * (l * P) + a * (l * O + P) := by
      rw [Int.add_mul, Int.mul_add, Int.mul_assoc, Int.mul_assoc]
      omega
    rw [g1, g2]
theorem ways_ok {legs : List (List Int)} {sp : Int} (h : ∀ leg ∈ legs, leg.length ≤ 60 ∧ ∀ v ∈ leg, 0 ≤ v) (hs : sp = 0 ∨ sp = 1) : ways_of (legs, sp) [] (-1) = R.ok (if sp = 0 then prodL (lensL legs) else outL (lensL legs)) := by
  unfold ways_of
  dsimp only
  rw [ways_fold fun a b leg hleg => ?_]
  · rw [ok_bind]
    show getI [1 * prodL (lensL legs), 0 * prodL (lensL legs) + 1 * outL (lensL legs)] sp >>= _ = _
    rw [Int.one_mul, Int.one_mul, Int.zero_mul, Int.zero_add]
    rcases hs with rfl | rfl
    · rfl
    · rfl
  · obtain ⟨hl, hv⟩ := h leg hleg
    refine po_iff (po_filGE (g := fun _ => (none : Option Int)) (by omega) (fun x _ => rfl) ?_)
    have e1 : (leg.filterMap fun _ => (none : Option Int)) = [] := by
      clear hl hv hleg
      induction leg with
      | nil => rfl
      | cons x xs ih => rw [List.filterMap_cons]; exact ih
    rw [e1]
    refine po_if (fun c => absurd c (by decide)) fun _ => po_if (fun _ => ?_) fun c => absurd rfl c
    refine po_filGE (g := fun x => some x) (by omega) (fun x hx => ?_) ?_
    · have := hv x hx
      rw [if_pos (decide_eq_true (show -1 < x by omega))]
    · rw [List.filterMap_some]
      refine po_getE (x := a) (getI_eq (by decide) rfl) (po_mul (.inr ⟨by omega, by omega⟩) (po_getE (x := b) (getI_eq (by decide) rfl) (po_mul (.inr ⟨by omega, by omega⟩) (po_getE (x := a) (getI_eq (by decide) rfl) rfl))))
theorem count_ok : ∀ {lots : List (List (List Int))} {c : Int}, (∀ row ∈ lots, (∀ leg ∈ row, leg.length ≤ 60 ∧ ∀ v ∈ leg, 0 ≤ v) ∧ (row.map fun l => l.length).sum ≤ 60) → foldR (fun (g3 : Int) (b3 : ((List (List Int)) × Int)) => do
      let y7 ← ways_of b3 [] (-(1 : Int))
      let t8 ← mulI g3 y7
      R.ok t8) c (lots.map fun row => (row, (1 : Int))) = R.ok (c * prodL (lots.map fun row => outL (lensL row)))
  | [], c, _ => by
    show R.ok c = R.ok (c * 1)
    rw [Int.mul_one]
  | row :: lots, c, h => by
    obtain ⟨h1, h2⟩ := h row List.mem_cons_self
    obtain ⟨b1, b2⟩ := out_bd h2
    rw [List.map_cons]
    unfold foldR
    rw [ways_ok h1 (.inr rfl), ok_bind, if_neg (by decide), mulI_ok (.inr ⟨by omega, b2⟩), ok_bind, ok_bind]
    rw [count_ok fun r hr => h r (List.mem_cons_of_mem _ hr), List.map_cons]
    show R.ok (c * outL (lensL row) * prodL _) = R.ok (c * (outL (lensL row) * prodL _))
    rw [Int.mul_assoc]
/-! the legs of a tree, and its places of one neighbour -/
def endsL (n : Int) (ts : List (Int × Int)) : List Int := (rng 0 n).filter fun v => decide (deg ts v = 1)
noncomputable def okS (n : Int) (ts : List (Int × Int)) (leg : List Int) : Bool := leg.all fun v => decide (deg ts v < 3)
noncomputable def LP (n : Int) (ts : List (Int × Int)) (f : Int) : List Int := (sortI (nbs ts f)).filter fun s => okS n ts (pieceL n ts f s)
def forksL (n : Int) (ts : List (Int × Int)) : List Int := (rng 0 n).filter fun f => decide (2 < deg ts f)
noncomputable def rowL (n : Int) (ts : List (Int × Int)) (f : Int) : List (List Int) := (LP n ts f).map (pieceL n ts f)
noncomputable def bareL (n : Int) (ts : List (Int × Int)) : List Int := (forksL n ts).filter fun f => !decide (LP n ts f = [])
section
variable {n : Int} {ts : List (Int × Int)}
theorem ends_mem {v : Int} : v ∈ endsL n ts ↔ (0 ≤ v ∧ v < n) ∧ deg ts v = 1 := by
  unfold endsL
  rw [List.mem_filter, rng_mem, decide_eq_true_iff]
theorem ends_nd : (endsL n ts).Nodup := (rng_nodup 0 n).filter _
theorem LP_mem {f s : Int} : s ∈ LP n ts f ↔ Adj ts f s ∧ ∀ v, 0 ≤ v → v < n → Sd n ts f s v → deg ts v ≤ 2 := by
  unfold LP okS
  rw [List.mem_filter, sortI_mem, nbs_mem, List.all_eq_true]
  refine and_congr Iff.rfl ⟨fun h v v0 v1 hs => ?_, fun h v hv => ?_⟩
  · have := of_decide_eq_true (h v (pieceL_mem.mpr ⟨⟨v0, v1⟩, hs⟩))
    omega
  · obtain ⟨hr, hs⟩ := pieceL_mem.mp hv
    have := h v hr.1 hr.2 hs
    exact decide_eq_true (by omega)
theorem LP_nd (h : WebOk n ts) (f : Int) : (LP n ts f).Nodup := ((sortI_perm _).nodup_iff.mpr (nbs_nd h f)).filter _
theorem nb_exists (h : WebOk n ts) (n2 : 2 ≤ n) {m : Int} (m0 : 0 ≤ m) (m1 : m < n) : ∃ s, Adj ts m s := by
  obtain ⟨v, v0, v1, hv⟩ : ∃ v, 0 ≤ v ∧ v < n ∧ m ≠ v := by
    by_cases c : m = 0
    · exact ⟨1, by omega, by omega, by omega⟩
    · exact ⟨0, by omega, by omega, c⟩
  obtain ⟨w, _, _, q, _⟩ := dst_near h v0 v1 m0 m1 hv
  exact ⟨w, q.symm⟩
/-- where each leg leads -/
structure LegF (n : Int) (ts : List (Int × Int)) (fk sk : Int → Int) : Prop where
  eq : ∀ e ∈ endsL n ts, leg_from (nears n ts) e = R.ok (fk e, pieceL n ts (fk e) (sk e))
  adj : ∀ e ∈ endsL n ts, Adj ts (fk e) (sk e)
  big : ∀ e ∈ endsL n ts, 3 ≤ deg ts (fk e)
  sd : ∀ e ∈ endsL n ts, Sd n ts (fk e) (sk e) e
  two : ∀ e ∈ endsL n ts, ∀ v, 0 ≤ v → v < n → Sd n ts (fk e) (sk e) v → v = e ∨ deg ts v = 2
end
section
variable {n : Int} {ts : List (Int × Int)} (t : TreeOk n ts)
include t
theorem legF_ex {v0 : Int} (r0 : 0 ≤ v0) (r1 : v0 < n) (hv : 3 ≤ deg ts v0) : ∃ fk sk, LegF n ts fk sk := by
  have h := t.web
  have key : ∀ e, ∃ p : Int × Int, e ∈ endsL n ts → leg_from (nears n ts) e = R.ok (p.1, pieceL n ts p.1 p.2) ∧ Adj ts p.1 p.2 ∧ 3 ≤ deg ts p.1 ∧ Sd n ts p.1 p.2 e ∧ ∀ v, 0 ≤ v → v < n → Sd n ts p.1 p.2 v → v = e ∨ deg ts v = 2 := fun e => by
    by_cases c : e ∈ endsL n ts
    · obtain ⟨⟨e0, e1⟩, he⟩ := ends_mem.mp c
      obtain ⟨f, s, h1, q, h3, h4, h5⟩ := leg_ex t e0 e1 he
      refine ⟨(f, s), fun _ => ⟨h1, q, ?_, h4, h5⟩⟩
      obtain ⟨f0, f1, s0, s1, _⟩ := h.adj q
      have hp := deg_pos q
      apply Classical.byContradiction
      intro hno
      have hf1 : deg ts f = 1 := by
        have : ¬ 3 ≤ deg ts f := hno
        omega
      have hvf : f ≠ v0 := fun z => by rw [z] at hf1; omega
      obtain ⟨w, w0, w1, qw, ew⟩ := dst_near h r0 r1 f0 f1 hvf
      have hws : w = s := one_nb hf1 q qw.symm
      subst hws
      rcases h5 v0 r0 r1 ew with z | z
      · rw [z] at hv; omega
      · omega
    · exact ⟨(0, 0), fun z => absurd z c⟩
  obtain ⟨g, hg⟩ := Classical.axiomOfChoice key
  exact ⟨fun e => (g e).1, fun e => (g e).2, fun e he => (hg e he).1, fun e he => (hg e he).2.1, fun e he => (hg e he).2.2.1, fun e he => (hg e he).2.2.2.1, fun e he => (hg e he).2.2.2.2⟩
theorem ends_perm {fk sk : Int → Int} (L : LegF n ts fk sk) {f : Int} (hf : 3 ≤ deg ts f) : (((endsL n ts).filter fun e => decide (fk e = f)).map sk).Perm (LP n ts f) := by
  have h := t.web
  refine perm_nodup ?_ (LP_nd h f) fun s => ?_
  · refine List.pairwise_map.mpr (List.Pairwise.imp_of_mem ?_ (ends_nd.filter _))
    intro e e' he he' hne hs
    obtain ⟨m1, k1⟩ := List.mem_filter.mp he
    obtain ⟨m2, k2⟩ := List.mem_filter.mp he'
    have k1 := of_decide_eq_true k1
    have k2 := of_decide_eq_true k2
    obtain ⟨r2, d2⟩ := ends_mem.mp m2
    have := L.sd e' m2
    rw [k2, ← hs, ← k1] at this
    rcases L.two e m1 e' r2.1 r2.2 this with z | z
    · exact hne z.symm
    · omega
  · rw [List.mem_map]
    constructor
    · rintro ⟨e, he, rfl⟩
      obtain ⟨m1, k1⟩ := List.mem_filter.mp he
      have k1 := of_decide_eq_true k1
      subst k1
      refine LP_mem.mpr ⟨L.adj e m1, fun v v0 v1 hs => ?_⟩
      rcases L.two e m1 v v0 v1 hs with z | z
      · have := (ends_mem.mp m1).2
        rw [z]
        omega
      · omega
    · intro hs
      obtain ⟨q, hd⟩ := LP_mem.mp hs
      obtain ⟨e, hr, hse, he⟩ := side_leaf t q
      have me : e ∈ endsL n ts := ends_mem.mpr ⟨hr, he⟩
      have hu := leg_uniq t hr.1 hr.2 q (L.adj e me) hf (L.big e me) hse (L.sd e me) hd fun v v0 v1 hv => by
        rcases L.two e me v v0 v1 hv with z | z
        · rw [z, he]; decide
        · omega
      exact ⟨e, List.mem_filter.mpr ⟨me, decide_eq_true hu.1.symm⟩, hu.2.symm⟩
theorem keys_perm {fk sk : Int → Int} (L : LegF n ts fk sk) : (keysG fk (endsL n ts)).Perm (bareL n ts) := by
  have h := t.web
  refine perm_nodup keysG_nodup (((rng_nodup 0 n).filter _).filter _) fun f => ?_
  unfold bareL forksL
  rw [keysG_mem, List.mem_filter, List.mem_filter, rng_mem, decide_eq_true_iff]
  constructor
  · rintro ⟨e, he, rfl⟩
    obtain ⟨f0, f1, _⟩ := h.adj (L.adj e he)
    have hb := L.big e he
    refine ⟨⟨⟨f0, f1⟩, by omega⟩, ?_⟩
    have hm : sk e ∈ LP n ts (fk e) := (ends_perm t L hb).mem_iff.mp (List.mem_map_of_mem (List.mem_filter.mpr ⟨he, decide_eq_true rfl⟩))
    rw [decide_eq_false (List.ne_nil_of_mem hm)]
    rfl
  · rintro ⟨⟨⟨f0, f1⟩, hb⟩, hne⟩
    have hne' : LP n ts f ≠ [] := by simpa using hne
    obtain ⟨s, hs⟩ := List.exists_mem_of_ne_nil _ hne'
    obtain ⟨e, he, _⟩ := List.mem_map.mp ((ends_perm t L (show 3 ≤ deg ts f by omega)).mem_iff.mpr hs)
    obtain ⟨m1, k1⟩ := List.mem_filter.mp he
    exact ⟨e, m1, of_decide_eq_true k1⟩
/-- three places of one neighbour at least, where there is a fork -/
theorem ends_three {v0 : Int} (r0 : 0 ≤ v0) (r1 : v0 < n) (hv : 3 ≤ deg ts v0) : 3 ≤ (endsL n ts).length := by
  have h := t.web
  have hn := nbs_nd h v0
  have hm : ∀ s, s ∈ nbs ts v0 → Adj ts v0 s := fun s hs => nbs_mem.mp hs
  unfold deg at hv
  match nbs ts v0, hv, hn, hm with
  | x :: y :: z :: l, _, hn, hm =>
    have qx := hm x (by simp)
    have qy := hm y (by simp)
    have qz := hm z (by simp)
    have hxy : x ≠ y := fun e => by rw [e] at hn; simp at hn
    have hxz : x ≠ z := fun e => by rw [e] at hn; simp at hn
    have hyz : y ≠ z := fun e => by rw [e] at hn; simp at hn
    obtain ⟨a, ra, sa, da⟩ := side_leaf t qx
    obtain ⟨b, rb, sb, db⟩ := side_leaf t qy
    obtain ⟨c, rc, sc, dc⟩ := side_leaf t qz
    have nab : a ≠ b := fun e => by subst e; exact hxy (near_uniq t ra.1 ra.2 qx.symm qy.symm sa sb)
    have nac : a ≠ c := fun e => by subst e; exact hxz (near_uniq t ra.1 ra.2 qx.symm qz.symm sa sc)
    have nbc : b ≠ c := fun e => by subst e; exact hyz (near_uniq t rb.1 rb.2 qy.symm qz.symm sb sc)
    have := nodup_le (xs := [a, b, c]) (ys := endsL n ts) (by simp [nab, nac, nbc]) fun v hv => by
      simp only [List.mem_cons, List.not_mem_nil, or_false] at hv
      rcases hv with rfl | rfl | rfl
      · exact ends_mem.mpr ⟨ra, da⟩
      · exact ends_mem.mpr ⟨rb, db⟩
      · exact ends_mem.mpr ⟨rc, dc⟩
    exact this
/-- two of them, where there is none -/
theorem ends_two (n2 : 2 ≤ n) (hd : ∀ v, 0 ≤ v → v < n → deg ts v ≤ 2) : (endsL n ts).length = 2 := by
  have h := t.web
  obtain ⟨s0, q0⟩ := nb_exists h n2 (m := 0) (by omega) (by omega)
  obtain ⟨e, re, _, de⟩ := side_leaf t q0
  obtain ⟨f, s, _, q, h3, h4, h5⟩ := leg_ex t re.1 re.2 de
  obtain ⟨f0, f1, s0', s1', _⟩ := h.adj q
  have hp := deg_pos q
  have hf := hd f f0 f1
  have df : deg ts f = 1 := by omega
  have hef : e ≠ f := fun z => by rw [z] at h4; exact side_not h q h4
  have hperm : (endsL n ts).Perm [e, f] := perm_nodup ends_nd (by simp [hef]) fun v => by
    rw [ends_mem]
    constructor
    · rintro ⟨hr, dv⟩
      by_cases c : f = v
      · rw [← c]; simp
      · obtain ⟨w, w0, w1, qw, ew⟩ := dst_near h hr.1 hr.2 f0 f1 c
        have hws : w = s := one_nb df q qw.symm
        subst hws
        rcases h5 v hr.1 hr.2 ew with z | z
        · rw [z]; simp
        · omega
    · intro hv
      simp only [List.mem_cons, List.not_mem_nil, or_false] at hv
      rcases hv with rfl | rfl
      · exact ⟨re, de⟩
      · exact ⟨⟨f0, f1⟩, df⟩
  exact hperm.length_eq
/-- legs of one fork have no place together -/
theorem row_sum (f : Int) : ((rowL n ts f).map fun l => l.length).sum ≤ 60 := by
  have h := t.web
  have hn := h.n60
  have key : ∀ S : List Int, S.Nodup → (∀ s ∈ S, Adj ts f s) → (S.flatMap (pieceL n ts f)).Nodup ∧ (∀ v ∈ S.flatMap (pieceL n ts f), 0 ≤ v ∧ v < n) ∧ (S.flatMap (pieceL n ts f)).length = ((S.map (pieceL n ts f)).map fun l => l.length).sum := by
    intro S
    induction S with
    | nil => exact fun _ _ => ⟨List.nodup_nil, fun _ h => (nomatch h), rfl⟩
    | cons s S ih =>
      intro hS hq
      obtain ⟨hs, hS'⟩ := List.nodup_cons.mp hS
      obtain ⟨i1, i2, i3⟩ := ih hS' fun s hs => hq s (List.mem_cons_of_mem _ hs)
      rw [List.flatMap_cons]
      refine ⟨List.nodup_append.mpr ⟨(rng_nodup 0 n).filter _, i1, fun a ha b hb e => ?_⟩, fun v hv => ?_, ?_⟩
      · subst e
        obtain ⟨s', hs', hb'⟩ := List.mem_flatMap.mp hb
        have h1 := pieceL_mem.mp ha
        have h2 := pieceL_mem.mp hb'
        have := near_uniq t h1.1.1 h1.1.2 (hq s List.mem_cons_self).symm (hq s' (List.mem_cons_of_mem _ hs')).symm h1.2 h2.2
        subst this
        exact hs hs'
      · rcases List.mem_append.mp hv with hv | hv
        · exact (pieceL_mem.mp hv).1
        · exact i2 v hv
      · rw [List.length_append, i3, List.map_cons, List.map_cons, List.sum_cons]
  obtain ⟨k1, k2, k3⟩ := key (LP n ts f) (LP_nd h f) fun s hs => (LP_mem.mp hs).1
  unfold rowL
  rw [← k3]
  have := nodup_le k1 (ys := rng 0 n) fun v hv => rng_mem.mpr (k2 v hv)
  rw [rng_length] at this
  omega
omit t
theorem piece_len {f s : Int} (h : WebOk n ts) : (pieceL n ts f s).length ≤ 60 := by
  have hn := h.n60
  have : (pieceL n ts f s).length ≤ (rng 0 n).length := List.length_filter_le _ _
  rw [rng_length] at this
  omega
theorem row_legs (h : WebOk n ts) {f : Int} : ∀ leg ∈ rowL n ts f, leg.length ≤ 60 ∧ (∀ v ∈ leg, 0 ≤ v) ∧ 0 < leg.length := fun leg hl => by
  obtain ⟨s, hs, rfl⟩ := List.mem_map.mp hl
  have q := (LP_mem.mp hs).1
  have hr := h.adj q
  exact ⟨piece_len h, fun v hv => (pieceL_mem.mp hv).1.1, List.length_pos_of_mem (pieceL_mem.mpr ⟨⟨hr.2.2.1, hr.2.2.2.1⟩, side_self h q⟩)⟩
end
/-- the rows that the program gathers -/
noncomputable def rowP (n : Int) (ts : List (Int × Int)) (fk sk : Int → Int) (f : Int) : List (List Int) := ((endsL n ts).filter fun e => decide (fk e = f)).map fun e => pieceL n ts (fk e) (sk e)
theorem rowP_perm {n : Int} {ts : List (Int × Int)} (t : TreeOk n ts) {fk sk : Int → Int} (L : LegF n ts fk sk) {f : Int} (hf : 3 ≤ deg ts f) : (rowP n ts fk sk f).Perm (rowL n ts f) := by
  have e : rowP n ts fk sk f = (((endsL n ts).filter fun e => decide (fk e = f)).map sk).map (pieceL n ts f) := by
    unfold rowP
    rw [List.map_map]
    refine List.map_congr_left fun e he => ?_
    have := of_decide_eq_true (List.mem_filter.mp he).2
    show pieceL n ts (fk e) (sk e) = pieceL n ts f (sk e)
    rw [this]
  rw [e]
  exact (ends_perm t L hf).map _
theorem legs_by_ok {n : Int} {ts : List (Int × Int)} {fk sk : Int → Int} (L : LegF n ts fk sk) (hl : (endsL n ts).length ≤ 60) : legs_by_fork (nears n ts) (endsL n ts) = R.ok (mkG 0 (keysG fk (endsL n ts)), (keysG fk (endsL n ts)).map (rowP n ts fk sk)) := by
  have gen : ∀ ks es : List Int, ks.map (fun f => (es.filter fun e => decide (fk e = f)).map fun e => pieceL n ts (fk e) (sk e)) = (rowsG fk ks es).map fun r => r.map fun e => pieceL n ts (fk e) (sk e) := fun ks es => by
    unfold rowsG
    rw [List.map_map]
    rfl
  refine po_iff ?_
  unfold legs_by_fork
  refine po_bind (po_foldP (fun pre s => s = (mkG 0 (keysG fk pre), (rowsG fk (keysG fk pre) pre).map fun r => r.map fun e => pieceL n ts (fk e) (sk e))) rfl fun pre s e post hp hs => ?_) fun r hr => ?_
  · subst hs
    have he : e ∈ endsL n ts := by rw [hp]; simp
    have hpl : pre.length ≤ 60 := by rw [hp, List.length_append] at hl; omega
    have hkl := keysG_len (c := fk) (ts := pre)
    rw [L.eq e he, ok_bind]
    refine po_bind (Q := fun g => g = (mkG 0 (keysG fk (pre ++ [e])), (rowsG fk (keysG fk (pre ++ [e])) pre).map fun r => r.map fun e => pieceL n ts (fk e) (sk e))) (po_if (fun q => ?_) fun q => ?_) fun g hg => ?_
    · rw [mkG_has] at q
      have hm : fk e ∉ keysG fk pre := fun z => by rw [decide_eq_true z] at q; exact absurd q (by decide)
      rw [keysG_snoc]
      unfold kstep
      rw [if_neg hm, rowsG_new hm]
      refine po_newS (po_mput (by rw [mkG_len]; omega) ?_)
      show (_, _) = (_, _)
      rw [mput_new (by rw [mkG_has]; exact decide_eq_false hm), mkG_snoc, List.map_append]
      unfold rowsG
      rw [List.length_map, List.length_map, Nat.zero_add]
      rfl
    · rw [mkG_has] at q
      have hm : fk e ∈ keysG fk pre := by
        by_cases z : fk e ∈ keysG fk pre
        · exact z
        · exfalso
          apply q
          rw [decide_eq_false z]
          rfl
      rw [keysG_snoc]
      unfold kstep
      rw [if_pos hm]
      exact rfl
    · subst hg
      have hd := keysG_nodup (c := fk) (ts := pre ++ [e])
      obtain ⟨j, e1, e2⟩ := fidx_mem (k := fk e) (ks := keysG fk (pre ++ [e])) (keysG_mem.mpr ⟨e, by simp, rfl⟩)
      have e3 : ((rowsG fk (keysG fk (pre ++ [e])) pre).map fun r => r.map fun e => pieceL n ts (fk e) (sk e))[j]? = some ((pre.filter fun u => decide (fk u = fk e)).map fun e => pieceL n ts (fk e) (sk e)) := by
        rw [List.getElem?_map, rowsG_get e2]
        rfl
      refine po_mgetE (x := j) (by rw [mkG_get, e1]; show some (0 + j) = _; rw [Nat.zero_add]) (po_getS e3 (po_app ?_ (po_setS ?_)))
      · rw [List.length_map]
        refine Nat.lt_of_le_of_lt (List.length_filter_le _ _) ?_
        omega
      · show (_, _) = (_, _)
        rw [← rowsG_set hd e2, List.map_set, List.map_append]
        rfl
  · subst hr
    show (_, _) = (_, _)
    unfold rowP
    rw [gen]
theorem derefD_ok {α : Type} : ∀ {ks : List Int} {rows : List (List α)} {pre : List (List α)} {i : Nat}, rows.length = ks.length → pre.length = i → ∃ l, derefD (pre ++ rows) (mkG i ks) = R.ok l ∧ l.map (·.2) = rows
  | [], rows, pre, i, h1, h2 => by
    have : rows = [] := List.eq_nil_of_length_eq_zero h1
    subst this
    exact ⟨[], rfl, rfl⟩
  | k :: ks, [], pre, i, h1, h2 => nomatch h1
  | k :: ks, r :: rows, pre, i, h1, h2 => by
    obtain ⟨l, e1, e2⟩ := derefD_ok (ks := ks) (rows := rows) (pre := pre ++ [r]) (i := i + 1) (by simpa using h1) (by rw [List.length_append, h2]; rfl)
    rw [List.append_assoc] at e1
    have e1' : mapR (fun p : Int × Ix => getS (pre ++ r :: rows) p.2 >>= fun x => R.ok (p.1, x)) (mkG (i + 1) ks) = R.ok l := e1
    refine ⟨(k, r) :: l, ?_, by rw [List.map_cons, e2]⟩
    unfold derefD
    show mapR _ ((k, i) :: mkG (i + 1) ks) = _
    unfold mapR
    have hg : getS (pre ++ r :: rows) i = R.ok r := by
      unfold getS
      rw [List.getElem?_append_right (by omega), h2, Nat.sub_self]
      rfl
    dsimp only
    rw [hg, ok_bind, ok_bind, e1']
    rfl
theorem max_is {xs : List Int} (h : xs ≠ []) : ∃ r, maxL xs = R.ok r ∧ r ∈ xs ∧ ∀ x ∈ xs, x ≤ r := by
  cases e : xs.max? with
  | none => exact absurd (List.max?_eq_none_iff.mp e) h
  | some r =>
    have := List.max?_eq_some_iff.mp e
    refine ⟨r, ?_, this.1, this.2⟩
    unfold maxL
    rw [e]
    rfl
theorem fil_len {α β : Type} (c : α → Bool) (f : α → β) (xs : List α) : (xs.filterMap fun x => if c x = true then some (f x) else none).length = (xs.filter c).length := by
  induction xs with
  | nil => rfl
  | cons x xs ih =>
    rw [List.filterMap_cons, List.filter_cons]
    by_cases q : c x = true
    · rw [if_pos q, if_pos q]
      show _ + 1 = _ + 1
      rw [ih]
    · rw [if_neg q, if_neg q]
      exact ih
theorem fil_one {α : Type} {xs : List α} {q : α → Bool} {x : α} (hn : xs.Nodup) (hx : x ∈ xs) (hq : q x = true) (ho : ∀ y ∈ xs, y ≠ x → q y = false) : xs.filter q = [x] := by
  induction xs with
  | nil => cases hx
  | cons y xs ih =>
    rw [List.nodup_cons] at hn
    rw [List.filter_cons]
    by_cases e : y = x
    · subst e
      rw [if_pos hq]
      congr 1
      refine List.filter_eq_nil_iff.mpr fun z hz hqz => ?_
      rw [ho z (List.mem_cons_of_mem _ hz) fun w => hn.1 (w ▸ hz)] at hqz
      cases hqz
    · rw [if_neg (by rw [ho y List.mem_cons_self e]; decide)]
      exact ih hn.2 ((List.mem_cons.mp hx).resolve_left (Ne.symm e)) fun z hz => ho z (List.mem_cons_of_mem _ hz)
theorem near_all {n : Int} {ts : List (Int × Int)} (h : WebOk n ts) {δ : Type} {k : List (List Int) → R δ} {T : δ → Prop} (hk : Post (k (nears n ts)) T noX) : Post (mapG (fun (b4 : Int) => do
      let y6 ← neighbours_of (n, ⟨ts⟩) b4
      R.ok y6) (rng 0 n) >>= k) T noX := by
  have hn := h.n60
  exact po_mapGE (g := fun p => sortI (nbs ts p)) (by rw [rng_length]; omega) (fun p hp => by rw [nbr_ok h (rng_mem.mp hp).1 (rng_mem.mp hp).2]; rfl) hk
def few (n : Int) (k : Str) : Prop := n = 1 ∨ n = 2 ∧ k = "ties"
theorem few_iff {n : Int} {k : Str} : ((decide (n = (1 : Int))) || ((decide (n = (2 : Int))) && (decide (k = ("ties" : Str))))) = true ↔ few n k := by
  rw [Bool.or_eq_true, Bool.and_eq_true, decide_eq_true_iff, decide_eq_true_iff, decide_eq_true_iff]
  exact Iff.rfl
theorem ends_len {n : Int} {ts : List (Int × Int)} (h : WebOk n ts) : (endsL n ts).length ≤ 60 := by
  have hn := h.n60
  have : (endsL n ts).length ≤ (rng 0 n).length := List.length_filter_le _ _
  rw [rng_length] at this
  omega
theorem row_nil {n : Int} {ts : List (Int × Int)} {f : Int} : rowL n ts f = [] ↔ LP n ts f = [] := by
  unfold rowL
  exact List.map_eq_nil_iff
theorem nat_sum_perm {xs ys : List Nat} (h : xs.Perm ys) : xs.sum = ys.sum := by
  induction h with
  | nil => rfl
  | cons x _ ih => rw [List.sum_cons, List.sum_cons, ih]
  | swap x y l => rw [List.sum_cons, List.sum_cons, List.sum_cons, List.sum_cons]; omega
  | trans _ _ h1 h2 => exact h1.trans h2
theorem bare_rows {n : Int} {ts : List (Int × Int)} (t : TreeOk n ts) : ∀ row ∈ (bareL n ts).map (rowL n ts), (∀ leg ∈ row, leg.length ≤ 60 ∧ (∀ v ∈ leg, 0 ≤ v) ∧ 0 < leg.length) ∧ (row.map fun l => l.length).sum ≤ 60 ∧ row.length ≤ 60 := fun row hr => by
  obtain ⟨f, _, rfl⟩ := List.mem_map.mp hr
  refine ⟨row_legs t.web, row_sum t f, ?_⟩
  unfold rowL LP
  rw [List.length_map]
  exact Nat.le_trans (List.length_filter_le _ _) (nb_len t.web)
theorem grown_ok {n : Int} {ts : List (Int × Int)} (h : (ts.length : Int) = n - 1) : grown_asked (n, ⟨ts⟩) = R.ok () := by
  show (if (!decide ((ts.length : Int) = n - 1)) = true then (R.bad : R Unit) else R.ok ()) = _
  rw [decide_eq_true h]
  rfl
theorem looks_by_ok {lots : List (List (List Int) × Int)} (h : lots.length < 1000) : looks_by lots = R.ok (lots.map fun b => (b.1.length : Int) - b.2).sum := by
  unfold looks_by
  rw [mapG_ok (g := fun b : List (List Int) × Int => (b.1.length : Int) - b.2) (by omega) fun _ _ => rfl]
  rfl
/-! choices: one place of each leg of a row but one; numbered in the order of lists -/
/-- how many of a leg are taken -/
def mineN (T : List Int) (leg : List Int) : Nat := (leg.filter fun v => inB v T).length
def freeN (last : Int) (leg : List Int) : Nat := (leg.filter fun v => decide (last < v)).length
def dmul (x y : Int × Int) : Int × Int := (x.1 * y.1, x.1 * y.2 + x.2 * y.1)
def legV (T : List Int) (last : Int) (leg : List Int) : Int × Int := if 1 < mineN T leg then (0, 0) else if mineN T leg = 0 then ((freeN last leg : Int), 1) else (1, 0)
def rowV (T : List Int) (last : Int) : List (List Int) → Int × Int
  | [] => (1, 0)
  | leg :: row => dmul (legV T last leg) (rowV T last row)
def cntN (T : List Int) (last : Int) (rows : List (List (List Int))) : Int := prodL (rows.map fun row => (rowV T last row).2)
theorem inB_app {v p : Int} {T : List Int} : inB v (T ++ [p]) = (inB v T || decide (v = p)) := by
  by_cases c : v ∈ T ++ [p]
  · rw [inB_t.mpr c]
    rcases List.mem_append.mp c with c | c
    · rw [inB_t.mpr c]; rfl
    · rw [decide_eq_true (List.mem_singleton.mp c), Bool.or_true]
  · have h1 : inB v T = false := by
      cases e : inB v T with
      | false => rfl
      | true => exact absurd (List.mem_append_left _ (inB_t.mp e)) c
    have h2 : inB v (T ++ [p]) = false := by
      cases e : inB v (T ++ [p]) with
      | false => rfl
      | true => exact absurd (inB_t.mp e) c
    rw [h1, h2, decide_eq_false fun z => c (List.mem_append_right _ (List.mem_singleton.mpr z))]
    rfl
/-- p is the next place behind the last one -/
structure Nxt (T : List Int) (last p : Int) (leg : List Int) : Prop where
  lt : last < p
  le : ∀ v ∈ leg, last < v → p ≤ v
theorem leg_same {T : List Int} {last p : Int} {leg : List Int} (N : Nxt T last p leg) (hp : p ∉ leg) : legV (T ++ [p]) p leg = legV T last leg ∧ legV T p leg = legV T last leg := by
  have e1 : mineN (T ++ [p]) leg = mineN T leg := by
    unfold mineN
    congr 1
    refine List.filter_congr fun v hv => ?_
    have hne : v ≠ p := fun z => hp (by rw [← z]; exact hv)
    rw [inB_app, decide_eq_false hne, Bool.or_false]
  have e2 : freeN p leg = freeN last leg := by
    unfold freeN
    congr 1
    refine List.filter_congr fun v hv => ?_
    have hne : v ≠ p := fun z => hp (z ▸ hv)
    have := N.le v hv
    have := N.lt
    by_cases c : last < v
    · rw [decide_eq_true c, decide_eq_true (by omega)]
    · rw [decide_eq_false c, decide_eq_false (by omega)]
  unfold legV
  rw [e1, e2]
  exact ⟨rfl, rfl⟩
theorem fil_in {p : Int} : ∀ {leg : List Int} {f g : Int → Bool}, leg.Nodup → p ∈ leg → f p = false → g p = true → (∀ v ∈ leg, v ≠ p → g v = f v) → (leg.filter g).length = (leg.filter f).length + 1
  | [], _, _, _, h, _, _, _ => nomatch h
  | x :: leg, f, g, hn, hm, hf, hg, h => by
    have hn' := List.nodup_cons.mp hn
    rw [List.filter_cons, List.filter_cons]
    by_cases e : x = p
    · subst e
      rw [if_pos hg, if_neg (by rw [hf]; decide), List.length_cons]
      congr 2
      exact List.filter_congr fun v hv => h v (List.mem_cons_of_mem _ hv) fun z => hn'.1 (z ▸ hv)
    · have hm' := (List.mem_cons.mp hm).resolve_left (Ne.symm e)
      have ih := fil_in hn'.2 hm' hf hg fun v hv => h v (List.mem_cons_of_mem _ hv)
      rw [h x List.mem_cons_self e]
      split
      · rw [List.length_cons, List.length_cons, ih]
      · exact ih
theorem legV0 {T : List Int} {last : Int} {leg : List Int} (h : 1 < mineN T leg) : legV T last leg = (0, 0) := if_pos h
theorem legV1 {T : List Int} {last : Int} {leg : List Int} (h : mineN T leg = 0) : legV T last leg = ((freeN last leg : Int), 1) := by
  unfold legV
  rw [if_neg (by omega), if_pos h]
theorem legV2 {T : List Int} {last : Int} {leg : List Int} (h : mineN T leg = 1) : legV T last leg = (1, 0) := by
  unfold legV
  rw [if_neg (by omega), if_neg (by omega)]
theorem leg_split {T : List Int} {last p : Int} {leg : List Int} (N : Nxt T last p leg) (hn : leg.Nodup) (hp : p ∈ leg) (hT : p ∉ T) : legV T last leg = ((legV (T ++ [p]) p leg).1 + (legV T p leg).1, (legV (T ++ [p]) p leg).2 + (legV T p leg).2) := by
  have hTf : inB p T = false := by
    cases e : inB p T with
    | false => rfl
    | true => exact absurd (inB_t.mp e) hT
  have e1 : mineN (T ++ [p]) leg = mineN T leg + 1 := fil_in hn hp hTf (by rw [inB_app, decide_eq_true rfl, Bool.or_true]) fun v _ hne => by rw [inB_app, decide_eq_false hne, Bool.or_false]
  have e2 : freeN last leg = freeN p leg + 1 := fil_in hn hp (decide_eq_false (Int.lt_irrefl p)) (decide_eq_true N.lt) fun v hv hne => by
    have := N.le v hv
    have := N.lt
    by_cases c : last < v
    · rw [decide_eq_true c, decide_eq_true (by omega)]
    · rw [decide_eq_false c, decide_eq_false (by omega)]
  by_cases c1 : 1 < mineN T leg
  · rw [legV0 c1, legV0 c1, legV0 (show 1 < mineN (T ++ [p]) leg by omega)]
    rfl
  · by_cases c2 : mineN T leg = 0
    · rw [legV1 c2, legV1 c2, legV2 (show mineN (T ++ [p]) leg = 1 by omega), e2]
      show (((freeN p leg + 1 : Nat) : Int), (1 : Int)) = ((1 : Int) + (freeN p leg : Int), (0 : Int) + 1)
      congr 1
      omega
    · rw [legV2 (show mineN T leg = 1 by omega), legV2 (show mineN T leg = 1 by omega), legV0 (show 1 < mineN (T ++ [p]) leg by omega)]
      rfl
theorem row_same {T : List Int} {last p : Int} : ∀ {row : List (List Int)}, (∀ leg ∈ row, Nxt T last p leg ∧ p ∉ leg) → rowV (T ++ [p]) p row = rowV T last row ∧ rowV T p row = rowV T last row
  | [], _ => ⟨rfl, rfl⟩
  | leg :: row, h => by
    obtain ⟨h1, h2⟩ := h leg List.mem_cons_self
    obtain ⟨i1, i2⟩ := row_same fun l hl => h l (List.mem_cons_of_mem _ hl)
    obtain ⟨j1, j2⟩ := leg_same h1 h2
    unfold rowV
    rw [i1, i2, j1, j2]
    exact ⟨rfl, rfl⟩
theorem row_split {T : List Int} {last p : Int} (hT : p ∉ T) : ∀ {row : List (List Int)}, (∀ leg ∈ row, Nxt T last p leg) → row.flatten.Nodup → p ∈ row.flatten → rowV T last row = ((rowV (T ++ [p]) p row).1 + (rowV T p row).1, (rowV (T ++ [p]) p row).2 + (rowV T p row).2)
  | [], _, _, h => nomatch h
  | leg :: row, hN, hn, hm => by
    rw [List.flatten_cons] at hn hm
    obtain ⟨n1, n2, n3⟩ := List.nodup_append.mp hn
    have hN1 := hN leg List.mem_cons_self
    by_cases c : p ∈ leg
    · have hno : ∀ l ∈ row, p ∉ l := fun l hl z => n3 p c p (List.mem_flatten.mpr ⟨l, hl, z⟩) rfl
      obtain ⟨i1, i2⟩ := row_same (T := T) (last := last) (p := p) fun l hl => ⟨hN l (List.mem_cons_of_mem _ hl), hno l hl⟩
      have hs := leg_split hN1 n1 c hT
      unfold rowV
      rw [i1, i2, hs]
      unfold dmul
      generalize legV (T ++ [p]) p leg = x
      generalize legV T p leg = y
      generalize rowV T last row = z
      dsimp only
      rw [Int.add_mul, Int.add_mul, Int.add_mul]
      congr 1
      omega
    · have hm' := (List.mem_append.mp hm).resolve_left c
      have ih := row_split hT (fun l hl => hN l (List.mem_cons_of_mem _ hl)) n2 hm'
      obtain ⟨j1, j2⟩ := leg_same hN1 c
      unfold rowV
      rw [j1, j2, ih]
      unfold dmul
      generalize rowV (T ++ [p]) p row = x
      generalize rowV T p row = y
      generalize legV T last leg = z
      dsimp only
      rw [Int.mul_add, Int.mul_add, Int.mul_add]
      congr 1
      omega
theorem cnt_same {T : List Int} {last p : Int} {rows : List (List (List Int))} (h : ∀ row ∈ rows, ∀ leg ∈ row, Nxt T last p leg ∧ p ∉ leg) : cntN (T ++ [p]) p rows = cntN T last rows ∧ cntN T p rows = cntN T last rows := by
  unfold cntN
  have e1 : (rows.map fun row => (rowV (T ++ [p]) p row).2) = rows.map fun row => (rowV T last row).2 := List.map_congr_left fun row hr => by rw [(row_same (h row hr)).1]
  have e2 : (rows.map fun row => (rowV T p row).2) = rows.map fun row => (rowV T last row).2 := List.map_congr_left fun row hr => by rw [(row_same (h row hr)).2]
  rw [e1, e2]
  exact ⟨rfl, rfl⟩
theorem cnt_split {T : List Int} {last p : Int} (hT : p ∉ T) : ∀ {rows : List (List (List Int))}, (∀ row ∈ rows, ∀ leg ∈ row, Nxt T last p leg) → rows.flatten.flatten.Nodup → p ∈ rows.flatten.flatten → cntN T last rows = cntN (T ++ [p]) p rows + cntN T p rows
  | [], _, _, h => nomatch h
  | row :: rows, hN, hn, hm => by
    rw [List.flatten_cons, List.flatten_append] at hn hm
    obtain ⟨n1, n2, n3⟩ := List.nodup_append.mp hn
    by_cases c : p ∈ row.flatten
    · have hno : ∀ r ∈ rows, ∀ l ∈ r, p ∉ l := fun r hr l hl z => n3 p c p (List.mem_flatten.mpr ⟨l, List.mem_flatten.mpr ⟨r, hr, hl⟩, z⟩) rfl
      obtain ⟨i1, i2⟩ := cnt_same (T := T) (last := last) (p := p) fun r hr l hl => ⟨hN r (List.mem_cons_of_mem _ hr) l hl, hno r hr l hl⟩
      have hs := row_split hT (hN row List.mem_cons_self) n1 c
      show (rowV T last row).2 * cntN T last rows = (rowV (T ++ [p]) p row).2 * cntN (T ++ [p]) p rows + (rowV T p row).2 * cntN T p rows
      rw [i1, i2, hs]
      exact Int.add_mul _ _ _
    · have hm' := (List.mem_append.mp hm).resolve_left c
      have ih := cnt_split hT (fun r hr => hN r (List.mem_cons_of_mem _ hr)) n2 hm'
      obtain ⟨j1, j2⟩ := row_same (T := T) (last := last) (p := p) fun l hl => ⟨hN row List.mem_cons_self l hl, fun z => c (List.mem_flatten.mpr ⟨l, hl, z⟩)⟩
      show (rowV T last row).2 * cntN T last rows = (rowV (T ++ [p]) p row).2 * cntN (T ++ [p]) p rows + (rowV T p row).2 * cntN T p rows
      rw [j1, j2, ih]
      exact Int.mul_add _ _ _
/-! ### how great, and when none is left -/
theorem leg_bd {T : List Int} {last : Int} {leg : List Int} : 0 ≤ (legV T last leg).1 ∧ 0 ≤ (legV T last leg).2 ∧ (legV T last leg).1 ≤ (leg.length : Int) ∧ (legV T last leg).2 ≤ 1 ∧ (1 ≤ mineN T leg → (legV T last leg).2 = 0) := by
  have hf : freeN last leg ≤ leg.length := List.length_filter_le _ _
  have hm : mineN T leg ≤ leg.length := List.length_filter_le _ _
  unfold legV
  by_cases c1 : 1 < mineN T leg
  · rw [if_pos c1]
    exact ⟨Int.le_refl _, Int.le_refl _, by show (0 : Int) ≤ _; omega, by decide, fun _ => rfl⟩
  · by_cases c2 : mineN T leg = 0
    · rw [if_neg c1, if_pos c2]
      exact ⟨by show (0 : Int) ≤ (freeN last leg : Int); omega, by show (0 : Int) ≤ 1; decide, by show (freeN last leg : Int) ≤ _; omega, Int.le_refl _, fun z => by omega⟩
    · rw [if_neg c1, if_neg c2]
      exact ⟨by decide, Int.le_refl _, by show (1 : Int) ≤ _; omega, by decide, fun _ => rfl⟩
theorem row_bd {T : List Int} {last : Int} : ∀ {row : List (List Int)}, 0 ≤ (rowV T last row).1 ∧ 0 ≤ (rowV T last row).2 ∧ (rowV T last row).1 ≤ 2 ^ (row.map fun l => l.length).sum ∧ (rowV T last row).2 ≤ 2 ^ (row.map fun l => l.length).sum
  | [] => ⟨by show (0 : Int) ≤ 1; decide, by show (0 : Int) ≤ 0; decide, by show (1 : Int) ≤ 2 ^ 0; decide, by show (0 : Int) ≤ 2 ^ 0; decide⟩
  | leg :: row => by
    obtain ⟨i1, i2, i3, i4⟩ := row_bd (T := T) (last := last) (row := row)
    obtain ⟨b1, b2, b3, b4, _⟩ := leg_bd (T := T) (last := last) (leg := leg)
    rw [List.map_cons, List.sum_cons, Int.pow_add]
    have hp := two_pow leg.length
    unfold rowV dmul
    dsimp only
    generalize legV T last leg = x at b1 b2 b3 b4
    generalize rowV T last row = y at i1 i2 i3 i4
    generalize (2 : Int) ^ (row.map fun l => l.length).sum = q at i3 i4
    generalize (2 : Int) ^ leg.length = r at hp
    have q0 : 0 ≤ q := Int.le_trans i1 i3
    have a1 : x.1 * y.1 ≤ (leg.length : Int) * q := Int.mul_le_mul b3 i3 i1 (by omega)
    have a2 : x.1 * y.2 ≤ (leg.length : Int) * q := Int.mul_le_mul b3 i4 i2 (by omega)
    have a3 : x.2 * y.1 ≤ 1 * q := Int.mul_le_mul b4 i3 i1 (by decide)
    have a4 : ((leg.length : Int) + 1) * q ≤ r * q := Int.mul_le_mul_of_nonneg_right hp q0
    have a5 : ((leg.length : Int) + 1) * q = (leg.length : Int) * q + q := by rw [Int.add_mul, Int.one_mul]
    have c1 : 0 ≤ x.1 * y.1 := Int.mul_nonneg b1 i1
    have c2 : 0 ≤ x.1 * y.2 := Int.mul_nonneg b1 i2
    have c3 : 0 ≤ x.2 * y.1 := Int.mul_nonneg b2 i1
    exact ⟨c1, by omega, by omega, by omega⟩
theorem prod_nn : ∀ {xs : List Int}, (∀ x ∈ xs, 0 ≤ x) → 0 ≤ prodL xs
  | [], _ => by decide
  | x :: xs, h => Int.mul_nonneg (h x List.mem_cons_self) (prod_nn fun y hy => h y (List.mem_cons_of_mem _ hy))
theorem cnt_ge {T : List Int} {last : Int} {rows : List (List (List Int))} : 0 ≤ cntN T last rows := prod_nn fun x hx => by
  obtain ⟨row, _, rfl⟩ := List.mem_map.mp hx
  exact row_bd.2.1
/-- how many legs of a row have none -/
def zeroN (T : List Int) (row : List (List Int)) : Nat := (row.filter fun leg => decide (mineN T leg = 0)).length
/-- what a list of places must be, to be a choice -/
def Ch (T : List Int) (rows : List (List (List Int))) : Prop := ∀ row ∈ rows, (∀ leg ∈ row, mineN T leg ≤ 1) ∧ zeroN T row = 1
theorem row_end {T : List Int} {last : Int} : ∀ {row : List (List Int)}, (∀ leg ∈ row, ∀ v ∈ leg, v ≤ last) → ((∀ leg ∈ row, mineN T leg ≤ 1) → zeroN T row = 0 → rowV T last row = (1, 0)) ∧ ((∀ leg ∈ row, mineN T leg ≤ 1) → zeroN T row = 1 → rowV T last row = (0, 1)) ∧ ((∀ leg ∈ row, mineN T leg ≤ 1) → 2 ≤ zeroN T row → rowV T last row = (0, 0)) ∧ (¬ (∀ leg ∈ row, mineN T leg ≤ 1) → rowV T last row = (0, 0))
  | [], _ => ⟨fun _ _ => rfl, fun _ h => absurd h (by show ¬ (0 : Nat) = 1; decide), fun _ h => absurd h (by show ¬ 2 ≤ 0; decide), fun h => absurd (fun _ h => nomatch h) h⟩
  | leg :: row, h => by
    obtain ⟨i1, i2, i3, i4⟩ := row_end (T := T) (row := row) fun l hl => h l (List.mem_cons_of_mem _ hl)
    have hf : freeN last leg = 0 := by
      unfold freeN
      rw [List.filter_eq_nil_iff.mpr fun v hv => by
        have := h leg List.mem_cons_self v hv
        rw [decide_eq_false (by omega)]
        decide]
      rfl
    have ha : (∀ l ∈ leg :: row, mineN T l ≤ 1) ↔ mineN T leg ≤ 1 ∧ ∀ l ∈ row, mineN T l ≤ 1 := List.forall_mem_cons
    rw [ha]
    have hv : rowV T last (leg :: row) = dmul (legV T last leg) (rowV T last row) := rfl
    rw [hv]
    by_cases c1 : 1 < mineN T leg
    · rw [legV0 c1]
      have e0 : ∀ y : Int × Int, dmul (0, 0) y = (0, 0) := fun y => by
        unfold dmul
        simp
      rw [e0]
      exact ⟨fun z => by omega, fun z => by omega, fun _ _ => rfl, fun _ => rfl⟩
    · by_cases c2 : mineN T leg = 0
      · have hz : zeroN T (leg :: row) = 1 + zeroN T row := by
          unfold zeroN
          rw [List.filter_cons, if_pos (decide_eq_true c2), List.length_cons]
          omega
        have e0 : ∀ y : Int × Int, dmul (0, 1) y = (0, y.1) := fun y => by
          unfold dmul
          simp
        rw [legV1 c2, hf, hz]
        show (_ → _ → dmul (0, 1) _ = _) ∧ (_ → _ → dmul (0, 1) _ = _) ∧ (_ → _ → dmul (0, 1) _ = _) ∧ (_ → dmul (0, 1) _ = _)
        rw [e0]
        refine ⟨fun _ z => by omega, fun a z => by rw [i1 a.2 (by omega)], fun a z => ?_, fun a => by rw [i4 fun w => a ⟨by omega, w⟩]⟩
        by_cases z1 : zeroN T row = 1
        · rw [i2 a.2 z1]
        · rw [i3 a.2 (by omega)]
      · have hz : zeroN T (leg :: row) = zeroN T row := by
          unfold zeroN
          rw [List.filter_cons, if_neg (fun z => c2 (of_decide_eq_true z))]
        have e0 : ∀ y : Int × Int, dmul (1, 0) y = y := fun y => by
          unfold dmul
          simp
        rw [legV2 (show mineN T leg = 1 by omega), hz, e0]
        exact ⟨fun a => i1 a.2, fun a => i2 a.2, fun a => i3 a.2, fun a => i4 fun w => a ⟨by omega, w⟩⟩
theorem cnt_end {T : List Int} {last : Int} : ∀ {rows : List (List (List Int))}, (∀ row ∈ rows, ∀ leg ∈ row, ∀ v ∈ leg, v ≤ last) → (Ch T rows → cntN T last rows = 1) ∧ (¬ Ch T rows → cntN T last rows = 0)
  | [], _ => ⟨fun _ => rfl, fun h => absurd (fun _ h => nomatch h) h⟩
  | row :: rows, h => by
    obtain ⟨i1, i2⟩ := cnt_end (T := T) (rows := rows) fun r hr => h r (List.mem_cons_of_mem _ hr)
    obtain ⟨e1, e2, e3, e4⟩ := row_end (T := T) (h row List.mem_cons_self)
    have hc : Ch T (row :: rows) ↔ ((∀ leg ∈ row, mineN T leg ≤ 1) ∧ zeroN T row = 1) ∧ Ch T rows := List.forall_mem_cons
    rw [hc]
    show (_ → (rowV T last row).2 * cntN T last rows = 1) ∧ (_ → (rowV T last row).2 * cntN T last rows = 0)
    by_cases a : ∀ leg ∈ row, mineN T leg ≤ 1
    · by_cases z1 : zeroN T row = 1
      · rw [e2 a z1]
        refine ⟨fun z => by rw [i1 z.2]; rfl, fun z => ?_⟩
        rw [i2 fun w => z ⟨⟨a, z1⟩, w⟩]
        rfl
      · refine ⟨fun z => absurd z.1.2 z1, fun _ => ?_⟩
        by_cases z0 : zeroN T row = 0
        · rw [e1 a z0]
          exact Int.zero_mul _
        · rw [e3 a (by omega)]
          exact Int.zero_mul _
    · refine ⟨fun z => absurd z.1.1 a, fun _ => ?_⟩
      rw [e4 a]
      exact Int.zero_mul _
section
variable (rows : List (List (List Int)))
/-- the choice of a number, by the places from one on -/
def unR : List Int → Int → List Int → List Int
  | [], _, T => T
  | p :: P, num, T => if num < cntN (T ++ [p]) p rows then unR P num (T ++ [p]) else unR P (num - cntN (T ++ [p]) p rows) T
/-- the number of a choice -/
def raR (C : List Int) : List Int → List Int → Int
  | [], _ => 0
  | p :: P, T => if inB p C = true then raR C P (T ++ [p]) else cntN (T ++ [p]) p rows + raR C P T
/-- the places behind one -/
structure Suf (last : Int) (P : List Int) : Prop where
  up : P.Pairwise (· < ·)
  gt : ∀ p ∈ P, last < p ∧ p ∈ rows.flatten.flatten
  all : ∀ v ∈ rows.flatten.flatten, last < v → v ∈ P
end
section
variable {rows : List (List (List Int))}
theorem Suf.next {last p : Int} {P : List Int} (h : Suf rows last (p :: P)) : Suf rows p P := by
  obtain ⟨u1, u2⟩ := List.pairwise_cons.mp h.up
  refine ⟨u2, fun q hq => ⟨u1 q hq, (h.gt q (List.mem_cons_of_mem _ hq)).2⟩, fun v hv hlt => ?_⟩
  have hp := (h.gt p List.mem_cons_self).1
  rcases List.mem_cons.mp (h.all v hv (by omega)) with rfl | hm
  · exact absurd hlt (Int.lt_irrefl _)
  · exact hm
theorem Suf.nxt {T : List Int} {last p : Int} {P : List Int} (h : Suf rows last (p :: P)) : ∀ row ∈ rows, ∀ leg ∈ row, Nxt T last p leg := fun row hr leg hl => by
  obtain ⟨u1, u2⟩ := List.pairwise_cons.mp h.up
  refine ⟨(h.gt p List.mem_cons_self).1, fun v hv hlt => ?_⟩
  rcases List.mem_cons.mp (h.all v (List.mem_flatten.mpr ⟨leg, List.mem_flatten.mpr ⟨row, hr, hl⟩, hv⟩) hlt) with rfl | hm
  · exact Int.le_refl _
  · exact Int.le_of_lt (u1 v hm)
theorem Suf.split {T : List Int} {last p : Int} {P : List Int} (h : Suf rows last (p :: P)) (hn : rows.flatten.flatten.Nodup) (hT : ∀ x ∈ T, x ≤ last) : cntN T last rows = cntN (T ++ [p]) p rows + cntN T p rows := by
  have hp := h.gt p List.mem_cons_self
  exact cnt_split (fun z => by have := hT p z; omega) h.nxt hn hp.2
theorem Suf.done {last : Int} (h : Suf rows last []) : ∀ row ∈ rows, ∀ leg ∈ row, ∀ v ∈ leg, v ≤ last := fun row hr leg hl v hv => by
  apply Classical.byContradiction
  intro z
  exact absurd (h.all v (List.mem_flatten.mpr ⟨leg, List.mem_flatten.mpr ⟨row, hr, hl⟩, hv⟩) (by omega)) (by simp)
theorem un_ok (hn : rows.flatten.flatten.Nodup) : ∀ {P : List Int} {last num : Int} {T : List Int}, Suf rows last P → (∀ x ∈ T, x ≤ last) → T.Pairwise (· < ·) → 0 ≤ num → num < cntN T last rows → Ch (unR rows P num T) rows ∧ (unR rows P num T).Pairwise (· < ·) ∧ ∀ x ∈ unR rows P num T, x ∈ T ∨ x ∈ P
  | [], last, num, T, hs, hT, hu, h0, h1 => by
    refine ⟨?_, hu, fun x hx => .inl hx⟩
    apply Classical.byContradiction
    intro z
    have z' : ¬ Ch T rows := z
    have := (cnt_end hs.done).2 z'
    omega
  | p :: P, last, num, T, hs, hT, hu, h0, h1 => by
    have hsp := hs.split hn hT
    have hp := (hs.gt p List.mem_cons_self).1
    unfold unR
    by_cases c : num < cntN (T ++ [p]) p rows
    · rw [if_pos c]
      obtain ⟨a, b, d⟩ := un_ok hn hs.next (T := T ++ [p]) (fun x hx => by
        rcases List.mem_append.mp hx with hx | hx
        · have := hT x hx; omega
        · rw [List.mem_singleton.mp hx]; exact Int.le_refl _) (List.pairwise_append.mpr ⟨hu, List.pairwise_singleton _ _, fun a ha b hb => by
          rw [List.mem_singleton.mp hb]
          have := hT a ha
          omega⟩) h0 c
      refine ⟨a, b, fun x hx => ?_⟩
      rcases d x hx with z | z
      · rcases List.mem_append.mp z with z | z
        · exact .inl z
        · exact .inr (by rw [List.mem_singleton.mp z]; exact List.mem_cons_self)
      · exact .inr (List.mem_cons_of_mem _ z)
    · rw [if_neg c]
      obtain ⟨a, b, d⟩ := un_ok hn hs.next (T := T) (fun x hx => by have := hT x hx; omega) hu (num := num - cntN (T ++ [p]) p rows) (by omega) (by omega)
      exact ⟨a, b, fun x hx => (d x hx).imp id fun z => List.mem_cons_of_mem _ z⟩
theorem ra_lt {C : List Int} (hn : rows.flatten.flatten.Nodup) (hC : Ch C rows) : ∀ {P : List Int} {last : Int} {T : List Int}, Suf rows last P → (∀ x ∈ T, x ≤ last) → T ++ P.filter (fun p => inB p C) = C → 0 ≤ raR rows C P T ∧ raR rows C P T < cntN T last rows
  | [], last, T, hs, hT, e => by
    rw [List.filter_nil, List.append_nil] at e
    rw [e, (cnt_end hs.done).1 hC]
    exact ⟨Int.le_refl _, by show (0 : Int) < 1; decide⟩
  | p :: P, last, T, hs, hT, e => by
    have hsp := hs.split hn hT
    have hp := (hs.gt p List.mem_cons_self).1
    have g0 := cnt_ge (T := T) (last := p) (rows := rows)
    have g1 := cnt_ge (T := T ++ [p]) (last := p) (rows := rows)
    rw [List.filter_cons] at e
    unfold raR
    by_cases c : inB p C = true
    · rw [if_pos c] at e ⊢
      obtain ⟨a, b⟩ := ra_lt hn hC hs.next (T := T ++ [p]) (fun x hx => by
        rcases List.mem_append.mp hx with hx | hx
        · have := hT x hx; omega
        · rw [List.mem_singleton.mp hx]; exact Int.le_refl _) (by rw [List.append_assoc]; exact e)
      exact ⟨a, by omega⟩
    · rw [if_neg c] at e ⊢
      obtain ⟨a, b⟩ := ra_lt hn hC hs.next (T := T) (fun x hx => by have := hT x hx; omega) e
      exact ⟨by omega, by omega⟩
theorem un_ra {C : List Int} (hn : rows.flatten.flatten.Nodup) (hC : Ch C rows) : ∀ {P : List Int} {last : Int} {T : List Int}, Suf rows last P → (∀ x ∈ T, x ≤ last) → T ++ P.filter (fun p => inB p C) = C → unR rows P (raR rows C P T) T = C
  | [], last, T, hs, hT, e => by
    rw [List.filter_nil, List.append_nil] at e
    exact e
  | p :: P, last, T, hs, hT, e => by
    have hp := (hs.gt p List.mem_cons_self).1
    rw [List.filter_cons] at e
    unfold raR unR
    have hT1 : ∀ x ∈ T ++ [p], x ≤ p := fun x hx => by
      rcases List.mem_append.mp hx with hx | hx
      · have := hT x hx; omega
      · rw [List.mem_singleton.mp hx]; exact Int.le_refl _
    have hT2 : ∀ x ∈ T, x ≤ p := fun x hx => by have := hT x hx; omega
    by_cases c : inB p C = true
    · rw [if_pos c] at e ⊢
      have e' : (T ++ [p]) ++ P.filter (fun p => inB p C) = C := by rw [List.append_assoc]; exact e
      rw [if_pos (ra_lt hn hC hs.next hT1 e').2]
      exact un_ra hn hC hs.next hT1 e'
    · rw [if_neg c] at e ⊢
      have := (ra_lt hn hC hs.next hT2 e).1
      rw [if_neg (by omega), show cntN (T ++ [p]) p rows + raR rows C P T - cntN (T ++ [p]) p rows = raR rows C P T by omega]
      exact un_ra hn hC hs.next hT2 e
/-! ### how many places a choice has -/
def mSum (T : List Int) (row : List (List Int)) : Nat := (row.map (mineN T)).sum
theorem row_size {T : List Int} {last : Int} : ∀ {row : List (List Int)}, (0 < (rowV T last row).1 → mSum T row ≤ row.length) ∧ (0 < (rowV T last row).2 → mSum T row + 1 ≤ row.length)
  | [] => ⟨fun _ => Nat.le_refl _, fun h => absurd h (by show ¬ (0 : Int) < 0; decide)⟩
  | leg :: row => by
    obtain ⟨i1, i2⟩ := row_size (T := T) (last := last) (row := row)
    obtain ⟨b1, b2, _, _, b5⟩ := leg_bd (T := T) (last := last) (leg := leg)
    obtain ⟨r1, r2, _, _⟩ := row_bd (T := T) (last := last) (row := row)
    have hm : mSum T (leg :: row) = mineN T leg + mSum T row := by unfold mSum; rw [List.map_cons, List.sum_cons]
    rw [hm, List.length_cons]
    have one : 0 < (legV T last leg).1 → mineN T leg ≤ 1 := fun z => by
      apply Classical.byContradiction
      intro w
      rw [legV0 (by omega)] at z
      exact absurd z (by decide)
    show (0 < (legV T last leg).1 * (rowV T last row).1 → _) ∧ (0 < (legV T last leg).1 * (rowV T last row).2 + (legV T last leg).2 * (rowV T last row).1 → _)
    have pos : ∀ a b : Int, 0 ≤ a → 0 ≤ b → 0 < a * b → 0 < a ∧ 0 < b := fun a b ha hb h => by
      refine ⟨?_, ?_⟩
      · apply Classical.byContradiction
        intro z
        rw [show a = 0 by omega, Int.zero_mul] at h
        exact absurd h (by decide)
      · apply Classical.byContradiction
        intro z
        rw [show b = 0 by omega, Int.mul_zero] at h
        exact absurd h (by decide)
    refine ⟨fun h => ?_, fun h => ?_⟩
    · obtain ⟨h1, h2⟩ := pos _ _ b1 r1 h
      have := one h1
      have := i1 h2
      omega
    · by_cases c : 0 < (legV T last leg).1 * (rowV T last row).2
      · obtain ⟨h1, h2⟩ := pos _ _ b1 r2 c
        have := one h1
        have := i2 h2
        omega
      · have c2 : 0 < (legV T last leg).2 * (rowV T last row).1 := by omega
        obtain ⟨h1, h2⟩ := pos _ _ b2 r1 c2
        have hz : mineN T leg = 0 := by
          apply Classical.byContradiction
          intro w
          have := b5 (by omega)
          omega
        have := i1 h2
        omega
def sizeK (rows : List (List (List Int))) : Int := (rows.map fun row => (row.length : Int) - 1).sum
theorem cnt_rows {T : List Int} {last : Int} : ∀ {rows : List (List (List Int))}, 0 < cntN T last rows → ((rows.map (mSum T)).sum : Int) ≤ sizeK rows
  | [], _ => Int.le_refl _
  | row :: rows, h => by
    have r2 := (row_bd (T := T) (last := last) (row := row)).2.1
    have c2 := cnt_ge (T := T) (last := last) (rows := rows)
    have h' : 0 < (rowV T last row).2 * cntN T last rows := h
    have h1 : 0 < (rowV T last row).2 := by
      apply Classical.byContradiction
      intro z
      rw [show (rowV T last row).2 = 0 by omega, Int.zero_mul] at h'
      exact absurd h' (by decide)
    have h2 : 0 < cntN T last rows := by
      apply Classical.byContradiction
      intro z
      rw [show cntN T last rows = 0 by omega, Int.mul_zero] at h'
      exact absurd h' (by decide)
    have := row_size.2 h1
    have := cnt_rows h2
    unfold sizeK at this ⊢
    rw [List.map_cons, List.sum_cons, List.map_cons, List.sum_cons]
    omega
theorem fil_rows (f : Int → Bool) : ∀ {rows : List (List (List Int))}, (rows.flatten.flatten.filter f).length = (rows.map fun row => (row.map fun leg => (leg.filter f).length).sum).sum
  | [] => rfl
  | row :: rows => by
    rw [List.flatten_cons, List.flatten_append, List.filter_append, List.length_append, fil_rows f, List.map_cons, List.sum_cons]
    congr 1
    induction row with
    | nil => rfl
    | cons leg row ih => rw [List.flatten_cons, List.filter_append, List.length_append, ih, List.map_cons, List.sum_cons]
theorem size_le {T : List Int} {last : Int} (hT : T.Nodup) (hs : ∀ x ∈ T, x ∈ rows.flatten.flatten) (h : 0 < cntN T last rows) : (T.length : Int) ≤ sizeK rows := by
  have h1 := nodup_le hT (ys := rows.flatten.flatten.filter fun v => inB v T) fun x hx => List.mem_filter.mpr ⟨hs x hx, inB_t.mpr hx⟩
  rw [fil_rows] at h1
  have h2 := cnt_rows h
  have e : (rows.map fun row => (row.map fun leg => (leg.filter fun v => inB v T).length).sum) = rows.map (mSum T) := rfl
  rw [e] at h1
  omega
theorem ch_row {T : List Int} : ∀ {row : List (List Int)}, (∀ leg ∈ row, mineN T leg ≤ 1) → mSum T row + zeroN T row = row.length
  | [], _ => rfl
  | leg :: row, h => by
    have ih := ch_row fun l hl => h l (List.mem_cons_of_mem _ hl)
    have h1 := h leg List.mem_cons_self
    unfold mSum zeroN at *
    rw [List.map_cons, List.sum_cons, List.filter_cons, List.length_cons]
    by_cases c : mineN T leg = 0
    · rw [if_pos (decide_eq_true c), List.length_cons]
      omega
    · rw [if_neg fun z => c (of_decide_eq_true z)]
      omega
theorem ch_rows {T : List Int} : ∀ {rows : List (List (List Int))}, Ch T rows → ((rows.map (mSum T)).sum : Int) = sizeK rows
  | [], _ => rfl
  | row :: rows, h => by
    obtain ⟨h1, h2⟩ := h row List.mem_cons_self
    have := ch_row h1
    have ih := ch_rows (T := T) (rows := rows) fun r hr => h r (List.mem_cons_of_mem _ hr)
    unfold sizeK at ih ⊢
    rw [List.map_cons, List.sum_cons, List.map_cons, List.sum_cons]
    omega
theorem ch_size {C : List Int} (hn : rows.flatten.flatten.Nodup) (hC : C.Nodup) (hs : ∀ x ∈ C, x ∈ rows.flatten.flatten) (h : Ch C rows) : (C.length : Int) = sizeK rows := by
  rw [← ch_rows h]
  have e : ((rows.map (mSum C)).sum) = (rows.flatten.flatten.filter fun v => inB v C).length := (fil_rows fun v => inB v C).symm
  rw [e]
  have h1 := nodup_le hC (ys := rows.flatten.flatten.filter fun v => inB v C) fun x hx => List.mem_filter.mpr ⟨hs x hx, inB_t.mpr hx⟩
  have h2 := nodup_le (hn.filter fun v => inB v C) (ys := C) fun x hx => inB_t.mp (List.mem_filter.mp hx).2
  omega
/-- a place too many -/
theorem cnt_over {T : List Int} {p last : Int} (hn : (T ++ [p]).Nodup) (hs : ∀ x ∈ T ++ [p], x ∈ rows.flatten.flatten) (h : (T.length : Int) = sizeK rows) : cntN (T ++ [p]) last rows = 0 := by
  have g := cnt_ge (T := T ++ [p]) (last := last) (rows := rows)
  apply Classical.byContradiction
  intro z
  have := size_le hn hs (last := last) (by omega)
  rw [List.length_append, List.length_singleton] at this
  omega
end
/-! the program's counting, by rows -/
structure RowsOk (rows : List (List (List Int))) : Prop where
  leg : ∀ row ∈ rows, ∀ leg ∈ row, leg.length ≤ 60
  rg : ∀ v ∈ rows.flatten.flatten, 0 ≤ v ∧ v < 60
  sum : ∀ row ∈ rows, (row.map fun l => l.length).sum ≤ 60
  nd : rows.flatten.flatten.Nodup
  few : rows.length ≤ 60
def lotsL (rows : List (List (List Int))) : List (List (List Int) × Int) := rows.map fun row => (row, (1 : Int))
def P0 (rows : List (List (List Int))) : List Int := sortI rows.flatten.flatten
theorem RowsOk.len {rows : List (List (List Int))} (h : RowsOk rows) : rows.flatten.flatten.length ≤ 60 := by
  have := nodup_le h.nd (ys := rng 0 60) fun v hv => rng_mem.mpr (h.rg v hv)
  rw [rng_length] at this
  exact this
theorem P0_mem {rows : List (List (List Int))} {v : Int} : v ∈ P0 rows ↔ v ∈ rows.flatten.flatten := sortI_mem
theorem up_of {xs : List Int} (h : xs.Nodup) : (sortI xs).Pairwise (· < ·) := by
  have hd : (sortI xs).Nodup := (sortI_perm _).nodup_iff.mpr h
  refine List.Pairwise.imp (R := fun a b => a ≤ b ∧ a ≠ b) (fun {a b} h => by omega) ?_
  exact (sortI_sorted _).and hd
theorem suf0 {rows : List (List (List Int))} (h : RowsOk rows) : Suf rows (-1) (P0 rows) := ⟨up_of h.nd, fun p hp => by
  have := h.rg p (P0_mem.mp hp)
  exact ⟨by omega, P0_mem.mp hp⟩, fun v hv _ => P0_mem.mpr hv⟩
theorem fold_ways {T : List Int} {last : Int} {f : List Int → List Int → R (Sum Int (Bool × List Int))} {K : Sum Int (List Int) → R Int} (hK1 : ∀ z, K (.inl z) = R.ok z) (hK2 : ∀ a b, K (.inr [a, b]) = R.ok b) : ∀ {row : List (List Int)} {a b : Int}, (∀ a b leg, leg ∈ row → f [a, b] leg = if 1 < mineN T leg then R.ok (.inl 0) else if mineN T leg = 0 then R.ok (.inr (true, [a * (freeN last leg : Int), b * (freeN last leg : Int) + a])) else R.ok (.inr (true, [a, b]))) → (foldX f [a, b] row >>= K) = R.ok (dmul (a, b) (rowV T last row)).2
  | [], a, b, _ => by
    show K (.inr [a, b]) = R.ok (a * 0 + b * 1)
    rw [hK2, Int.mul_zero, Int.mul_one, Int.zero_add]
  | leg :: row, a, b, h => by
    have h1 := h a b leg List.mem_cons_self
    have hr : ∀ a b l, l ∈ row → f [a, b] l = _ := fun a b l hl => h a b l (List.mem_cons_of_mem _ hl)
    have hv : rowV T last (leg :: row) = dmul (legV T last leg) (rowV T last row) := rfl
    rw [hv]
    unfold foldX
    rw [h1]
    by_cases c1 : 1 < mineN T leg
    · rw [if_pos c1, legV0 c1]
      show K (.inl 0) = _
      rw [hK1]
      unfold dmul
      simp
    · rw [if_neg c1]
      by_cases c2 : mineN T leg = 0
      · rw [if_pos c2, legV1 c2]
        show (foldX f [a * (freeN last leg : Int), b * (freeN last leg : Int) + a] row >>= K) = _
        rw [fold_ways hK1 hK2 hr]
        congr 1
        unfold dmul
        dsimp only
        generalize (freeN last leg : Int) = x
        generalize rowV T last row = y
        rw [Int.mul_add, Int.add_mul, Int.mul_assoc, Int.mul_assoc, Int.one_mul]
        omega
      · rw [if_neg c2, legV2 (show mineN T leg = 1 by omega)]
        show (foldX f [a, b] row >>= K) = _
        rw [fold_ways hK1 hK2 hr]
        congr 1
        unfold dmul
        dsimp only
        rw [Int.one_mul, Int.one_mul, Int.zero_mul, Int.add_zero]
theorem fil_T {T leg : List Int} (hl : leg.length < 100000) : filG (fun (b11 : Int) => if (inB b11 T) = true then R.ok (some b11) else R.ok none) leg = R.ok (leg.filter fun v => inB v T) := by
  rw [filG_ok (g := fun v => if inB v T = true then some v else none) hl fun v _ => by
    by_cases c : inB v T = true
    · rw [if_pos c, if_pos c]
    · rw [if_neg c, if_neg c], fil_ite]
theorem fil_L {last : Int} {leg : List Int} (hl : leg.length < 100000) : filG (fun (b19 : Int) => if (decide (last < b19)) = true then R.ok (some b19) else R.ok none) leg = R.ok (leg.filter fun v => decide (last < v)) := by
  rw [filG_ok (g := fun v => if decide (last < v) = true then some v else none) hl fun v _ => by
    by_cases c : decide (last < v) = true
    · rw [if_pos c, if_pos c]
    · rw [if_neg c, if_neg c], fil_ite]
theorem ways_okT {row : List (List Int)} {T : List Int} {last : Int} (h : ∀ leg ∈ row, leg.length ≤ 60) : ways_of (row, 1) T last = R.ok (rowV T last row).2 := by
  have e : ∀ y : Int × Int, (dmul (1, 0) y).2 = y.2 := fun y => by
    unfold dmul
    simp
  rw [← e]
  unfold ways_of
  dsimp only
  refine fold_ways (T := T) (last := last) (fun _ => rfl) (fun _ _ => rfl) fun a b leg hleg => ?_
  have hl := h leg hleg
  have hf : freeN last leg ≤ leg.length := List.length_filter_le _ _
  rw [fil_T (by omega), ok_bind]
  have em : (leg.filter fun v => inB v T).length = mineN T leg := rfl
  rw [em]
  by_cases c1 : 1 < mineN T leg
  · rw [if_pos c1, if_pos (decide_eq_true (show (1 : Int) < (mineN T leg : Int) by omega))]
  · rw [if_neg c1, if_neg (fun z => by have := of_decide_eq_true z; omega)]
    by_cases c2 : mineN T leg = 0
    · rw [if_pos c2, if_pos (decide_eq_true (show (mineN T leg : Int) = 0 by omega)), fil_L (by omega), ok_bind]
      have ef : (leg.filter fun v => decide (last < v)).length = freeN last leg := rfl
      rw [ef]
      exact po_iff (po_getE (x := a) (getI_eq (by decide) rfl) (po_mul (.inr ⟨by omega, by omega⟩) (po_getE (x := b) (getI_eq (by decide) rfl) (po_mul (.inr ⟨by omega, by omega⟩) (po_getE (x := a) (getI_eq (by decide) rfl) rfl)))))
    · rw [if_neg c2, if_neg (fun z => by have := of_decide_eq_true z; omega)]
theorem row_small {row : List (List Int)} {T : List Int} {last : Int} (h : (row.map fun l => l.length).sum ≤ 60) : 0 ≤ (rowV T last row).2 ∧ (rowV T last row).2 < 2 ^ 64 := by
  obtain ⟨_, h3, _, h4⟩ := row_bd (T := T) (last := last) (row := row)
  refine ⟨h3, Int.lt_of_le_of_lt h4 ?_⟩
  have : (2 : Nat) ^ (row.map fun l => l.length).sum ≤ 2 ^ 60 := Nat.pow_le_pow_right (by decide) h
  have h5 : (((2 : Nat) ^ (row.map fun l => l.length).sum : Nat) : Int) ≤ ((2 ^ 60 : Nat) : Int) := Int.ofNat_le.mpr this
  rw [Int.natCast_pow] at h5
  exact Int.lt_of_le_of_lt h5 (by decide)
theorem count_foldT {T : List Int} {last : Int} : ∀ {rows : List (List (List Int))} {c : Int}, (∀ row ∈ rows, (∀ leg ∈ row, leg.length ≤ 60) ∧ (row.map fun l => l.length).sum ≤ 60) → foldR (fun (g3 : Int) (b3 : ((List (List Int)) × Int)) => do
      let y7 ← ways_of b3 T last
      let t8 ← mulI g3 y7
      R.ok t8) c (lotsL rows) = R.ok (c * cntN T last rows)
  | [], c, _ => by
    show R.ok c = R.ok (c * 1)
    rw [Int.mul_one]
  | row :: rows, c, h => by
    obtain ⟨h1, h2⟩ := h row List.mem_cons_self
    obtain ⟨b1, b2⟩ := row_small (T := T) (last := last) h2
    unfold lotsL
    rw [List.map_cons]
    unfold foldR
    rw [ways_okT h1, ok_bind, mulI_ok (.inr ⟨by omega, b2⟩), ok_bind, ok_bind]
    have ih := count_foldT (T := T) (last := last) (rows := rows) (c := c * (rowV T last row).2) fun r hr => h r (List.mem_cons_of_mem _ hr)
    unfold lotsL at ih
    rw [ih]
    show R.ok (c * (rowV T last row).2 * cntN T last rows) = R.ok (c * ((rowV T last row).2 * cntN T last rows))
    rw [Int.mul_assoc]
theorem count_okT {rows : List (List (List Int))} {T : List Int} {last : Int} (h : RowsOk rows) : count_with (lotsL rows) T last = R.ok (cntN T last rows) := by
  unfold count_with
  rw [count_foldT fun row hr => ⟨h.leg row hr, h.sum row hr⟩, ok_bind, Int.one_mul]
theorem ext_fold : ∀ {row : List (List Int)} {c : List Int}, c.length + row.flatten.length < 100000 → foldR (fun (g8 : (List Int)) (b8 : (List Int)) => do
          let l11 ← extend g8 b8
          R.ok l11) c row = R.ok (c ++ row.flatten)
  | [], c, _ => by
    show R.ok c = R.ok (c ++ [])
    rw [List.append_nil]
  | leg :: row, c, h => by
    rw [List.flatten_cons, List.length_append] at h
    unfold foldR
    rw [extend_ok (by omega), ok_bind, ok_bind, ext_fold (by rw [List.length_append]; omega), List.flatten_cons, List.append_assoc]
theorem ext_rows : ∀ {rows : List (List (List Int))} {c : List Int}, c.length + rows.flatten.flatten.length < 100000 → foldR (fun (g8 : (List Int)) (b8 : (List (List Int))) => do
      let g11 ← foldR (fun (g11 : (List Int)) (b11 : (List Int)) => do
          let l14 ← extend g11 b11
          R.ok l14) g8 b8
      R.ok g11) c rows = R.ok (c ++ rows.flatten.flatten)
  | [], c, _ => by
    show R.ok c = R.ok (c ++ [])
    rw [List.append_nil]
  | row :: rows, c, h => by
    rw [List.flatten_cons, List.flatten_append, List.length_append] at h
    unfold foldR
    rw [ext_fold (by omega), ok_bind, ok_bind, ext_rows (by rw [List.length_append]; omega), List.flatten_cons, List.flatten_append, List.append_assoc]
theorem foldR_map {α β γ : Type} {f : γ → β → R γ} {g : α → β} : ∀ {xs : List α} {c : γ}, foldR f c (xs.map g) = foldR (fun c x => f c (g x)) c xs
  | [], _ => rfl
  | x :: xs, c => by
    rw [List.map_cons]
    unfold foldR
    cases f c (g x) with
    | ok s => exact foldR_map
    | exc _ => rfl
    | bad => rfl
theorem places_ok {rows : List (List (List Int))} (h : RowsOk rows) : places_in (lotsL rows) = R.ok (P0 rows) := by
  have hl := h.len
  unfold places_in lotsL
  rw [foldR_map]
  show (foldR (fun (g8 : (List Int)) (b8 : (List (List Int))) => do
      let g11 ← foldR (fun (g11 : (List Int)) (b11 : (List Int)) => do
          let l14 ← extend g11 b11
          R.ok l14) g8 b8
      R.ok g11) [] rows >>= _) = _
  rw [ext_rows (by show 0 + _ < 100000; omega)]
  rfl
theorem size_ok {rows : List (List (List Int))} (h : RowsOk rows) : looks_by (lotsL rows) = R.ok (sizeK rows) := by
  have := h.few
  rw [looks_by_ok (by unfold lotsL; rw [List.length_map]; omega)]
  unfold lotsL sizeK
  rw [List.map_map]
  rfl

/-- lots, told by rows -/
structure Lots (lots : List (List (List Int) × Int)) (rows : List (List (List Int))) : Prop where
  cnt : ∀ T last, count_with lots T last = R.ok (cntN T last rows)
  plc : places_in lots = R.ok (P0 rows)
  siz : looks_by lots = R.ok (sizeK rows)
theorem lots_rows {rows : List (List (List Int))} (h : RowsOk rows) : Lots (lotsL rows) rows := ⟨fun _ _ => count_okT h, places_ok h, size_ok h⟩
theorem fold_waysA {T : List Int} {last : Int} {f : List Int → List Int → R (Sum Int (Bool × List Int))} {K : Sum Int (List Int) → R Int} (hK1 : ∀ z, K (.inl z) = R.ok z) (hK2 : ∀ a b, K (.inr [a, b]) = R.ok a) : ∀ {row : List (List Int)} {a b : Int}, (∀ a b leg, leg ∈ row → f [a, b] leg = if 1 < mineN T leg then R.ok (.inl 0) else if mineN T leg = 0 then R.ok (.inr (true, [a * (freeN last leg : Int), b * (freeN last leg : Int) + a])) else R.ok (.inr (true, [a, b]))) → (foldX f [a, b] row >>= K) = R.ok (dmul (a, b) (rowV T last row)).1
  | [], a, b, _ => by
    show K (.inr [a, b]) = R.ok (a * 1)
    rw [hK2, Int.mul_one]
  | leg :: row, a, b, h => by
    have h1 := h a b leg List.mem_cons_self
    have hr : ∀ a b l, l ∈ row → f [a, b] l = _ := fun a b l hl => h a b l (List.mem_cons_of_mem _ hl)
    have hv : rowV T last (leg :: row) = dmul (legV T last leg) (rowV T last row) := rfl
    rw [hv]
    unfold foldX
    rw [h1]
    by_cases c1 : 1 < mineN T leg
    · rw [if_pos c1, legV0 c1]
      show K (.inl 0) = _
      rw [hK1]
      unfold dmul
      simp
    · rw [if_neg c1]
      by_cases c2 : mineN T leg = 0
      · rw [if_pos c2, legV1 c2]
        show (foldX f [a * (freeN last leg : Int), b * (freeN last leg : Int) + a] row >>= K) = _
        rw [fold_waysA hK1 hK2 hr]
        congr 1
        unfold dmul
        dsimp only
        generalize (freeN last leg : Int) = x
        generalize rowV T last row = y
        rw [Int.mul_assoc]
      · rw [if_neg c2, legV2 (show mineN T leg = 1 by omega)]
        show (foldX f [a, b] row >>= K) = _
        rw [fold_waysA hK1 hK2 hr]
        congr 1
        unfold dmul
        dsimp only
        rw [Int.one_mul]
theorem ways_okA {row : List (List Int)} {T : List Int} {last : Int} (h : ∀ leg ∈ row, leg.length ≤ 60) : ways_of (row, 0) T last = R.ok (rowV T last row).1 := by
  have e : ∀ y : Int × Int, (dmul (1, 0) y).1 = y.1 := fun y => by
    unfold dmul
    simp
  rw [← e]
  unfold ways_of
  dsimp only
  refine fold_waysA (T := T) (last := last) (fun _ => rfl) (fun _ _ => rfl) fun a b leg hleg => ?_
  have hl := h leg hleg
  have hf : freeN last leg ≤ leg.length := List.length_filter_le _ _
  rw [fil_T (by omega), ok_bind]
  have em : (leg.filter fun v => inB v T).length = mineN T leg := rfl
  rw [em]
  by_cases c1 : 1 < mineN T leg
  · rw [if_pos c1, if_pos (decide_eq_true (show (1 : Int) < (mineN T leg : Int) by omega))]
  · rw [if_neg c1, if_neg (fun z => by have := of_decide_eq_true z; omega)]
    by_cases c2 : mineN T leg = 0
    · rw [if_pos c2, if_pos (decide_eq_true (show (mineN T leg : Int) = 0 by omega)), fil_L (by omega), ok_bind]
      have ef : (leg.filter fun v => decide (last < v)).length = freeN last leg := rfl
      rw [ef]
      exact po_iff (po_getE (x := a) (getI_eq (by decide) rfl) (po_mul (.inr ⟨by omega, by omega⟩) (po_getE (x := b) (getI_eq (by decide) rfl) (po_mul (.inr ⟨by omega, by omega⟩) (po_getE (x := a) (getI_eq (by decide) rfl) rfl)))))
    · rw [if_neg c2, if_neg (fun z => by have := of_decide_eq_true z; omega)]

theorem rowV_nil {T : List Int} {last : Int} : ∀ {row : List (List Int)}, (rowV T last (row ++ [[]])).2 = (rowV T last row).1
  | [] => by
    show (dmul (legV T last []) (1, 0)).2 = 1
    rw [legV1 (show mineN T [] = 0 from rfl)]
    show (freeN last [] : Int) * 0 + 1 * 1 = 1
    rw [Int.mul_zero]
    rfl
  | leg :: row => by
    have ih := rowV_nil (T := T) (last := last) (row := row)
    have i2 : (rowV T last (row ++ [[]])).1 = 0 ∨ True := .inr trivial
    show (dmul (legV T last leg) (rowV T last (row ++ [[]]))).2 = (dmul (legV T last leg) (rowV T last row)).1
    have z : ∀ r : List (List Int), (rowV T last (r ++ [[]])).1 = 0 := fun r => by
      induction r with
      | nil =>
        show (dmul (legV T last []) (1, 0)).1 = 0
        rw [legV1 (show mineN T [] = 0 from rfl)]
        rfl
      | cons a r ih =>
        show (dmul (legV T last a) (rowV T last (r ++ [[]]))).1 = 0
        unfold dmul
        rw [ih, Int.mul_zero]
    unfold dmul
    dsimp only
    rw [ih, z row, Int.mul_zero, Int.add_zero]
theorem lots_all {E : List (List Int)} (hE : ∀ leg ∈ E, leg.length ≤ 60) (hs : (E.map fun l => l.length).sum ≤ 60) : Lots [(E, 0)] [E ++ [[]]] := by
  refine ⟨fun T last => ?_, ?_, ?_⟩
  · unfold count_with foldR
    obtain ⟨b1, _, b2, _⟩ := row_bd (T := T) (last := last) (row := E)
    have b3 : (rowV T last E).1 < 2 ^ 64 := by
      refine Int.lt_of_le_of_lt b2 ?_
      have : (2 : Nat) ^ (E.map fun l => l.length).sum ≤ 2 ^ 60 := Nat.pow_le_pow_right (by decide) hs
      have h5 : (((2 : Nat) ^ (E.map fun l => l.length).sum : Nat) : Int) ≤ ((2 ^ 60 : Nat) : Int) := Int.ofNat_le.mpr this
      rw [Int.natCast_pow] at h5
      exact Int.lt_of_le_of_lt h5 (by decide)
    rw [ways_okA hE, ok_bind, mulI_ok (.inr ⟨by omega, b3⟩), ok_bind, ok_bind, Int.one_mul]
    show R.ok (rowV T last E).1 = R.ok ((rowV T last (E ++ [[]])).2 * 1)
    rw [rowV_nil, Int.mul_one]
  · unfold places_in
    have hf : E.flatten.length ≤ 60 := by
      rw [List.length_flatten]
      exact hs
    show (foldR (fun (g8 : (List Int)) (b8 : ((List (List Int)) × Int)) => do
      let g11 ← foldR (fun (g11 : (List Int)) (b11 : (List Int)) => do
          let l14 ← extend g11 b11
          R.ok l14) g8 b8.1
      R.ok g11) [] [(E, 0)] >>= _) = _
    unfold foldR
    dsimp only
    rw [ext_fold (by show 0 + _ < 100000; omega), ok_bind, ok_bind, List.nil_append]
    show R.ok (sortI E.flatten) = R.ok (sortI ([E ++ [[]]] : List (List (List Int))).flatten.flatten)
    rw [List.flatten_cons, List.flatten_nil, List.append_nil, List.flatten_append]
    show _ = R.ok (sortI (E.flatten ++ []))
    rw [List.append_nil]
  · rw [looks_by_ok (by show 1 < 1000; decide)]
    show R.ok ((E.length : Int) - 0 + 0) = R.ok ((((E ++ [[]]).length : Nat) : Int) - 1 + 0)
    rw [List.length_append]
    congr 1
    show _ = (((E.length + 1 : Nat) : Int)) - 1 + 0
    omega
/-- what is a choice -/
def Good (rows : List (List (List Int))) (C : List Int) : Prop := C.Pairwise (· < ·) ∧ (C.length : Int) = sizeK rows ∧ Ch C rows
theorem Good.sub {rows : List (List (List Int))} {C : List Int} (hn : rows.flatten.flatten.Nodup) (h : Good rows C) : ∀ x ∈ C, x ∈ rows.flatten.flatten := fun x hx => by
  obtain ⟨hu, hk, hc⟩ := h
  have h1 := ch_rows hc
  have h2 := fil_rows (fun v => inB v C) (rows := rows)
  have e1 : (rows.map fun row => (row.map fun leg => (leg.filter fun v => inB v C).length).sum).sum = (rows.map (mSum C)).sum := rfl
  rw [e1] at h2
  have h3 : C.length ≤ (rows.flatten.flatten.filter fun v => inB v C).length := by omega
  -- what is found of C among the places is no more than C
  have hnd : (rows.flatten.flatten.filter fun v => inB v C).Nodup := hn.filter _
  apply Classical.byContradiction
  intro z
  have := nodup_le (xs := x :: (rows.flatten.flatten.filter fun v => inB v C)) (ys := C) (List.nodup_cons.mpr ⟨fun hm => z (List.mem_filter.mp hm).1, hnd⟩) fun v hv => by
    rcases List.mem_cons.mp hv with e | hv
    · rw [e]
      exact hx
    · exact inB_t.mp (List.mem_filter.mp hv).2
  rw [List.length_cons] at this
  omega
theorem is_choice_g {lots : List (List (List Int) × Int)} {rows : List (List (List Int))} {C : List Int} (hL : Lots lots rows) (h : RowsOk rows) (hl : C.length < 64) : (Good rows C → is_choice lots C = R.ok true) ∧ (¬ Good rows C → is_choice lots C = R.ok false) := by
  have key : Post (is_choice lots C) (fun r => ∃ last, (60 : Int) ≤ last ∧ r = (decide ((C.length : Int) = sizeK rows) && decide (C = ssI C) && decide (cntN C last rows = 1))) noX := by
    unfold is_choice
    rw [hL.siz, ok_bind]
    refine po_bind (Q := fun j => j = !(decide ((C.length : Int) = sizeK rows) && decide (C = ssI C))) (po_if (fun c => ?_) fun c => po_ssL hl ?_) fun j hj => ?_
    · show true = _
      cases e : decide ((C.length : Int) = sizeK rows) with
      | true =>
        rw [e] at c
        exact absurd c (by decide)
      | false => rfl
    · show (!decide (C = ssI C)) = _
      cases e : decide ((C.length : Int) = sizeK rows) with
      | true => rw [Bool.true_and]
      | false =>
        rw [e] at c
        exact absurd rfl c
    · refine po_if (fun c => ⟨60, Int.le_refl _, ?_⟩) fun c => po_extend (by show C.length + 1 < 100000; omega) ?_
      · rw [hj, Bool.not_eq_true'] at c
        rw [c]
        rfl
      · have hj' : (decide ((C.length : Int) = sizeK rows) && decide (C = ssI C)) = true := by
          rw [hj] at c
          cases e : (decide ((C.length : Int) = sizeK rows) && decide (C = ssI C)) with
          | true => rfl
          | false =>
            rw [e] at c
            exact absurd rfl c
        obtain ⟨m, em, _, hm⟩ := max_is (xs := C ++ [0]) (by simp)
        rw [em, ok_bind, hL.cnt, ok_bind]
        have h0 := hm 0 (List.mem_append_right _ (List.mem_singleton.mpr rfl))
        refine ⟨_, ?_, by rw [hj', Bool.true_and]⟩
        have : ((10 : Int) ^ ((3 : Int) : Int).toNat) = 1000 := by decide
        rw [this]
        omega
  obtain ⟨r, er, last, hlast, e⟩ := po_ex key
  have hend : ∀ row ∈ rows, ∀ leg ∈ row, ∀ v ∈ leg, v ≤ last := fun row hr leg hl v hv => by
    have := h.rg v (List.mem_flatten.mpr ⟨leg, List.mem_flatten.mpr ⟨row, hr, hl⟩, hv⟩)
    omega
  obtain ⟨c1, c2⟩ := cnt_end (T := C) hend
  refine ⟨fun ⟨hu, hk, hc⟩ => ?_, fun hg => ?_⟩
  · rw [er, e, c1 hc, decide_eq_true hk, decide_eq_true (ssI_uniq hu fun k => by rw [decide_eq_true_iff])]
    rfl
  · rw [er, e]
    by_cases k1 : (C.length : Int) = sizeK rows
    · by_cases k2 : C = ssI C
      · have hu : C.Pairwise (· < ·) := by
          rw [k2]
          exact ssI_up C
        have hc : ¬ Ch C rows := fun z => hg ⟨hu, k1, z⟩
        rw [c2 hc, Bool.and_comm]
        rfl
      · rw [decide_eq_false k2, Bool.and_false]
        rfl
    · rw [decide_eq_false k1]
      rfl
theorem choice_by_ok {n : Int} {ts : List (Int × Int)} {k : Str} {lots : List (List (List Int) × Int)} {rows : List (List (List Int))} {num : Int} (ht : (ts.length : Int) = n - 1) (hlo : lots_of (n, ⟨ts⟩) k = R.ok lots) (hL : Lots lots rows) (h : RowsOk rows) (h0 : 0 ≤ num) (h1 : num < cntN [] (-1) rows) : choice_by (n, ⟨ts⟩) k num = R.ok (unR rows (P0 rows) num []) := by
  have hl := h.len
  have hpl : (P0 rows).length ≤ 60 := by
    unfold P0
    rw [(sortI_perm _).length_eq]
    exact hl
  refine po_iff ?_
  unfold choice_by
  rw [grown_ok ht, ok_bind, hlo, ok_bind, hL.cnt]
  refine po_bind (Q := fun j => j = true) (po_if (fun _ => ?_) fun c => absurd (decide_eq_true h0) c) fun j hj => ?_
  · show decide (num < cntN [] (-1) rows) = true
    exact decide_eq_true h1
  · subst hj
    refine po_if (fun c => absurd c (by decide)) fun _ => ?_
    rw [hL.plc, ok_bind, hL.siz]
    refine po_bind (po_foldP (fun pre (g : Int × List Int) => ∃ last, Suf rows last ((P0 rows).drop pre.length) ∧ (∀ x ∈ g.2, x ≤ last ∧ x ∈ rows.flatten.flatten) ∧ g.2.Pairwise (· < ·) ∧ 0 ≤ g.1 ∧ g.1 < cntN g.2 last rows ∧ unR rows ((P0 rows).drop pre.length) g.1 g.2 = unR rows (P0 rows) num []) ⟨-1, suf0 h, fun _ h => (nomatch h), List.Pairwise.nil, h0, h1, rfl⟩ fun pre g p post e ⟨last, hs, hT, hu, n0, n1, hun⟩ => ?_) fun g ⟨last, hs, hT, hu, n0, n1, hun⟩ => ?_
    · obtain ⟨nm, T⟩ := g
      have hT' : ∀ x ∈ T, x ≤ last ∧ x ∈ rows.flatten.flatten := hT
      have hu' : T.Pairwise (· < ·) := hu
      have n0' : 0 ≤ nm := n0
      have n1' : nm < cntN T last rows := n1
      have ed : (P0 rows).drop pre.length = p :: post := by rw [e, List.drop_left]
      have ed2 : (P0 rows).drop (pre ++ [p]).length = post := by
        rw [List.length_append, List.length_singleton, ← List.drop_drop, ed]
        rfl
      rw [ed] at hs hun
      rw [ed2]
      have hun' : unR rows (p :: post) nm T = unR rows (P0 rows) num [] := hun
      have hsp := hs.split h.nd fun x hx => (hT' x hx).1
      obtain ⟨g1, g2⟩ := hs.gt p List.mem_cons_self
      have hTp : (T ++ [p]).Pairwise (· < ·) := List.pairwise_append.mpr ⟨hu', List.pairwise_singleton _ _, fun a ha b hb => by
        rw [List.mem_singleton.mp hb]
        have := (hT' a ha).1
        omega⟩
      have hTm : ∀ x ∈ T ++ [p], x ≤ p ∧ x ∈ rows.flatten.flatten := fun x hx => by
        rcases List.mem_append.mp hx with hx | hx
        · have := hT' x hx
          exact ⟨by omega, this.2⟩
        · rw [List.mem_singleton.mp hx]
          exact ⟨Int.le_refl _, g2⟩
      have hTl : T.length ≤ 60 := Nat.le_trans (nodup_le (hu'.imp fun z => Int.ne_of_lt z) fun x hx => (hT' x hx).2) hl
      have hsz := size_le (hu'.imp fun z => Int.ne_of_lt z) (fun x hx => (hT' x hx).2) (show 0 < cntN T last rows by omega)
      rw [ok_bind]
      refine po_if (fun c => po_extend (by show T.length + 1 < 100000; omega) ?_) fun c => ?_
      · rw [hL.cnt, ok_bind]
        refine po_if (fun c2 => po_app (by show T.length < 100000; omega) ⟨p, hs.next, hTm, hTp, n0', of_decide_eq_true c2, ?_⟩) fun c2 => ?_
        · rw [← hun']
          show unR rows post nm (T ++ [p]) = unR rows (p :: post) nm T
          conv => rhs; unfold unR
          rw [if_pos (of_decide_eq_true c2)]
        · have c2' : ¬ nm < cntN (T ++ [p]) p rows := fun z => c2 (decide_eq_true z)
          refine ⟨p, hs.next, fun x hx => ⟨by have := (hT' x hx).1; omega, (hT' x hx).2⟩, hu', by show 0 ≤ nm - cntN (T ++ [p]) p rows; omega, by show nm - cntN (T ++ [p]) p rows < cntN T p rows; omega, ?_⟩
          rw [← hun']
          show unR rows post (nm - cntN (T ++ [p]) p rows) T = unR rows (p :: post) nm T
          conv => rhs; unfold unR
          rw [if_neg c2']
      · have c' : ¬ (T.length : Int) < sizeK rows := fun z => c (decide_eq_true z)
        have hz := cnt_over (hTp.imp fun z => Int.ne_of_lt z) (fun x hx => (hTm x hx).2) (show (T.length : Int) = sizeK rows by omega) (last := p)
        refine ⟨p, hs.next, fun x hx => ⟨by have := (hT' x hx).1; omega, (hT' x hx).2⟩, hu', n0', by show nm < cntN T p rows; omega, ?_⟩
        rw [← hun']
        show unR rows post nm T = unR rows (p :: post) nm T
        conv => rhs; unfold unR
        rw [hz, if_neg (by omega), show nm - 0 = nm by omega]
    · rw [show (P0 rows).drop (P0 rows).length = [] from List.drop_length] at hun
      exact hun
/-! the number of a choice, as the program reckons it -/
theorem sorted_ext {xs ys : List Int} (hx : xs.Pairwise (· < ·)) (hy : ys.Pairwise (· < ·)) (h : ∀ x, x ∈ xs ↔ x ∈ ys) : xs = ys :=
  sort_uniq (perm_nodup (hx.imp fun z => Int.ne_of_lt z) (hy.imp fun z => Int.ne_of_lt z) h) (hx.imp fun z => Int.le_of_lt z) (hy.imp fun z => Int.le_of_lt z)
section
variable (rows : List (List (List Int)))
/-- what the places between two looks count -/
def NS : List Int → Int → List Int → Int
  | _, _, [] => 0
  | T, last, c :: C' => (((P0 rows).filter fun p => decide (last < p) && decide (p < c)).map fun p => cntN (T ++ [p]) p rows).sum + NS (T ++ [c]) c C'
end
section
variable {rows : List (List (List Int))}
theorem ra_block {C T : List Int} : ∀ {B P : List Int}, (∀ b ∈ B, b ∉ C) → raR rows C (B ++ P) T = (B.map fun p => cntN (T ++ [p]) p rows).sum + raR rows C P T
  | [], P, _ => by
    show raR rows C P T = 0 + _
    omega
  | b :: B, P, h => by
    have hb := h b List.mem_cons_self
    rw [List.cons_append, List.map_cons, List.sum_cons]
    show (if inB b C = true then raR rows C (B ++ P) (T ++ [b]) else cntN (T ++ [b]) b rows + raR rows C (B ++ P) T) = _
    rw [if_neg fun z => hb (inB_t.mp z), ra_block fun x hx => h x (List.mem_cons_of_mem _ hx)]
    omega
theorem ra_ns {C : List Int} (h : RowsOk rows) (hC : C.Pairwise (· < ·)) (hm : ∀ x ∈ C, x ∈ rows.flatten.flatten) (hk : (C.length : Int) = sizeK rows) : ∀ {C' T P : List Int} {last : Int}, Suf rows last P → T ++ C' = C → (∀ x ∈ T, x ≤ last) → (∀ x ∈ C', last < x) → raR rows C P T = NS rows T last C'
  | [], T, P, last, hs, e, hT, _ => by
    rw [List.append_nil] at e
    subst e
    have hno : ∀ b ∈ P, b ∉ T := fun b hb z => by
      have := (hs.gt b hb).1
      have := hT b z
      omega
    have := ra_block (rows := rows) (C := T) (T := T) (P := []) hno
    rw [List.append_nil] at this
    rw [this]
    have hz : (P.map fun p => cntN (T ++ [p]) p rows).sum = 0 := by
      have : ∀ l : List Int, (∀ p ∈ l, p ∈ P) → (l.map fun p => cntN (T ++ [p]) p rows).sum = 0 := fun l => by
        induction l with
        | nil => exact fun _ => rfl
        | cons p l ih =>
          intro hl
          have hp := hl p List.mem_cons_self
          have hg := hs.gt p hp
          rw [List.map_cons, List.sum_cons, ih fun q hq => hl q (List.mem_cons_of_mem _ hq)]
          rw [cnt_over (List.nodup_append.mpr ⟨hC.imp fun z => Int.ne_of_lt z, List.nodup_cons.mpr ⟨by simp, List.nodup_nil⟩, fun a ha b hb e => by
            rw [List.mem_singleton] at hb
            subst hb
            subst e
            exact hno a hp ha⟩) (fun x hx => by
            rcases List.mem_append.mp hx with hx | hx
            · exact hm x hx
            · rw [List.mem_singleton.mp hx]; exact hg.2) hk]
          rfl
      exact this P fun p hp => hp
    rw [hz]
    rfl
  | c :: C', T, P, last, hs, e, hT, hlt => by
    have hcC : c ∈ C := by rw [← e]; simp
    have hcl := hlt c List.mem_cons_self
    have hcP := hs.all c (hm c hcC) hcl
    have hC2 : (T ++ c :: C').Pairwise (· < ·) := e ▸ hC
    obtain ⟨w1, w2, w3⟩ := List.pairwise_append.mp hC2
    obtain ⟨w4, w5⟩ := List.pairwise_cons.mp w2
    -- the places split at the look
    have eP : P = (P.filter fun p => decide (p < c)) ++ c :: P.filter fun p => decide (c < p) := by
      refine sorted_ext hs.up (List.pairwise_append.mpr ⟨hs.up.sublist List.filter_sublist, List.pairwise_cons.mpr ⟨fun x hx => of_decide_eq_true (List.mem_filter.mp hx).2, hs.up.sublist List.filter_sublist⟩, fun a ha b hb => ?_⟩) fun x => ?_
      · have h1 := of_decide_eq_true (List.mem_filter.mp ha).2
        rcases List.mem_cons.mp hb with rfl | hb
        · exact h1
        · have := of_decide_eq_true (List.mem_filter.mp hb).2
          omega
      · rw [List.mem_append, List.mem_cons, List.mem_filter, List.mem_filter, decide_eq_true_iff, decide_eq_true_iff]
        constructor
        · intro hx
          rcases Int.lt_trichotomy x c with z | z | z
          · exact .inl ⟨hx, z⟩
          · exact .inr (.inl z)
          · exact .inr (.inr ⟨hx, z⟩)
        · rintro (z | rfl | z)
          · exact z.1
          · exact hcP
          · exact z.1
    have eB : (P.filter fun p => decide (p < c)) = (P0 rows).filter fun p => decide (last < p) && decide (p < c) := by
      refine sorted_ext (hs.up.sublist List.filter_sublist) ((up_of h.nd).sublist List.filter_sublist) fun x => ?_
      rw [List.mem_filter, List.mem_filter, Bool.and_eq_true, decide_eq_true_iff, decide_eq_true_iff]
      constructor
      · rintro ⟨h1, h2⟩
        have := hs.gt x h1
        exact ⟨P0_mem.mpr this.2, this.1, h2⟩
      · rintro ⟨h1, h2, h3⟩
        exact ⟨hs.all x (P0_mem.mp h1) h2, h3⟩
    have hs2 : Suf rows c (P.filter fun p => decide (c < p)) := ⟨hs.up.sublist List.filter_sublist, fun p hp => ⟨of_decide_eq_true (List.mem_filter.mp hp).2, (hs.gt p (List.mem_filter.mp hp).1).2⟩, fun v hv hvc => List.mem_filter.mpr ⟨hs.all v hv (by omega), decide_eq_true hvc⟩⟩
    have ih := ra_ns h hC hm hk (C' := C') (T := T ++ [c]) hs2 (by rw [List.append_assoc]; exact e) (fun x hx => by
      rcases List.mem_append.mp hx with hx | hx
      · have := hT x hx; omega
      · rw [List.mem_singleton.mp hx]; exact Int.le_refl _) fun x hx => w4 x hx
    rw [eP, ra_block fun b hb hbC => ?_, eB]
    · show _ + (if inB c C = true then raR rows C _ (T ++ [c]) else _) = _
      rw [if_pos (inB_t.mpr hcC), ih]
      rfl
    · obtain ⟨h1, h2⟩ := List.mem_filter.mp hb
      have h2 := of_decide_eq_true h2
      have h3 := (hs.gt b h1).1
      rw [← e] at hbC
      rcases List.mem_append.mp hbC with z | z
      · have := hT b z; omega
      · rcases List.mem_cons.mp z with rfl | z
        · omega
        · have := w4 b z; omega
end
theorem fold_add {f : Int → Int → R Int} {q : Int → Bool} {w : Int → Int} : ∀ {xs : List Int} {g : Int}, (∀ g p, p ∈ xs → f g p = R.ok (if q p = true then g + w p else g)) → foldR f g xs = R.ok (g + ((xs.filter q).map w).sum)
  | [], g, _ => by
    show R.ok g = R.ok (g + 0)
    rw [Int.add_zero]
  | x :: xs, g, h => by
    unfold foldR
    rw [h g x List.mem_cons_self, ok_bind, fold_add fun g p hp => h g p (List.mem_cons_of_mem _ hp), List.filter_cons]
    by_cases c : q x = true
    · rw [if_pos c, if_pos c, List.map_cons, List.sum_cons]
      congr 1
      omega
    · rw [if_neg c, if_neg c]
theorem enum_at {α : Type} {C : List α} {pre post : List (Int × α)} {b : Int × α} (h : enum C = pre ++ b :: post) : b.1 = (pre.length : Int) ∧ C[pre.length]? = some b.2 := by
  have h1 : (enum C)[pre.length]? = some b := by
    rw [h, List.getElem?_append_right (Nat.le_refl _), Nat.sub_self]
    rfl
  unfold enum at h1
  obtain ⟨h2, h3⟩ := List.getElem?_zip_eq_some.mp h1
  refine ⟨?_, h3⟩
  have hl := (List.getElem?_eq_some_iff.mp h3).1
  rw [rng_atE (by omega)] at h2
  have := Option.some.inj h2
  omega
theorem number_ok {n : Int} {ts : List (Int × Int)} {k : Str} {lots : List (List (List Int) × Int)} {rows : List (List (List Int))} {C : List Int} (ht : (ts.length : Int) = n - 1) (hlo : lots_of (n, ⟨ts⟩) k = R.ok lots) (hL : Lots lots rows) (h : RowsOk rows) (hC : C.Pairwise (· < ·)) (hm : ∀ x ∈ C, x ∈ rows.flatten.flatten) (hch : Ch C rows) : choice_number (n, ⟨ts⟩) k C = R.ok (raR rows C (P0 rows) []) := by
  have hk := ch_size h.nd (hC.imp fun z => Int.ne_of_lt z) hm hch
  have hlen := h.len
  have hCl : C.length ≤ 60 := Nat.le_trans (nodup_le (hC.imp fun z => Int.ne_of_lt z) hm) hlen
  have hpl : (P0 rows).length ≤ 60 := by
    unfold P0
    rw [(sortI_perm _).length_eq]
    exact hlen
  have ens : raR rows C (P0 rows) [] = NS rows [] (-1) C := ra_ns h hC hm hk (suf0 h) rfl (fun _ h => nomatch h) fun x hx => by have := h.rg x (hm x hx); omega
  refine po_iff ?_
  unfold choice_number
  rw [grown_ok ht, ok_bind, hlo, ok_bind, (is_choice_g hL h (by omega)).1 ⟨hC, hk, hch⟩, ok_bind]
  refine po_if (fun c => absurd c (by decide)) fun _ => ?_
  refine po_bind (po_foldP (fun pre (g : Int) => ∃ T last C', C = T ++ C' ∧ T.length = pre.length ∧ (T = [] ∧ last = -1 ∨ ∃ T0, T = T0 ++ [last]) ∧ g + NS rows T last C' = NS rows [] (-1) C) ⟨[], -1, C, rfl, rfl, .inl ⟨rfl, rfl⟩, by omega⟩ fun pre g b post e ⟨T, last, C', eC, eT, hl, hg⟩ => ?_) fun g ⟨T, last, C', eC, eT, hl, hg⟩ => ?_
  · obtain ⟨e1, e2⟩ := enum_at e
    obtain ⟨i, c⟩ := b
    have e1' : i = (pre.length : Int) := e1
    have e2' : C[pre.length]? = some c := e2
    subst e1'
    -- the next look
    obtain ⟨C2, eC2⟩ : ∃ C2, C' = c :: C2 := by
      rw [eC, ← eT, List.getElem?_append_right (Nat.le_refl _), Nat.sub_self] at e2'
      cases C' with
      | nil => cases e2'
      | cons x C2 => cases e2'; exact ⟨C2, rfl⟩
    subst eC2
    rw [hL.plc, ok_bind]
    have ecut : cutL C none (some ((pre.length : Nat) : Int)) = T := by
      rw [cut_take, eC, ← eT, List.take_left]
    have hTl : T.length ≤ 60 := by
      have := congrArg List.length eC
      rw [List.length_append] at this
      omega
    rw [fold_add (q := fun p => decide (last < p) && decide (p < c)) (w := fun p => cntN (T ++ [p]) p rows) fun g p hp => ?_]
    · refine ⟨T ++ [c], c, C2, by rw [List.append_assoc]; exact eC, by rw [List.length_append, List.length_append, eT]; rfl, .inr ⟨T, rfl⟩, ?_⟩
      rw [← hg]
      show g + _ + NS rows (T ++ [c]) c C2 = g + (_ + NS rows (T ++ [c]) c C2)
      omega
    · have hp0 := (h.rg p (P0_mem.mp hp)).1
      refine po_iff (po_bind (Q := fun j => j = (decide (last < p) && decide (p < c))) (po_if (fun c1 => ?_) fun c1 => ?_) fun j hj => ?_)
      · refine po_bind (Q := fun j => j = decide (last < p)) (po_if (fun c2 => ?_) fun c2 => ?_) fun j hj => ?_
        · have c2' : ((pre.length : Nat) : Int) = 0 := of_decide_eq_true c2
          have hT0 : T = [] := List.eq_nil_of_length_eq_zero (by omega)
          rcases hl with ⟨_, hl⟩ | ⟨T0, hl⟩
          · show true = _
            rw [hl, decide_eq_true (by omega)]
          · rw [hT0] at hl
            exact absurd (congrArg List.length hl) (by simp)
        · have c2' : ((pre.length : Nat) : Int) ≠ 0 := fun z => c2 (decide_eq_true z)
          rcases hl with ⟨hl, _⟩ | ⟨T0, hl⟩
          · rw [hl] at eT
            exact absurd eT (by simp; omega)
          · have eg : getI C (((pre.length : Nat) : Int) - 1) = R.ok last := by
              refine getI_eq (by omega) ?_
              have hlen2 : pre.length = T0.length + 1 := by rw [← eT, hl, List.length_append]; rfl
              rw [show (((pre.length : Nat) : Int) - 1).toNat = T0.length by omega, eC, hl, List.append_assoc, List.getElem?_append_right (Nat.le_refl _), Nat.sub_self]
              rfl
            exact po_getE eg rfl
        · subst hj
          show decide (last < p) = (decide (last < p) && decide (p < c))
          rw [c1, Bool.and_true]
      · show false = _
        have : decide (p < c) = false := by
          cases e : decide (p < c) with
          | false => rfl
          | true => exact absurd e c1
        rw [this, Bool.and_false]
      · subst hj
        by_cases cq : (decide (last < p) && decide (p < c)) = true
        · rw [if_pos cq]
          show Post (extend (cutL C none (some ((pre.length : Nat) : Int))) [p] >>= _) _ _
          rw [ecut]
          refine po_extend (by show T.length + 1 < 100000; omega) ?_
          rw [hL.cnt, ok_bind]
          exact (if_pos cq).symm
        · rw [if_neg cq]
          exact (if_neg cq).symm
  · have hle : (enum C).length = C.length := by
      unfold enum
      rw [List.length_zip, rng_length]
      omega
    have hC' : C' = [] := by
      have := congrArg List.length eC
      rw [List.length_append] at this
      exact List.eq_nil_of_length_eq_zero (by omega)
    subst hC'
    show g = _
    rw [ens, ← hg]
    show g = g + 0
    omega
/-! numbers told back -/
section
variable {rows : List (List (List Int))}
theorem un_sub : ∀ {P : List Int} {num : Int} {T : List Int}, ∀ x ∈ T, x ∈ unR rows P num T
  | [], _, _, x, hx => hx
  | p :: P, num, T, x, hx => by
    unfold unR
    by_cases c : num < cntN (T ++ [p]) p rows
    · rw [if_pos c]
      exact un_sub x (List.mem_append_left _ hx)
    · rw [if_neg c]
      exact un_sub x hx
theorem ra_un (hn : rows.flatten.flatten.Nodup) : ∀ {P : List Int} {last num : Int} {T : List Int}, Suf rows last P → (∀ x ∈ T, x ≤ last) → T.Pairwise (· < ·) → 0 ≤ num → num < cntN T last rows → raR rows (unR rows P num T) P T = num
  | [], last, num, T, hs, hT, hu, h0, h1 => by
    show (0 : Int) = num
    have h2 := (cnt_end (T := T) hs.done)
    by_cases c : Ch T rows
    · have := h2.1 c
      omega
    · have := h2.2 c
      omega
  | p :: P, last, num, T, hs, hT, hu, h0, h1 => by
    have hsp := hs.split hn hT
    have hp := (hs.gt p List.mem_cons_self).1
    by_cases c : num < cntN (T ++ [p]) p rows
    · have e : unR rows (p :: P) num T = unR rows P num (T ++ [p]) := by
        conv => lhs; unfold unR
        rw [if_pos c]
      rw [e]
      unfold raR
      rw [if_pos (inB_t.mpr (un_sub p (List.mem_append_right _ (List.mem_singleton.mpr rfl))))]
      exact ra_un hn hs.next (T := T ++ [p]) (fun x hx => by
        rcases List.mem_append.mp hx with hx | hx
        · have := hT x hx; omega
        · rw [List.mem_singleton.mp hx]; exact Int.le_refl _) (List.pairwise_append.mpr ⟨hu, List.pairwise_singleton _ _, fun a ha b hb => by
          rw [List.mem_singleton.mp hb]
          have := hT a ha
          omega⟩) h0 c
    · have e : unR rows (p :: P) num T = unR rows P (num - cntN (T ++ [p]) p rows) T := by
        conv => lhs; unfold unR
        rw [if_neg c]
      have q0 : 0 ≤ num - cntN (T ++ [p]) p rows := by omega
      have q1 : num - cntN (T ++ [p]) p rows < cntN T p rows := by omega
      have hT' : ∀ x ∈ T, x ≤ p := fun x hx => by have := hT x hx; omega
      have hno : p ∉ unR rows P (num - cntN (T ++ [p]) p rows) T := fun z => by
        rcases (un_ok hn hs.next hT' hu q0 q1).2.2 p z with z | z
        · have := hT p z; omega
        · have := List.rel_of_pairwise_cons hs.up z
          omega
      rw [e]
      unfold raR
      rw [if_neg fun z => hno (inB_t.mp z), ra_un hn hs.next hT' hu q0 q1]
      omega
end
/-- a choice, its number, and back -/
structure Told (rows : List (List (List Int))) (num : Int) (C : List Int) : Prop where
  good : Good rows C
  sub : ∀ x ∈ C, x ∈ rows.flatten.flatten
  n0 : 0 ≤ num
  n1 : num < cntN [] (-1) rows
  un : unR rows (P0 rows) num [] = C
  ra : raR rows C (P0 rows) [] = num
theorem told_num {rows : List (List (List Int))} {num : Int} (h : RowsOk rows) (h0 : 0 ≤ num) (h1 : num < cntN [] (-1) rows) : Told rows num (unR rows (P0 rows) num []) := by
  obtain ⟨cc, cu, cm⟩ := un_ok (T := []) h.nd (suf0 h) (fun _ z => nomatch z) List.Pairwise.nil h0 h1
  have hs : ∀ x ∈ unR rows (P0 rows) num [], x ∈ rows.flatten.flatten := fun x hx => P0_mem.mp ((cm x hx).resolve_left fun z => nomatch z)
  exact ⟨⟨cu, ch_size h.nd (cu.imp fun z => Int.ne_of_lt z) hs cc, cc⟩, hs, h0, h1, rfl, ra_un h.nd (suf0 h) (fun _ z => nomatch z) List.Pairwise.nil h0 h1⟩
theorem told_ch {rows : List (List (List Int))} {C : List Int} (h : RowsOk rows) (hg : Good rows C) : Told rows (raR rows C (P0 rows) []) C := by
  have hm := hg.sub h.nd
  have ef : [] ++ (P0 rows).filter (fun p => inB p C) = C := by
    rw [List.nil_append]
    refine sorted_ext ((up_of h.nd).sublist List.filter_sublist) hg.1 fun x => ?_
    rw [List.mem_filter, inB_t, P0_mem]
    exact ⟨fun z => z.2, fun z => ⟨hm x z, z⟩⟩
  obtain ⟨a, b⟩ := ra_lt h.nd hg.2.2 (T := []) (suf0 h) (fun _ z => nomatch z) ef
  exact ⟨hg, hm, a, b, un_ra h.nd hg.2.2 (T := []) (suf0 h) (fun _ z => nomatch z) ef, rfl⟩
theorem no_fork {n : Int} {ts : List (Int × Int)} (h : ¬ ∃ v, 0 ≤ v ∧ v < n ∧ 3 ≤ deg ts v) : ∀ v, 0 ≤ v → v < n → deg ts v ≤ 2 := fun v v0 v1 => by
  apply Classical.byContradiction
  intro z
  exact h ⟨v, v0, v1, by omega⟩
theorem lots_ok {n : Int} {ts : List (Int × Int)} {k : Str} (t : TreeOk n ts) : Post (lots_of (n, ⟨ts⟩) k) (fun r => (few n k → r = []) ∧ (¬ few n k → k = "all" → r = [((endsL n ts).map fun e => [e], 0)]) ∧ (¬ few n k → k ≠ "all" → (endsL n ts).length = 2 → r = [((endsL n ts).map fun e => [e], 1)]) ∧ (¬ few n k → k ≠ "all" → (endsL n ts).length ≠ 2 → ∃ fk sk, LegF n ts fk sk ∧ r = ((keysG fk (endsL n ts)).map (rowP n ts fk sk)).map fun row => (row, 1))) noX := by
  have h := t.web
  have hn1 := h.n1
  have hn := h.n60
  have hel := ends_len h
  unfold lots_of
  refine po_rng (by decide) (by decide) (by show -(2 ^ 62) ≤ n; omega) (by show n < 2 ^ 62; omega) (near_all h ?_)
  refine po_rng (by decide) (by decide) (by show -(2 ^ 62) ≤ n; omega) (by show n < 2 ^ 62; omega) ?_
  refine po_filGE (g := fun v => if decide (((sortI (nbs ts v)).length : Int) = (1 : Int)) = true then some v else none) (by show (rng 0 n).length < 100000; rw [rng_length]; omega) (fun v hv => ?_) ?_
  · rw [nears_get (rng_mem.mp hv).1 (rng_mem.mp hv).2, ok_bind]
    by_cases c : decide (((sortI (nbs ts v)).length : Int) = (1 : Int)) = true
    · rw [if_pos c, if_pos c]
    · rw [if_neg c, if_neg c]
  · have eE : ((rng 0 n).filter fun v => decide (((sortI (nbs ts v)).length : Int) = (1 : Int))) = endsL n ts := by
      unfold endsL
      refine List.filter_congr fun v _ => ?_
      have := (sortI_perm (nbs ts v)).length_eq
      unfold deg
      by_cases c : (nbs ts v).length = 1
      · rw [decide_eq_true c, decide_eq_true (by omega)]
      · rw [decide_eq_false c, decide_eq_false (by omega)]
    dsimp only
    rw [fil_ite, eE]
    refine po_if (fun c => ?_) fun c => ?_
    · have hf := few_iff.mp c
      exact ⟨fun _ => rfl, fun z => absurd hf z, fun z => absurd hf z, fun z => absurd hf z⟩
    · have hf : ¬ few n k := fun z => c (few_iff.mpr z)
      refine po_if (fun ka => ?_) fun ka => ?_
      · have ka' : k = "all" := of_decide_eq_true ka
        refine po_mapGE (g := fun e => [e]) (by omega) (fun _ _ => rfl) ?_
        exact ⟨fun z => absurd z hf, fun _ _ => rfl, fun _ z => absurd ka' z, fun _ z => absurd ka' z⟩
      · have ka' : k ≠ "all" := fun z => ka (decide_eq_true z)
        refine po_if (fun c2 => ?_) fun c2 => ?_
        · have c2' : (endsL n ts).length = 2 := by
            have := of_decide_eq_true c2
            omega
          refine po_mapGE (g := fun e => [e]) (by omega) (fun _ _ => rfl) ?_
          exact ⟨fun z => absurd z hf, fun _ z => absurd z ka', fun _ _ _ => rfl, fun _ _ z => absurd c2' z⟩
        · have c2' : (endsL n ts).length ≠ 2 := fun z => c2 (decide_eq_true (by omega))
          have n2 : 2 ≤ n := by
            apply Classical.byContradiction
            intro z
            exact hf (.inl (by omega))
          have hex : ∃ v, 0 ≤ v ∧ v < n ∧ 3 ≤ deg ts v := by
            apply Classical.byContradiction
            intro z
            exact c2' (ends_two t n2 (no_fork z))
          obtain ⟨v, v0, v1, hv⟩ := hex
          obtain ⟨fk, sk, L⟩ := legF_ex t v0 v1 hv
          rw [legs_by_ok L hel, ok_bind]
          obtain ⟨l, e1, e2⟩ := derefD_ok (ks := keysG fk (endsL n ts)) (rows := (keysG fk (endsL n ts)).map (rowP n ts fk sk)) (pre := []) (i := 0) (by rw [List.length_map]) rfl
          rw [List.nil_append] at e1
          show Post (derefD ((keysG fk (endsL n ts)).map (rowP n ts fk sk)) (mkG 0 (keysG fk (endsL n ts))) >>= _) _ _
          rw [e1, ok_bind, e2]
          have hkl := keysG_len (c := fk) (ts := endsL n ts)
          refine po_mapGE (g := fun row => (row, (1 : Int))) (by rw [List.length_map]; omega) (fun _ _ => rfl) ?_
          exact ⟨fun z => absurd z hf, fun _ z => absurd z ka', fun _ _ z => absurd z c2', fun _ _ _ => ⟨fk, sk, L, rfl⟩⟩
/-! the rows of a tree, the law's and the program's -/
section
variable {n : Int} {ts : List (Int × Int)} (t : TreeOk n ts)
include t
theorem row_nodup (f : Int) : (rowL n ts f).flatten.Nodup := by
  have h := t.web
  have key : ∀ S : List Int, S.Nodup → (∀ s ∈ S, Adj ts f s) → (S.map (pieceL n ts f)).flatten.Nodup := by
    intro S
    induction S with
    | nil => exact fun _ _ => List.nodup_nil
    | cons s S ih =>
      intro hS hq
      obtain ⟨hs, hS'⟩ := List.nodup_cons.mp hS
      rw [List.map_cons, List.flatten_cons]
      refine List.nodup_append.mpr ⟨(rng_nodup 0 n).filter _, ih hS' fun s hs => hq s (List.mem_cons_of_mem _ hs), fun a ha b hb e => ?_⟩
      subst e
      obtain ⟨l, hl, hb'⟩ := List.mem_flatten.mp hb
      obtain ⟨s', hs', rfl⟩ := List.mem_map.mp hl
      have h1 := pieceL_mem.mp ha
      have h2 := pieceL_mem.mp hb'
      have := near_uniq t h1.1.1 h1.1.2 (hq s List.mem_cons_self).symm (hq s' (List.mem_cons_of_mem _ hs')).symm h1.2 h2.2
      subst this
      exact hs hs'
  exact key (LP n ts f) (LP_nd h f) fun s hs => (LP_mem.mp hs).1
theorem rows_nodup : ∀ {F : List Int}, F.Nodup → (∀ f ∈ F, 3 ≤ deg ts f) → ((F.map (rowL n ts)).flatten.flatten).Nodup
  | [], _, _ => List.nodup_nil
  | f :: F, hn, hb => by
    obtain ⟨h1, h2⟩ := List.nodup_cons.mp hn
    rw [List.map_cons, List.flatten_cons, List.flatten_append]
    refine List.nodup_append.mpr ⟨row_nodup t f, rows_nodup h2 fun g hg => hb g (List.mem_cons_of_mem _ hg), fun a ha b hbm e => ?_⟩
    subst e
    obtain ⟨l, hl, hal⟩ := List.mem_flatten.mp ha
    obtain ⟨s, hs, rfl⟩ := List.mem_map.mp hl
    obtain ⟨l', hl', hal'⟩ := List.mem_flatten.mp hbm
    obtain ⟨row, hrow, hlr⟩ := List.mem_flatten.mp hl'
    obtain ⟨f', hf', rfl⟩ := List.mem_map.mp hrow
    obtain ⟨s', hs', rfl⟩ := List.mem_map.mp hlr
    have p1 := pieceL_mem.mp hal
    have p2 := pieceL_mem.mp hal'
    have q1 := LP_mem.mp hs
    have q2 := LP_mem.mp hs'
    have := leg_uniq t p1.1.1 p1.1.2 q1.1 q2.1 (hb f List.mem_cons_self) (hb f' (List.mem_cons_of_mem _ hf')) p1.2 p2.2 q1.2 q2.2
    rw [this.1] at h1
    exact h1 hf'
theorem bare_big : ∀ f ∈ bareL n ts, 3 ≤ deg ts f := fun f hf => by
  have := of_decide_eq_true (List.mem_filter.mp (List.mem_filter.mp hf).1).2
  omega
theorem rowsL_ok : RowsOk ((bareL n ts).map (rowL n ts)) := by
  have h := t.web
  have hn := h.n60
  refine ⟨fun row hr leg hl => ?_, fun v hv => ?_, fun row hr => ?_, rows_nodup t (((rng_nodup 0 n).filter _).filter _) (bare_big t), ?_⟩
  · obtain ⟨f, _, rfl⟩ := List.mem_map.mp hr
    exact (row_legs h leg hl).1
  · obtain ⟨l, hl, hvl⟩ := List.mem_flatten.mp hv
    obtain ⟨row, hrow, hlr⟩ := List.mem_flatten.mp hl
    obtain ⟨f, _, rfl⟩ := List.mem_map.mp hrow
    obtain ⟨s, _, rfl⟩ := List.mem_map.mp hlr
    have := (pieceL_mem.mp hvl).1
    omega
  · obtain ⟨f, _, rfl⟩ := List.mem_map.mp hr
    exact row_sum t f
  · rw [List.length_map]
    have h1 : (bareL n ts).length ≤ (forksL n ts).length := List.length_filter_le _ _
    have h2 : (forksL n ts).length ≤ (rng 0 n).length := List.length_filter_le _ _
    rw [rng_length] at h2
    omega
theorem rows_perm {fk sk : Int → Int} (L : LegF n ts fk sk) : ((keysG fk (endsL n ts)).map (rowP n ts fk sk)).flatten.flatten.Perm (((bareL n ts).map (rowL n ts)).flatten.flatten) := by
  have hbig : ∀ f ∈ keysG fk (endsL n ts), 3 ≤ deg ts f := fun f hm => by
    obtain ⟨e, he, rfl⟩ := keysG_mem.mp hm
    exact L.big e he
  have h1 : ∀ K : List Int, (∀ f ∈ K, 3 ≤ deg ts f) → (K.map (rowP n ts fk sk)).flatten.Perm (K.map (rowL n ts)).flatten := fun K => by
    induction K with
    | nil => exact fun _ => List.Perm.refl _
    | cons f K ih =>
      intro hb
      rw [List.map_cons, List.map_cons, List.flatten_cons, List.flatten_cons]
      exact (rowP_perm t L (hb f List.mem_cons_self)).append (ih fun g hg => hb g (List.mem_cons_of_mem _ hg))
  exact (h1 _ hbig).flatten.trans (((keys_perm t L).map _).flatten.flatten)
theorem rowsP_ok {fk sk : Int → Int} (L : LegF n ts fk sk) : RowsOk ((keysG fk (endsL n ts)).map (rowP n ts fk sk)) := by
  have hL := rowsL_ok t
  have hp := rows_perm t L
  have hk := keys_perm t L
  have hbig : ∀ f ∈ keysG fk (endsL n ts), 3 ≤ deg ts f := fun f hm => by
    obtain ⟨e, he, rfl⟩ := keysG_mem.mp hm
    exact L.big e he
  refine ⟨fun row hr leg hl => ?_, fun v hv => hL.rg v (hp.mem_iff.mp hv), fun row hr => ?_, hp.nodup_iff.mpr hL.nd, ?_⟩
  · obtain ⟨f, hf, rfl⟩ := List.mem_map.mp hr
    exact (row_legs t.web leg ((rowP_perm t L (hbig f hf)).mem_iff.mp hl)).1
  · obtain ⟨f, hf, rfl⟩ := List.mem_map.mp hr
    rw [nat_sum_perm ((rowP_perm t L (hbig f hf)).map _)]
    exact row_sum t f
  · rw [List.length_map, hk.length_eq]
    have := hL.few
    rwa [List.length_map] at this
theorem ch_bridge {fk sk : Int → Int} (L : LegF n ts fk sk) {C : List Int} : Ch C ((keysG fk (endsL n ts)).map (rowP n ts fk sk)) ↔ Ch C ((bareL n ts).map (rowL n ts)) := by
  have hk := keys_perm t L
  have hbig : ∀ f ∈ keysG fk (endsL n ts), 3 ≤ deg ts f := fun f hm => by
    obtain ⟨e, he, rfl⟩ := keysG_mem.mp hm
    exact L.big e he
  have one : ∀ f, 3 ≤ deg ts f → (((∀ leg ∈ rowP n ts fk sk f, mineN C leg ≤ 1) ∧ zeroN C (rowP n ts fk sk f) = 1) ↔ ((∀ leg ∈ rowL n ts f, mineN C leg ≤ 1) ∧ zeroN C (rowL n ts f) = 1)) := fun f hf => by
    have hp := rowP_perm t L hf
    have e : zeroN C (rowP n ts fk sk f) = zeroN C (rowL n ts f) := (hp.filter _).length_eq
    rw [e]
    exact and_congr ⟨fun z l hl => z l (hp.mem_iff.mpr hl), fun z l hl => z l (hp.mem_iff.mp hl)⟩ Iff.rfl
  constructor
  · intro hc row hr
    obtain ⟨f, hf, rfl⟩ := List.mem_map.mp hr
    have hf' := hk.mem_iff.mpr hf
    exact (one f (hbig f hf')).mp (hc _ (List.mem_map_of_mem hf'))
  · intro hc row hr
    obtain ⟨f, hf, rfl⟩ := List.mem_map.mp hr
    exact (one f (hbig f hf)).mpr (hc _ (List.mem_map_of_mem (hk.mem_iff.mp hf)))
theorem lots_fork {fk sk : Int → Int} {k : Str} (L : LegF n ts fk sk) {v : Int} (v0 : 0 ≤ v) (v1 : v < n) (hv : 3 ≤ deg ts v) (ka : k ≠ "all") : lots_of (n, ⟨ts⟩) k = R.ok (lotsL ((keysG fk (endsL n ts)).map (rowP n ts fk sk))) := by
  have h := t.web
  have hn1 := h.n1
  have hn := h.n60
  have hel := ends_len h
  have h3 := ends_three t v0 v1 hv
  have hl3 : (endsL n ts).length ≤ (rng 0 n).length := List.length_filter_le _ _
  rw [rng_length] at hl3
  refine po_iff ?_
  unfold lots_of
  refine po_rng (by decide) (by decide) (by show -(2 ^ 62) ≤ n; omega) (by show n < 2 ^ 62; omega) (near_all h ?_)
  refine po_rng (by decide) (by decide) (by show -(2 ^ 62) ≤ n; omega) (by show n < 2 ^ 62; omega) ?_
  refine po_filGE (g := fun v => if decide (((sortI (nbs ts v)).length : Int) = (1 : Int)) = true then some v else none) (by show (rng 0 n).length < 100000; rw [rng_length]; omega) (fun v hv => ?_) ?_
  · rw [nears_get (rng_mem.mp hv).1 (rng_mem.mp hv).2, ok_bind]
    by_cases c : decide (((sortI (nbs ts v)).length : Int) = (1 : Int)) = true
    · rw [if_pos c, if_pos c]
    · rw [if_neg c, if_neg c]
  · have eE : ((rng 0 n).filter fun v => decide (((sortI (nbs ts v)).length : Int) = (1 : Int))) = endsL n ts := by
      unfold endsL
      refine List.filter_congr fun v _ => ?_
      have := (sortI_perm (nbs ts v)).length_eq
      unfold deg
      by_cases c : (nbs ts v).length = 1
      · rw [decide_eq_true c, decide_eq_true (by omega)]
      · rw [decide_eq_false c, decide_eq_false (by omega)]
    dsimp only
    rw [fil_ite, eE]
    refine po_if (fun c => ?_) fun c => po_if (fun c2 => absurd (of_decide_eq_true c2) ka) fun _ => po_if (fun c2 => absurd (of_decide_eq_true c2) (by omega)) fun _ => ?_
    · exfalso
      rcases few_iff.mp c with e | ⟨e, _⟩ <;> omega
    · rw [legs_by_ok L hel, ok_bind]
      obtain ⟨l, e1, e2⟩ := derefD_ok (ks := keysG fk (endsL n ts)) (rows := (keysG fk (endsL n ts)).map (rowP n ts fk sk)) (pre := []) (i := 0) (by rw [List.length_map]) rfl
      rw [List.nil_append] at e1
      show Post (derefD ((keysG fk (endsL n ts)).map (rowP n ts fk sk)) (mkG 0 (keysG fk (endsL n ts))) >>= _) _ _
      rw [e1, ok_bind, e2]
      have hkl := keysG_len (c := fk) (ts := endsL n ts)
      exact po_mapGE (g := fun row => (row, (1 : Int))) (by rw [List.length_map]; omega) (fun _ _ => rfl) rfl
end
theorem mine_zero {C leg : List Int} : mineN C leg = 0 ↔ ∀ v ∈ leg, v ∉ C := by
  unfold mineN
  rw [List.length_eq_zero_iff, List.filter_eq_nil_iff]
  exact ⟨fun h v hv hc => h v hv (inB_t.mpr hc), fun h v hv hb => h v hv (inB_t.mp hb)⟩
/-! a drawn number of a choice -/
theorem take_okW {s : List Int} {m : Int} (h : PoolOk s) (h0 : 0 < m) (h1 : m.natAbs.log2 < 9000) : Post (law_take s m) (fun r => 0 ≤ r.1 ∧ r.1 < m ∧ PoolOk r.2) noX := by
  obtain ⟨a, b, rfl, a0, b0, b1⟩ := h
  unfold law_take
  refine po_getE (x := a) rfl (po_if (fun c => ?_) fun c => ?_)
  · refine po_getE (x := a) rfl (po_mod h0 fun r0 r1 => po_getE (x := a) rfl (po_divW h0 h1 (po_set (Int.le_refl _) (by show (0 : Int) < 2; decide) ?_)))
    exact ⟨r0, r1, a / m, b, rfl, Int.ediv_nonneg a0 (by omega), b0, b1⟩
  · have c0 : 0 ≤ (b * 48271 + 12820163) % 2147483647 := Int.emod_nonneg _ (by decide)
    have c1 : (b * 48271 + 12820163) % 2147483647 < 2147483647 := Int.emod_lt_of_pos _ (by decide)
    refine po_getE (x := b) rfl (po_set (by decide) (by show (1 : Int) < 2; decide) ?_)
    show Post (getI [a, (b * 48271 + 12820163) % 2147483647] 1 >>= _) _ _
    generalize (b * 48271 + 12820163) % 2147483647 = d at c0 c1
    refine po_getE (x := d) rfl (po_getE (x := d) rfl (po_mul (.inl ⟨by omega, by omega⟩) (po_mod h0 fun r0 r1 => ?_)))
    exact ⟨r0, r1, a, d, rfl, a0, c0, c1⟩
theorem free_all {leg : List Int} (h : ∀ v ∈ leg, 0 ≤ v) : freeN (-1) leg = leg.length := by
  unfold freeN
  rw [List.filter_eq_self.mpr fun v hv => decide_eq_true (by have := h v hv; omega)]
theorem mine_nil {leg : List Int} : mineN [] leg = 0 := mine_zero.mpr fun _ _ z => nomatch z
theorem row_pos : ∀ {row : List (List Int)}, (∀ leg ∈ row, leg ≠ [] ∧ ∀ v ∈ leg, 0 ≤ v) → 0 < (rowV [] (-1) row).1 ∧ 0 ≤ (rowV [] (-1) row).2 ∧ (row ≠ [] → 0 < (rowV [] (-1) row).2)
  | [], _ => ⟨by decide, by decide, fun z => absurd rfl z⟩
  | leg :: row, h => by
    obtain ⟨h1, h2⟩ := h leg List.mem_cons_self
    obtain ⟨a, b, _⟩ := row_pos fun l hl => h l (List.mem_cons_of_mem _ hl)
    have e : legV [] (-1) leg = ((leg.length : Int), 1) := by rw [legV1 mine_nil, free_all h2]
    have hl : 0 < (leg.length : Int) := by
      have := List.length_pos_iff.mpr h1
      omega
    have e1 : rowV [] (-1) (leg :: row) = ((leg.length : Int) * (rowV [] (-1) row).1, (leg.length : Int) * (rowV [] (-1) row).2 + 1 * (rowV [] (-1) row).1) := by
      show dmul (legV [] (-1) leg) (rowV [] (-1) row) = _
      rw [e]
      rfl
    have p1 := Int.mul_pos hl a
    have p2 := Int.mul_nonneg (Int.le_of_lt hl) b
    rw [e1]
    exact ⟨p1, by show 0 ≤ _ + 1 * (rowV [] (-1) row).1; omega, fun _ => by show 0 < _ + 1 * (rowV [] (-1) row).1; omega⟩
theorem prod_pos : ∀ {xs : List Int}, (∀ x ∈ xs, 0 < x) → 0 < prodL xs
  | [], _ => by decide
  | x :: xs, h => Int.mul_pos (h x List.mem_cons_self) (prod_pos fun y hy => h y (List.mem_cons_of_mem _ hy))
theorem cnt_pos {rows : List (List (List Int))} (h : ∀ row ∈ rows, row ≠ [] ∧ ∀ leg ∈ row, leg ≠ [] ∧ ∀ v ∈ leg, 0 ≤ v) : 0 < cntN [] (-1) rows := prod_pos fun x hx => by
  obtain ⟨row, hr, rfl⟩ := List.mem_map.mp hx
  exact (row_pos (h row hr).2).2.2 (h row hr).1
theorem cnt_le {T : List Int} {last : Int} : ∀ {rows : List (List (List Int))}, cntN T last rows ≤ 2 ^ rows.flatten.flatten.length
  | [] => Int.le_refl _
  | row :: rows => by
    obtain ⟨_, a, _, b⟩ := row_bd (T := T) (last := last) (row := row)
    have c := cnt_ge (T := T) (last := last) (rows := rows)
    have ih := cnt_le (T := T) (last := last) (rows := rows)
    have el : (row.map fun l => l.length).sum = row.flatten.length := List.length_flatten.symm
    rw [el] at b
    rw [List.flatten_cons, List.flatten_append, List.length_append, Int.pow_add]
    show (rowV T last row).2 * cntN T last rows ≤ _
    exact Int.mul_le_mul b ih c (Int.le_of_lt (Int.pow_pos (by decide)))
theorem cnt_log {rows : List (List (List Int))} (h : RowsOk rows) (h0 : 0 < cntN [] (-1) rows) : (cntN [] (-1) rows).natAbs.log2 < 9000 := by
  have h1 := cnt_le (T := []) (last := -1) (rows := rows)
  have h2 : (2 : Nat) ^ rows.flatten.flatten.length ≤ 2 ^ 60 := Nat.pow_le_pow_right (by decide) h.len
  have h3 : (2 : Int) ^ rows.flatten.flatten.length = ((2 ^ rows.flatten.flatten.length : Nat) : Int) := by
    rw [Int.natCast_pow]
    rfl
  rw [h3] at h1
  have h4 : (cntN [] (-1) rows).natAbs ≤ 2 ^ 60 := by omega
  have h5 : (cntN [] (-1) rows).natAbs ≠ 0 := by omega
  refine Nat.lt_of_lt_of_le ((Nat.log2_lt h5).mpr (Nat.lt_of_le_of_lt h4 ?_)) (show 61 ≤ 9000 by decide)
  exact Nat.pow_lt_pow_right (by decide) (by decide)
section
variable {n : Int} {ts : List (Int × Int)} (t : TreeOk n ts)
include t
theorem rowsP_pos {fk sk : Int → Int} (L : LegF n ts fk sk) : 0 < cntN [] (-1) ((keysG fk (endsL n ts)).map (rowP n ts fk sk)) := by
  refine cnt_pos fun row hr => ?_
  obtain ⟨f, hf, rfl⟩ := List.mem_map.mp hr
  have hf' := (keys_perm t L).mem_iff.mp hf
  have hp := rowP_perm t L (bare_big t f hf')
  refine ⟨fun z => ?_, fun leg hl => ?_⟩
  · rw [z] at hp
    have h1 := hp.symm.eq_nil
    have h2 := (List.mem_filter.mp hf').2
    rw [decide_eq_true (row_nil.mp h1)] at h2
    exact absurd h2 (by decide)
  · obtain ⟨_, b, c⟩ := row_legs t.web leg (hp.mem_iff.mp hl)
    exact ⟨List.length_pos_iff.mp c, b⟩
theorem choices_num {fk sk : Int → Int} {k : Str} (L : LegF n ts fk sk) (hlo : lots_of (n, ⟨ts⟩) k = R.ok (lotsL ((keysG fk (endsL n ts)).map (rowP n ts fk sk)))) : tree_choices (n, ⟨ts⟩) k = R.ok (cntN [] (-1) ((keysG fk (endsL n ts)).map (rowP n ts fk sk))) := by
  unfold tree_choices
  rw [grown_ok t.len, ok_bind, hlo, ok_bind, count_okT (rowsP_ok t L)]
  rfl
end
/-! ### the kinds of a tree, by rows -/
def singles (n : Int) (ts : List (Int × Int)) : List (List Int) := (endsL n ts).map fun e => [e]
structure KindOk (n : Int) (ts : List (Int × Int)) (k : Str) (rows : List (List (List Int))) : Prop where
  lo : ∃ lots, lots_of (n, ⟨ts⟩) k = R.ok lots ∧ Lots lots rows
  ok : RowsOk rows
  pos : 0 < cntN [] (-1) rows
section
variable {n : Int} {ts : List (Int × Int)}
theorem singles_flat : (singles n ts).flatten = endsL n ts := by
  unfold singles
  induction endsL n ts with
  | nil => rfl
  | cons e E ih => rw [List.map_cons, List.flatten_cons, ih]; rfl
theorem singles_sum : ((singles n ts).map fun l => l.length).sum = (endsL n ts).length := by
  rw [← singles_flat, List.length_flatten]
theorem singles_leg : ∀ leg ∈ singles n ts, leg.length ≤ 60 ∧ leg ≠ [] ∧ ∀ v ∈ leg, 0 ≤ v := fun leg hl => by
  obtain ⟨e, he, rfl⟩ := List.mem_map.mp hl
  refine ⟨by show 1 ≤ 60; decide, by simp, fun v hv => ?_⟩
  rw [List.mem_singleton.mp hv]
  exact (ends_mem.mp he).1.1
theorem rows_one (h : WebOk n ts) : RowsOk [singles n ts] := by
  have hn := h.n60
  have hl := ends_len h
  have e : ([singles n ts] : List (List (List Int))).flatten.flatten = endsL n ts := by
    rw [List.flatten_cons, List.flatten_nil, List.append_nil, singles_flat]
  refine ⟨fun row hr leg hg => ?_, fun v hv => ?_, fun row hr => ?_, by rw [e]; exact ends_nd, by show 1 ≤ 60; decide⟩
  · rw [List.mem_singleton.mp hr] at hg
    exact (singles_leg leg hg).1
  · rw [e] at hv
    have := (ends_mem.mp hv).1
    omega
  · rw [List.mem_singleton.mp hr, singles_sum]
    exact hl
theorem rows_all (h : WebOk n ts) : RowsOk [singles n ts ++ [[]]] := by
  have hn := h.n60
  have hl := ends_len h
  have e : ([singles n ts ++ [[]]] : List (List (List Int))).flatten.flatten = endsL n ts := by
    rw [List.flatten_cons, List.flatten_nil, List.append_nil, List.flatten_append, singles_flat]
    show _ ++ [] = _
    rw [List.append_nil]
  refine ⟨fun row hr leg hg => ?_, fun v hv => ?_, fun row hr => ?_, by rw [e]; exact ends_nd, by show 1 ≤ 60; decide⟩
  · rw [List.mem_singleton.mp hr] at hg
    rcases List.mem_append.mp hg with hg | hg
    · exact (singles_leg leg hg).1
    · rw [List.mem_singleton.mp hg]
      decide
  · rw [e] at hv
    have := (ends_mem.mp hv).1
    omega
  · rw [List.mem_singleton.mp hr, List.map_append, List.sum_append, singles_sum]
    show _ + 0 ≤ 60
    omega
/-- which rows -/
inductive Shape (n : Int) (ts : List (Int × Int)) (k : Str) : List (List (List Int)) → Prop
  | none (h : few n k) : Shape n ts k []
  | all (h : ¬ few n k) (ka : k = "all") : Shape n ts k [singles n ts ++ [[]]]
  | line (h : ¬ few n k) (ka : k ≠ "all") (n2 : 2 ≤ n) (hd : ∀ v, 0 ≤ v → v < n → deg ts v ≤ 2) (he : (endsL n ts).length = 2) : Shape n ts k [singles n ts]
  | fork (h : ¬ few n k) (ka : k ≠ "all") (v : Int) (v0 : 0 ≤ v) (v1 : v < n) (hv : 3 ≤ deg ts v) (fk sk : Int → Int) (L : LegF n ts fk sk) : Shape n ts k ((keysG fk (endsL n ts)).map (rowP n ts fk sk))
theorem kind_ex (t : TreeOk n ts) (k : Str) : ∃ rows, KindOk n ts k rows ∧ Shape n ts k rows := by
  have h := t.web
  have hel := ends_len h
  obtain ⟨lots, el, l1, l2, l3, l4⟩ := po_ex (lots_ok (k := k) t)
  by_cases hf : few n k
  · rw [l1 hf] at el
    have hR : RowsOk [] := ⟨fun _ h => (nomatch h), fun _ h => (nomatch h), fun _ h => (nomatch h), List.nodup_nil, by decide⟩
    exact ⟨[], ⟨⟨_, el, lots_rows hR⟩, hR, by decide⟩, .none hf⟩
  · by_cases ka : k = "all"
    · rw [l2 hf ka] at el
      refine ⟨_, ⟨⟨_, el, lots_all (E := singles n ts) (fun leg hl => (singles_leg leg hl).1) (by rw [singles_sum]; exact hel)⟩, rows_all h, ?_⟩, .all hf ka⟩
      show 0 < (rowV [] (-1) (singles n ts ++ [[]])).2 * 1
      rw [rowV_nil, Int.mul_one]
      exact (row_pos fun leg hl => (singles_leg leg hl).2).1
    · by_cases he : (endsL n ts).length = 2
      · rw [l3 hf ka he] at el
        have n2 : 2 ≤ n := by
          apply Classical.byContradiction
          intro z
          exact hf (.inl (by have := h.n1; omega))
        have hd : ∀ v, 0 ≤ v → v < n → deg ts v ≤ 2 := no_fork fun ⟨v, v0, v1, hv⟩ => by
          have := ends_three t v0 v1 hv
          omega
        refine ⟨_, ⟨⟨_, el, lots_rows (rows_one h)⟩, rows_one h, cnt_pos fun row hr => ?_⟩, .line hf ka n2 hd he⟩
        rw [List.mem_singleton.mp hr]
        refine ⟨fun z => ?_, fun leg hl => (singles_leg leg hl).2⟩
        have := congrArg List.length z
        unfold singles at this
        rw [List.length_map, he] at this
        exact absurd this (by decide)
      · obtain ⟨fk, sk, L, e⟩ := l4 hf ka he
        have n2 : 2 ≤ n := by
          apply Classical.byContradiction
          intro z
          exact hf (.inl (by have := h.n1; omega))
        have hex : ∃ v, 0 ≤ v ∧ v < n ∧ 3 ≤ deg ts v := by
          apply Classical.byContradiction
          intro z
          exact he (ends_two t n2 (no_fork z))
        obtain ⟨v, v0, v1, hv⟩ := hex
        rw [e] at el
        exact ⟨_, ⟨⟨_, el, lots_rows (rowsP_ok t L)⟩, rowsP_ok t L, rowsP_pos t L⟩, .fork hf ka v v0 v1 hv fk sk L⟩
theorem KindOk.choices {k : Str} {rows : List (List (List Int))} (t : TreeOk n ts) (K : KindOk n ts k rows) : tree_choices (n, ⟨ts⟩) k = R.ok (cntN [] (-1) rows) := by
  obtain ⟨lots, el, hL⟩ := K.lo
  unfold tree_choices
  rw [grown_ok t.len, ok_bind, el, ok_bind, hL.cnt]
  rfl
/-! what the law calls a choice -/
theorem sorted_sub {xs ys : List Int} (hx : xs.Pairwise (· < ·)) (hy : ys.Pairwise (· < ·)) (hs : ∀ x ∈ xs, x ∈ ys) (hl : ys.length ≤ xs.length) : xs = ys := by
  refine sorted_ext hx hy fun x => ⟨hs x, fun hm => ?_⟩
  apply Classical.byContradiction
  intro z
  have := nodup_le (xs := x :: xs) (ys := ys) (List.nodup_cons.mpr ⟨z, hx.imp fun z => Int.ne_of_lt z⟩) fun v hv => by
    rcases List.mem_cons.mp hv with e | hv
    · rw [e]
      exact hm
    · exact hs v hv
  rw [List.length_cons] at this
  omega
theorem ends_up : (endsL n ts).Pairwise (· < ·) := by
  refine List.Pairwise.sublist List.filter_sublist ?_
  unfold rng
  refine List.Pairwise.map _ (fun a b h => ?_) List.pairwise_lt_range
  show (0 : Int) + (a : Int) < 0 + b
  omega
theorem mine_one {C : List Int} {e : Int} : mineN C [e] ≤ 1 := List.length_filter_le _ _
theorem good_all {C : List Int} (hu : C.Pairwise (· < ·)) (h : WebOk n ts) : C = endsL n ts ↔ Good [singles n ts ++ [[]]] C := by
  have e : ([singles n ts ++ [[]]] : List (List (List Int))).flatten.flatten = endsL n ts := by
    rw [List.flatten_cons, List.flatten_nil, List.append_nil, List.flatten_append, singles_flat]
    show _ ++ [] = _
    rw [List.append_nil]
  have hk : sizeK [singles n ts ++ [[]]] = ((endsL n ts).length : Int) := by
    unfold sizeK singles
    rw [List.map_cons, List.map_nil, List.sum_cons, List.sum_nil, List.length_append, List.length_map]
    show (((endsL n ts).length + 1 : Nat) : Int) - 1 + 0 = _
    omega
  constructor
  · intro he
    refine ⟨hu, by rw [hk, he], fun row hr => ?_⟩
    rw [List.mem_singleton.mp hr]
    refine ⟨fun leg hl => ?_, ?_⟩
    · rcases List.mem_append.mp hl with hl | hl
      · obtain ⟨x, _, rfl⟩ := List.mem_map.mp hl
        exact mine_one
      · rw [List.mem_singleton.mp hl]
        exact Nat.zero_le 1
    · unfold zeroN
      rw [List.filter_append, List.filter_eq_nil_iff.mpr fun leg hl => ?_]
      · rfl
      · obtain ⟨x, hx, rfl⟩ := List.mem_map.mp hl
        intro z
        exact mine_zero.mp (of_decide_eq_true z) x (List.mem_singleton.mpr rfl) (by rw [he]; exact hx)
  · intro hg
    refine sorted_sub hu ends_up (fun x hx => ?_) ?_
    · have := hg.sub (rows_all h).nd x hx
      rw [e] at this
      exact this
    · have := hg.2.1
      rw [hk] at this
      omega
theorem good_line {C : List Int} (hu : C.Pairwise (· < ·)) (h : WebOk n ts) (he : (endsL n ts).length = 2) : (∃ c, C = [c] ∧ c ∈ endsL n ts) ↔ Good [singles n ts] C := by
  have e : ([singles n ts] : List (List (List Int))).flatten.flatten = endsL n ts := by
    rw [List.flatten_cons, List.flatten_nil, List.append_nil, singles_flat]
  have hk : sizeK [singles n ts] = 1 := by
    unfold sizeK singles
    rw [List.map_cons, List.map_nil, List.sum_cons, List.sum_nil, List.length_map, he]
    rfl
  constructor
  · rintro ⟨c, rfl, hc⟩
    refine ⟨hu, by rw [hk]; rfl, fun row hr => ?_⟩
    rw [List.mem_singleton.mp hr]
    refine ⟨fun leg hl => ?_, ?_⟩
    · obtain ⟨x, _, rfl⟩ := List.mem_map.mp hl
      exact mine_one
    · have hnd := ends_nd (n := n) (ts := ts)
      have hz : ∀ x, mineN [c] [x] = 0 ↔ x ≠ c := fun x => by
        rw [mine_zero]
        exact ⟨fun z ex => z x (List.mem_singleton.mpr rfl) (List.mem_singleton.mpr ex), fun z v hv hvc => z (by rw [← List.mem_singleton.mp hv]; exact List.mem_singleton.mp hvc)⟩
      unfold zeroN singles
      match hE : endsL n ts, he with
      | [a, b], _ =>
        rw [hE] at hnd hc
        have hab : a ≠ b := fun z => by
          rw [z] at hnd
          simp at hnd
        rw [List.map_cons, List.map_cons, List.map_nil]
        rcases List.mem_cons.mp hc with rfl | hc
        · rw [List.filter_cons, if_neg (fun z => (hz _).mp (of_decide_eq_true z) rfl), List.filter_cons, if_pos (decide_eq_true ((hz _).mpr hab.symm))]
          rfl
        · have hcb := List.mem_singleton.mp hc
          subst hcb
          rw [List.filter_cons, if_pos (decide_eq_true ((hz _).mpr hab)), List.filter_cons, if_neg (fun z => (hz _).mp (of_decide_eq_true z) rfl)]
          rfl
  · intro hg
    have hl := hg.2.1
    rw [hk] at hl
    obtain ⟨c, hc⟩ := List.length_eq_one_iff.mp (show C.length = 1 by omega)
    refine ⟨c, hc, ?_⟩
    have := hg.sub (rows_one h).nd c (by rw [hc]; exact List.mem_singleton.mpr rfl)
    rw [e] at this
    exact this
theorem count_sym {C leg : List Int} (hC : C.Nodup) (hl : leg.Nodup) : (C.filter fun v => inB v leg).length = mineN C leg := by
  unfold mineN
  refine Nat.le_antisymm (nodup_le (hC.filter _) fun v hv => ?_) (nodup_le (hl.filter _) fun v hv => ?_)
  · obtain ⟨a, b⟩ := List.mem_filter.mp hv
    exact List.mem_filter.mpr ⟨inB_t.mp b, inB_t.mpr a⟩
  · obtain ⟨a, b⟩ := List.mem_filter.mp hv
    exact List.mem_filter.mpr ⟨inB_t.mp b, inB_t.mpr a⟩
theorem sum_cast : ∀ (ms : List Nat), (ms.map fun m : Nat => (m : Int)).sum = (ms.sum : Nat)
  | [] => rfl
  | m :: ms => by
    rw [List.map_cons, List.sum_cons, List.sum_cons, sum_cast ms]
    omega
theorem choice_fold {C : List Int} (hC : C.Nodup) (hl : C.length < 64) {f : Int → List (List Int) → R (Sum Bool (Bool × Int))} (hf : f = fun (g56 : Int) (b56 : (List (List Int))) => do
              let l61 ← mapG (fun (b61 : (List Int)) => do
                  let l65 ← filG (fun (b65 : Int) => do
                      if (inB b65 b61) = true then do
                        R.ok (some b65)
                      else
                        R.ok none) C
                  R.ok (l65.length : Int)) b56
              let j73 ← (do
                let t74 ← maxL l61
                if (decide ((1 : Int) < t74)) = true then do
                  R.ok true
                else do
                  R.ok (!decide ((l61.sum) = ((b56.length : Int) - (1 : Int)))) : R (Bool))
              if j73 = true then do
                R.ok (.inl false)
              else do
                R.ok (.inr (true, (g56 + (l61.sum))))) : ∀ {rows : List (List (List Int))} {g : Int}, (∀ row ∈ rows, row ≠ [] ∧ row.length ≤ 60 ∧ ∀ leg ∈ row, leg.Nodup) → (Ch C rows → foldX f g rows = R.ok (.inr (g + ((rows.map (mSum C)).sum : Nat)))) ∧ (¬ Ch C rows → foldX f g rows = R.ok (.inl false))
  | [], g, _ => by
    refine ⟨fun _ => ?_, fun z => absurd (fun _ h => nomatch h) z⟩
    show (R.ok (Sum.inr g) : R (Sum Bool Int)) = R.ok (Sum.inr (g + 0))
    rw [Int.add_zero]
  | row :: rows, g, h => by
    obtain ⟨h1, h2, h3⟩ := h row List.mem_cons_self
    obtain ⟨i1, i2⟩ := choice_fold hC hl hf (rows := rows) (g := g + (mSum C row : Nat)) fun r hr => h r (List.mem_cons_of_mem _ hr)
    have hch : Ch C (row :: rows) ↔ ((∀ leg ∈ row, mineN C leg ≤ 1) ∧ zeroN C row = 1) ∧ Ch C rows := by
      unfold Ch
      exact List.forall_mem_cons
    have hstep : f g row = R.ok (if (∀ leg ∈ row, mineN C leg ≤ 1) ∧ zeroN C row = 1 then Sum.inr (true, g + (mSum C row : Nat)) else Sum.inl false) := by
      refine po_iff ?_
      rw [hf]
      refine po_mapGE (g := fun leg => (mineN C leg : Int)) (by omega) (fun leg hleg => ?_) ?_
      · rw [filG_ok (g := fun v => if inB v leg = true then some v else none) (by omega) fun v _ => by
          by_cases c : inB v leg = true
          · rw [if_pos c, if_pos c]
          · rw [if_neg c, if_neg c]]
        rw [ok_bind, fil_ite, count_sym hC (h3 leg hleg)]
      · have es : (row.map fun leg => (mineN C leg : Int)).sum = (mSum C row : Nat) := by
          unfold mSum
          rw [← sum_cast, List.map_map]
          rfl
        obtain ⟨m, em, hm, hhi⟩ := max_is (xs := row.map fun leg => (mineN C leg : Int)) (by simp [h1])
        rw [es]
        have hcr := ch_row (T := C) (row := row)
        have hall : ¬ (1 : Int) < m ↔ ∀ leg ∈ row, mineN C leg ≤ 1 := by
          constructor
          · intro z leg hl
            have := hhi _ (List.mem_map_of_mem (f := fun leg => (mineN C leg : Int)) hl)
            omega
          · intro z
            obtain ⟨leg, hl, e⟩ := List.mem_map.mp hm
            have := z leg hl
            omega
        refine po_bind (Q := fun j => j = true ↔ ¬ ((∀ leg ∈ row, mineN C leg ≤ 1) ∧ zeroN C row = 1)) ?_ fun j hj => ?_
        · rw [em, ok_bind]
          refine po_if (fun c => ?_) fun c => ?_
          · have c' := of_decide_eq_true c
            exact ⟨fun _ z => absurd c' (hall.mpr z.1), fun _ => rfl⟩
          · have c' : ¬ (1 : Int) < m := fun z => c (decide_eq_true z)
            have ha := hall.mp c'
            have e := hcr ha
            show (!decide (((mSum C row : Nat) : Int) = (row.length : Int) - 1)) = true ↔ _
            rw [Bool.not_eq_true', decide_eq_false_iff_not]
            exact ⟨fun z y => z (by have := y.2; omega), fun z y => z ⟨ha, by omega⟩⟩
        · by_cases z : (∀ leg ∈ row, mineN C leg ≤ 1) ∧ zeroN C row = 1
          · rw [if_pos z, if_neg fun y => hj.mp y z]
            rfl
          · rw [if_neg z, if_pos (hj.mpr z)]
            rfl
    constructor
    · intro hc
      obtain ⟨a, b⟩ := hch.mp hc
      unfold foldX
      rw [hstep, if_pos a]
      show foldX f (g + (mSum C row : Nat)) rows = _
      rw [i1 b, List.map_cons, List.sum_cons]
      congr 2
      omega
    · intro hc
      unfold foldX
      rw [hstep]
      by_cases a : (∀ leg ∈ row, mineN C leg ≤ 1) ∧ zeroN C row = 1
      · rw [if_pos a]
        show foldX f (g + (mSum C row : Nat)) rows = _
        exact i2 fun b => hc (hch.mpr ⟨a, b⟩)
      · rw [if_neg a]
        rfl
end
/-- the one leg that has none -/
theorem zero_one {C : List Int} {row : List (List Int)} {b : List Int} (hz : zeroN C row = 1) (hb : b ∈ row) (hb0 : mineN C b = 0) : ∀ l ∈ row, mineN C l = 0 → l = b := fun l hl h0 => by
  unfold zeroN at hz
  have h1 : l ∈ row.filter fun leg => decide (mineN C leg = 0) := List.mem_filter.mpr ⟨hl, decide_eq_true h0⟩
  have h2 : b ∈ row.filter fun leg => decide (mineN C leg = 0) := List.mem_filter.mpr ⟨hb, decide_eq_true hb0⟩
  match row.filter fun leg => decide (mineN C leg = 0), hz, h1, h2 with
  | [x], _, h1, h2 => rw [List.mem_singleton.mp h1, List.mem_singleton.mp h2]
/-! ### what is known by looks, and choices -/
def Res (n : Int) (ts : List (Int × Int)) (ls : List Int) (k : Str) : Prop := ∀ X ∈ kindT n ts k, ∀ Y ∈ kindT n ts k, X ≠ Y → codeT n ts ls X ≠ codeT n ts ls Y
/-- nowhere are pieces without a look that are too many -/
structure NoBare (n : Int) (ts : List (Int × Int)) (ls : List Int) (k : Str) : Prop where
  all : k = "all" → ∀ m s, Adj ts m s → cnt n ts ls m s ≠ 0
  two : k ≠ "all" → ∀ m s s', Adj ts m s → Adj ts m s' → s ≠ s' → ¬ (cnt n ts ls m s = 0 ∧ cnt n ts ls m s' = 0)
  pair : ¬ (n = 2 ∧ k = "places" ∧ ls = [])
section
variable {n : Int} {ts : List (Int × Int)} {ls : List Int} {k : Str} (t : TreeOk n ts)
theorem cnt_zero {m s : Int} : cnt n ts ls m s = 0 ↔ ∀ l ∈ ls, ¬ Sd n ts m s l := by
  unfold cnt
  constructor
  · intro h l hl hs
    have : 0 < (ls.filter fun l => decide (Sd n ts m s l)).length := List.length_pos_of_mem (List.mem_filter.mpr ⟨hl, decide_eq_true hs⟩)
    omega
  · intro h
    rw [List.filter_eq_nil_iff.mpr fun l hl z => h l hl (of_decide_eq_true z)]
    rfl
include t
theorem res_bare (hl : LooksOk n ls) (hk : k = "places" ∨ k = "ties" ∨ k = "all") (hr : Res n ts ls k) : NoBare n ts ls k := by
  have h := t.web
  refine ⟨fun ka m s q ec => ?_, fun ka m s s' q q' hne ⟨ec, ec'⟩ => ?_, fun ⟨c1, c2, c3⟩ => ?_⟩
  · subst ka
    obtain ⟨m0, m1, _⟩ := h.adj q
    refine hr (.pl m) ?_ (tieT m s) ?_ (fun e => by unfold tieT at e; cases e) (unl_zero.mp ?_)
    · rw [kind_all]; exact allT_mem.mpr ⟨m0, m1⟩
    · rw [kind_all]; exact allT_mem.mpr (tieT_ok h q)
    · rw [cnt_one_eq hl fun l l0 l1 => parts_both t l0 l1 q, ec]
  · rcases hk with rfl | rfl | z
    · have a := h.adj q
      have b := h.adj q'
      refine hr (.pl s) ?_ (.pl s') ?_ (fun e => by cases e; exact hne rfl) (unl_zero.mp ?_)
      · rw [kind_pl]; exact pl_mem.mpr ⟨_, rfl, a.2.2.1, a.2.2.2.1⟩
      · rw [kind_pl]; exact pl_mem.mpr ⟨_, rfl, b.2.2.1, b.2.2.2.1⟩
      · rw [cnt_two_eq t hl q q' hne fun l l0 l1 => parts_places t l0 l1 q q' hne, ec, ec']
        rfl
    · refine hr (tieT m s) ?_ (tieT m s') ?_ (fun e => hne (tieT_inj e (h.adj q).2.2.2.2 (h.adj q').2.2.2.2)) (unl_zero.mp ?_)
      · rw [kind_ti]; exact ti_mem.mpr ⟨_, _, rfl, tieT_ok h q⟩
      · rw [kind_ti]; exact ti_mem.mpr ⟨_, _, rfl, tieT_ok h q'⟩
      · rw [cnt_two_eq t hl q q' hne fun l l0 l1 => parts_ties t l0 l1 q q' hne, ec, ec']
        rfl
    · exact ka z
  · subst c2 c3
    refine hr (.pl 0) ?_ (.pl 1) ?_ (fun e => by cases e) rfl
    · rw [kind_pl]; exact pl_mem.mpr ⟨0, rfl, by omega, by omega⟩
    · rw [kind_pl]; exact pl_mem.mpr ⟨1, rfl, by omega, by omega⟩
theorem bare_res (hl : LooksOk n ls) (hk : k = "places" ∨ k = "ties" ∨ k = "all") (hno : NoBare n ts ls k) : Res n ts ls k := fun X hX Y hY hne he => by
  have h := t.web
  have hn1 := h.n1
  have hu := unl_zero.mpr he
  rcases parted t (kindT_ok hX) (kindT_ok hY) hne with c' | ⟨m, s, s', q, q', hss, c'⟩ | ⟨m, s, q, c1, c'⟩
  · have e : ls = [] := by
      rw [unl_all hl c'] at hu
      exact List.eq_nil_of_length_eq_zero (by omega)
    subst e
    have hc0 : ∀ m s, cnt n ts [] m s = 0 := fun _ _ => rfl
    by_cases n1 : n = 1 ∨ n = 2 ∧ k = "ties"
    · exact hne (few_no hX hY (kind_few t n1))
    · by_cases ka : k = "all"
      · obtain ⟨s, q⟩ := nb_ex t (show 2 ≤ n by omega) (m := 0) (by omega) (by omega)
        exact hno.all ka 0 s q (hc0 _ _)
      · have n3 : 3 ≤ n := by
          apply Classical.byContradiction
          intro z
          have n2 : n = 2 := by omega
          rcases hk with rfl | rfl | w
          · exact hno.pair ⟨n2, rfl, rfl⟩
          · exact n1 (.inr ⟨n2, rfl⟩)
          · exact ka w
        obtain ⟨m, s, s', q, q', hss⟩ := fork_ex t n3
        exact hno.two ka m s s' q q' hss ⟨hc0 _ _, hc0 _ _⟩
  · have e1 := cnt_two_le t hl q q' hss c'
    have e2 := cnt_nn (n := n) (ts := ts) (ls := ls) (m := m) (s := s)
    have e3 := cnt_nn (n := n) (ts := ts) (ls := ls) (m := m) (s := s')
    by_cases ka : k = "all"
    · exact hno.all ka m s q (by omega)
    · exact hno.two ka m s s' q q' hss ⟨by omega, by omega⟩
  · have e1 := cnt_one_le hl c'
    have e2 := cnt_nn (n := n) (ts := ts) (ls := ls) (m := m) (s := s)
    have ka : k = "all" := by
      rcases hk with rfl | rfl | w
      · rw [kind_pl] at hX hY
        obtain ⟨i, rfl, _⟩ := pl_mem.mp hX
        obtain ⟨j, rfl, _⟩ := pl_mem.mp hY
        rcases c1 with ⟨_, _, _, _, e⟩ | ⟨_, _, _, e, _⟩ <;> cases e
      · rw [kind_ti] at hX hY
        obtain ⟨a, b, rfl, _⟩ := ti_mem.mp hX
        obtain ⟨c, d, rfl, _⟩ := ti_mem.mp hY
        rcases c1 with ⟨_, _, _, e, _⟩ | ⟨_, _, _, _, e⟩ <;> cases e
      · exact w
    exact hno.all ka m s q (by omega)
/-! a piece that has a fork has one with two legs -/
theorem arg_max {d : Int → Int} : ∀ {l : List Int}, l ≠ [] → ∃ f ∈ l, ∀ g ∈ l, d g ≤ d f
  | [], h => absurd rfl h
  | [x], _ => ⟨x, List.mem_cons_self, fun g hg => by rw [List.mem_singleton.mp hg]; exact Int.le_refl _⟩
  | x :: y :: l, _ => by
    obtain ⟨f, hf, hm⟩ := arg_max (d := d) (l := y :: l) (by simp)
    by_cases c : d f ≤ d x
    · refine ⟨x, List.mem_cons_self, fun g hg => ?_⟩
      rcases List.mem_cons.mp hg with rfl | hg
      · exact Int.le_refl _
      · exact Int.le_trans (hm g hg) c
    · refine ⟨f, List.mem_cons_of_mem _ hf, fun g hg => ?_⟩
      rcases List.mem_cons.mp hg with rfl | hg
      · omega
      · exact hm g hg
theorem two_more {f w : Int} (hd : 3 ≤ deg ts f) : ∃ s1 s2, Adj ts f s1 ∧ Adj ts f s2 ∧ s1 ≠ s2 ∧ s1 ≠ w ∧ s2 ≠ w := by
  have hnd := nbs_nd t.web f
  have h1 : (nbs ts f).length ≤ ((nbs ts f).filter fun s => !decide (s = w)).length + 1 := by
    have := nodup_le (xs := nbs ts f) (ys := w :: (nbs ts f).filter fun s => !decide (s = w)) hnd fun v hv => by
      by_cases c : v = w
      · rw [c]; exact List.mem_cons_self
      · exact List.mem_cons_of_mem _ (List.mem_filter.mpr ⟨hv, by rw [decide_eq_false c]; rfl⟩)
    rw [List.length_cons] at this
    exact this
  have h2 : ((nbs ts f).filter fun s => !decide (s = w)).Nodup := hnd.filter _
  have hm : ∀ s ∈ (nbs ts f).filter fun s => !decide (s = w), Adj ts f s ∧ s ≠ w := fun s hs => by
    obtain ⟨a, b⟩ := List.mem_filter.mp hs
    refine ⟨nbs_mem.mp a, fun e => ?_⟩
    rw [decide_eq_true e] at b
    exact absurd b (by decide)
  unfold deg at hd
  match (nbs ts f).filter fun s => !decide (s = w), h1, h2, hm with
  | s1 :: s2 :: r, _, h2, hm =>
    have a := hm s1 List.mem_cons_self
    have b := hm s2 (List.mem_cons_of_mem _ List.mem_cons_self)
    exact ⟨s1, s2, a.1, b.1, fun e => (List.nodup_cons.mp h2).1 (by rw [e]; exact List.mem_cons_self), a.2, b.2⟩
  | [s1], h1, _, _ => exact absurd h1 (by show ¬ (_ ≤ 1 + 1); omega)
  | [], h1, _, _ => exact absurd h1 (by show ¬ (_ ≤ 0 + 1); omega)
theorem deep_fork {p s : Int} (q : Adj ts p s) {u0 : Int} (r0 : 0 ≤ u0) (r1 : u0 < n) (hs : Sd n ts p s u0) (hd : 3 ≤ deg ts u0) : ∃ f s1 s2, (0 ≤ f ∧ f < n) ∧ 3 ≤ deg ts f ∧ s1 ∈ LP n ts f ∧ s2 ∈ LP n ts f ∧ s1 ≠ s2 ∧ (∀ v, 0 ≤ v → v < n → Sd n ts f s1 v → Sd n ts p s v) ∧ ∀ v, 0 ≤ v → v < n → Sd n ts f s2 v → Sd n ts p s v := by
  have h := t.web
  obtain ⟨p0, p1, s0, s1', hps⟩ := h.adj q
  obtain ⟨f, hf, hmax⟩ := arg_max t (d := dst n ts p) (l := (rng 0 n).filter fun u => decide (Sd n ts p s u) && decide (3 ≤ deg ts u)) (List.ne_nil_of_mem (List.mem_filter.mpr ⟨rng_mem.mpr ⟨r0, r1⟩, by rw [decide_eq_true hs, decide_eq_true hd]; rfl⟩))
  obtain ⟨hf1, hf2⟩ := List.mem_filter.mp hf
  obtain ⟨f0, f1⟩ := rng_mem.mp hf1
  rw [Bool.and_eq_true, decide_eq_true_iff, decide_eq_true_iff] at hf2
  obtain ⟨fs, fd⟩ := hf2
  have hmax' : ∀ g, 0 ≤ g → g < n → Sd n ts p s g → 3 ≤ deg ts g → dst n ts p g ≤ dst n ts p f := fun g g0 g1 gs gd => hmax g (List.mem_filter.mpr ⟨rng_mem.mpr ⟨g0, g1⟩, by rw [decide_eq_true gs, decide_eq_true gd]; rfl⟩)
  have hfp : f ≠ p := fun e => side_not h q (e ▸ fs)
  obtain ⟨w, w0, w1, qw, ew⟩ := dst_near h p0 p1 f0 f1 hfp
  obtain ⟨a, b, qa, qb, hab, haw, hbw⟩ := two_more t (w := w) fd
  -- one further on
  have key : ∀ c, Adj ts f c → c ≠ w → c ∈ LP n ts f ∧ ∀ v, 0 ≤ v → v < n → Sd n ts f c v → Sd n ts p s v := fun c qc hc => by
    obtain ⟨_, _, c0, c1, _⟩ := h.adj qc
    have e1 : dst n ts p f + 1 = dst n ts p c := by
      rcases edge_one t p0 p1 qc with z | z
      · exact z
      · exact absurd (near_uniq t p0 p1 qc.symm qw z ew) hc
    have fs' : dst n ts f s + 1 = dst n ts f p := fs
    have e2 : dst n ts s f + 1 = dst n ts s c := by
      rcases edge_one t s0 s1' qc with z | z
      · exact z
      · exfalso
        have t1 := dtri h p0 p1 s0 s1' c0 c1
        have t2 := adj_one h q
        have t3 := dst_symm h p0 p1 f0 f1
        have t4 := dst_symm h s0 s1' f0 f1
        omega
    have far : ∀ v, 0 ≤ v → v < n → Sd n ts f c v → Sd n ts p s v ∧ dst n ts p f < dst n ts p v := fun v v0 v1 hv => by
      have g1 := path_eq t qc v0 v1 hv p0 p1 e1
      have g2 := path_eq t qc v0 v1 hv s0 s1' e2
      have hv' : dst n ts v c + 1 = dst n ts v f := hv
      have t3 := dst_symm h p0 p1 v0 v1
      have t4 := dst_symm h p0 p1 f0 f1
      have t5 := dst_nn h v0 v1 c0 c1
      exact ⟨by show dst n ts v s + 1 = dst n ts v p; omega, by omega⟩
    refine ⟨LP_mem.mpr ⟨qc, fun v v0 v1 hv => ?_⟩, fun v v0 v1 hv => (far v v0 v1 hv).1⟩
    apply Classical.byContradiction
    intro z
    obtain ⟨g1, g2⟩ := far v v0 v1 hv
    have := hmax' v v0 v1 g1 (by omega)
    omega
  obtain ⟨ka, ka'⟩ := key a qa haw
  obtain ⟨kb, kb'⟩ := key b qb hbw
  exact ⟨f, a, b, ⟨f0, f1⟩, fd, ka, kb, hab, ka', kb'⟩
theorem two_bare {C : List Int} (hch : Ch C ((bareL n ts).map (rowL n ts))) {f a b : Int} (f0 : 0 ≤ f) (f1 : f < n) (hd : 3 ≤ deg ts f) (ha : a ∈ LP n ts f) (hb : b ∈ LP n ts f) (hab : a ≠ b) (ca : cnt n ts C f a = 0) (cb : cnt n ts C f b = 0) : False := by
  have h := t.web
  have hf : f ∈ bareL n ts := List.mem_filter.mpr ⟨List.mem_filter.mpr ⟨rng_mem.mpr ⟨f0, f1⟩, decide_eq_true (by omega)⟩, by rw [decide_eq_false (List.ne_nil_of_mem ha)]; rfl⟩
  have hz : ∀ c, cnt n ts C f c = 0 → mineN C (pieceL n ts f c) = 0 := fun c hc => mine_zero.mpr fun v hv hvc => cnt_zero.mp hc v hvc (pieceL_mem.mp hv).2
  have e := zero_one (hch _ (List.mem_map_of_mem hf)).2 (List.mem_map_of_mem hb) (hz b cb) _ (List.mem_map_of_mem ha) (hz a ca)
  have qa := (LP_mem.mp ha).1
  have qb := (LP_mem.mp hb).1
  have r := h.adj qa
  have hm : a ∈ pieceL n ts f b := by
    rw [← e]
    exact pieceL_mem.mpr ⟨⟨r.2.2.1, r.2.2.2.1⟩, side_self h qa⟩
  exact hab (side_one t r.2.2.1 r.2.2.2.1 qa qb (side_self h qa) (pieceL_mem.mp hm).2)
/-- a place beyond some neighbour -/
theorem beyond {m v : Int} (m0 : 0 ≤ m) (m1 : m < n) (v0 : 0 ≤ v) (v1 : v < n) (hne : v ≠ m) : ∃ w, Adj ts m w ∧ Sd n ts m w v := by
  obtain ⟨w, _, _, q, e⟩ := dst_near t.web v0 v1 m0 m1 (fun e => hne e.symm)
  exact ⟨w, q.symm, e⟩
theorem third {m s s' w : Int} (hd : deg ts m ≤ 2) (q : Adj ts m s) (q' : Adj ts m s') (hne : s ≠ s') (qw : Adj ts m w) : w = s ∨ w = s' := by
  apply Classical.byContradiction
  intro z
  have := nodup_le (xs := [w, s, s']) (ys := nbs ts m) (by simp; omega) fun v hv => by
    simp only [List.mem_cons, List.not_mem_nil, or_false] at hv
    rcases hv with rfl | rfl | rfl
    · exact nbs_mem.mpr qw
    · exact nbs_mem.mpr q
    · exact nbs_mem.mpr q'
  unfold deg at hd
  have : (3 : Nat) ≤ (nbs ts m).length := this
  omega
theorem leaf_only {e m v : Int} (he : deg ts e = 1) (q : Adj ts m e) (v0 : 0 ≤ v) (v1 : v < n) (hs : Sd n ts m e v) : v = e := by
  have h := t.web
  obtain ⟨_, _, e0, e1, _⟩ := h.adj q
  apply Classical.byContradiction
  intro z
  obtain ⟨w, qw, hw⟩ := beyond t e0 e1 v0 v1 z
  have := one_nb he q.symm qw
  subst this
  have a : dst n ts v e + 1 = dst n ts v w := hs
  have b : dst n ts v w + 1 = dst n ts v e := hw
  omega
end
section
variable {n : Int} {ts : List (Int × Int)} (t : TreeOk n ts)
include t
theorem sizeK_bridge {fk sk : Int → Int} (L : LegF n ts fk sk) : sizeK ((keysG fk (endsL n ts)).map (rowP n ts fk sk)) = sizeK ((bareL n ts).map (rowL n ts)) := by
  have hp := keys_perm t L
  have hbig : ∀ f ∈ keysG fk (endsL n ts), 3 ≤ deg ts f := fun f hm => by
    obtain ⟨e, he, rfl⟩ := keysG_mem.mp hm
    exact L.big e he
  unfold sizeK
  rw [List.map_map, List.map_map, ← sum_perm (hp.map _)]
  congr 1
  refine List.map_congr_left fun f hm => ?_
  show ((rowP n ts fk sk f).length : Int) - 1 = ((rowL n ts f).length : Int) - 1
  rw [(rowP_perm t L (hbig f hm)).length_eq]
end
/-! choices are what knows with the fewest looks -/
theorem row_low {C : List Int} : ∀ {row : List (List Int)}, row.length ≤ mSum C row + zeroN C row ∧ (mSum C row + zeroN C row = row.length → ∀ leg ∈ row, mineN C leg ≤ 1)
  | [] => ⟨Nat.zero_le _, fun _ _ h => (nomatch h)⟩
  | leg :: row => by
    obtain ⟨a, b⟩ := row_low (C := C) (row := row)
    have e1 : mSum C (leg :: row) = mineN C leg + mSum C row := by
      unfold mSum
      rw [List.map_cons, List.sum_cons]
    have e2 : zeroN C (leg :: row) = (if mineN C leg = 0 then 1 else 0) + zeroN C row := by
      unfold zeroN
      rw [List.filter_cons]
      by_cases c : mineN C leg = 0
      · rw [if_pos (decide_eq_true c), if_pos c, List.length_cons]
        omega
      · rw [if_neg (fun z => c (of_decide_eq_true z)), if_neg c]
        omega
    rw [e1, e2, List.length_cons]
    by_cases c : mineN C leg = 0
    · rw [if_pos c]
      refine ⟨by omega, fun h l hl => ?_⟩
      rcases List.mem_cons.mp hl with rfl | hl
      · omega
      · exact b (by omega) l hl
    · rw [if_neg c]
      refine ⟨by omega, fun h l hl => ?_⟩
      rcases List.mem_cons.mp hl with rfl | hl
      · omega
      · exact b (by omega) l hl
theorem rows_low {C : List Int} : ∀ {rows : List (List (List Int))}, (∀ row ∈ rows, zeroN C row ≤ 1) → sizeK rows ≤ ((rows.map (mSum C)).sum : Int) ∧ (((rows.map (mSum C)).sum : Int) ≤ sizeK rows → Ch C rows)
  | [], _ => ⟨Int.le_refl 0, fun _ _ h => (nomatch h)⟩
  | row :: rows, h => by
    obtain ⟨a, b⟩ := rows_low fun r hr => h r (List.mem_cons_of_mem _ hr)
    have h1 := h row List.mem_cons_self
    obtain ⟨c, d⟩ := row_low (C := C) (row := row)
    have e1 : sizeK (row :: rows) = ((row.length : Int) - 1) + sizeK rows := by
      unfold sizeK
      rw [List.map_cons, List.sum_cons]
    have e2 : (((row :: rows).map (mSum C)).sum : Int) = (mSum C row : Int) + ((rows.map (mSum C)).sum : Int) := by
      rw [List.map_cons, List.sum_cons]
      omega
    rw [e1, e2]
    refine ⟨by omega, fun hle => ?_⟩
    have hb := b (by omega)
    have hz : mSum C row + zeroN C row = row.length := by omega
    have ha := d hz
    intro r hr
    rcases List.mem_cons.mp hr with rfl | hr
    · refine ⟨ha, ?_⟩
      omega
    · exact hb r hr
section
variable {n : Int} {ts : List (Int × Int)} {k : Str} {rows : List (List (List Int))} {C : List Int} (t : TreeOk n ts)
include t
theorem good_bare (S : Shape n ts k rows) (hC : LooksOk n C) (hg : Good rows C) : NoBare n ts C k := by
  have h := t.web
  have hn1 := h.n1
  cases S with
  | none hf =>
    have one : ∀ m s s', Adj ts m s → Adj ts m s' → s = s' := fun m s s' q q' => by
      have a := h.adj q
      have b := h.adj q'
      rcases hf with e | ⟨e, _⟩ <;> omega
    rcases hf with e | ⟨e, ek⟩
    · refine ⟨fun _ m s q => ?_, fun _ m s s' q q' hne => absurd (one m s s' q q') hne, fun z => by omega⟩
      have a := h.adj q
      omega
    · subst ek
      exact ⟨fun z => absurd z (by decide), fun _ m s s' q q' hne => absurd (one m s s' q q') hne, fun z => absurd z.2.1 (by decide)⟩
  | all hf ka =>
    subst ka
    have e := (good_all hC.up h).mpr hg
    refine ⟨fun _ m s q => ?_, fun z => absurd rfl z, fun z => absurd z.2.1 (by decide)⟩
    obtain ⟨x, hx, hs, hd⟩ := side_leaf t q
    intro hz
    exact cnt_zero.mp hz x (by rw [e]; exact ends_mem.mpr ⟨hx, hd⟩) hs
  | line hf ka n2 hd he =>
    obtain ⟨c, ec, hc⟩ := (good_line hC.up h he).mpr hg
    obtain ⟨⟨c0, c1⟩, hcd⟩ := ends_mem.mp hc
    subst ec
    refine ⟨fun z => absurd z ka, fun _ m s s' q q' hne z => ?_, fun z => absurd z.2.2 (by simp)⟩
    obtain ⟨m0, m1, _⟩ := h.adj q
    by_cases hcm : c = m
    · subst hcm
      exact hne (one_nb hcd q' q)
    · obtain ⟨w, qw, hw⟩ := beyond t m0 m1 c0 c1 hcm
      rcases third t (hd m m0 m1) q q' hne qw with e | e
      · exact cnt_zero.mp z.1 c (List.mem_singleton.mpr rfl) (e ▸ hw)
      · exact cnt_zero.mp z.2 c (List.mem_singleton.mpr rfl) (e ▸ hw)
  | fork hf ka v v0 v1 hv fk sk L =>
    have hch := (ch_bridge t L).mp hg.2.2
    refine ⟨fun z => absurd z ka, fun _ m s s' q q' hne z => ?_, fun z => ?_⟩
    · obtain ⟨m0, m1, _⟩ := h.adj q
      -- a piece that has a fork
      have A : ∀ s, Adj ts m s → cnt n ts C m s = 0 → ∀ u, 0 ≤ u → u < n → Sd n ts m s u → deg ts u ≤ 2 := fun s q hz u u0 u1 hu => by
        apply Classical.byContradiction
        intro zd
        obtain ⟨f, a, b, ⟨f0, f1⟩, fd, ha, hb, hab, ia, ib⟩ := deep_fork t q u0 u1 hu (by omega)
        have hz' := cnt_zero.mp hz
        exact two_bare t hch f0 f1 fd ha hb hab (cnt_zero.mpr fun l hl hs => hz' l hl (ia l (hC.rg l hl).1 (hC.rg l hl).2 hs)) (cnt_zero.mpr fun l hl hs => hz' l hl (ib l (hC.rg l hl).1 (hC.rg l hl).2 hs))
      have a1 := A s q z.1
      have a2 := A s' q' z.2
      by_cases hd : 3 ≤ deg ts m
      · exact two_bare t hch m0 m1 hd (LP_mem.mpr ⟨q, a1⟩) (LP_mem.mpr ⟨q', a2⟩) hne z.1 z.2
      · have hvm : v ≠ m := fun e => hd (e ▸ hv)
        obtain ⟨w, qw, hw⟩ := beyond t m0 m1 v0 v1 hvm
        rcases third t (by omega) q q' hne qw with e | e
        · have := a1 v v0 v1 (e ▸ hw)
          omega
        · have := a2 v v0 v1 (e ▸ hw)
          omega
    · -- two places have no fork
      have e2 := z.1
      have : deg ts v ≤ (rng 0 n).length := deg_le h fun w q => rng_mem.mpr ⟨(h.adj q).2.2.1, (h.adj q).2.2.2.1⟩
      rw [rng_length] at this
      omega
theorem bare_size (S : Shape n ts k rows) (hkk : k = "places" ∨ k = "ties" ∨ k = "all") (hC : LooksOk n C) (hb : NoBare n ts C k) : sizeK rows ≤ (C.length : Int) ∧ ((C.length : Int) = sizeK rows → Good rows C) := by
  have h := t.web
  have hn1 := h.n1
  have hnd : C.Nodup := hC.up.imp fun z => Int.ne_of_lt z
  cases S with
  | none hf =>
    refine ⟨by show (0 : Int) ≤ _; omega, fun e => ⟨hC.up, e, fun _ h => (nomatch h)⟩⟩
  | all hf ka =>
    have hsub : ∀ e ∈ endsL n ts, e ∈ C := fun e he => by
      obtain ⟨⟨e0, e1⟩, hd⟩ := ends_mem.mp he
      obtain ⟨m, q⟩ := deg_ex (show 0 < deg ts e by omega)
      apply Classical.byContradiction
      intro z
      refine hb.all ka m e q.symm (cnt_zero.mpr fun l hl hs => ?_)
      have := leaf_only t hd q.symm (hC.rg l hl).1 (hC.rg l hl).2 hs
      exact z (this ▸ hl)
    have hl := nodup_le ends_nd hsub
    have hk : sizeK [singles n ts ++ [[]]] = ((endsL n ts).length : Int) := by
      unfold sizeK singles
      rw [List.map_cons, List.map_nil, List.sum_cons, List.sum_nil, List.length_append, List.length_map]
      show (((endsL n ts).length + 1 : Nat) : Int) - 1 + 0 = _
      omega
    rw [hk]
    refine ⟨by omega, fun e => (good_all hC.up h).mp ?_⟩
    exact (sorted_sub ends_up hC.up hsub (by omega)).symm
  | line hf ka n2 hd he =>
    have hk : sizeK [singles n ts] = 1 := by
      unfold sizeK singles
      rw [List.map_cons, List.map_nil, List.sum_cons, List.sum_nil, List.length_map, he]
      rfl
    rw [hk]
    have hne : C ≠ [] := fun e => by
      subst e
      by_cases n3 : 3 ≤ n
      · obtain ⟨m, s, s', q, q', hss⟩ := fork_ex t n3
        exact hb.two ka m s s' q q' hss ⟨rfl, rfl⟩
      · have hn2 : n = 2 := by omega
        have kp : ¬ k = "places" := fun e => hb.pair ⟨hn2, e, rfl⟩
        have kt : ¬ k = "ties" := fun e => hf (.inr ⟨hn2, e⟩)
        exact hkk.elim kp fun z => z.elim kt ka
    have hp := List.length_pos_iff.mpr hne
    refine ⟨by omega, fun e => (good_line hC.up h he).mp ?_⟩
    obtain ⟨c, ec⟩ := List.length_eq_one_iff.mp (show C.length = 1 by omega)
    refine ⟨c, ec, ?_⟩
    have hc := hC.rg c (by rw [ec]; exact List.mem_singleton.mpr rfl)
    refine ends_mem.mpr ⟨hc, ?_⟩
    have hdc := hd c hc.1 hc.2
    obtain ⟨s, q⟩ := nb_ex t n2 hc.1 hc.2
    have hpos := deg_pos q
    apply Classical.byContradiction
    intro z
    obtain ⟨s', hss, q', _⟩ := two_nbs h (show deg ts c = 2 by omega) q
    refine hb.two ka c s s' q q' hss.symm ⟨?_, ?_⟩
    · refine cnt_zero.mpr fun l hl hs => ?_
      rw [ec] at hl
      rw [List.mem_singleton.mp hl] at hs
      exact side_not h q hs
    · refine cnt_zero.mpr fun l hl hs => ?_
      rw [ec] at hl
      rw [List.mem_singleton.mp hl] at hs
      exact side_not h q' hs
  | fork hf ka v v0 v1 hv fk sk L =>
    have hR := rowsL_ok t
    have e2 := sizeK_bridge t L
    have hz : ∀ row ∈ (bareL n ts).map (rowL n ts), zeroN C row ≤ 1 := fun row hr => by
      obtain ⟨f, hf, rfl⟩ := List.mem_map.mp hr
      unfold zeroN rowL
      rw [List.filter_map, List.length_map]
      apply Classical.byContradiction
      intro z
      have hnd : ((LP n ts f).filter ((fun leg => decide (mineN C leg = 0)) ∘ pieceL n ts f)).Nodup := (LP_nd h f).filter _
      have hm : ∀ s ∈ (LP n ts f).filter ((fun leg => decide (mineN C leg = 0)) ∘ pieceL n ts f), Adj ts f s ∧ cnt n ts C f s = 0 := fun s hs => by
        obtain ⟨a, b⟩ := List.mem_filter.mp hs
        refine ⟨(LP_mem.mp a).1, cnt_zero.mpr fun l hl hsl => ?_⟩
        exact mine_zero.mp (of_decide_eq_true b) l (pieceL_mem.mpr ⟨hC.rg l hl, hsl⟩) hl
      match (LP n ts f).filter ((fun leg => decide (mineN C leg = 0)) ∘ pieceL n ts f), z, hnd, hm with
      | a :: b :: r, _, hnd, hm =>
        have ha := hm a List.mem_cons_self
        have hb' := hm b (List.mem_cons_of_mem _ List.mem_cons_self)
        exact hb.two ka f a b ha.1 hb'.1 (fun e => (List.nodup_cons.mp hnd).1 (by rw [e]; exact List.mem_cons_self)) ⟨ha.2, hb'.2⟩
      | [a], z, _, _ => exact z (Nat.le_refl _)
      | [], z, _, _ => exact z (Nat.zero_le _)
    obtain ⟨a, b⟩ := rows_low hz
    have h2 := fil_rows (fun v => inB v C) (rows := (bareL n ts).map (rowL n ts))
    have e1 : (((bareL n ts).map (rowL n ts)).map fun row => (row.map fun leg => (leg.filter fun v => inB v C).length).sum).sum = (((bareL n ts).map (rowL n ts)).map (mSum C)).sum := rfl
    rw [e1] at h2
    have h3 := nodup_le (xs := (((bareL n ts).map (rowL n ts)).flatten.flatten.filter fun v => inB v C)) (ys := C) (hR.nd.filter _) fun v hv => inB_t.mp (List.mem_filter.mp hv).2
    rw [e2]
    refine ⟨by omega, fun e => ⟨hC.up, by rw [e2]; exact e, (ch_bridge t L).mpr (b (by omega))⟩⟩
end
theorem shape_rg {n : Int} {ts : List (Int × Int)} {k : Str} {rows : List (List (List Int))} (t : TreeOk n ts) (S : Shape n ts k rows) {v : Int} (hv : v ∈ rows.flatten.flatten) : 0 ≤ v ∧ v < n := by
  cases S with
  | none hf => cases hv
  | all hf ka =>
    rw [List.flatten_cons, List.flatten_nil, List.append_nil, List.flatten_append, singles_flat] at hv
    rcases List.mem_append.mp hv with hv | hv
    · exact (ends_mem.mp hv).1
    · cases hv
  | line hf ka n2 hd he =>
    rw [List.flatten_cons, List.flatten_nil, List.append_nil, singles_flat] at hv
    exact (ends_mem.mp hv).1
  | fork hf ka w v0 v1 hw fk sk L =>
    have hv' := (rows_perm t L).mem_iff.mp hv
    obtain ⟨l, hl, hvl⟩ := List.mem_flatten.mp hv'
    obtain ⟨row, hrow, hlr⟩ := List.mem_flatten.mp hl
    obtain ⟨f, _, rfl⟩ := List.mem_map.mp hrow
    obtain ⟨s, _, rfl⟩ := List.mem_map.mp hlr
    exact (pieceL_mem.mp hvl).1
theorem likes_res {n : Int} {ts : List (Int × Int)} {ls : List Int} {k : Str} (t : TreeOk n ts) (hl : LooksOk n ls) (hk : k = "places" ∨ k = "ties" ∨ k = "all") : ∃ o, tree_likes (n, ⟨ts⟩) ls k = R.ok o ∧ (o = none ↔ Res n ts ls k) := by
  obtain ⟨o, e, h1, h2⟩ := likes_tree t hl hk
  refine ⟨o, e, h1, fun hr => ?_⟩
  cases o with
  | none => rfl
  | some z =>
    obtain ⟨X, hX, Y, hY, hne, _, he⟩ := h2 z rfl
    exact absurd he (hr X hX Y hY hne)
/-! the order of choices -/
theorem lt_pre : ∀ {T A B : List Int}, A < B → T ++ A < T ++ B
  | [], _, _, h => h
  | x :: T, A, B, h => List.cons_lt_cons_iff.mpr (.inr ⟨rfl, lt_pre h⟩)
section
variable {rows : List (List (List Int))}
theorem un_pre : ∀ {P : List Int} {num : Int} {T : List Int}, ∃ B, unR rows P num T = T ++ B ∧ ∀ x ∈ B, x ∈ P
  | [], _, T => ⟨[], by rw [List.append_nil]; rfl, fun _ h => (nomatch h)⟩
  | p :: P, num, T => by
    unfold unR
    by_cases c : num < cntN (T ++ [p]) p rows
    · rw [if_pos c]
      obtain ⟨B, e, h⟩ := un_pre (P := P) (num := num) (T := T ++ [p])
      refine ⟨p :: B, by rw [e, List.append_assoc]; rfl, fun x hx => ?_⟩
      rcases List.mem_cons.mp hx with rfl | hx
      · exact List.mem_cons_self
      · exact List.mem_cons_of_mem _ (h x hx)
    · rw [if_neg c]
      obtain ⟨B, e, h⟩ := un_pre (P := P) (num := num - cntN (T ++ [p]) p rows) (T := T)
      exact ⟨B, e, fun x hx => List.mem_cons_of_mem _ (h x hx)⟩
theorem un_lt (hn : rows.flatten.flatten.Nodup) : ∀ {P : List Int} {last num num' : Int} {T : List Int}, Suf rows last P → (∀ x ∈ T, x ≤ last) → 0 ≤ num → num < num' → num' < cntN T last rows → (unR rows P num T).length = (unR rows P num' T).length → unR rows P num T < unR rows P num' T
  | [], last, num, num', T, hs, hT, h0, h1, h2, hl => by
    exfalso
    have h3 := (cnt_end (T := T) hs.done)
    by_cases c : Ch T rows
    · have := h3.1 c
      omega
    · have := h3.2 c
      omega
  | p :: P, last, num, num', T, hs, hT, h0, h1, h2, hl => by
    have hsp := hs.split hn hT
    have hp := (hs.gt p List.mem_cons_self).1
    have right : ∀ m, ¬ m < cntN (T ++ [p]) p rows → unR rows (p :: P) m T = unR rows P (m - cntN (T ++ [p]) p rows) T := fun m c => by
      conv => lhs; unfold unR
      rw [if_neg c]
    have left : ∀ m, m < cntN (T ++ [p]) p rows → unR rows (p :: P) m T = unR rows P m (T ++ [p]) := fun m c => by
      conv => lhs; unfold unR
      rw [if_pos c]
    by_cases c' : num' < cntN (T ++ [p]) p rows
    · rw [left num' c', left num (by omega)] at *
      exact un_lt hn hs.next (fun x hx => by
        rcases List.mem_append.mp hx with hx | hx
        · have := hT x hx; omega
        · rw [List.mem_singleton.mp hx]; exact Int.le_refl _) h0 h1 c' hl
    · by_cases c : num < cntN (T ++ [p]) p rows
      · rw [left num c, right num' c'] at *
        obtain ⟨A, e1, _⟩ := un_pre (rows := rows) (P := P) (num := num) (T := T ++ [p])
        obtain ⟨B, e2, hB⟩ := un_pre (rows := rows) (P := P) (num := num' - cntN (T ++ [p]) p rows) (T := T)
        rw [e1, e2] at hl ⊢
        rw [List.append_assoc] at hl ⊢
        refine lt_pre ?_
        match B, hB, hl with
        | [], _, hl =>
          simp at hl
        | b :: B, hB, _ =>
          have := List.rel_of_pairwise_cons hs.up (hB b List.mem_cons_self)
          exact List.cons_lt_cons_iff.mpr (.inl this)
      · rw [right num c, right num' c'] at *
        exact un_lt hn hs.next (fun x hx => by have := hT x hx; omega) (by omega) (by omega) (by omega) hl
end
theorem foldX_up {ρ : Type} {f : Option (List Int) → Int → R (Sum ρ (Bool × Option (List Int)))} {U : Int → List Int} {ok : Int → Prop} : ∀ {ns : List Int} {g : Option (List Int)}, ns.Pairwise (· < ·) → (∀ x ∈ ns, ok x) → (∀ x ∈ ns, ∀ g, (g = none ∨ ∃ m, ok m ∧ m < x ∧ g = some (U m)) → f g x = R.ok (.inr (true, some (U x)))) → (g = none ∨ ∃ m, ok m ∧ (∀ x ∈ ns, m < x) ∧ g = some (U m)) → ∃ g', foldX f g ns = R.ok (.inr g')
  | [], g, _, _, _, _ => ⟨g, rfl⟩
  | x :: ns, g, hu, hok, hf, hg => by
    have e := hf x List.mem_cons_self g (hg.imp id fun ⟨m, a, b, c⟩ => ⟨m, a, b x List.mem_cons_self, c⟩)
    obtain ⟨h1, h2⟩ := List.pairwise_cons.mp hu
    obtain ⟨g', e'⟩ := foldX_up (f := f) (U := U) (ok := ok) (g := some (U x)) h2 (fun y hy => hok y (List.mem_cons_of_mem _ hy)) (fun y hy => hf y (List.mem_cons_of_mem _ hy)) (.inr ⟨x, hok x List.mem_cons_self, h1, rfl⟩)
    refine ⟨g', ?_⟩
    unfold foldX
    rw [e]
    exact e'
section
variable {n : Int} {ts : List (Int × Int)} {k : Str} {rows : List (List (List Int))} (t : TreeOk n ts) (hk : k = "places" ∨ k = "ties" ∨ k = "all") (K : KindOk n ts k rows) (S : Shape n ts k rows)
include t hk K S
theorem good_looks {C : List Int} (hg : Good rows C) : LooksOk n C := ⟨fun x hx => shape_rg t S (hg.sub K.ok.nd x hx), hg.1⟩
theorem law_is_ok {C : List Int} (hg : Good rows C) : law_is_choice (n, ⟨ts⟩) k C = R.ok true := by
  have hL := good_looks t hk K S hg
  have hl := hL.len
  have hn := t.web.n60
  have hn1 := t.web.n1
  obtain ⟨lots, el, hlo⟩ := K.lo
  have fw : tree_fewest (n, ⟨ts⟩) k = R.ok (sizeK rows) := by
    unfold tree_fewest
    rw [grown_ok t.len, ok_bind, el, ok_bind, hlo.siz]
    rfl
  refine po_iff ?_
  unfold law_is_choice
  refine po_bind (Q := fun j => j = false) (po_if (fun c => absurd c (by decide)) fun _ => ?_) fun j hj => ?_
  · refine po_mapGE (g := fun _ => true) (by omega) (fun _ _ => rfl) ?_
    have : ((C.map fun _ => true).all id) = true := by
      rw [List.all_eq_true]
      intro x hx
      obtain ⟨_, _, rfl⟩ := List.mem_map.mp hx
      rfl
    show (!(C.map fun _ => true).all id) = false
    rw [this]
    rfl
  · subst hj
    refine po_if (fun c => absurd c (by decide)) fun _ => ?_
    refine po_bind (Q := fun j => j = false) (po_ssL (by omega) (po_if (fun c => ?_) fun _ => ?_)) fun j hj => ?_
    · rw [decide_eq_true (ssI_uniq hg.1 fun k => by rw [decide_eq_true_iff])] at c
      exact absurd c (by decide)
    · rw [fw, ok_bind, decide_eq_true hg.2.1]
      rfl
    · subst hj
      refine po_if (fun c => absurd c (by decide)) fun _ => ?_
      obtain ⟨o, eo, ho⟩ := likes_res t hL hk
      rw [eo, ok_bind, ho.mpr (bare_res t hL hk (good_bare t S hL hg))]
      refine po_if (fun c => absurd c (by decide)) fun _ => ?_
      rw [show cutL C none (some (2 : Int)) = C.take 2 from cut_take C 2, cut_last]
      refine po_extend (by rw [List.length_take, List.length_drop]; omega) ?_
      rw [foldX_unit fun look hlook => ?_]
      · rfl
      · have hlC : look ∈ C := by
          rcases List.mem_append.mp hlook with z | z
          · exact List.mem_of_mem_take z
          · exact List.mem_of_mem_drop z
        rw [filG_ok (g := fun v => if (!decide (v = look)) = true then some v else none) (by omega) fun v _ => by
          by_cases c : (!decide (v = look)) = true
          · rw [if_pos c, if_pos c]
          · rw [if_neg c, if_neg c], ok_bind, fil_ite]
        have hL' : LooksOk n (C.filter fun v => !decide (v = look)) := ⟨fun x hx => hL.rg x (List.mem_filter.mp hx).1, hL.up.sublist List.filter_sublist⟩
        obtain ⟨o', eo', ho'⟩ := likes_res t hL' hk
        rw [eo', ok_bind]
        cases o' with
        | some z => rfl
        | none =>
          exfalso
          have hb := res_bare t hL' hk (ho'.mp rfl)
          have := (bare_size t S hk hL' hb).1
          have hlt : (C.filter fun v => !decide (v = look)).length < C.length := List.length_filter_lt_length_iff_exists.mpr ⟨look, hlC, by rw [decide_eq_true rfl]; decide⟩
          have := hg.2.1
          omega
theorem right_ok {s : List Int} (hs : PoolOk s) : Post (law_right s (n, ⟨ts⟩) k) (fun r => r.1 = true ∧ PoolOk r.2) noX := by
  obtain ⟨lots, el, hlo⟩ := K.lo
  have hpos := K.pos
  unfold law_right
  rw [K.choices t, ok_bind]
  refine po_bind (Q := fun y : List Int × List Int => y.1.Pairwise (· < ·) ∧ (∀ x ∈ y.1, 0 ≤ x ∧ x < cntN [] (-1) rows) ∧ PoolOk y.2) ?_ fun y7 ⟨hu, hr, h7⟩ => ?_
  · unfold law_numbers
    refine po_bind (po_foldP (fun pre (g : List Int × List Int) => (∀ x ∈ g.1, 0 ≤ x ∧ x < cntN [] (-1) rows) ∧ g.1.length = 2 + 2 * pre.length ∧ PoolOk g.2) ⟨fun x hx => ?_, rfl, hs⟩ fun pre g b post e ⟨h1, h2, h3⟩ => ?_) fun g ⟨h1, h2, h3⟩ => ?_
    · simp only [List.mem_cons, List.not_mem_nil, or_false] at hx
      rcases hx with rfl | rfl <;> omega
    · have hpl : pre.length ≤ 2 := by
        have := congrArg List.length e
        rw [rng_length] at this
        simp at this
        omega
      refine po_bind (take_okW h3 hpos (cnt_log K.ok hpos)) fun y6 ⟨a0, a1, h6⟩ => po_extend (by show g.1.length + 2 < 100000; omega) ⟨fun x hx => ?_, ?_, h6⟩
      · rcases List.mem_append.mp hx with hx | hx
        · exact h1 x hx
        · simp only [List.mem_cons, List.not_mem_nil, or_false] at hx
          rcases hx with rfl | rfl
          · exact ⟨a0, a1⟩
          · rcases mm_cases (y6.1 + 1) (cntN [] (-1) rows - 1) with ⟨w, _⟩ | ⟨w, _⟩ <;> rw [w] <;> omega
      · show (g.1 ++ _).length = _
        rw [List.length_append, List.length_append, h2]
        show 2 + 2 * pre.length + 2 = 2 + 2 * (pre.length + 1)
        omega
    · have h2' : g.1.length = 2 + 2 * 2 := by
        rw [h2, rng_length]
        rfl
      exact po_ssL (by omega) ⟨ssI_up _, fun x hx => h1 x (by
        unfold ssI at hx
        exact nub_mem.mp (sortI_mem.mp hx)), h3⟩
  · have T := fun x (hx : 0 ≤ x ∧ x < cntN [] (-1) rows) => told_num K.ok hx.1 hx.2
    have hf : ∀ x ∈ y7.1, ∀ g : Option (List Int), (g = none ∨ ∃ m, (0 ≤ m ∧ m < cntN [] (-1) rows) ∧ m < x ∧ g = some (unR rows (P0 rows) m [])) → (fun (g5 : (Option (List Int))) (b5 : Int) => do
      let y11 ← choice_by (n, ⟨ts⟩) k b5
      let j14 ← (do
        let y15 ← law_is_choice (n, ⟨ts⟩) k y11
        if (!y15) = true then do
          R.ok true
        else do
          let y21 ← choice_number (n, ⟨ts⟩) k y11
          R.ok (!decide (y21 = b5)) : R (Bool))
      if j14 = true then do
        R.ok (.inl (false, y7.2))
      else do
        let j24 ← (do
          if (!g5.isNone) = true then do
            let t26 ← ofO g5
            R.ok (!decide (t26 < y11))
          else do
            R.ok false : R (Bool))
        if j24 = true then do
          R.ok (.inl (false, y7.2))
        else do
          R.ok (.inr (true, (some y11))) : Option (List Int) → Int → R (Sum (Bool × List Int) (Bool × Option (List Int)))) g x = R.ok (.inr (true, some (unR rows (P0 rows) x []))) := fun x hx g hg => by
      have hx' := hr x hx
      have Tx := T x hx'
      show (choice_by (n, ⟨ts⟩) k x >>= _) = _
      rw [choice_by_ok t.len el hlo K.ok hx'.1 hx'.2, ok_bind, law_is_ok t hk K S Tx.good, ok_bind, if_neg (by decide), number_ok t.len el hlo K.ok Tx.good.1 Tx.sub Tx.good.2.2, Tx.ra, ok_bind, decide_eq_true rfl]
      rcases hg with rfl | ⟨m, hm, hlt, rfl⟩
      · rfl
      · have hl : unR rows (P0 rows) m [] < unR rows (P0 rows) x [] := un_lt K.ok.nd (suf0 K.ok) (fun _ z => nomatch z) hm.1 hlt hx'.2 (by
          have a := (T m hm).good.2.1
          have b := Tx.good.2.1
          omega)
        rw [ok_bind, if_neg (show ¬ (!true) = true by decide), if_pos (show (!(some (unR rows (P0 rows) m [])).isNone) = true from rfl)]
        show ((R.ok (!decide (unR rows (P0 rows) m [] < unR rows (P0 rows) x [])) : R Bool) >>= _) = _
        rw [decide_eq_true hl]
        rfl
    obtain ⟨g', e⟩ := foldX_up (ρ := Bool × List Int) (U := fun x => unR rows (P0 rows) x []) (ok := fun x => 0 ≤ x ∧ x < cntN [] (-1) rows) (g := none) (ns := y7.1) hu hr hf (.inl rfl)
    rw [e]
    exact ⟨rfl, h7⟩
end
theorem pick2 {c : Bool} {a b : Int} : ∃ t, getI ([a, b] : List Int) (b2i c) = R.ok t ∧ (t = a ∨ t = b) := by
  cases c with
  | true => exact ⟨b, rfl, .inr rfl⟩
  | false => exact ⟨a, rfl, .inl rfl⟩
theorem law_true (ns : List Int) (h : ns.length ≤ 63) : law ⟨ns⟩ = R.ok true := by
  refine po_iff ?_
  unfold law
  refine po_bind (cells_ok (m := 4) h (by decide) (by decide)) fun y2 hy2 => ?_
  have hm : 0 ≤ max2 1 (y2.length : Int) ∧ max2 1 (y2.length : Int) ≤ 4 := by
    rcases mm_cases 1 (y2.length : Int) with ⟨_, w, _⟩ | ⟨_, w, _⟩ <;> rw [w] <;> omega
  refine po_rng (by decide) (by decide) (by omega) (by omega) ?_
  refine po_bind (po_foldX (fun _ => True) trivial fun s x _ hx => ?_) fun r ⟨s, e, _⟩ => ?_
  · obtain ⟨k0, k1⟩ := rng_mem.mp hx
    refine po_bind (pool_ok k0 (by omega) (by omega)) fun y7 h7 => ?_
    refine po_bind (take_ok h7 (by decide) (by decide)) fun y12 ⟨_, _, h12⟩ => ?_
    obtain ⟨t13, e13, c13⟩ := pick2 (c := decide (y12.1 = 0)) (a := 24) (b := 40)
    refine po_getE e13 ?_
    refine po_bind (tree_ok h12 (by omega) (by omega)) fun y14 ⟨ht, _, p14⟩ => ?_
    obtain ⟨⟨n, ⟨ts⟩⟩, q14⟩ := y14
    have t : TreeOk n ts := ht
    have p14' : PoolOk q14 := p14
    refine po_bind (po_foldX PoolOk p14' fun s kd hs hk => ?_) fun r ⟨_, e, _⟩ => ?_
    · have hk3 : kd = "places" ∨ kd = "ties" ∨ kd = "all" := by
        simp only [List.mem_cons, List.not_mem_nil, or_false] at hk
        exact hk
      obtain ⟨rows, K, S⟩ := kind_ex t kd
      refine po_bind (right_ok t hk3 K S hs) fun y23 ⟨r1, r2⟩ => ?_
      rw [r1]
      exact ⟨_, rfl, r2⟩
    · subst e
      exact ⟨_, rfl, trivial⟩
  · rw [e]
    rfl
end G
namespace G
open PySem L2 Z
open Rep (rep)
theorem dn_mk {K : Fg} {h : Heap} {mg : Str → Option Value} (X : K.In h) (G : h.Ns mainGlobals mg) {x y : Str} {st : Stmt} {ps : List Str} {f : Addr} {od an : Option Addr} {sl : Array (Option Value)} {oc kV dc pm cd ct : Value}
    (a : PySem.W.nsIn K mainGlobals x = some (some (.ref f))) (l : K.lookup f = some ⟨oc, od, .func (PySem.W.fnOf y y (defArgs st) (defBody st) (defScope st) .none kV dc pm an cd ct), sl⟩) (c : PySem.W.codeIn K cd y = true) (k : PySem.W.keepIn K (.ref f) = true)
    (b : ∀ (kV doc pm : Value) (an : Option Addr) (cdv ct : Value) (us : List Value), us.length = ps.length → bindArgs (PySem.W.fnOf y y (defArgs st) (defBody st) (defScope st) .none kV doc pm an cdv ct) ⟨us, []⟩ = pure (ps.zip us)) :
    Dn K mg x y st ps f (PySem.W.fnOf y y (defArgs st) (defBody st) (defScope st) .none kV dc pm an cd ct) := ⟨fun_mk l c k, PySem.W.mg_of X G a, (fun_mk l c k).binds b⟩
theorem all_mk {l : PySem.W.OpenLaw} {w : World} {K : PySem.W.Frag} {h : Heap} {mg : Str → Option Value} {fa : Addr} (X : K.In h) (G : h.Ns mainGlobals mg) (hfa : mg "law" = some (.ref fa))
    {f8 : Addr} {od8 an8 : Option Addr} {sl8 : Array (Option Value)} {oc8 kV8 dc8 pm8 cd8 ct8 : Value}
    {f9 : Addr} {od9 an9 : Option Addr} {sl9 : Array (Option Value)} {oc9 kV9 dc9 pm9 cd9 ct9 : Value}
    {f10 : Addr} {od10 an10 : Option Addr} {sl10 : Array (Option Value)} {oc10 kV10 dc10 pm10 cd10 ct10 : Value}
    {f12 : Addr} {od12 an12 : Option Addr} {sl12 : Array (Option Value)} {oc12 kV12 dc12 pm12 cd12 ct12 : Value}
    {f13 : Addr} {od13 an13 : Option Addr} {sl13 : Array (Option Value)} {oc13 kV13 dc13 pm13 cd13 ct13 : Value}
    {f14 : Addr} {od14 an14 : Option Addr} {sl14 : Array (Option Value)} {oc14 kV14 dc14 pm14 cd14 ct14 : Value}
    {f15 : Addr} {od15 an15 : Option Addr} {sl15 : Array (Option Value)} {oc15 kV15 dc15 pm15 cd15 ct15 : Value}
    {f16 : Addr} {od16 an16 : Option Addr} {sl16 : Array (Option Value)} {oc16 kV16 dc16 pm16 cd16 ct16 : Value}
    {f17 : Addr} {od17 an17 : Option Addr} {sl17 : Array (Option Value)} {oc17 kV17 dc17 pm17 cd17 ct17 : Value}
    {f18 : Addr} {od18 an18 : Option Addr} {sl18 : Array (Option Value)} {oc18 kV18 dc18 pm18 cd18 ct18 : Value}
    {f19 : Addr} {od19 an19 : Option Addr} {sl19 : Array (Option Value)} {oc19 kV19 dc19 pm19 cd19 ct19 : Value}
    {f20 : Addr} {od20 an20 : Option Addr} {sl20 : Array (Option Value)} {oc20 kV20 dc20 pm20 cd20 ct20 : Value}
    {f21 : Addr} {od21 an21 : Option Addr} {sl21 : Array (Option Value)} {oc21 kV21 dc21 pm21 cd21 ct21 : Value}
    {f23 : Addr} {od23 an23 : Option Addr} {sl23 : Array (Option Value)} {oc23 kV23 dc23 pm23 cd23 ct23 : Value}
    {f24 : Addr} {od24 an24 : Option Addr} {sl24 : Array (Option Value)} {oc24 kV24 dc24 pm24 cd24 ct24 : Value}
    {f25 : Addr} {od25 an25 : Option Addr} {sl25 : Array (Option Value)} {oc25 kV25 dc25 pm25 cd25 ct25 : Value}
    {f26 : Addr} {od26 an26 : Option Addr} {sl26 : Array (Option Value)} {oc26 kV26 dc26 pm26 cd26 ct26 : Value}
    {f27 : Addr} {od27 an27 : Option Addr} {sl27 : Array (Option Value)} {oc27 kV27 dc27 pm27 cd27 ct27 : Value}
    {f28 : Addr} {od28 an28 : Option Addr} {sl28 : Array (Option Value)} {oc28 kV28 dc28 pm28 cd28 ct28 : Value}
    {f29 : Addr} {od29 an29 : Option Addr} {sl29 : Array (Option Value)} {oc29 kV29 dc29 pm29 cd29 ct29 : Value}
    {f30 : Addr} {od30 an30 : Option Addr} {sl30 : Array (Option Value)} {oc30 kV30 dc30 pm30 cd30 ct30 : Value}
    {f31 : Addr} {od31 an31 : Option Addr} {sl31 : Array (Option Value)} {oc31 kV31 dc31 pm31 cd31 ct31 : Value}
    {f32 : Addr} {od32 an32 : Option Addr} {sl32 : Array (Option Value)} {oc32 kV32 dc32 pm32 cd32 ct32 : Value}
    {f33 : Addr} {od33 an33 : Option Addr} {sl33 : Array (Option Value)} {oc33 kV33 dc33 pm33 cd33 ct33 : Value}
    {f34 : Addr} {od34 an34 : Option Addr} {sl34 : Array (Option Value)} {oc34 kV34 dc34 pm34 cd34 ct34 : Value}
    {f35 : Addr} {od35 an35 : Option Addr} {sl35 : Array (Option Value)} {oc35 kV35 dc35 pm35 cd35 ct35 : Value}
    {f37 : Addr} {od37 an37 : Option Addr} {sl37 : Array (Option Value)} {oc37 kV37 dc37 pm37 cd37 ct37 : Value}
    {f38 : Addr} {od38 an38 : Option Addr} {sl38 : Array (Option Value)} {oc38 kV38 dc38 pm38 cd38 ct38 : Value}
    {f39 : Addr} {od39 an39 : Option Addr} {sl39 : Array (Option Value)} {oc39 kV39 dc39 pm39 cd39 ct39 : Value}
    {f40 : Addr} {od40 an40 : Option Addr} {sl40 : Array (Option Value)} {oc40 kV40 dc40 pm40 cd40 ct40 : Value}
    {f41 : Addr} {od41 an41 : Option Addr} {sl41 : Array (Option Value)} {oc41 kV41 dc41 pm41 cd41 ct41 : Value}
    {f42 : Addr} {od42 an42 : Option Addr} {sl42 : Array (Option Value)} {oc42 kV42 dc42 pm42 cd42 ct42 : Value}
    {f43 : Addr} {od43 an43 : Option Addr} {sl43 : Array (Option Value)} {oc43 kV43 dc43 pm43 cd43 ct43 : Value}
    {f44 : Addr} {od44 an44 : Option Addr} {sl44 : Array (Option Value)} {oc44 kV44 dc44 pm44 cd44 ct44 : Value}
    {f45 : Addr} {od45 an45 : Option Addr} {sl45 : Array (Option Value)} {oc45 kV45 dc45 pm45 cd45 ct45 : Value}
    {f46 : Addr} {od46 an46 : Option Addr} {sl46 : Array (Option Value)} {oc46 kV46 dc46 pm46 cd46 ct46 : Value}
    {f47 : Addr} {od47 an47 : Option Addr} {sl47 : Array (Option Value)} {oc47 kV47 dc47 pm47 cd47 ct47 : Value}
    (a8 : PySem.W.nsIn K mainGlobals "near_lists" = some (some (.ref f8))) (l8 : K.lookup f8 = some ⟨oc8, od8, .func (PySem.W.fnOf "near_lists" "near_lists" (defArgs s_near_lists) (defBody s_near_lists) (defScope s_near_lists) .none kV8 dc8 pm8 an8 cd8 ct8), sl8⟩) (c8 : PySem.W.codeIn K cd8 "near_lists" = true) (k8 : PySem.W.keepIn K (.ref f8) = true)
    (a9 : PySem.W.nsIn K mainGlobals "place_asked" = some (some (.ref f9))) (l9 : K.lookup f9 = some ⟨oc9, od9, .func (PySem.W.fnOf "place_asked" "place_asked" (defArgs s_place_asked) (defBody s_place_asked) (defScope s_place_asked) .none kV9 dc9 pm9 an9 cd9 ct9), sl9⟩) (c9 : PySem.W.codeIn K cd9 "place_asked" = true) (k9 : PySem.W.keepIn K (.ref f9) = true)
    (a10 : PySem.W.nsIn K mainGlobals "neighbours_of" = some (some (.ref f10))) (l10 : K.lookup f10 = some ⟨oc10, od10, .func (PySem.W.fnOf "neighbours_of" "neighbours_of" (defArgs s_neighbours_of) (defBody s_neighbours_of) (defScope s_neighbours_of) .none kV10 dc10 pm10 an10 cd10 ct10), sl10⟩) (c10 : PySem.W.codeIn K cd10 "neighbours_of" = true) (k10 : PySem.W.keepIn K (.ref f10) = true)
    (a12 : PySem.W.nsIn K mainGlobals "is_tree" = some (some (.ref f12))) (l12 : K.lookup f12 = some ⟨oc12, od12, .func (PySem.W.fnOf "is_tree" "is_tree" (defArgs s_is_tree) (defBody s_is_tree) (defScope s_is_tree) .none kV12 dc12 pm12 an12 cd12 ct12), sl12⟩) (c12 : PySem.W.codeIn K cd12 "is_tree" = true) (k12 : PySem.W.keepIn K (.ref f12) = true)
    (a13 : PySem.W.nsIn K mainGlobals "tree_asked" = some (some (.ref f13))) (l13 : K.lookup f13 = some ⟨oc13, od13, .func (PySem.W.fnOf "tree_asked" "tree_asked" (defArgs s_tree_asked) (defBody s_tree_asked) (defScope s_tree_asked) .none kV13 dc13 pm13 an13 cd13 ct13), sl13⟩) (c13 : PySem.W.codeIn K cd13 "tree_asked" = true) (k13 : PySem.W.keepIn K (.ref f13) = true)
    (a14 : PySem.W.nsIn K mainGlobals "rising_asked" = some (some (.ref f14))) (l14 : K.lookup f14 = some ⟨oc14, od14, .func (PySem.W.fnOf "rising_asked" "rising_asked" (defArgs s_rising_asked) (defBody s_rising_asked) (defScope s_rising_asked) .none kV14 dc14 pm14 an14 cd14 ct14), sl14⟩) (c14 : PySem.W.codeIn K cd14 "rising_asked" = true) (k14 : PySem.W.keepIn K (.ref f14) = true)
    (a15 : PySem.W.nsIn K mainGlobals "all_near" = some (some (.ref f15))) (l15 : K.lookup f15 = some ⟨oc15, od15, .func (PySem.W.fnOf "all_near" "all_near" (defArgs s_all_near) (defBody s_all_near) (defScope s_all_near) .none kV15 dc15 pm15 an15 cd15 ct15), sl15⟩) (c15 : PySem.W.codeIn K cd15 "all_near" = true) (k15 : PySem.W.keepIn K (.ref f15) = true)
    (a16 : PySem.W.nsIn K mainGlobals "piece_from" = some (some (.ref f16))) (l16 : K.lookup f16 = some ⟨oc16, od16, .func (PySem.W.fnOf "piece_from" "piece_from" (defArgs s_piece_from) (defBody s_piece_from) (defScope s_piece_from) .none kV16 dc16 pm16 an16 cd16 ct16), sl16⟩) (c16 : PySem.W.codeIn K cd16 "piece_from" = true) (k16 : PySem.W.keepIn K (.ref f16) = true)
    (a17 : PySem.W.nsIn K mainGlobals "pieces_by" = some (some (.ref f17))) (l17 : K.lookup f17 = some ⟨oc17, od17, .func (PySem.W.fnOf "pieces_by" "pieces_by" (defArgs s_pieces_by) (defBody s_pieces_by) (defScope s_pieces_by) .none kV17 dc17 pm17 an17 cd17 ct17), sl17⟩) (c17 : PySem.W.codeIn K cd17 "pieces_by" = true) (k17 : PySem.W.keepIn K (.ref f17) = true)
    (a18 : PySem.W.nsIn K mainGlobals "looks_in" = some (some (.ref f18))) (l18 : K.lookup f18 = some ⟨oc18, od18, .func (PySem.W.fnOf "looks_in" "looks_in" (defArgs s_looks_in) (defBody s_looks_in) (defScope s_looks_in) .none kV18 dc18 pm18 an18 cd18 ct18), sl18⟩) (c18 : PySem.W.codeIn K cd18 "looks_in" = true) (k18 : PySem.W.keepIn K (.ref f18) = true)
    (a19 : PySem.W.nsIn K mainGlobals "tie_of" = some (some (.ref f19))) (l19 : K.lookup f19 = some ⟨oc19, od19, .func (PySem.W.fnOf "tie_of" "tie_of" (defArgs s_tie_of) (defBody s_tie_of) (defScope s_tie_of) .none kV19 dc19 pm19 an19 cd19 ct19), sl19⟩) (c19 : PySem.W.codeIn K cd19 "tie_of" = true) (k19 : PySem.W.keepIn K (.ref f19) = true)
    (a20 : PySem.W.nsIn K mainGlobals "likes_at" = some (some (.ref f20))) (l20 : K.lookup f20 = some ⟨oc20, od20, .func (PySem.W.fnOf "likes_at" "likes_at" (defArgs s_likes_at) (defBody s_likes_at) (defScope s_likes_at) .none kV20 dc20 pm20 an20 cd20 ct20), sl20⟩) (c20 : PySem.W.codeIn K cd20 "likes_at" = true) (k20 : PySem.W.keepIn K (.ref f20) = true)
    (a21 : PySem.W.nsIn K mainGlobals "tree_likes" = some (some (.ref f21))) (l21 : K.lookup f21 = some ⟨oc21, od21, .func (PySem.W.fnOf "tree_likes" "tree_likes" (defArgs s_tree_likes) (defBody s_tree_likes) (defScope s_tree_likes) .none kV21 dc21 pm21 an21 cd21 ct21), sl21⟩) (c21 : PySem.W.codeIn K cd21 "tree_likes" = true) (k21 : PySem.W.keepIn K (.ref f21) = true)
    (a23 : PySem.W.nsIn K mainGlobals "grown_asked" = some (some (.ref f23))) (l23 : K.lookup f23 = some ⟨oc23, od23, .func (PySem.W.fnOf "grown_asked" "grown_asked" (defArgs s_grown_asked) (defBody s_grown_asked) (defScope s_grown_asked) .none kV23 dc23 pm23 an23 cd23 ct23), sl23⟩) (c23 : PySem.W.codeIn K cd23 "grown_asked" = true) (k23 : PySem.W.keepIn K (.ref f23) = true)
    (a24 : PySem.W.nsIn K mainGlobals "leg_from" = some (some (.ref f24))) (l24 : K.lookup f24 = some ⟨oc24, od24, .func (PySem.W.fnOf "leg_from" "leg_from" (defArgs s_leg_from) (defBody s_leg_from) (defScope s_leg_from) .none kV24 dc24 pm24 an24 cd24 ct24), sl24⟩) (c24 : PySem.W.codeIn K cd24 "leg_from" = true) (k24 : PySem.W.keepIn K (.ref f24) = true)
    (a25 : PySem.W.nsIn K mainGlobals "legs_by_fork" = some (some (.ref f25))) (l25 : K.lookup f25 = some ⟨oc25, od25, .func (PySem.W.fnOf "legs_by_fork" "legs_by_fork" (defArgs s_legs_by_fork) (defBody s_legs_by_fork) (defScope s_legs_by_fork) .none kV25 dc25 pm25 an25 cd25 ct25), sl25⟩) (c25 : PySem.W.codeIn K cd25 "legs_by_fork" = true) (k25 : PySem.W.keepIn K (.ref f25) = true)
    (a26 : PySem.W.nsIn K mainGlobals "lots_of" = some (some (.ref f26))) (l26 : K.lookup f26 = some ⟨oc26, od26, .func (PySem.W.fnOf "lots_of" "lots_of" (defArgs s_lots_of) (defBody s_lots_of) (defScope s_lots_of) .none kV26 dc26 pm26 an26 cd26 ct26), sl26⟩) (c26 : PySem.W.codeIn K cd26 "lots_of" = true) (k26 : PySem.W.keepIn K (.ref f26) = true)
    (a27 : PySem.W.nsIn K mainGlobals "looks_by" = some (some (.ref f27))) (l27 : K.lookup f27 = some ⟨oc27, od27, .func (PySem.W.fnOf "looks_by" "looks_by" (defArgs s_looks_by) (defBody s_looks_by) (defScope s_looks_by) .none kV27 dc27 pm27 an27 cd27 ct27), sl27⟩) (c27 : PySem.W.codeIn K cd27 "looks_by" = true) (k27 : PySem.W.keepIn K (.ref f27) = true)
    (a28 : PySem.W.nsIn K mainGlobals "ways_of" = some (some (.ref f28))) (l28 : K.lookup f28 = some ⟨oc28, od28, .func (PySem.W.fnOf "ways_of" "ways_of" (defArgs s_ways_of) (defBody s_ways_of) (defScope s_ways_of) .none kV28 dc28 pm28 an28 cd28 ct28), sl28⟩) (c28 : PySem.W.codeIn K cd28 "ways_of" = true) (k28 : PySem.W.keepIn K (.ref f28) = true)
    (a29 : PySem.W.nsIn K mainGlobals "count_with" = some (some (.ref f29))) (l29 : K.lookup f29 = some ⟨oc29, od29, .func (PySem.W.fnOf "count_with" "count_with" (defArgs s_count_with) (defBody s_count_with) (defScope s_count_with) .none kV29 dc29 pm29 an29 cd29 ct29), sl29⟩) (c29 : PySem.W.codeIn K cd29 "count_with" = true) (k29 : PySem.W.keepIn K (.ref f29) = true)
    (a30 : PySem.W.nsIn K mainGlobals "places_in" = some (some (.ref f30))) (l30 : K.lookup f30 = some ⟨oc30, od30, .func (PySem.W.fnOf "places_in" "places_in" (defArgs s_places_in) (defBody s_places_in) (defScope s_places_in) .none kV30 dc30 pm30 an30 cd30 ct30), sl30⟩) (c30 : PySem.W.codeIn K cd30 "places_in" = true) (k30 : PySem.W.keepIn K (.ref f30) = true)
    (a31 : PySem.W.nsIn K mainGlobals "tree_fewest" = some (some (.ref f31))) (l31 : K.lookup f31 = some ⟨oc31, od31, .func (PySem.W.fnOf "tree_fewest" "tree_fewest" (defArgs s_tree_fewest) (defBody s_tree_fewest) (defScope s_tree_fewest) .none kV31 dc31 pm31 an31 cd31 ct31), sl31⟩) (c31 : PySem.W.codeIn K cd31 "tree_fewest" = true) (k31 : PySem.W.keepIn K (.ref f31) = true)
    (a32 : PySem.W.nsIn K mainGlobals "tree_choices" = some (some (.ref f32))) (l32 : K.lookup f32 = some ⟨oc32, od32, .func (PySem.W.fnOf "tree_choices" "tree_choices" (defArgs s_tree_choices) (defBody s_tree_choices) (defScope s_tree_choices) .none kV32 dc32 pm32 an32 cd32 ct32), sl32⟩) (c32 : PySem.W.codeIn K cd32 "tree_choices" = true) (k32 : PySem.W.keepIn K (.ref f32) = true)
    (a33 : PySem.W.nsIn K mainGlobals "choice_by" = some (some (.ref f33))) (l33 : K.lookup f33 = some ⟨oc33, od33, .func (PySem.W.fnOf "choice_by" "choice_by" (defArgs s_choice_by) (defBody s_choice_by) (defScope s_choice_by) .none kV33 dc33 pm33 an33 cd33 ct33), sl33⟩) (c33 : PySem.W.codeIn K cd33 "choice_by" = true) (k33 : PySem.W.keepIn K (.ref f33) = true)
    (a34 : PySem.W.nsIn K mainGlobals "is_choice" = some (some (.ref f34))) (l34 : K.lookup f34 = some ⟨oc34, od34, .func (PySem.W.fnOf "is_choice" "is_choice" (defArgs s_is_choice) (defBody s_is_choice) (defScope s_is_choice) .none kV34 dc34 pm34 an34 cd34 ct34), sl34⟩) (c34 : PySem.W.codeIn K cd34 "is_choice" = true) (k34 : PySem.W.keepIn K (.ref f34) = true)
    (a35 : PySem.W.nsIn K mainGlobals "choice_number" = some (some (.ref f35))) (l35 : K.lookup f35 = some ⟨oc35, od35, .func (PySem.W.fnOf "choice_number" "choice_number" (defArgs s_choice_number) (defBody s_choice_number) (defScope s_choice_number) .none kV35 dc35 pm35 an35 cd35 ct35), sl35⟩) (c35 : PySem.W.codeIn K cd35 "choice_number" = true) (k35 : PySem.W.keepIn K (.ref f35) = true)
    (a37 : PySem.W.nsIn K mainGlobals "_law_cells" = some (some (.ref f37))) (l37 : K.lookup f37 = some ⟨oc37, od37, .func (PySem.W.fnOf "_law_cells" "_law_cells" (defArgs s_law_cells) (defBody s_law_cells) (defScope s_law_cells) .none kV37 dc37 pm37 an37 cd37 ct37), sl37⟩) (c37 : PySem.W.codeIn K cd37 "_law_cells" = true) (k37 : PySem.W.keepIn K (.ref f37) = true)
    (a38 : PySem.W.nsIn K mainGlobals "_law_pool" = some (some (.ref f38))) (l38 : K.lookup f38 = some ⟨oc38, od38, .func (PySem.W.fnOf "_law_pool" "_law_pool" (defArgs s_law_pool) (defBody s_law_pool) (defScope s_law_pool) .none kV38 dc38 pm38 an38 cd38 ct38), sl38⟩) (c38 : PySem.W.codeIn K cd38 "_law_pool" = true) (k38 : PySem.W.keepIn K (.ref f38) = true)
    (a39 : PySem.W.nsIn K mainGlobals "_law_take" = some (some (.ref f39))) (l39 : K.lookup f39 = some ⟨oc39, od39, .func (PySem.W.fnOf "_law_take" "_law_take" (defArgs s_law_take) (defBody s_law_take) (defScope s_law_take) .none kV39 dc39 pm39 an39 cd39 ct39), sl39⟩) (c39 : PySem.W.codeIn K cd39 "_law_take" = true) (k39 : PySem.W.keepIn K (.ref f39) = true)
    (a40 : PySem.W.nsIn K mainGlobals "_law_some" = some (some (.ref f40))) (l40 : K.lookup f40 = some ⟨oc40, od40, .func (PySem.W.fnOf "_law_some" "_law_some" (defArgs s_law_some) (defBody s_law_some) (defScope s_law_some) .none kV40 dc40 pm40 an40 cd40 ct40), sl40⟩) (c40 : PySem.W.codeIn K cd40 "_law_some" = true) (k40 : PySem.W.keepIn K (.ref f40) = true)
    (a41 : PySem.W.nsIn K mainGlobals "_law_named" = some (some (.ref f41))) (l41 : K.lookup f41 = some ⟨oc41, od41, .func (PySem.W.fnOf "_law_named" "_law_named" (defArgs s_law_named) (defBody s_law_named) (defScope s_law_named) .none kV41 dc41 pm41 an41 cd41 ct41), sl41⟩) (c41 : PySem.W.codeIn K cd41 "_law_named" = true) (k41 : PySem.W.keepIn K (.ref f41) = true)
    (a42 : PySem.W.nsIn K mainGlobals "_law_tree" = some (some (.ref f42))) (l42 : K.lookup f42 = some ⟨oc42, od42, .func (PySem.W.fnOf "_law_tree" "_law_tree" (defArgs s_law_tree) (defBody s_law_tree) (defScope s_law_tree) .none kV42 dc42 pm42 an42 cd42 ct42), sl42⟩) (c42 : PySem.W.codeIn K cd42 "_law_tree" = true) (k42 : PySem.W.keepIn K (.ref f42) = true)
    (a43 : PySem.W.nsIn K mainGlobals "_law_whole" = some (some (.ref f43))) (l43 : K.lookup f43 = some ⟨oc43, od43, .func (PySem.W.fnOf "_law_whole" "_law_whole" (defArgs s_law_whole) (defBody s_law_whole) (defScope s_law_whole) .none kV43 dc43 pm43 an43 cd43 ct43), sl43⟩) (c43 : PySem.W.codeIn K cd43 "_law_whole" = true) (k43 : PySem.W.keepIn K (.ref f43) = true)
    (a44 : PySem.W.nsIn K mainGlobals "_law_numbers" = some (some (.ref f44))) (l44 : K.lookup f44 = some ⟨oc44, od44, .func (PySem.W.fnOf "_law_numbers" "_law_numbers" (defArgs s_law_numbers) (defBody s_law_numbers) (defScope s_law_numbers) .none kV44 dc44 pm44 an44 cd44 ct44), sl44⟩) (c44 : PySem.W.codeIn K cd44 "_law_numbers" = true) (k44 : PySem.W.keepIn K (.ref f44) = true)
    (a45 : PySem.W.nsIn K mainGlobals "_law_is_choice" = some (some (.ref f45))) (l45 : K.lookup f45 = some ⟨oc45, od45, .func (PySem.W.fnOf "_law_is_choice" "_law_is_choice" (defArgs s_law_is_choice) (defBody s_law_is_choice) (defScope s_law_is_choice) .none kV45 dc45 pm45 an45 cd45 ct45), sl45⟩) (c45 : PySem.W.codeIn K cd45 "_law_is_choice" = true) (k45 : PySem.W.keepIn K (.ref f45) = true)
    (a46 : PySem.W.nsIn K mainGlobals "_law_right" = some (some (.ref f46))) (l46 : K.lookup f46 = some ⟨oc46, od46, .func (PySem.W.fnOf "_law_right" "_law_right" (defArgs s_law_right) (defBody s_law_right) (defScope s_law_right) .none kV46 dc46 pm46 an46 cd46 ct46), sl46⟩) (c46 : PySem.W.codeIn K cd46 "_law_right" = true) (k46 : PySem.W.keepIn K (.ref f46) = true)
    (a47 : PySem.W.nsIn K mainGlobals "law" = some (some (.ref f47))) (l47 : K.lookup f47 = some ⟨oc47, od47, .func (PySem.W.fnOf "law" "law" (defArgs s_law) (defBody s_law) (defScope s_law) .none kV47 dc47 pm47 an47 cd47 ct47), sl47⟩) (c47 : PySem.W.codeIn K cd47 "law" = true) (k47 : PySem.W.keepIn K (.ref f47) = true)
    (z_abs : PySem.W.nsIn K mainGlobals "abs" = some none)
    (z_all : PySem.W.nsIn K mainGlobals "all" = some none)
    (z_bool : PySem.W.nsIn K mainGlobals "bool" = some none)
    (z_enumerate : PySem.W.nsIn K mainGlobals "enumerate" = some none)
    (z_int : PySem.W.nsIn K mainGlobals "int" = some none)
    (z_isinstance : PySem.W.nsIn K mainGlobals "isinstance" = some none)
    (z_len : PySem.W.nsIn K mainGlobals "len" = some none)
    (z_list : PySem.W.nsIn K mainGlobals "list" = some none)
    (z_max : PySem.W.nsIn K mainGlobals "max" = some none)
    (z_min : PySem.W.nsIn K mainGlobals "min" = some none)
    (z_range : PySem.W.nsIn K mainGlobals "range" = some none)
    (z_set : PySem.W.nsIn K mainGlobals "set" = some none)
    (z_sorted : PySem.W.nsIn K mainGlobals "sorted" = some none)
    (z_sum : PySem.W.nsIn K mainGlobals "sum" = some none)
    (z_tuple : PySem.W.nsIn K mainGlobals "tuple" = some none)
    (z_zip : PySem.W.nsIn K mainGlobals "zip" = some none) :
    ∃ fd : FuncData, (∀ (s : Shared) (v : Value), BindsTo s fd ⟨[v], []⟩ [("script", v)]) ∧ ∀ base : Heap, K.In base → base.Ns mainGlobals mg → FnOk l.prog w K mg base CX0 8 fa fd ["script"] (sp_law K) := by
  have e := hfa.symm.trans (PySem.W.mg_of X G a47)
  cases e
  let A : Nat → Addr := fun i => match i with | 8 => f8 | 9 => f9 | 10 => f10 | 12 => f12 | 13 => f13 | 14 => f14 | 15 => f15 | 16 => f16 | 17 => f17 | 18 => f18 | 19 => f19 | 20 => f20 | 21 => f21 | 23 => f23 | 24 => f24 | 25 => f25 | 26 => f26 | 27 => f27 | 28 => f28 | 29 => f29 | 30 => f30 | 31 => f31 | 32 => f32 | 33 => f33 | 34 => f34 | 35 => f35 | 37 => f37 | 38 => f38 | 39 => f39 | 40 => f40 | 41 => f41 | 42 => f42 | 43 => f43 | 44 => f44 | 45 => f45 | 46 => f46 | 47 => fa | _ => fa
  let FD : Nat → FuncData := fun i => match i with | 8 => (PySem.W.fnOf "near_lists" "near_lists" (defArgs s_near_lists) (defBody s_near_lists) (defScope s_near_lists) .none kV8 dc8 pm8 an8 cd8 ct8) | 9 => (PySem.W.fnOf "place_asked" "place_asked" (defArgs s_place_asked) (defBody s_place_asked) (defScope s_place_asked) .none kV9 dc9 pm9 an9 cd9 ct9) | 10 => (PySem.W.fnOf "neighbours_of" "neighbours_of" (defArgs s_neighbours_of) (defBody s_neighbours_of) (defScope s_neighbours_of) .none kV10 dc10 pm10 an10 cd10 ct10) | 12 => (PySem.W.fnOf "is_tree" "is_tree" (defArgs s_is_tree) (defBody s_is_tree) (defScope s_is_tree) .none kV12 dc12 pm12 an12 cd12 ct12) | 13 => (PySem.W.fnOf "tree_asked" "tree_asked" (defArgs s_tree_asked) (defBody s_tree_asked) (defScope s_tree_asked) .none kV13 dc13 pm13 an13 cd13 ct13) | 14 => (PySem.W.fnOf "rising_asked" "rising_asked" (defArgs s_rising_asked) (defBody s_rising_asked) (defScope s_rising_asked) .none kV14 dc14 pm14 an14 cd14 ct14) | 15 => (PySem.W.fnOf "all_near" "all_near" (defArgs s_all_near) (defBody s_all_near) (defScope s_all_near) .none kV15 dc15 pm15 an15 cd15 ct15) | 16 => (PySem.W.fnOf "piece_from" "piece_from" (defArgs s_piece_from) (defBody s_piece_from) (defScope s_piece_from) .none kV16 dc16 pm16 an16 cd16 ct16) | 17 => (PySem.W.fnOf "pieces_by" "pieces_by" (defArgs s_pieces_by) (defBody s_pieces_by) (defScope s_pieces_by) .none kV17 dc17 pm17 an17 cd17 ct17) | 18 => (PySem.W.fnOf "looks_in" "looks_in" (defArgs s_looks_in) (defBody s_looks_in) (defScope s_looks_in) .none kV18 dc18 pm18 an18 cd18 ct18) | 19 => (PySem.W.fnOf "tie_of" "tie_of" (defArgs s_tie_of) (defBody s_tie_of) (defScope s_tie_of) .none kV19 dc19 pm19 an19 cd19 ct19) | 20 => (PySem.W.fnOf "likes_at" "likes_at" (defArgs s_likes_at) (defBody s_likes_at) (defScope s_likes_at) .none kV20 dc20 pm20 an20 cd20 ct20) | 21 => (PySem.W.fnOf "tree_likes" "tree_likes" (defArgs s_tree_likes) (defBody s_tree_likes) (defScope s_tree_likes) .none kV21 dc21 pm21 an21 cd21 ct21) | 23 => (PySem.W.fnOf "grown_asked" "grown_asked" (defArgs s_grown_asked) (defBody s_grown_asked) (defScope s_grown_asked) .none kV23 dc23 pm23 an23 cd23 ct23) | 24 => (PySem.W.fnOf "leg_from" "leg_from" (defArgs s_leg_from) (defBody s_leg_from) (defScope s_leg_from) .none kV24 dc24 pm24 an24 cd24 ct24) | 25 => (PySem.W.fnOf "legs_by_fork" "legs_by_fork" (defArgs s_legs_by_fork) (defBody s_legs_by_fork) (defScope s_legs_by_fork) .none kV25 dc25 pm25 an25 cd25 ct25) | 26 => (PySem.W.fnOf "lots_of" "lots_of" (defArgs s_lots_of) (defBody s_lots_of) (defScope s_lots_of) .none kV26 dc26 pm26 an26 cd26 ct26) | 27 => (PySem.W.fnOf "looks_by" "looks_by" (defArgs s_looks_by) (defBody s_looks_by) (defScope s_looks_by) .none kV27 dc27 pm27 an27 cd27 ct27) | 28 => (PySem.W.fnOf "ways_of" "ways_of" (defArgs s_ways_of) (defBody s_ways_of) (defScope s_ways_of) .none kV28 dc28 pm28 an28 cd28 ct28) | 29 => (PySem.W.fnOf "count_with" "count_with" (defArgs s_count_with) (defBody s_count_with) (defScope s_count_with) .none kV29 dc29 pm29 an29 cd29 ct29) | 30 => (PySem.W.fnOf "places_in" "places_in" (defArgs s_places_in) (defBody s_places_in) (defScope s_places_in) .none kV30 dc30 pm30 an30 cd30 ct30) | 31 => (PySem.W.fnOf "tree_fewest" "tree_fewest" (defArgs s_tree_fewest) (defBody s_tree_fewest) (defScope s_tree_fewest) .none kV31 dc31 pm31 an31 cd31 ct31) | 32 => (PySem.W.fnOf "tree_choices" "tree_choices" (defArgs s_tree_choices) (defBody s_tree_choices) (defScope s_tree_choices) .none kV32 dc32 pm32 an32 cd32 ct32) | 33 => (PySem.W.fnOf "choice_by" "choice_by" (defArgs s_choice_by) (defBody s_choice_by) (defScope s_choice_by) .none kV33 dc33 pm33 an33 cd33 ct33) | 34 => (PySem.W.fnOf "is_choice" "is_choice" (defArgs s_is_choice) (defBody s_is_choice) (defScope s_is_choice) .none kV34 dc34 pm34 an34 cd34 ct34) | 35 => (PySem.W.fnOf "choice_number" "choice_number" (defArgs s_choice_number) (defBody s_choice_number) (defScope s_choice_number) .none kV35 dc35 pm35 an35 cd35 ct35) | 37 => (PySem.W.fnOf "_law_cells" "_law_cells" (defArgs s_law_cells) (defBody s_law_cells) (defScope s_law_cells) .none kV37 dc37 pm37 an37 cd37 ct37) | 38 => (PySem.W.fnOf "_law_pool" "_law_pool" (defArgs s_law_pool) (defBody s_law_pool) (defScope s_law_pool) .none kV38 dc38 pm38 an38 cd38 ct38) | 39 => (PySem.W.fnOf "_law_take" "_law_take" (defArgs s_law_take) (defBody s_law_take) (defScope s_law_take) .none kV39 dc39 pm39 an39 cd39 ct39) | 40 => (PySem.W.fnOf "_law_some" "_law_some" (defArgs s_law_some) (defBody s_law_some) (defScope s_law_some) .none kV40 dc40 pm40 an40 cd40 ct40) | 41 => (PySem.W.fnOf "_law_named" "_law_named" (defArgs s_law_named) (defBody s_law_named) (defScope s_law_named) .none kV41 dc41 pm41 an41 cd41 ct41) | 42 => (PySem.W.fnOf "_law_tree" "_law_tree" (defArgs s_law_tree) (defBody s_law_tree) (defScope s_law_tree) .none kV42 dc42 pm42 an42 cd42 ct42) | 43 => (PySem.W.fnOf "_law_whole" "_law_whole" (defArgs s_law_whole) (defBody s_law_whole) (defScope s_law_whole) .none kV43 dc43 pm43 an43 cd43 ct43) | 44 => (PySem.W.fnOf "_law_numbers" "_law_numbers" (defArgs s_law_numbers) (defBody s_law_numbers) (defScope s_law_numbers) .none kV44 dc44 pm44 an44 cd44 ct44) | 45 => (PySem.W.fnOf "_law_is_choice" "_law_is_choice" (defArgs s_law_is_choice) (defBody s_law_is_choice) (defScope s_law_is_choice) .none kV45 dc45 pm45 an45 cd45 ct45) | 46 => (PySem.W.fnOf "_law_right" "_law_right" (defArgs s_law_right) (defBody s_law_right) (defScope s_law_right) .none kV46 dc46 pm46 an46 cd46 ct46) | 47 => (PySem.W.fnOf "law" "law" (defArgs s_law) (defBody s_law) (defScope s_law) .none kV47 dc47 pm47 an47 cd47 ct47) | _ => (PySem.W.fnOf "law" "law" (defArgs s_law) (defBody s_law) (defScope s_law) .none kV47 dc47 pm47 an47 cd47 ct47)
  have T : Tx K mg A FD := {
    d8 := dn_mk (st := s_near_lists) (ps := ["web"]) X G a8 l8 c8 k8 fun _ _ _ _ _ _ us hl => match us, hl with | [_], _ => rfl
    d9 := dn_mk (st := s_place_asked) (ps := ["web", "place"]) X G a9 l9 c9 k9 fun _ _ _ _ _ _ us hl => match us, hl with | [_, _], _ => rfl
    d10 := dn_mk (st := s_neighbours_of) (ps := ["web", "place"]) X G a10 l10 c10 k10 fun _ _ _ _ _ _ us hl => match us, hl with | [_, _], _ => rfl
    d12 := dn_mk (st := s_is_tree) (ps := ["web"]) X G a12 l12 c12 k12 fun _ _ _ _ _ _ us hl => match us, hl with | [_], _ => rfl
    d13 := dn_mk (st := s_tree_asked) (ps := ["web"]) X G a13 l13 c13 k13 fun _ _ _ _ _ _ us hl => match us, hl with | [_], _ => rfl
    d14 := dn_mk (st := s_rising_asked) (ps := ["web", "looks"]) X G a14 l14 c14 k14 fun _ _ _ _ _ _ us hl => match us, hl with | [_, _], _ => rfl
    d15 := dn_mk (st := s_all_near) (ps := ["web"]) X G a15 l15 c15 k15 fun _ _ _ _ _ _ us hl => match us, hl with | [_], _ => rfl
    d16 := dn_mk (st := s_piece_from) (ps := ["near", "place", "start"]) X G a16 l16 c16 k16 fun _ _ _ _ _ _ us hl => match us, hl with | [_, _, _], _ => rfl
    d17 := dn_mk (st := s_pieces_by) (ps := ["near", "place"]) X G a17 l17 c17 k17 fun _ _ _ _ _ _ us hl => match us, hl with | [_, _], _ => rfl
    d18 := dn_mk (st := s_looks_in) (ps := ["near", "place", "looks"]) X G a18 l18 c18 k18 fun _ _ _ _ _ _ us hl => match us, hl with | [_, _, _], _ => rfl
    d19 := dn_mk (st := s_tie_of) (ps := ["one", "other"]) X G a19 l19 c19 k19 fun _ _ _ _ _ _ us hl => match us, hl with | [_, _], _ => rfl
    d20 := dn_mk (st := s_likes_at) (ps := ["near", "place", "looks", "kind"]) X G a20 l20 c20 k20 fun _ _ _ _ _ _ us hl => match us, hl with | [_, _, _, _], _ => rfl
    d21 := dn_mk (st := s_tree_likes) (ps := ["web", "looks", "kind"]) X G a21 l21 c21 k21 fun _ _ _ _ _ _ us hl => match us, hl with | [_, _, _], _ => rfl
    d23 := dn_mk (st := s_grown_asked) (ps := ["web"]) X G a23 l23 c23 k23 fun _ _ _ _ _ _ us hl => match us, hl with | [_], _ => rfl
    d24 := dn_mk (st := s_leg_from) (ps := ["near", "end"]) X G a24 l24 c24 k24 fun _ _ _ _ _ _ us hl => match us, hl with | [_, _], _ => rfl
    d25 := dn_mk (st := s_legs_by_fork) (ps := ["near", "ends"]) X G a25 l25 c25 k25 fun _ _ _ _ _ _ us hl => match us, hl with | [_, _], _ => rfl
    d26 := dn_mk (st := s_lots_of) (ps := ["web", "kind"]) X G a26 l26 c26 k26 fun _ _ _ _ _ _ us hl => match us, hl with | [_, _], _ => rfl
    d27 := dn_mk (st := s_looks_by) (ps := ["lots"]) X G a27 l27 c27 k27 fun _ _ _ _ _ _ us hl => match us, hl with | [_], _ => rfl
    d28 := dn_mk (st := s_ways_of) (ps := ["lot", "taken", "last"]) X G a28 l28 c28 k28 fun _ _ _ _ _ _ us hl => match us, hl with | [_, _, _], _ => rfl
    d29 := dn_mk (st := s_count_with) (ps := ["lots", "taken", "last"]) X G a29 l29 c29 k29 fun _ _ _ _ _ _ us hl => match us, hl with | [_, _, _], _ => rfl
    d30 := dn_mk (st := s_places_in) (ps := ["lots"]) X G a30 l30 c30 k30 fun _ _ _ _ _ _ us hl => match us, hl with | [_], _ => rfl
    d31 := dn_mk (st := s_tree_fewest) (ps := ["web", "kind"]) X G a31 l31 c31 k31 fun _ _ _ _ _ _ us hl => match us, hl with | [_, _], _ => rfl
    d32 := dn_mk (st := s_tree_choices) (ps := ["web", "kind"]) X G a32 l32 c32 k32 fun _ _ _ _ _ _ us hl => match us, hl with | [_, _], _ => rfl
    d33 := dn_mk (st := s_choice_by) (ps := ["web", "kind", "number"]) X G a33 l33 c33 k33 fun _ _ _ _ _ _ us hl => match us, hl with | [_, _, _], _ => rfl
    d34 := dn_mk (st := s_is_choice) (ps := ["lots", "looks"]) X G a34 l34 c34 k34 fun _ _ _ _ _ _ us hl => match us, hl with | [_, _], _ => rfl
    d35 := dn_mk (st := s_choice_number) (ps := ["web", "kind", "looks"]) X G a35 l35 c35 k35 fun _ _ _ _ _ _ us hl => match us, hl with | [_, _, _], _ => rfl
    d37 := dn_mk (st := s_law_cells) (ps := ["script", "many"]) X G a37 l37 c37 k37 fun _ _ _ _ _ _ us hl => match us, hl with | [_, _], _ => rfl
    d38 := dn_mk (st := s_law_pool) (ps := ["cells", "k"]) X G a38 l38 c38 k38 fun _ _ _ _ _ _ us hl => match us, hl with | [_, _], _ => rfl
    d39 := dn_mk (st := s_law_take) (ps := ["pool", "many"]) X G a39 l39 c39 k39 fun _ _ _ _ _ _ us hl => match us, hl with | [_, _], _ => rfl
    d40 := dn_mk (st := s_law_some) (ps := ["pool", "menu", "many"]) X G a40 l40 c40 k40 fun _ _ _ _ _ _ us hl => match us, hl with | [_, _, _], _ => rfl
    d41 := dn_mk (st := s_law_named) (ps := ["pool", "many", "ties"]) X G a41 l41 c41 k41 fun _ _ _ _ _ _ us hl => match us, hl with | [_, _, _], _ => rfl
    d42 := dn_mk (st := s_law_tree) (ps := ["pool", "most"]) X G a42 l42 c42 k42 fun _ _ _ _ _ _ us hl => match us, hl with | [_, _], _ => rfl
    d43 := dn_mk (st := s_law_whole) (ps := ["thing"]) X G a43 l43 c43 k43 fun _ _ _ _ _ _ us hl => match us, hl with | [_], _ => rfl
    d44 := dn_mk (st := s_law_numbers) (ps := ["pool", "count"]) X G a44 l44 c44 k44 fun _ _ _ _ _ _ us hl => match us, hl with | [_, _], _ => rfl
    d45 := dn_mk (st := s_law_is_choice) (ps := ["web", "kind", "looks"]) X G a45 l45 c45 k45 fun _ _ _ _ _ _ us hl => match us, hl with | [_, _, _], _ => rfl
    d46 := dn_mk (st := s_law_right) (ps := ["pool", "web", "kind"]) X G a46 l46 c46 k46 fun _ _ _ _ _ _ us hl => match us, hl with | [_, _, _], _ => rfl
    d47 := dn_mk (st := s_law) (ps := ["script"]) X G a47 l47 c47 k47 fun _ _ _ _ _ _ us hl => match us, hl with | [_], _ => rfl
    n_abs := PySem.W.mg_none_of X G z_abs
    n_all := PySem.W.mg_none_of X G z_all
    n_bool := PySem.W.mg_none_of X G z_bool
    n_enumerate := PySem.W.mg_none_of X G z_enumerate
    n_int := PySem.W.mg_none_of X G z_int
    n_isinstance := PySem.W.mg_none_of X G z_isinstance
    n_len := PySem.W.mg_none_of X G z_len
    n_list := PySem.W.mg_none_of X G z_list
    n_max := PySem.W.mg_none_of X G z_max
    n_min := PySem.W.mg_none_of X G z_min
    n_range := PySem.W.mg_none_of X G z_range
    n_set := PySem.W.mg_none_of X G z_set
    n_sorted := PySem.W.mg_none_of X G z_sorted
    n_sum := PySem.W.mg_none_of X G z_sum
    n_tuple := PySem.W.mg_none_of X G z_tuple
    n_zip := PySem.W.mg_none_of X G z_zip }
  exact ⟨(PySem.W.fnOf "law" "law" (defArgs s_law) (defBody s_law) (defScope s_law) .none kV47 dc47 pm47 an47 cd47 ct47), fun s v => .of_eq rfl, fun base _ _ => ok_law (A := A) (FD := FD) T⟩
theorem walk {l : PySem.W.OpenLaw} {q : Program} {loose : List Str} {XP : (Str → Option Value) → Heap → Prop} {YP : World → Heap → Prop} {d : DefRec} {K : Params → PySem.W.Frag} (hn : l.most = some 63) (hdf : d.params.defaults = [])
    (hY : ∀ (w : World) (h : Heap), YP w h → (K w.params).In h)
    (F : ∀ (w : World) (mg : Str → Option Value) (fa : Addr) (h : Heap), (K w.params).In h → h.Ns mainGlobals mg → mg d.name = some (.ref fa) →
      ∃ fd : FuncData, (∀ (s : Shared) (u : Value), BindsTo s fd ⟨[u], []⟩ [("script", u)]) ∧ ∀ base : Heap, (K w.params).In base → base.Ns mainGlobals mg → FnOk l.prog w (K w.params) mg base CX0 8 fa fd ["script"] (sp_law (K w.params))) :
    PySem.W.WalkO q loose XP YP l.row.toRowW d [] (fun f vs => PySem.call f vs) :=
  L2.walk_of (n := 63) (k := 8) (x := "script") (CX := fun _ => CX0) (sp := fun w => sp_law (K w.params)) hn (by decide) hdf ⟨rfl, by decide, by decide⟩ hY F
    (fun _ H a ns hl _ hS => ⟨H, [], .ref a, ⟨ns⟩, rfl, ⟨Same.refl _, (fun _ z => nomatch z), List.Pairwise.nil, (fun _ z => nomatch z)⟩, ⟨a, rfl, hS⟩, by rw [law_true ns hl]; exact fun v F2 H2 w s r => r⟩) fun _ _ _ _ _ z => z
end G
open PySem PySem.W PyProof.Rows
set_option maxRecDepth 100000 in
set_option maxHeartbeats 0 in
theorem PySem.Challenge.cw_farhail_k27_whole_numbered_in_order_holds : PySem.Challenge.rw_farhail_k27_whole_numbered_in_order.Holds := by
  w_on; o_law; k_head; (case hw => w_witness2)
  k_fill
  refine G.walk (l := PySem.Challenge.rw_farhail_k27_whole_numbered_in_order) rfl rfl (fun w h Y => PySem.W.kIn_of Y) ?F
  case F =>
    intro w mg fa h KX Gn hmg
    refine' G.all_mk KX Gn hmg ?a8 ?l8 ?c8 ?k8 ?a9 ?l9 ?c9 ?k9 ?a10 ?l10 ?c10 ?k10 ?a12 ?l12 ?c12 ?k12 ?a13 ?l13 ?c13 ?k13 ?a14 ?l14 ?c14 ?k14 ?a15 ?l15 ?c15 ?k15 ?a16 ?l16 ?c16 ?k16 ?a17 ?l17 ?c17 ?k17 ?a18 ?l18 ?c18 ?k18 ?a19 ?l19 ?c19 ?k19 ?a20 ?l20 ?c20 ?k20 ?a21 ?l21 ?c21 ?k21 ?a23 ?l23 ?c23 ?k23 ?a24 ?l24 ?c24 ?k24 ?a25 ?l25 ?c25 ?k25 ?a26 ?l26 ?c26 ?k26 ?a27 ?l27 ?c27 ?k27 ?a28 ?l28 ?c28 ?k28 ?a29 ?l29 ?c29 ?k29 ?a30 ?l30 ?c30 ?k30 ?a31 ?l31 ?c31 ?k31 ?a32 ?l32 ?c32 ?k32 ?a33 ?l33 ?c33 ?k33 ?a34 ?l34 ?c34 ?k34 ?a35 ?l35 ?c35 ?k35 ?a37 ?l37 ?c37 ?k37 ?a38 ?l38 ?c38 ?k38 ?a39 ?l39 ?c39 ?k39 ?a40 ?l40 ?c40 ?k40 ?a41 ?l41 ?c41 ?k41 ?a42 ?l42 ?c42 ?k42 ?a43 ?l43 ?c43 ?k43 ?a44 ?l44 ?c44 ?k44 ?a45 ?l45 ?c45 ?k45 ?a46 ?l46 ?c46 ?k46 ?a47 ?l47 ?c47 ?k47 ?z_abs ?z_all ?z_bool ?z_enumerate ?z_int ?z_isinstance ?z_len ?z_list ?z_max ?z_min ?z_range ?z_set ?z_sorted ?z_sum ?z_tuple ?z_zip
    (case a8 => k_is); (case l8 => k_is); (case c8 => k_is); (case k8 => k_is)
    (case a9 => k_is); (case l9 => k_is); (case c9 => k_is); (case k9 => k_is)
    (case a10 => k_is); (case l10 => k_is); (case c10 => k_is); (case k10 => k_is)
    (case a12 => k_is); (case l12 => k_is); (case c12 => k_is); (case k12 => k_is)
    (case a13 => k_is); (case l13 => k_is); (case c13 => k_is); (case k13 => k_is)
    (case a14 => k_is); (case l14 => k_is); (case c14 => k_is); (case k14 => k_is)
    (case a15 => k_is); (case l15 => k_is); (case c15 => k_is); (case k15 => k_is)
    (case a16 => k_is); (case l16 => k_is); (case c16 => k_is); (case k16 => k_is)
    (case a17 => k_is); (case l17 => k_is); (case c17 => k_is); (case k17 => k_is)
    (case a18 => k_is); (case l18 => k_is); (case c18 => k_is); (case k18 => k_is)
    (case a19 => k_is); (case l19 => k_is); (case c19 => k_is); (case k19 => k_is)
    (case a20 => k_is); (case l20 => k_is); (case c20 => k_is); (case k20 => k_is)
    (case a21 => k_is); (case l21 => k_is); (case c21 => k_is); (case k21 => k_is)
    (case a23 => k_is); (case l23 => k_is); (case c23 => k_is); (case k23 => k_is)
    (case a24 => k_is); (case l24 => k_is); (case c24 => k_is); (case k24 => k_is)
    (case a25 => k_is); (case l25 => k_is); (case c25 => k_is); (case k25 => k_is)
    (case a26 => k_is); (case l26 => k_is); (case c26 => k_is); (case k26 => k_is)
    (case a27 => k_is); (case l27 => k_is); (case c27 => k_is); (case k27 => k_is)
    (case a28 => k_is); (case l28 => k_is); (case c28 => k_is); (case k28 => k_is)
    (case a29 => k_is); (case l29 => k_is); (case c29 => k_is); (case k29 => k_is)
    (case a30 => k_is); (case l30 => k_is); (case c30 => k_is); (case k30 => k_is)
    (case a31 => k_is); (case l31 => k_is); (case c31 => k_is); (case k31 => k_is)
    (case a32 => k_is); (case l32 => k_is); (case c32 => k_is); (case k32 => k_is)
    (case a33 => k_is); (case l33 => k_is); (case c33 => k_is); (case k33 => k_is)
    (case a34 => k_is); (case l34 => k_is); (case c34 => k_is); (case k34 => k_is)
    (case a35 => k_is); (case l35 => k_is); (case c35 => k_is); (case k35 => k_is)
    (case a37 => k_is); (case l37 => k_is); (case c37 => k_is); (case k37 => k_is)
    (case a38 => k_is); (case l38 => k_is); (case c38 => k_is); (case k38 => k_is)
    (case a39 => k_is); (case l39 => k_is); (case c39 => k_is); (case k39 => k_is)
    (case a40 => k_is); (case l40 => k_is); (case c40 => k_is); (case k40 => k_is)
    (case a41 => k_is); (case l41 => k_is); (case c41 => k_is); (case k41 => k_is)
    (case a42 => k_is); (case l42 => k_is); (case c42 => k_is); (case k42 => k_is)
    (case a43 => k_is); (case l43 => k_is); (case c43 => k_is); (case k43 => k_is)
    (case a44 => k_is); (case l44 => k_is); (case c44 => k_is); (case k44 => k_is)
    (case a45 => k_is); (case l45 => k_is); (case c45 => k_is); (case k45 => k_is)
    (case a46 => k_is); (case l46 => k_is); (case c46 => k_is); (case k46 => k_is)
    (case a47 => k_is); (case l47 => k_is); (case c47 => k_is); (case k47 => k_is)
    (case z_abs => k_is)
    (case z_all => k_is)
    (case z_bool => k_is)
    (case z_enumerate => k_is)
    (case z_int => k_is)
    (case z_isinstance => k_is)
    (case z_len => k_is)
    (case z_list => k_is)
    (case z_max => k_is)
    (case z_min => k_is)
    (case z_range => k_is)
    (case z_set => k_is)
    (case z_sorted => k_is)
    (case z_sum => k_is)
    (case z_tuple => k_is)
    (case z_zip => k_is)
#print axioms PySem.Challenge.cw_farhail_k27_whole_numbered_in_order_holds
