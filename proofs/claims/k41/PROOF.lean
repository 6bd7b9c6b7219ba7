import PyProof.Rows.All
import Wide.All
import OpenK.AllK
import Wide.FinOn
import HandS.ForMost
import HandS.Wide
import HandS.Walk
import HandS.Deep
import HandS.SortInts
import HandS.Flow
import HandS.IsInst
import PyProof.P3In
import HandS.TupSets
import HandS.Dict
import HandS.Conv
import HandS.SortRule
import KE.KIsAll
import HandS.Base
import HandS.Call
import HandS.Exc
import HandS.ExcOwn
import HandS.ExcIs
import HandS.ExcValue
import HandS.TryOnly
import HandS.WordsExc
import HandS.TupAny
import HandS.DictTup
import KE.KDictWalk
import HandS.SetFor
import HandS.Strs
import HandS.More
import HandS.Iter
import KE.IntBitsLaws
import PyProof.AutoSeq1
import PyProof.DictMoreH
import HandS.SetKeys
import PySem.Challenge.RW_farhail_k41_whole_floors_below_the_fewes
set_option Elab.async false
set_option linter.all false
set_option maxRecDepth 100000
set_option maxHeartbeats 4000000
/-! Z0: results with refusals, data as it stands in a heap, the heap in a frozen part and cells of one's own -/
namespace Z
open PySem L2

abbrev Fg := PySem.W.Frag

/-! ### results -/
structure Exn where
  cls : Str
  arg : Int
  deriving DecidableEq

inductive R (α : Type) where
  | ok (a : α)
  | exc (e : Exn)
  | bad

def R.bind {α β : Type} (m : R α) (f : α → R β) : R β :=
  match m with
  | .ok a => f a
  | .exc e => .exc e
  | .bad => .bad
instance : Monad R where
  pure := R.ok
  bind := R.bind
section
variable {α β γ : Type}
theorem ok_bind (a : α) (f : α → R β) : (R.ok a >>= f) = f a := rfl
theorem pure_bind' (a : α) (f : α → R β) : ((pure a : R α) >>= f) = f a := rfl
theorem exc_bind (e : Exn) (f : α → R β) : ((R.exc e : R α) >>= f) = R.exc e := rfl
theorem bad_bind (f : α → R β) : ((R.bad : R α) >>= f) = R.bad := rfl
theorem pure_ok (a : α) : (pure a : R α) = R.ok a := rfl
theorem bind_bind (m : R α) (f : α → R β) (g : β → R γ) : ((m >>= f) >>= g) = (m >>= fun a => f a >>= g) := by
  cases m <;> rfl
theorem bind_ok_iff {m : R α} {f : α → R β} {b : β} : (m >>= f) = R.ok b ↔ ∃ a, m = R.ok a ∧ f a = R.ok b := by
  cases m with
  | ok a => exact ⟨fun h => ⟨a, rfl, h⟩, fun ⟨_, h1, h2⟩ => by cases h1; exact h2⟩
  | exc e => exact ⟨fun h => (nomatch (show R.exc e = R.ok b from h)), fun ⟨_, h1, _⟩ => nomatch h1⟩
  | bad => exact ⟨fun h => (nomatch (show R.bad = R.ok b from h)), fun ⟨_, h1, _⟩ => nomatch h1⟩
def grd (b : Bool) : R Unit := if b = true then .ok () else .bad
theorem grd_t {b : Bool} (h : b = true) : grd b = R.ok () := by rw [h]; rfl
def ofO (o : Option α) : R α :=
  match o with
  | some a => .ok a
  | none => .bad
theorem ofO_some (a : α) : ofO (some a) = R.ok a := rfl
/-- the item at an index of any sign -/
def getI (xs : List α) (i : Int) : R α := ofO (atI xs i)
/-- the list with another item at an index -/
def setI (xs : List α) (i : Int) (x : α) : R (List α) :=
  match ixN xs.length i with
  | some j => .ok (xs.set j x)
  | none => .bad
/-- a list of at most a thousand items grows by one -/
def app (xs : List α) (x : α) : R (List α) := if xs.length < 100000 then .ok (xs ++ [x]) else .bad
def extend (xs ys : List α) : R (List α) := if xs.length + ys.length < 100000 then .ok (xs ++ ys) else .bad
@[irreducible] def mulI (i j : Int) : R Int := if (-(2 ^ 64) < i ∧ i < 2 ^ 64) ∨ (-(2 ^ 64) < j ∧ j < 2 ^ 64) then .ok (i * j) else .bad
@[irreducible] def modI (i j : Int) : R Int := if 0 < j then .ok (i % j) else .bad
@[irreducible] def divI (i j : Int) : R Int := if 0 < j ∧ j.natAbs.log2 < 9000 then .ok (i / j) else .bad
@[irreducible] def powI (i j : Int) : R Int := if 0 ≤ j ∧ j ≤ 1000000 ∧ i.natAbs < 2 ^ 64 then .ok (i ^ j.toNat) else .bad
/-- the ints from i on below j -/
def rng (i j : Int) : List Int := (List.range (j - i).toNat).map fun (k : Nat) => i + (k : Int)
@[irreducible] def rngI (i j : Int) : R (List Int) := if -(2 ^ 62) ≤ i ∧ i < 2 ^ 62 ∧ -(2 ^ 62) ≤ j ∧ j < 2 ^ 62 then .ok (rng i j) else .bad
/-- items for items -/
def mapR (f : α → R β) : List α → R (List β)
  | [] => .ok []
  | x :: xs => do
    let y ← f x
    let ys ← mapR f xs
    pure (y :: ys)
/-- a fold whose turn may leave -/
def foldR (f : β → α → R β) : β → List α → R β
  | s, [] => .ok s
  | s, x :: xs => f s x >>= fun s' => foldR f s' xs
/-- a fold whose turn may end the whole with a value (inl), or the loop alone (inr inl) -/
def foldX {ρ : Type} (f : β → α → R (Sum ρ (Bool × β))) : β → List α → R (Sum ρ β)
  | s, [] => .ok (.inr s)
  | s, x :: xs => f s x >>= fun r =>
    match r with
    | .inl z => .ok (.inl z)
    | .inr (true, s') => foldX f s' xs
    | .inr (false, s') => .ok (.inr s')
/-- what holds of a result -/
def Post (m : R α) (P : α → Prop) (E : Exn → Prop) : Prop :=
  match m with
  | .ok a => P a
  | .exc e => E e
  | .bad => False
variable {P P' : α → Prop} {Q : β → Prop} {E E' : Exn → Prop}
theorem Post.mono {m : R α} (h : Post m P E) (hP : ∀ a, P a → P' a) (hE : ∀ e, E e → E' e) : Post m P' E' := by
  cases m with
  | ok a => exact hP a h
  | exc e => exact hE e h
  | bad => exact h
theorem post_bind {m : R α} {f : α → R β} (h : Post (m >>= f) Q E) : Post m (fun a => Post (f a) Q E) E := by
  cases m <;> exact h
theorem post_ok {a : α} (h : Post (R.ok a) P E) : P a := h
theorem pb_ok {a : α} {f : α → R β} (h : Post (R.ok a >>= f) Q E) : Post (f a) Q E := h
theorem pb_pure {a : α} {f : α → R β} (h : Post ((pure a : R α) >>= f) Q E) : Post (f a) Q E := h
theorem pb_assoc {m : R α} {f : α → R β} {g : β → R γ} {Q : γ → Prop} (h : Post ((m >>= f) >>= g) Q E) : Post (m >>= fun a => f a >>= g) Q E := by
  rw [bind_bind] at h
  exact h
theorem pb_grd {b : Bool} {f : Unit → R β} (h : Post (grd b >>= f) Q E) : b = true ∧ Post (f ()) Q E := by
  cases b with
  | true => exact ⟨rfl, h⟩
  | false => exact (show False from h).elim
theorem pb_ofO {o : Option α} {f : α → R β} (h : Post (ofO o >>= f) Q E) : ∃ a, o = some a ∧ Post (f a) Q E := by
  cases o with
  | some a => exact ⟨a, rfl, h⟩
  | none => exact (show False from h).elim
theorem pb_get {xs : List α} {i : Int} {f : α → R β} (h : Post (getI xs i >>= f) Q E) : ∃ a, atI xs i = some a ∧ Post (f a) Q E := pb_ofO h
theorem pb_set {xs : List α} {i : Int} {x : α} {f : List α → R β} (h : Post (setI xs i x >>= f) Q E) : ∃ j, ixN xs.length i = some j ∧ Post (f (xs.set j x)) Q E := by
  unfold setI at h
  cases e : ixN xs.length i with
  | some j => rw [e] at h; exact ⟨j, rfl, h⟩
  | none => rw [e] at h; exact (show False from h).elim
theorem pb_if {c : Prop} [Decidable c] {a : α} {f : α → R β} (h : Post ((if c then R.ok a else R.bad) >>= f) Q E) : c ∧ Post (f a) Q E := by
  by_cases hc : c
  · rw [if_pos hc] at h
    exact ⟨hc, h⟩
  · rw [if_neg hc] at h
    exact (show False from h).elim
theorem line5 : 100000 ≤ sizeLine := by decide
theorem pb_app {xs : List α} {x : α} {f : List α → R β} (h : Post (app xs x >>= f) Q E) : xs.length < sizeLine ∧ Post (f (xs ++ [x])) Q E :=
  let ⟨a, b⟩ := pb_if h
  ⟨Nat.lt_of_lt_of_le a line5, b⟩
theorem pb_extend {xs ys : List α} {f : List α → R β} (h : Post (extend xs ys >>= f) Q E) : xs.length + ys.length ≤ sizeLine ∧ Post (f (xs ++ ys)) Q E :=
  let ⟨a, b⟩ := pb_if h
  ⟨Nat.le_of_lt (Nat.lt_of_lt_of_le a line5), b⟩
theorem pb_mul {i j : Int} {f : Int → R β} (h : Post (mulI i j >>= f) Q E) : CMul i j ∧ Post (f (i * j)) Q E := by
  unfold mulI at h
  exact let ⟨a, b⟩ := pb_if (c := (-(2 ^ 64) < i ∧ i < 2 ^ 64) ∨ (-(2 ^ 64) < j ∧ j < 2 ^ 64)) h
  ⟨a, b⟩
theorem pb_mod {i j : Int} {f : Int → R β} (h : Post (modI i j >>= f) Q E) : 0 < j ∧ Post (f (i % j)) Q E := by
  unfold modI at h
  exact pb_if h
theorem pb_div {i j : Int} {f : Int → R β} (h : Post (divI i j >>= f) Q E) : CDivW i j ∧ Post (f (i / j)) Q E := by
  unfold divI at h
  exact let ⟨a, b⟩ := pb_if (c := 0 < j ∧ j.natAbs.log2 < 9000) h
  ⟨a, b⟩
theorem pb_pow {i j : Int} {f : Int → R β} (h : Post (powI i j >>= f) Q E) : CPow i j ∧ Post (f (i ^ j.toNat)) Q E := by
  unfold powI at h
  exact let ⟨a, b⟩ := pb_if (c := 0 ≤ j ∧ j ≤ 1000000 ∧ i.natAbs < 2 ^ 64) h
  ⟨a, b⟩
theorem pb_rng {i j : Int} {f : List Int → R β} (h : Post (rngI i j >>= f) Q E) : (-(2 ^ 62) ≤ i ∧ i < 2 ^ 62 ∧ -(2 ^ 62) ≤ j ∧ j < 2 ^ 62) ∧ Post (f (rng i j)) Q E := by
  unfold rngI at h
  exact pb_if h
theorem post_ite {c : Bool} {m n : R α} {A B : Prop} (h : Post (if c = true then m else n) P E) (ht : c = true → Post m P E → A) (hf : c = false → Post n P E → B) : if c = true then A else B := by
  cases c with
  | true => exact ht rfl h
  | false => exact hf rfl h
theorem post_ite2 {c : Bool} {m n : R α} {A : Prop} (h : Post (if c = true then m else n) P E) (ht : c = true → Post m P E → A) (hf : c = false → Post n P E → A) : A := by
  cases c with
  | true => exact ht rfl h
  | false => exact hf rfl h
theorem pb_ite {c : Bool} {m n : R α} {f : α → R β} (h : Post ((if c = true then m else n) >>= f) Q E) : Post (if c = true then m >>= f else n >>= f) Q E := by
  cases c <;> exact h
theorem pb_foldR {f : γ → α → R γ} {s : γ} {x : α} {xs : List α} {g : γ → R β} (h : Post (foldR f s (x :: xs) >>= g) Q E) : Post (f s x >>= fun s' => foldR f s' xs >>= g) Q E := by
  have h' : Post ((f s x >>= fun s' => foldR f s' xs) >>= g) Q E := h
  rw [bind_bind] at h'
  exact h'
end

/-! ### lists of values and what they stand for -/
inductive A2 {α : Type} (r : V → α → Prop) : List V → List α → Prop
  | nil : A2 r [] []
  | cons {v : V} {x : α} {vs : List V} {xs : List α} : r v x → A2 r vs xs → A2 r (v :: vs) (x :: xs)
section
variable {α : Type} {r r' : V → α → Prop} {vs us : List V} {xs ys : List α} {v : V} {x : α}
theorem A2.length : ∀ {vs : List V} {xs : List α}, A2 r vs xs → vs.length = xs.length
  | _, _, .nil => rfl
  | _, _, .cons _ t => by rw [List.length_cons, List.length_cons, A2.length t]
theorem A2.imp (f : ∀ v x, r v x → r' v x) : ∀ {vs : List V} {xs : List α}, A2 r vs xs → A2 r' vs xs
  | _, _, .nil => .nil
  | _, _, .cons h t => .cons (f _ _ h) (A2.imp f t)
theorem A2.append : ∀ {vs us : List V} {xs ys : List α}, A2 r vs xs → A2 r us ys → A2 r (vs ++ us) (xs ++ ys)
  | _, _, _, _, .nil, h => h
  | _, _, _, _, .cons a t, h => .cons a (A2.append t h)
theorem A2.snoc (h : A2 r vs xs) (a : r v x) : A2 r (vs ++ [v]) (xs ++ [x]) := h.append (.cons a .nil)
theorem A2.get : ∀ {vs : List V} {xs : List α} {i : Nat} {x : α}, A2 r vs xs → xs[i]? = some x → ∃ v, vs[i]? = some v ∧ r v x
  | _, _, _, _, .nil, e => by simp at e
  | _, _, 0, _, .cons a _, e => by simp at e; subst e; exact ⟨_, rfl, a⟩
  | _, _, i + 1, x, .cons _ t, e => by
    obtain ⟨v, h1, h2⟩ := A2.get (i := i) (x := x) t (by simpa using e)
    exact ⟨v, by simpa using h1, h2⟩
theorem A2.getV : ∀ {vs : List V} {xs : List α} {i : Nat} {v : V}, A2 r vs xs → vs[i]? = some v → ∃ x, xs[i]? = some x ∧ r v x
  | _, _, _, _, .nil, e => by simp at e
  | _, _, 0, _, .cons a _, e => by simp at e; subst e; exact ⟨_, rfl, a⟩
  | _, _, i + 1, x, .cons _ t, e => by
    obtain ⟨v, h1, h2⟩ := A2.getV (i := i) (v := x) t (by simpa using e)
    exact ⟨v, by simpa using h1, h2⟩
theorem A2.at {i : Int} (h : A2 r vs xs) (e : atI xs i = some x) : ∃ v, atI vs i = some v ∧ r v x := by
  unfold atI at e ⊢
  rw [h.length]
  cases q : ixN xs.length i with
  | none => rw [q] at e; cases e
  | some j =>
    rw [q] at e
    exact h.get e
theorem A2.set (a : r v x) : ∀ {vs : List V} {xs : List α} (i : Nat), A2 r vs xs → A2 r (vs.set i v) (xs.set i x)
  | _, _, _, .nil => .nil
  | _, _, 0, .cons _ t => .cons a t
  | _, _, i + 1, .cons q t => .cons q (A2.set a i t)
theorem A2.take : ∀ {vs : List V} {xs : List α} (n : Nat), A2 r vs xs → A2 r (vs.take n) (xs.take n)
  | _, _, 0, _ => .nil
  | _, _, _ + 1, .nil => .nil
  | _, _, n + 1, .cons a t => .cons a (A2.take n t)
theorem A2.drop : ∀ {vs : List V} {xs : List α} (n : Nat), A2 r vs xs → A2 r (vs.drop n) (xs.drop n)
  | _, _, 0, h => h
  | _, _, _ + 1, .nil => .nil
  | _, _, n + 1, .cons _ t => A2.drop n t
theorem A2.reverse : ∀ {vs : List V} {xs : List α}, A2 r vs xs → A2 r vs.reverse xs.reverse
  | _, _, .nil => .nil
  | _, _, .cons a t => by
    rw [List.reverse_cons, List.reverse_cons]
    exact (A2.reverse t).snoc a
theorem A2.eraseIdx : ∀ {vs : List V} {xs : List α} (i : Nat), A2 r vs xs → A2 r (vs.eraseIdx i) (xs.eraseIdx i)
  | _, _, _, .nil => .nil
  | _, _, 0, .cons _ t => t
  | _, _, i + 1, .cons a t => .cons a (A2.eraseIdx i t)
theorem A2.dropLast : ∀ {vs : List V} {xs : List α}, A2 r vs xs → A2 r vs.dropLast xs.dropLast
  | _, _, .nil => .nil
  | _, _, .cons _ .nil => .nil
  | _, _, .cons a (.cons b t) => .cons a (A2.dropLast (.cons b t))
theorem A2.repl {n : Nat} (a : r v x) : A2 r (List.replicate n v) (List.replicate n x) := by
  induction n with
  | zero => exact .nil
  | succ n ih => exact .cons a ih
end

/-! ### data in a heap -/
theorem Same.seqT {K : Fg} {H H' : Hp} {a : Addr} {xs : List V} (e : Same H H') (h : SqT K H a xs) : SqT K H' a xs := by
  rcases h with (h | ⟨o, h⟩) | h
  · exact .inl (.inl (e _ _ h))
  · exact .inl (.inr ⟨o, e _ _ h⟩)
  · exact .inr h
class Rep (α : Type) where
  rep : Fg → Hp → V → α → Prop
  mono : ∀ {K : Fg} {H H' : Hp} {v : V} {x : α}, Same H H' → rep K H v x → rep K H' v x
open Rep (rep)
section
variable {α β : Type} [Rep α] [Rep β] {K : Fg} {H H' : Hp} {v : V}
theorem A2.mono {vs : List V} {xs : List α} (s : Same H H') (h : A2 (rep K H) vs xs) : A2 (rep K H') vs xs := h.imp fun _ _ => Rep.mono s
instance : Rep Int := ⟨fun _ _ v x => v = .int x, fun _ h => h⟩
instance : Rep Bool := ⟨fun _ _ v x => v = .bl x, fun _ h => h⟩
instance : Rep Unit := ⟨fun _ _ v _ => v = .non, fun _ h => h⟩
instance : Rep Str := ⟨fun _ _ v x => v = .str x, fun _ h => h⟩
instance repOpt : Rep (Option α) := ⟨fun K H v x => match x with
  | none => v = .non
  | some y => rep K H v y, fun {_ _ _ _ x} s h => by
    cases x with
    | none => exact h
    | some y => exact Rep.mono (α := α) s h⟩
instance repPair : Rep (α × β) := ⟨fun K H v x => ∃ a u w, v = .ref a ∧ H a = some (.tup [u, w]) ∧ rep K H u x.1 ∧ rep K H w x.2,
  fun s ⟨a, u, w, e, q, h1, h2⟩ => ⟨a, u, w, e, s _ _ q, Rep.mono s h1, Rep.mono s h2⟩⟩
instance repList : Rep (List α) := ⟨fun K H v xs => ∃ a vs, v = .ref a ∧ H a = some (.lst vs) ∧ A2 (rep K H) vs xs,
  fun s ⟨a, vs, e, q, h⟩ => ⟨a, vs, e, s _ _ q, h.mono s⟩⟩
/-- the script -/
structure Scr where
  l : List Int
  deriving DecidableEq
instance repScr : Rep Scr := ⟨fun K H v xs => ∃ a, v = .ref a ∧ SqL K H a (xs.l.map V.int), fun s ⟨a, e, q⟩ => ⟨a, e, s.seq q⟩⟩
/-- a tuple of any number of like things -/
structure Tup (α : Type) where
  l : List α
  deriving DecidableEq
instance repTup : Rep (Tup α) := ⟨fun K H v xs => ∃ a vs, v = .ref a ∧ H a = some (.tup vs) ∧ A2 (rep K H) vs xs.l,
  fun s ⟨a, vs, e, q, h⟩ => ⟨a, vs, e, s _ _ q, h.mono s⟩⟩
/-- a place, or a pair -/
inductive Thing where
  | pl (i : Int)
  | ti (a b : Int)
  deriving DecidableEq
instance repThing : Rep Thing := ⟨fun K H v x => match x with
  | .pl i => v = .int i
  | .ti a b => rep K H v (a, b), fun {_ _ _ _ x} s h => by
    cases x with
    | pl i => exact h
    | ti a b => exact Rep.mono (α := Int × Int) s h⟩
theorem A2.ints {vs : List V} {xs : List Int} (h : A2 (rep K H) vs xs) : vs = xs.map V.int := by
  induction h with
  | nil => rfl
  | cons a _ ih =>
    have a' : _ = V.int _ := a
    rw [a', ih]
    rfl
theorem A2.of_ints {xs : List Int} : A2 (rep K H) (xs.map V.int) xs := by
  induction xs with
  | nil => exact .nil
  | cons x xs ih => exact .cons rfl ih
theorem A2.bools {vs : List V} {xs : List Bool} (h : A2 (rep K H) vs xs) : vs = xs.map V.bl := by
  induction h with
  | nil => rfl
  | cons a _ ih =>
    have a' : _ = V.bl _ := a
    rw [a', ih]
    rfl
end

/-! ### the heap: F, frozen, is read alone; the cells os are one's own, not in F -/
structure W (F H : Hp) (os : List (Addr × HO)) : Prop where
  same : Same F H
  own : ∀ p ∈ os, H p.1 = some p.2 ∧ F p.1 = none
  nd : os.Pairwise fun p q => p.1 ≠ q.1
  nt : ∀ p ∈ os, ∀ vs, p.2 ≠ .tup vs
theorem same_new {H : Hp} {p : Addr} {o : HO} (h : H p = none) : Same H (upd H p o) := fun a u e => by
  rw [upd_ne (ne_of_none e h)]
  exact e
section
variable {F H : Hp} {os pre post : List (Addr × HO)} {a p : Addr} {o o' : HO}
theorem W.free (w : W F H os) (n : H p = none) : F p = none := w.same.free n
theorem W.get (w : W F H (pre ++ (a, o) :: post)) : H a = some o := (w.own (a, o) (List.mem_append_right _ List.mem_cons_self)).1
theorem W.no (w : W F H (pre ++ (a, o) :: post)) : F a = none := (w.own (a, o) (List.mem_append_right _ List.mem_cons_self)).2
theorem W.ne (w : W F H os) (n : H p = none) : ∀ q ∈ os, q.1 ≠ p := fun q hq e => by
  have h := (w.own q hq).1
  rw [e, n] at h
  cases h
/-- a new thing, never to be written -/
theorem W.frz (w : W F H os) (n : H p = none) : W (upd F p o) (upd H p o) os where
  same := fun b u e => by
    by_cases hb : b = p
    · subst hb
      rw [upd_same] at e ⊢
      exact e
    · rw [upd_ne hb] at e ⊢
      exact w.same b u e
  own := fun q hq => by
    have hne := w.ne n q hq
    rw [upd_ne hne, upd_ne hne]
    exact w.own q hq
  nd := w.nd
  nt := w.nt
theorem W.frzS (w : W F H os) (n : H p = none) : Same F (upd F p o) := same_new (w.free n)
/-- a new cell of one's own -/
theorem W.new (w : W F H os) (n : H p = none) (ho : ∀ vs, o ≠ .tup vs := by exact fun _ h => nomatch h) : W F (upd H p o) ((p, o) :: os) where
  same := w.same.trans (same_new n)
  own := fun q hq => by
    rcases List.mem_cons.mp hq with rfl | hq
    · exact ⟨upd_same, w.free n⟩
    · rw [upd_ne (w.ne n q hq)]
      exact w.own q hq
  nd := List.pairwise_cons.mpr ⟨fun q hq => fun e => w.ne n q hq e.symm, w.nd⟩
  nt := fun q hq => by
    rcases List.mem_cons.mp hq with rfl | hq
    · exact ho
    · exact w.nt q hq
/-- a cell of one's own is written -/
theorem W.set (w : W F H (pre ++ (a, o) :: post)) (ho : ∀ vs, o' ≠ .tup vs := by exact fun _ h => nomatch h) : W F (upd H a o') (pre ++ (a, o') :: post) where
  same := fun b u e => by
    have hn := w.no
    rw [upd_ne (ne_of_none e hn)]
    exact w.same b u e
  own := fun q hq => by
    have nd := w.nd
    rw [List.pairwise_append] at nd
    obtain ⟨_, n2, n3⟩ := nd
    rw [List.pairwise_cons] at n2
    rcases List.mem_append.mp hq with hq | hq
    · have hne : q.1 ≠ a := n3 q hq (a, o) List.mem_cons_self
      rw [upd_ne hne]
      exact w.own q (List.mem_append_left _ hq)
    · rcases List.mem_cons.mp hq with rfl | hq
      · exact ⟨upd_same, w.no⟩
      · have hne : q.1 ≠ a := fun e => n2.1 q hq e.symm
        rw [upd_ne hne]
        exact w.own q (List.mem_append_right _ (List.mem_cons_of_mem _ hq))
  nd := by
    have nd := w.nd
    rw [List.pairwise_append] at nd ⊢
    obtain ⟨n1, n2, n3⟩ := nd
    rw [List.pairwise_cons] at n2 ⊢
    refine ⟨n1, ⟨n2.1, n2.2⟩, fun x hx y hy => ?_⟩
    rcases List.mem_cons.mp hy with rfl | hy
    · exact n3 x hx (a, o) List.mem_cons_self
    · exact n3 x hx y (List.mem_cons_of_mem _ hy)
  nt := fun q hq => by
    rcases List.mem_append.mp hq with hq | hq
    · exact w.nt q (List.mem_append_left _ hq)
    · rcases List.mem_cons.mp hq with rfl | hq
      · exact ho
      · exact w.nt q (List.mem_append_right _ (List.mem_cons_of_mem _ hq))
/-- a cell is forgotten -/
theorem W.drop (w : W F H (pre ++ (a, o) :: post)) : W F H (pre ++ post) where
  same := w.same
  own := fun q hq => w.own q (by
    rcases List.mem_append.mp hq with h | h
    · exact List.mem_append_left _ h
    · exact List.mem_append_right _ (List.mem_cons_of_mem _ h))
  nd := by
    have nd := w.nd
    rw [List.pairwise_append] at nd ⊢
    obtain ⟨n1, n2, n3⟩ := nd
    rw [List.pairwise_cons] at n2
    exact ⟨n1, n2.2, fun x hx y hy => n3 x hx y (List.mem_cons_of_mem _ hy)⟩
  nt := fun q hq => w.nt q (by
    rcases List.mem_append.mp hq with h | h
    · exact List.mem_append_left _ h
    · exact List.mem_append_right _ (List.mem_cons_of_mem _ h))
/-- a cell of one's own is never written again -/
theorem W.freeze (w : W F H (pre ++ (a, o) :: post)) : W (upd F a o) H (pre ++ post) where
  same := fun b u e => by
    by_cases hb : b = a
    · subst hb
      rw [upd_same] at e
      rw [← e]
      exact w.get
    · rw [upd_ne hb] at e
      exact w.same b u e
  own := fun q hq => by
    have nd := w.nd
    rw [List.pairwise_append] at nd
    obtain ⟨n1, n2, n3⟩ := nd
    rw [List.pairwise_cons] at n2
    have hne : q.1 ≠ a := by
      rcases List.mem_append.mp hq with h | h
      · exact n3 q h (a, o) List.mem_cons_self
      · exact fun e => n2.1 q h e.symm
    have h := w.drop.own q hq
    rw [upd_ne hne]
    exact h
  nd := w.drop.nd
  nt := w.drop.nt
theorem W.freezeS (w : W F H (pre ++ (a, o) :: post)) : Same F (upd F a o) := same_new w.no
/-- a cell is told first -/
theorem W.front (w : W F H (pre ++ (a, o) :: post)) : W F H ((a, o) :: (pre ++ post)) where
  same := w.same
  own := fun x hx => w.own x (by
    rcases List.mem_cons.mp hx with rfl | h
    · exact List.mem_append_right _ List.mem_cons_self
    · rcases List.mem_append.mp h with h | h
      · exact List.mem_append_left _ h
      · exact List.mem_append_right _ (List.mem_cons_of_mem _ h))
  nd := by
    have nd := w.nd
    have nd' := w.drop.nd
    rw [List.pairwise_append] at nd
    obtain ⟨n1, n2, n3⟩ := nd
    rw [List.pairwise_cons] at n2
    refine List.pairwise_cons.mpr ⟨fun x hx => ?_, nd'⟩
    rcases List.mem_append.mp hx with h | h
    · exact fun e => n3 x h (a, o) List.mem_cons_self e.symm
    · exact n2.1 x h
  nt := fun x hx => w.nt x (by
    rcases List.mem_cons.mp hx with rfl | h
    · exact List.mem_append_right _ List.mem_cons_self
    · rcases List.mem_append.mp h with h | h
      · exact List.mem_append_left _ h
      · exact List.mem_append_right _ (List.mem_cons_of_mem _ h))
end

/-! ### what a call hands back -/
section
variable {α β : Type} [Rep α] [Rep β]
/-- a value of the frozen part -/
def Ret (K : Fg) (F : Hp) (os : List (Addr × HO)) (Q : VK) (y : α) : Prop := ∀ v F' H', W F' H' os → Same F F' → rep K F' v y → Q v H'
/-- a new list, the caller's own -/
def RetL (K : Fg) (F : Hp) (os : List (Addr × HO)) (Q : VK) (ys : List α) : Prop := ∀ p vs F' H', W F' H' ((p, .lst vs) :: os) → Same F F' → A2 (rep K F') vs ys → Q (.ref p) H'
/-- a value, and what the list at a holds now -/
def RetM (K : Fg) (F : Hp) (a : Addr) (os : List (Addr × HO)) (Q : VK) (y : α × List β) : Prop :=
  ∀ v vs F' H', W F' H' ((a, .lst vs) :: os) → Same F F' → rep K F' v y.1 → A2 (rep K F') vs y.2 → Q v H'
/-- a new list, the caller's own, and what the list at a holds now -/
def RetLM (K : Fg) (F : Hp) (a : Addr) (os : List (Addr × HO)) (Q : VK) (y : List α × List β) : Prop :=
  ∀ p us vs F' H', W F' H' ((p, .lst us) :: (a, .lst vs) :: os) → Same F F' → A2 (rep K F') us y.1 → A2 (rep K F') vs y.2 → Q (.ref p) H'
def noX : Exn → Prop := fun _ => False
end
end Z
/-! Z1: loops, comprehensions and joins against their mirrors; calls by typed data -/
namespace Z
open PySem L2
open Rep (rep)

/-! ### ways that join -/
section
variable {γ δ : Type} {m : R γ} {k : γ → R δ} {P : δ → Prop} {X : Exn → Prop}
theorem joinS {t u : TS} {D : Ends} {σ : St} {H : Hp} (hm : Post (m >>= k) P X) (J : γ → St → Hp → Prop)
    (h : ∀ (N : St → Hp → Prop) (P' : γ → Prop), (∀ g, P' g → ∀ σ' H', J g σ' H' → N σ' H') → Post m P' X → t { D with nx := N } σ H)
    (h2 : ∀ g σ' H', J g σ' H' → Post (k g) P X → u D σ' H') : tSeq t u D σ H :=
  h _ _ (fun g p σ' H' j => h2 g σ' H' j p) (post_bind hm)
theorem joinT {t : TT} {σ : St} {H : Hp} {Q : Bool → Hp → Prop} (hm : Post (m >>= k) P X) (J : γ → Bool → Hp → Prop)
    (h : ∀ (Q' : Bool → Hp → Prop) (P' : γ → Prop), (∀ g, P' g → ∀ c H', J g c H' → Q' c H') → Post m P' X → t σ H Q')
    (h2 : ∀ g c H', J g c H' → Post (k g) P X → Q c H') : t σ H Q :=
  h _ _ (fun g p c H' j => h2 g c H' j p) (post_bind hm)
theorem joinE {t : TE} {σ : St} {H : Hp} {Q : VK} (hm : Post (m >>= k) P X) (J : γ → V → Hp → Prop)
    (h : ∀ (Q' : VK) (P' : γ → Prop), (∀ g, P' g → ∀ c H', J g c H' → Q' c H') → Post m P' X → t σ H Q')
    (h2 : ∀ g c H', J g c H' → Post (k g) P X → Q c H') : t σ H Q :=
  h _ _ (fun g p c H' j => h2 g c H' j p) (post_bind hm)
/-- a test of a value that is told -/
theorem cutT {t : TT} {σ : St} {H : Hp} {Q : Bool → Hp → Prop} (J : Bool → Hp → Prop) (h : ∀ Q' : Bool → Hp → Prop, (∀ c H', J c H' → Q' c H') → t σ H Q') (h2 : ∀ c H', J c H' → Q c H') : t σ H Q := h _ h2
theorem cutE {t : TE} {σ : St} {H : Hp} {Q : VK} (J : V → Hp → Prop) (h : ∀ Q' : VK, (∀ c H', J c H' → Q' c H') → t σ H Q') (h2 : ∀ c H', J c H' → Q c H') : t σ H Q := h _ h2
theorem ifB {c : Bool} {A B : Prop} (h1 : c = true → A) (h2 : c = false → B) : if c = true then A else B := by
  cases c with
  | true => exact h1 rfl
  | false => exact h2 rfl
end

/-! ### what is walked, typed -/
structure TW (J : It) {β : Type} (items : List β) (G : Hp → Prop) (Y : β → Hp → V → Hp → Prop) : Prop where
  walk : Walk J items.length G (fun i H x H' => ∃ b, items[i]? = some b ∧ Y b H x H')
section
variable {K : Fg} {F : Hp} {a : Addr} {α β : Type} [Rep α] [Rep β] {vs us : List V} {xs : List α} {ys : List β}
theorem tw_list (h : A2 (rep K F) vs xs) : TW (Itl K a) xs (fun H => SqL K H a vs) (fun b H x H' => H' = H ∧ rep K F x b) := ⟨by
  rw [← h.length]
  exact walk_list.mono (fun _ g => g) fun i H x H' _ _ y => by
    obtain ⟨y1, y2⟩ := y
    obtain ⟨b, h1, h2⟩ := h.getV y2
    exact ⟨b, h1, y1, h2⟩⟩
theorem tw_tup (h : A2 (rep K F) vs xs) : TW (Itt K a) xs (fun H => SqT K H a vs) (fun b H x H' => H' = H ∧ rep K F x b) := ⟨by
  rw [← h.length]
  exact walk_tup.mono (fun _ g => g) fun i H x H' _ _ y => by
    obtain ⟨y1, y2⟩ := y
    obtain ⟨b, h1, h2⟩ := h.getV y2
    exact ⟨b, h1, y1, h2⟩⟩
theorem rng_length (i j : Int) : (rng i j).length = (j - i).toNat := by
  unfold rng
  rw [List.length_map, List.length_range]
theorem rng_get {i j : Int} {n : Nat} (h : n < (j - i).toNat) : (rng i j)[n]? = some (i + (n : Int)) := by
  unfold rng
  rw [List.getElem?_map, List.getElem?_range h]
  rfl
theorem tw_rng {i j : Int} : TW (Itr i (j - i).toNat) (rng i j) (fun _ => True) (fun b H x H' => H' = H ∧ x = .int b) := ⟨by
  rw [rng_length]
  exact walk_range.mono (fun _ g => g) fun n H x H' hn _ y => ⟨_, rng_get hn, y.1, y.2⟩⟩
theorem tw_rng0 {j : Int} : TW (Itr 0 j.toNat) (rng 0 j) (fun _ => True) (fun b H x H' => H' = H ∧ x = .int b) := by
  have h := tw_rng (i := 0) (j := j)
  rw [Int.sub_zero] at h
  exact h
/-- pairs of a place and the item there -/
def enum (xs : List α) : List (Int × α) := (rng 0 xs.length).zip xs
theorem enum_length (xs : List α) : (enum xs).length = xs.length := by
  unfold enum
  rw [List.length_zip, rng_length]
  omega
theorem enum_get {xs : List α} {i : Nat} {x : α} (h : xs[i]? = some x) : (enum xs)[i]? = some ((i : Int), x) := by
  have hl := (List.getElem?_eq_some_iff.mp h).1
  unfold enum
  rw [List.getElem?_zip_eq_some]
  refine ⟨?_, h⟩
  rw [rng_get (by omega)]
  simp
theorem tw_enum (h : A2 (rep K F) vs xs) : TW (Ite K a) (enum xs) (fun H => SqL K H a vs) (fun b H v H' => ∃ T x, v = .ref T ∧ H T = none ∧ H' = upd H T (.tup [.int b.1, x]) ∧ rep K F x b.2) := ⟨by
  rw [enum_length, ← h.length]
  exact walk_enum.mono (fun _ g => g) fun i H x H' _ _ y => by
    obtain ⟨T, u, w, e1, e2, e3, e4, e5⟩ := y
    obtain ⟨b, h1, h2⟩ := h.getV e5
    cases e4
    exact ⟨((i : Int), b), enum_get h1, T, w, e1, e2, e3, h2⟩⟩
theorem tw_zip {b : Addr} (h : A2 (rep K F) vs xs) (h' : A2 (rep K F) us ys) : TW (Itz K a b) (xs.zip ys) (fun H => SqL K H a vs ∧ SqL K H b us) (fun p H v H' => ∃ T x y, v = .ref T ∧ H T = none ∧ H' = upd H T (.tup [x, y]) ∧ rep K F x p.1 ∧ rep K F y p.2) := ⟨by
  rw [List.length_zip, ← h.length, ← h'.length]
  exact (walk_zip rfl).mono (fun _ g => g) fun i H x H' _ _ y => by
    obtain ⟨T, u, w, e1, e2, e3, e4, e5⟩ := y
    obtain ⟨c, h1, h2⟩ := h.getV e4
    obtain ⟨d, h3, h4⟩ := h'.getV e5
    refine ⟨(c, d), ?_, T, u, w, e1, e2, e3, h2, h4⟩
    rw [List.getElem?_zip_eq_some]
    exact ⟨h1, h3⟩⟩
end

/-! ### for -/
section
variable {J : It} {β γ δ ρ : Type} {items : List β} {G : Hp → Prop} {Y : β → Hp → V → Hp → Prop} {g : TG} {tb : TS} {D : Ends} {σ : St} {H : Hp} {P : δ → Prop} {X : Exn → Prop}
theorem drop_cons {l : List β} {i : Nat} {b : β} (h : l[i]? = some b) : l.drop i = b :: l.drop (i + 1) := by
  obtain ⟨hl, e⟩ := List.getElem?_eq_some_iff.mp h
  rw [List.drop_eq_getElem_cons hl, e]
theorem forS (tw : TW J items G Y) {body : γ → β → R γ} {s0 : γ} {k : γ → R δ} (hm : Post (foldR body s0 items >>= k) P X) (I : γ → St → Hp → Prop) (h0 : I s0 σ H) (hG : ∀ c σ H, I c σ H → G H)
    (hs : ∀ (b : β) (c : γ) (x : V) (σ : St) (H H' : Hp) (N : St → Hp → Prop) (P' : γ → Prop), I c σ H → Y b H x H' → (∀ c', P' c' → ∀ σ' H', I c' σ' H' → N σ' H') → Post (body c b) P' X → g x σ H' fun σ2 H2 => tb { D with nx := N, ct := N, bk := D.nx } σ2 H2)
    (hd : ∀ c σ H, I c σ H → Post (k c) P X → D.nx σ H) :
    ∃ W : Nat → Nat → St → Hp → Prop, (∃ m, W 0 m σ H) ∧ ∀ i m σ H, W i m σ H →
      (J.stop i H ∧ D.nx σ H) ∨ (J.go i H ∧ ∃ N : St → Hp → Prop, (∀ σ' H', N σ' H' → ∃ m', m' < m ∧ W (i + 1) m' σ' H') ∧ ∀ x H', J.yld i H x H' → g x σ H' fun σ2 H2 => tb { D with nx := N, ct := N, bk := D.nx } σ2 H2) := by
  refine for_it tw.walk (fun i σ H => ∃ c, I c σ H ∧ Post (foldR body c (items.drop i) >>= k) P X) ⟨s0, h0, hm⟩ (fun i σ H _ ⟨c, h, _⟩ => hG c σ H h) ?_ ?_
  · rintro i x σ H H' hi ⟨c, h, hm⟩ ⟨b, hb, y⟩
    rw [drop_cons hb] at hm
    exact hs b c x σ H H' _ _ h y (fun c' p' σ' H' h' => ⟨c', h', p'⟩) (post_bind (pb_foldR hm))
  · rintro σ H ⟨c, h, hm⟩
    rw [List.drop_length] at hm
    exact hd c σ H h hm
/-- a for that may end the whole, or itself -/
theorem forX (tw : TW J items G Y) {body : γ → β → R (Sum ρ (Bool × γ))} {s0 : γ} {k : Sum ρ γ → R δ} (hm : Post (foldX body s0 items >>= k) P X) (I : γ → St → Hp → Prop) (h0 : I s0 σ H) (hG : ∀ c σ H, I c σ H → G H)
    (hs : ∀ (b : β) (c : γ) (x : V) (σ : St) (H H' : Hp) (N B : St → Hp → Prop) (P' : Sum ρ (Bool × γ) → Prop), I c σ H → Y b H x H' → (∀ c', P' (.inr (true, c')) → ∀ σ' H', I c' σ' H' → N σ' H') → (∀ c', P' (.inr (false, c')) → ∀ σ' H', I c' σ' H' → B σ' H') →
      (∀ z, P' (.inl z) → Post (k (.inl z)) P X) → Post (body c b) P' X → g x σ H' fun σ2 H2 => tb { D with nx := N, ct := N, bk := B } σ2 H2)
    (hd : ∀ c σ H, I c σ H → Post (k (.inr c)) P X → D.nx σ H) :
    ∃ W : Nat → Nat → St → Hp → Prop, (∃ m, W 0 m σ H) ∧ ∀ i m σ H, W i m σ H →
      (J.stop i H ∧ D.nx σ H) ∨ (J.go i H ∧ ∃ N : St → Hp → Prop, (∀ σ' H', N σ' H' → ∃ m', m' < m ∧ W (i + 1) m' σ' H') ∧ ∀ x H', J.yld i H x H' → g x σ H' fun σ2 H2 => tb { D with nx := N, ct := N, bk := D.nx } σ2 H2) := by
  refine for_it tw.walk (fun i σ H => ∃ c, I c σ H ∧ Post (foldX body c (items.drop i) >>= k) P X) ⟨s0, h0, hm⟩ (fun i σ H _ ⟨c, h, _⟩ => hG c σ H h) ?_ ?_
  · rintro i x σ H H' hi ⟨c, h, hm⟩ ⟨b, hb, y⟩
    rw [drop_cons hb] at hm
    have hm' : Post ((body c b >>= fun r => match r with
      | .inl z => (R.ok (.inl z) : R (Sum ρ γ))
      | .inr (true, s') => foldX body s' (items.drop (i + 1))
      | .inr (false, s') => R.ok (.inr s')) >>= k) P X := hm
    rw [bind_bind] at hm'
    exact hs b c x σ H H' _ _ _ h y (fun c' p' σ' H' h' => ⟨c', h', p'⟩) (fun c' p' σ' H' h' => hd c' σ' H' h' p') (fun z p' => p') (post_bind hm')
  · rintro σ H ⟨c, h, hm⟩
    rw [List.drop_length] at hm
    exact hd c σ H h hm
end
/-! ### comprehensions -/
/-- items for items, of a list that is not too long -/
def mapG {α β : Type} (f : α → R β) (xs : List α) : R (List β) := grd (decide (xs.length < 100000)) >>= fun _ => mapR f xs
/-- items for some items -/
def filR {α β : Type} (f : α → R (Option β)) : List α → R (List β)
  | [] => .ok []
  | x :: xs => f x >>= fun o => filR f xs >>= fun ys => match o with
    | some y => .ok (y :: ys)
    | none => .ok ys
def filG {α β : Type} (f : α → R (Option β)) (xs : List α) : R (List β) := grd (decide (xs.length < 100000)) >>= fun _ => filR f xs
/-- items for items, by a state that turns -/
def mapSt {α β γ : Type} (f : γ → α → R (β × γ)) : γ → List α → R (List β × γ)
  | s, [] => .ok ([], s)
  | s, x :: xs => f s x >>= fun p => mapSt f p.2 xs >>= fun q => .ok (p.1 :: q.1, q.2)
def mapStG {α β γ : Type} (f : γ → α → R (β × γ)) (s : γ) (xs : List α) : R (List β × γ) := grd (decide (xs.length < 100000)) >>= fun _ => mapSt f s xs
/-- items for some items, by a state that turns -/
def filSt {α β γ : Type} (f : γ → α → R (Option β × γ)) : γ → List α → R (List β × γ)
  | s, [] => .ok ([], s)
  | s, x :: xs => f s x >>= fun p => filSt f p.2 xs >>= fun q => match p.1 with
    | some y => .ok (y :: q.1, q.2)
    | none => .ok q
def filStG {α β γ : Type} (f : γ → α → R (Option β × γ)) (s : γ) (xs : List α) : R (List β × γ) := grd (decide (xs.length < 100000)) >>= fun _ => filSt f s xs
section
variable {J : It} {β γ δ ε : Type} {items : List β} {G : Hp → Prop} {Y : β → Hp → V → Hp → Prop} {g : TG} {tt : TT} {te : TE} {P : ε → Prop} {X : Exn → Prop} {K : Fg} {vs : List Nat} {σ : St} {F H1 : Hp} {os : List (Addr × HO)} {D : Addr} {Qd : Hp → Prop}
/-- what is asked of a comprehension's list D behind its walk J: by the readings' own words -/
abbrev LcAsk (J : It) (g : TG) (tt : TT) (te : TE) (vs : List Nat) (σ : St) (H1 : Hp) (D : Addr) (Qd : Hp → Prop) : Prop :=
  ∃ W : Nat → Nat → Hp → Prop, (∃ m, W 0 m (upd H1 D (.lst []))) ∧ ∀ i m H, W i m H →
      (J.stop i H ∧ Qd H) ∨ (J.go i H ∧ ∃ Nx : Hp → Prop, (∀ H', Nx H' → ∃ m', m' < m ∧ W (i + 1) m' H') ∧ ∀ x H', J.yld i H x H' → g x (wipe σ vs) H' fun σ2 H2 => wipe σ2 vs = wipe σ vs ∧ tt σ2 H2 fun b H3 =>
        if b = true then te σ2 H3 fun y H4 => ∃ acc, H4 D = some (.lst acc) ∧ acc.length < sizeLine ∧ Nx (upd H4 D (.lst (acc ++ [y]))) else Nx H3)
/-- the state and the items told of a comprehension: os by the state -/
theorem lcFil [Rep δ] (tw : TW J items G Y) {f : γ → β → R (Option δ × γ)} {s0 : γ} {k : List δ × γ → R ε} (hm : Post (filStG f s0 items >>= k) P X) (O : γ → Hp → List (Addr × HO) → Prop) (w : W F H1 os) (o0 : O s0 F os) (nD : H1 D = none)
    (hG : ∀ c F' H' os' acc, Same F F' → W F' H' ((D, .lst acc) :: os') → O c F' os' → G H')
    (hs : ∀ (b : β) (c : γ) (x : V) (F' H' H'' : Hp) (os' : List (Addr × HO)) (acc : List V) (N : V → Hp → Prop) (N0 : Hp → Prop) (P' : Option δ × γ → Prop), Same F F' → W F' H' ((D, .lst acc) :: os') → O c F' os' → Y b H' x H'' →
      (∀ d c', P' (some d, c') → ∀ y F'' H'' os'', W F'' H'' ((D, .lst acc) :: os'') → Same F' F'' → O c' F'' os'' → rep K F'' y d → N y H'') →
      (∀ c', P' (none, c') → ∀ F'' H'' os'', W F'' H'' ((D, .lst acc) :: os'') → Same F' F'' → O c' F'' os'' → N0 H'') → Post (f c b) P' X →
      g x (wipe σ vs) H'' fun σ2 H2 => wipe σ2 vs = wipe σ vs ∧ tt σ2 H2 fun b H3 => if b = true then te σ2 H3 N else N0 H3)
    (hd : ∀ c us F' H' os' ys, Same F F' → W F' H' ((D, .lst us) :: os') → O c F' os' → A2 (rep K F') us ys → Post (k (ys, c)) P X → Qd H') : LcAsk J g tt te vs σ H1 D Qd := by
  obtain ⟨hlen, hm⟩ := pb_grd (pb_assoc hm)
  have hlen : items.length < sizeLine := Nat.lt_of_lt_of_le (of_decide_eq_true hlen) line5
  refine lc_it tw.walk (fun i H => ∃ c F' os' us ys, i ≤ items.length ∧ Same F F' ∧ W F' H ((D, .lst us) :: os') ∧ O c F' os' ∧ A2 (rep K F') us ys ∧ ys.length ≤ i ∧ Post (filSt f c (items.drop i) >>= fun q => k (ys ++ q.1, q.2)) P X) ?_ ?_ ?_ ?_
  · exact ⟨s0, F, os, [], [], Nat.zero_le _, Same.refl _, w.new nD, o0, .nil, Nat.le_refl _, hm⟩
  · rintro i H _ ⟨c, F', os', us, ys, _, s, w', o, _⟩
    exact hG c F' H os' us s w' o
  · rintro i x H H' hi ⟨c, F', os', us, ys, _, s, w', o, h, hl, hm⟩ ⟨b, hb, y⟩
    rw [drop_cons hb] at hm
    have hm' : Post ((f c b >>= fun p => filSt f p.2 (items.drop (i + 1)) >>= fun q => match p.1 with
      | some y => (R.ok (y :: q.1, q.2) : R (List δ × γ))
      | none => R.ok q) >>= fun q => k (ys ++ q.1, q.2)) P X := hm
    rw [bind_bind] at hm'
    have hm2 := post_bind hm'
    have hul : us.length = ys.length := h.length
    refine hs b c x F' H H' os' us (fun y H4 => ∃ acc, H4 D = some (.lst acc) ∧ acc.length < sizeLine ∧ _) _ _ s w' o y ?_ ?_ hm2
    · intro d c' p2 y F'' H'' os'' w2 s2 o2 r2
      refine ⟨us, w2.get (pre := []), by omega, c', F'', os'', us ++ [y], ys ++ [d], hi, s.trans s2, w2.set (pre := []), o2, (h.mono s2).snoc r2, by rw [List.length_append, List.length_singleton]; omega, ?_⟩
      have p3 : Post ((filSt f c' (items.drop (i + 1)) >>= fun q => (R.ok (d :: q.1, q.2) : R (List δ × γ))) >>= fun q => k (ys ++ q.1, q.2)) P X := p2
      rw [bind_bind] at p3
      have e : (fun q : List δ × γ => (R.ok (d :: q.1, q.2) : R (List δ × γ)) >>= fun q => k (ys ++ q.1, q.2)) = fun q => k (ys ++ [d] ++ q.1, q.2) := by
        funext q
        show k (ys ++ (d :: q.1), q.2) = k (ys ++ [d] ++ q.1, q.2)
        rw [List.append_assoc]
        rfl
      rw [e] at p3
      exact p3
    · intro c' p2 F'' H'' os'' w2 s2 o2
      refine ⟨c', F'', os'', us, ys, hi, s.trans s2, w2, o2, h.mono s2, by omega, ?_⟩
      have p3 : Post ((filSt f c' (items.drop (i + 1)) >>= fun q => (R.ok q : R (List δ × γ))) >>= fun q => k (ys ++ q.1, q.2)) P X := p2
      rw [bind_bind] at p3
      exact p3
  · rintro H ⟨c, F', os', us, ys, _, s, w', o, h, _, hm⟩
    rw [List.drop_length] at hm
    have hm' : Post (k (ys ++ [], c)) P X := hm
    rw [List.append_nil] at hm'
    exact hd c us F' H os' ys s w' o h hm'
/-- without a test -/
theorem lcMap [Rep δ] (tw : TW J items G Y) {f : γ → β → R (δ × γ)} {s0 : γ} {k : List δ × γ → R ε} (hm : Post (mapStG f s0 items >>= k) P X) (O : γ → Hp → List (Addr × HO) → Prop) (w : W F H1 os) (o0 : O s0 F os) (nD : H1 D = none)
    (hG : ∀ c F' H' os' acc, Same F F' → W F' H' ((D, .lst acc) :: os') → O c F' os' → G H')
    (hs : ∀ (b : β) (c : γ) (x : V) (F' H' H'' : Hp) (os' : List (Addr × HO)) (acc : List V) (N : V → Hp → Prop) (P' : δ × γ → Prop), Same F F' → W F' H' ((D, .lst acc) :: os') → O c F' os' → Y b H' x H'' →
      (∀ d c', P' (d, c') → ∀ y F'' H'' os'', W F'' H'' ((D, .lst acc) :: os'') → Same F' F'' → O c' F'' os'' → rep K F'' y d → N y H'') → Post (f c b) P' X →
      g x (wipe σ vs) H'' fun σ2 H2 => wipe σ2 vs = wipe σ vs ∧ te σ2 H2 N)
    (hd : ∀ c us F' H' os' ys, Same F F' → W F' H' ((D, .lst us) :: os') → O c F' os' → A2 (rep K F') us ys → Post (k (ys, c)) P X → Qd H') : LcAsk J g tYes te vs σ H1 D Qd := by
  have e : ∀ (s : γ) (l : List β), filSt (fun c b => f c b >>= fun p => R.ok (some p.1, p.2)) s l = mapSt f s l := by
    intro s l
    induction l generalizing s with
    | nil => rfl
    | cons b l ih =>
      show ((f s b >>= fun p => R.ok (some p.1, p.2)) >>= fun p => filSt (fun c b => f c b >>= fun p => R.ok (some p.1, p.2)) p.2 l >>= fun q => match p.1 with
        | some y => (R.ok (y :: q.1, q.2) : R (List δ × γ))
        | none => R.ok q) = (f s b >>= fun p => mapSt f p.2 l >>= fun q => .ok (p.1 :: q.1, q.2))
      rw [bind_bind]
      refine congrArg (f s b >>= ·) ?_
      funext p
      show (filSt (fun c b => f c b >>= fun p => R.ok (some p.1, p.2)) p.2 l >>= fun q => (R.ok (p.1 :: q.1, q.2) : R (List δ × γ))) = _
      rw [ih]
  have hm' : Post (filStG (fun c b => f c b >>= fun p => R.ok (some p.1, p.2)) s0 items >>= k) P X := by
    unfold filStG
    simp only [e]
    exact hm
  refine lcFil tw hm' O w o0 nD hG (fun b c x F' H' H'' os' acc N N0 P' s w' o y hN hN0 hp => ?_) hd
  exact hs b c x F' H' H'' os' acc N _ s w' o y (fun d c' p2 y F'' H'' os'' w2 s2 o2 r2 => hN d c' p2 y F'' H'' os'' w2 s2 o2 r2) (post_bind hp)
/-- without a state -/
theorem lcM [Rep δ] (tw : TW J items G Y) {f : β → R δ} {k : List δ → R ε} (hm : Post (mapG f items >>= k) P X) (w : W F H1 os) (nD : H1 D = none)
    (hG : ∀ F' H' acc, Same F F' → W F' H' ((D, .lst acc) :: os) → G H')
    (hs : ∀ (b : β) (x : V) (F' H' H'' : Hp) (acc : List V) (N : V → Hp → Prop) (P' : δ → Prop), Same F F' → W F' H' ((D, .lst acc) :: os) → Y b H' x H'' →
      (∀ d, P' d → ∀ y F'' H'', W F'' H'' ((D, .lst acc) :: os) → Same F' F'' → rep K F'' y d → N y H'') → Post (f b) P' X →
      g x (wipe σ vs) H'' fun σ2 H2 => wipe σ2 vs = wipe σ vs ∧ te σ2 H2 N)
    (hd : ∀ us F' H' ys, Same F F' → W F' H' ((D, .lst us) :: os) → A2 (rep K F') us ys → Post (k ys) P X → Qd H') : LcAsk J g tYes te vs σ H1 D Qd := by
  have e : ∀ (l : List β), (mapSt (fun (_ : Unit) b => f b >>= fun d => R.ok (d, ())) () l >>= fun q => R.ok q.1) = mapR f l := by
    intro l
    induction l with
    | nil => rfl
    | cons b l ih =>
      show (((f b >>= fun d => R.ok (d, ())) >>= fun p => mapSt (fun (_ : Unit) b => f b >>= fun d => R.ok (d, ())) p.2 l >>= fun q => (R.ok (p.1 :: q.1, q.2) : R (List δ × Unit))) >>= fun q => R.ok q.1) = (f b >>= fun y => mapR f l >>= fun ys => R.ok (y :: ys))
      rw [bind_bind, bind_bind]
      refine congrArg (f b >>= ·) ?_
      funext d
      show ((mapSt (fun (_ : Unit) b => f b >>= fun d => R.ok (d, ())) () l >>= fun q => (R.ok (d :: q.1, q.2) : R (List δ × Unit))) >>= fun q => R.ok q.1) = _
      rw [bind_bind, ← ih, bind_bind]
      rfl
  have hm' : Post (mapStG (fun (_ : Unit) b => f b >>= fun d => R.ok (d, ())) () items >>= fun q => k q.1) P X := by
    have e2 : (mapStG (fun (_ : Unit) b => f b >>= fun d => R.ok (d, ())) () items >>= fun q => R.ok q.1) = mapG f items := by
      unfold mapStG mapG
      rw [bind_bind]
      simp only [e]
    have h2 : Post ((mapStG (fun (_ : Unit) b => f b >>= fun d => R.ok (d, ())) () items >>= fun q => R.ok q.1) >>= k) P X := by
      rw [e2]
      exact hm
    rw [bind_bind] at h2
    exact h2
  refine lcMap tw hm' (fun _ _ os' => os = os') w rfl nD (fun c F' H' os' acc s w' o => by subst o; exact hG F' H' acc s w') (fun b c x F' H' H'' os' acc N P' s w' o y hN hp => ?_) (fun c us F' H' os' ys s w' o h hm => by subst o; exact hd us F' H' ys s w' h hm)
  subst o
  exact hs b x F' H' H'' acc N _ s w' y (fun d p2 y F'' H'' w2 s2 r2 => hN d () p2 y F'' H'' _ w2 s2 rfl r2) (post_bind hp)
/-- .. with a test -/
theorem lcF [Rep δ] (tw : TW J items G Y) {f : β → R (Option δ)} {k : List δ → R ε} (hm : Post (filG f items >>= k) P X) (w : W F H1 os) (nD : H1 D = none)
    (hG : ∀ F' H' acc, Same F F' → W F' H' ((D, .lst acc) :: os) → G H')
    (hs : ∀ (b : β) (x : V) (F' H' H'' : Hp) (acc : List V) (N : V → Hp → Prop) (N0 : Hp → Prop) (P' : Option δ → Prop), Same F F' → W F' H' ((D, .lst acc) :: os) → Y b H' x H'' →
      (∀ d, P' (some d) → ∀ y F'' H'', W F'' H'' ((D, .lst acc) :: os) → Same F' F'' → rep K F'' y d → N y H'') →
      (P' none → ∀ F'' H'', W F'' H'' ((D, .lst acc) :: os) → Same F' F'' → N0 H'') → Post (f b) P' X →
      g x (wipe σ vs) H'' fun σ2 H2 => wipe σ2 vs = wipe σ vs ∧ tt σ2 H2 fun b H3 => if b = true then te σ2 H3 N else N0 H3)
    (hd : ∀ us F' H' ys, Same F F' → W F' H' ((D, .lst us) :: os) → A2 (rep K F') us ys → Post (k ys) P X → Qd H') : LcAsk J g tt te vs σ H1 D Qd := by
  have e : ∀ (l : List β), (filSt (fun (_ : Unit) b => f b >>= fun d => R.ok (d, ())) () l >>= fun q => R.ok q.1) = filR f l := by
    intro l
    induction l with
    | nil => rfl
    | cons b l ih =>
      show (((f b >>= fun d => R.ok (d, ())) >>= fun p => filSt (fun (_ : Unit) b => f b >>= fun d => R.ok (d, ())) p.2 l >>= fun q => match p.1 with
        | some y => (R.ok (y :: q.1, q.2) : R (List δ × Unit))
        | none => R.ok q) >>= fun q => R.ok q.1) = (f b >>= fun o => filR f l >>= fun ys => match o with
        | some y => .ok (y :: ys)
        | none => .ok ys)
      rw [bind_bind, bind_bind]
      refine congrArg (f b >>= ·) ?_
      funext d
      show ((filSt (fun (_ : Unit) b => f b >>= fun d => R.ok (d, ())) () l >>= fun q => match d with
        | some y => (R.ok (y :: q.1, q.2) : R (List δ × Unit))
        | none => R.ok q) >>= fun q => R.ok q.1) = _
      rw [bind_bind, ← ih, bind_bind]
      cases d <;> rfl
  have hm' : Post (filStG (fun (_ : Unit) b => f b >>= fun d => R.ok (d, ())) () items >>= fun q => k q.1) P X := by
    have e2 : (filStG (fun (_ : Unit) b => f b >>= fun d => R.ok (d, ())) () items >>= fun q => R.ok q.1) = filG f items := by
      unfold filStG filG
      rw [bind_bind]
      simp only [e]
    have h2 : Post ((filStG (fun (_ : Unit) b => f b >>= fun d => R.ok (d, ())) () items >>= fun q => R.ok q.1) >>= k) P X := by
      rw [e2]
      exact hm
    rw [bind_bind] at h2
    exact h2
  refine lcFil tw hm' (fun _ _ os' => os = os') w rfl nD (fun c F' H' os' acc s w' o => by subst o; exact hG F' H' acc s w') (fun b c x F' H' H'' os' acc N N0 P' s w' o y hN hN0 hp => ?_) (fun c us F' H' os' ys s w' o h hm => by subst o; exact hd us F' H' ys s w' h hm)
  subst o
  exact hs b x F' H' H'' acc N N0 _ s w' y (fun d p2 y F'' H'' w2 s2 r2 => hN d () p2 y F'' H'' _ w2 s2 rfl r2) (fun p2 F'' H'' w2 s2 => hN0 () p2 F'' H'' _ w2 s2 rfl) (post_bind hp)
end
end Z
namespace Z
open PySem L2
open Rep (rep)
/-! ### short words for a walk -/
section
variable {F F1 F2 H H1 : Hp} {os os' pre post : List (Addr × HO)} {a p : Addr} {o o' : HO} {K : Fg}
theorem W.frzE (w : W F H os) (n : H p = none) : ∃ F', Same F F' ∧ W F' (upd H p o) os ∧ F' p = some o := ⟨_, w.frzS n, w.frz n, upd_same⟩
theorem W.freezeE (w : W F H (pre ++ (a, o) :: post)) : ∃ F', Same F F' ∧ W F' H (pre ++ post) ∧ F' a = some o := ⟨_, w.freezeS, w.freeze, upd_same⟩
/-- a cell that was lent to a call as frozen comes back -/
theorem W.unfreeze (w : W F1 H os) (s : Same F F1) (n : F a = none) (k : F1 a = some o) (ho : ∀ vs, o ≠ .tup vs := by exact fun _ h => nomatch h) : ∃ F', Same F F' ∧ W F' H ((a, o) :: os) := by
  refine ⟨fun b => if b = a then none else F1 b, fun b u e => ?_, fun b u e => ?_, fun q hq => ?_, ?_, fun q hq => ?_⟩
  · have hb : b ≠ a := ne_of_none e n
    show (if b = a then none else F1 b) = some u
    rw [if_neg hb]
    exact s b u e
  · by_cases hb : b = a
    · have e' : (if b = a then none else F1 b) = some u := e
      rw [if_pos hb] at e'
      cases e'
    · have e' : (if b = a then none else F1 b) = some u := e
      rw [if_neg hb] at e'
      exact w.same b u e'
  · rcases List.mem_cons.mp hq with rfl | hq
    · exact ⟨w.same _ _ k, if_pos rfl⟩
    · have h := w.own q hq
      have hb : q.1 ≠ a := fun e => by
        rw [e, k] at h
        cases h.2
      exact ⟨h.1, by show (if q.1 = a then none else F1 q.1) = none; rw [if_neg hb]; exact h.2⟩
  · refine List.pairwise_cons.mpr ⟨fun q hq e => ?_, w.nd⟩
    have h := (w.own q hq).2
    have e' : a = q.1 := e
    rw [← e', k] at h
    cases h
  · rcases List.mem_cons.mp hq with rfl | hq
    · exact ho
    · exact w.nt q hq
theorem rep_own {α : Type} [Rep α] {vs : List V} {xs : List α} (w : W F H (pre ++ (a, .lst vs) :: post)) (h : A2 (rep K F) vs xs) : rep K H (.ref a) xs := ⟨a, vs, rfl, w.get, h.mono w.same⟩
theorem rep_lst {α : Type} [Rep α] {vs : List V} {xs : List α} (q : F a = some (.lst vs)) (h : A2 (rep K F) vs xs) : rep K F (.ref a) xs := ⟨a, vs, rfl, q, h⟩
theorem rep_tup {α : Type} [Rep α] {vs : List V} {xs : List α} (q : F a = some (.tup vs)) (h : A2 (rep K F) vs xs) : rep K F (.ref a) (Tup.mk xs) := ⟨a, vs, rfl, q, h⟩
theorem rep_pair {α β : Type} [Rep α] [Rep β] {u v : V} {x : α} {y : β} (q : F a = some (.tup [u, v])) (h1 : rep K F u x) (h2 : rep K F v y) : rep K F (.ref a) (x, y) := ⟨a, u, v, rfl, q, h1, h2⟩
theorem ints_q {vs : List V} {xs : List Int} (q : SqL K H a vs) (h : A2 (rep K F) vs xs) : SqL K H a (xs.map V.int) := h.ints ▸ q
theorem Room.units65 {k : Nat} {A : Around} (r : Room k A) : A.units + 65 < cLine := by
  have := r.un
  omega
theorem sl_cut {α : Type} {r : V → α → Prop} {vs : List V} {xs : List α} (h : A2 r vs xs) (lo hi : Option Int) : A2 r (cutV vs lo hi) (((xs.drop (HT.sIx xs.length 0 lo)).take (HT.sIx xs.length xs.length hi - HT.sIx xs.length 0 lo))) := by
  unfold cutV
  rw [h.length]
  exact (h.drop _).take _
/-- xs[lo:hi] -/
def cutL {α : Type} (xs : List α) (lo hi : Option Int) : List α := (xs.drop (HT.sIx xs.length 0 lo)).take (HT.sIx xs.length xs.length hi - HT.sIx xs.length 0 lo)
end
end Z
namespace Z
open PySem L2
open Rep (rep)
/-- a while by its fuel -/
def whileR {γ : Type} (c : γ → R Bool) (b : γ → R γ) : Nat → γ → R γ
  | 0, _ => .bad
  | n + 1, s => c s >>= fun t => if t = true then b s >>= fun s' => whileR c b n s' else .ok s
section
variable {γ δ : Type} {P : δ → Prop} {X : Exn → Prop} {tc : TT} {tb : TS} {D : Ends} {σ : St} {H : Hp}
theorem whileS {c : γ → R Bool} {b : γ → R γ} {n : Nat} {s0 : γ} {k : γ → R δ} (hm : Post (whileR c b n s0 >>= k) P X) (I : γ → St → Hp → Prop) (h0 : I s0 σ H)
    (hc : ∀ (g : γ) (σ : St) (H : Hp) (Q' : Bool → Hp → Prop) (P' : Bool → Prop), I g σ H → (∀ t, P' t → ∀ H', I g σ H' → Q' t H') → Post (c g) P' X → tc σ H Q')
    (hs : ∀ (g : γ) (σ : St) (H : Hp) (N : St → Hp → Prop) (P' : γ → Prop), I g σ H → (∀ g', P' g' → ∀ σ' H', I g' σ' H' → N σ' H') → Post (b g) P' X → tb { D with nx := N, ct := N, bk := D.nx } σ H)
    (hd : ∀ g σ H, I g σ H → Post (k g) P X → D.nx σ H) : tWhile tc tb D σ H := by
  refine ⟨fun m σ H => ∃ g, I g σ H ∧ Post (whileR c b m g >>= k) P X, ⟨n, s0, h0, hm⟩, ?_⟩
  rintro m σ H ⟨g, h, hm⟩
  cases m with
  | zero => exact (show False from hm).elim
  | succ m =>
    have hm' : Post ((c g >>= fun t => if t = true then b g >>= fun s' => whileR c b m s' else .ok g) >>= k) P X := hm
    rw [bind_bind] at hm'
    refine hc g σ H _ _ h (fun t p H' h' => ?_) (post_bind hm')
    cases t with
    | false => exact iteF (hd g σ H' h' p)
    | true =>
      refine iteT ?_
      have p' : Post ((b g >>= fun s' => whileR c b m s') >>= k) P X := p
      rw [bind_bind] at p'
      exact ⟨fun σ' H' => ∃ g', I g' σ' H' ∧ Post (whileR c b m g' >>= k) P X, fun σ' H' ⟨g', h1, h2⟩ => ⟨m, Nat.lt_succ_self m, g', h1, h2⟩, hs g σ H' _ _ h' (fun g' p2 σ' H' h2 => ⟨g', h2, p2⟩) (post_bind p')⟩
end
section
variable {α β : Type} {Q : β → Prop} {E : Exn → Prop}
theorem pn_set {xs : List α} {i : Int} {x : α} {f : List α → R β} (h : Post (setI xs i x >>= f) Q E) : ∃ j ys, ixN xs.length i = some j ∧ ys = xs.set j x ∧ Post (f ys) Q E :=
  let ⟨j, a, b⟩ := pb_set h
  ⟨j, _, a, rfl, b⟩
theorem pn_app {xs : List α} {x : α} {f : List α → R β} (h : Post (app xs x >>= f) Q E) : ∃ ys, xs.length < sizeLine ∧ ys = xs ++ [x] ∧ Post (f ys) Q E :=
  let ⟨a, b⟩ := pb_app h
  ⟨_, a, rfl, b⟩
theorem pn_extend {xs ys : List α} {f : List α → R β} (h : Post (extend xs ys >>= f) Q E) : ∃ zs, xs.length + ys.length ≤ sizeLine ∧ zs = xs ++ ys ∧ Post (f zs) Q E :=
  let ⟨a, b⟩ := pb_extend h
  ⟨_, a, rfl, b⟩
theorem A2.lt {r : V → α → Prop} {vs : List V} {xs : List α} {n : Nat} (h : A2 r vs xs) (z : xs.length < n) : vs.length < n := by rw [h.length]; exact z
theorem A2.ix {r : V → α → Prop} {vs : List V} {xs : List α} {i : Int} {j : Nat} (h : A2 r vs xs) (z : ixN xs.length i = some j) : ixN vs.length i = some j := by rw [h.length]; exact z
theorem A2.le2 {γ : Type} {r : V → α → Prop} {r' : V → γ → Prop} {vs us : List V} {xs : List α} {ys : List γ} {n : Nat} (h : A2 r vs xs) (h' : A2 r' us ys) (z : xs.length + ys.length ≤ n) : vs.length + us.length ≤ n := by rw [h.length, h'.length]; exact z
/-- the last item, and the rest -/
def popI (xs : List α) : R (α × List α) := match xs.getLast? with
  | some x => .ok (x, xs.dropLast)
  | none => .bad
def popAt (xs : List α) (i : Int) : R (α × List α) := match ixN xs.length i with
  | some j => match xs[j]? with
    | some x => .ok (x, xs.eraseIdx j)
    | none => .bad
  | none => .bad
theorem pn_popAt {xs : List α} {i : Int} {f : α × List α → R β} (h : Post (popAt xs i >>= f) Q E) : ∃ j x ys, ixN xs.length i = some j ∧ xs[j]? = some x ∧ ys = xs.eraseIdx j ∧ Post (f (x, ys)) Q E := by
  unfold popAt at h
  cases e : ixN xs.length i with
  | none => rw [e] at h; exact (show False from h).elim
  | some j =>
    rw [e] at h
    cases e2 : xs[j]? with
    | none =>
      have h' : Post ((match xs[j]? with
        | some x => (R.ok (x, xs.eraseIdx j) : R (α × List α))
        | none => .bad) >>= f) Q E := h
      rw [e2] at h'
      exact (show False from h').elim
    | some x =>
      have h' : Post ((match xs[j]? with
        | some x => (R.ok (x, xs.eraseIdx j) : R (α × List α))
        | none => .bad) >>= f) Q E := h
      rw [e2] at h'
      exact ⟨j, x, _, rfl, e2, rfl, h'⟩
end
section
variable {K : Fg} {F : Hp}
theorem rep_i {i : Int} : rep K F (.int i) i := rfl
theorem rep_b {i : Bool} : rep K F (.bl i) i := rfl
theorem rep_s {i : Str} : rep K F (.str i) i := rfl
theorem rep_n : rep K F .non () := rfl
end
end Z
namespace Z
open PySem L2
section
variable {X : Cx} {D : Ends} {σ : L2.St} {H : Hp}
def tC1 (v : V) : TE := fun _ H Q => True ∧ Q v H
theorem pe_int1 {i j pos} : PE X (.Constant (.int i) j pos) (tC1 (.int i)) := ⟨fun pins s σ H Q I h => pe_int.run pins s σ H Q I h.2⟩
theorem pe_bl1 {i j pos} : PE X (.Constant (.bool i) j pos) (tC1 (.bl i)) := ⟨fun pins s σ H Q I h => pe_bl.run pins s σ H Q I h.2⟩
theorem pe_str1 {i j pos} : PE X (.Constant (.str i) j pos) (tC1 (.str i)) := ⟨fun pins s σ H Q I h => pe_str.run pins s σ H Q I h.2⟩
theorem pe_non1 {j pos} : PE X (.Constant .none j pos) (tC1 .non) := ⟨fun pins s σ H Q I h => pe_non.run pins s σ H Q I h.2⟩
theorem stepN {i : Nat} {v : V} {Q : L2.St → Hp → Prop} (h : Q (σ.set i (some v)) H) : gName i v σ H Q := h
theorem stepX (h : D.nx σ H) : tNext D σ H := h
theorem stepSeq {t u : TS} (h : t { D with nx := u D } σ H) : tSeq t u D σ H := h
theorem stepIf {c : TT} {a b : TS} (h : c σ H fun t H1 => if t = true then a D σ H1 else b D σ H1) : tIfS c a b D σ H := h
theorem stepRet {te : TE} (h : te σ H D.rt) : tRet te D σ H := h
theorem stepAsg {te : TE} {g : TG} (h : te σ H fun x H1 => g x σ H1 D.nx) : tAsg te g D σ H := h
theorem stepDrop {te : TE} (h : te σ H fun _ H1 => D.nx σ H1) : tDrop te D σ H := h
end
end Z
namespace Z
open PySem L2
open Rep (rep)
section
variable {α : Type} [Rep α] {K : Fg} {F : Hp} {v : V} {x : α}
theorem rep_none : rep K F .non (none : Option α) := rfl
theorem rep_some (h : rep K F v x) : rep K F v (some x) := h
theorem rep_pl {i : Int} : rep K F (.int i) (Thing.pl i) := rfl
theorem rep_ti {a b : Int} (h : rep K F v (a, b)) : rep K F v (Thing.ti a b) := h
end
end Z
/-! Z2: rules by typed data -/
namespace Z
open PySem L2 PySem.Spec PyProof.Rows
open Rep (rep)

/-! ### data that is compared -/
class Dat (α : Type) extends Rep α where
  toD : α → PyData
  dmax : Nat
  dp : ∀ {K : Fg} {H : Hp} {v : V} {x : α}, rep K H v x → Dp K H v (toD x)
  lay : ∀ x : α, (toD x).canLay0 = true
  dep : ∀ x : α, (toD x).depth ≤ dmax
  eqv : ∀ x y : α, PyData.eqv (toD x) (toD y) = true ↔ x = y
section
variable {α β : Type} {K : Fg} {H : Hp}
instance : Dat Int where
  toD := .int
  dmax := 0
  dp := fun h => by
    have h' : _ = V.int _ := h
    subst h'
    exact .int _
  lay := fun x => by simp only [PyData.canLay0]
  dep := fun x => by simp only [PyData.depth, Nat.le_refl]
  eqv := fun x y => by simp [PyData.eqv]
instance : Dat Bool where
  toD := .bool
  dmax := 0
  dp := fun h => by
    have h' : _ = V.bl _ := h
    subst h'
    exact .bl _
  lay := fun x => by simp only [PyData.canLay0]
  dep := fun x => by simp only [PyData.depth, Nat.le_refl]
  eqv := fun x y => by simp [PyData.eqv]
instance datOptInt : Dat (Option Int) where
  toD := fun x => match x with
    | none => .none
    | some i => .int i
  dmax := 0
  dp := fun {K H v x} h => by
    cases x with
    | none =>
      have h' : v = V.non := h
      subst h'
      exact .non
    | some i =>
      have h' : v = V.int i := h
      subst h'
      exact .int _
  lay := fun x => by cases x <;> simp only [PyData.canLay0]
  dep := fun x => by cases x <;> simp only [PyData.depth, Nat.le_refl]
  eqv := fun x y => by cases x <;> cases y <;> simp [PyData.eqv]
instance datPair [Dat α] [Dat β] : Dat (α × β) where
  toD := fun x => .tuple [Dat.toD x.1, Dat.toD x.2]
  dmax := max (Dat.dmax α) (Dat.dmax β) + 1
  dp := fun {K H v x} h => by
    obtain ⟨a, u, w, rfl, q, h1, h2⟩ := h
    exact .tup (SqT.of q) (.cons (Dat.dp h1) (.cons (Dat.dp h2) .nil))
  lay := fun x => by simp only [PyData.canLay0, PyData.canLayAll0, Dat.lay, Bool.and_true]
  dep := fun x => by
    have h1 := Dat.dep x.1
    have h2 := Dat.dep x.2
    simp only [PyData.depth, PyData.depthAll]
    omega
  eqv := fun x y => by
    obtain ⟨x1, x2⟩ := x
    obtain ⟨y1, y2⟩ := y
    simp only [PyData.eqv, PyData.eqvAll, Bool.and_true, Bool.and_eq_true, Dat.eqv, Prod.mk.injEq]
theorem dp_all [Dat α] : ∀ {vs : List V} {xs : List α}, A2 (rep K H) vs xs → DpAll K H vs (xs.map Dat.toD)
  | _, _, .nil => .nil
  | _, _, .cons h t => .cons (Dat.dp h) (dp_all t)
theorem lay_all [Dat α] : ∀ xs : List α, PyData.canLayAll0 (xs.map Dat.toD) = true
  | [] => by simp only [List.map_nil, PyData.canLayAll0]
  | x :: xs => by simp only [List.map_cons, PyData.canLayAll0, Dat.lay, lay_all xs, Bool.and_true]
theorem dep_all [Dat α] : ∀ xs : List α, PyData.depthAll (xs.map Dat.toD) ≤ Dat.dmax α
  | [] => by simp only [List.map_nil, PyData.depthAll, Nat.zero_le]
  | x :: xs => by
    have h1 := dep_all xs
    have h2 := Dat.dep x
    simp only [List.map_cons, PyData.depthAll]
    omega
theorem eqv_all [Dat α] : ∀ xs ys : List α, PyData.eqvAll (xs.map Dat.toD) (ys.map Dat.toD) = true ↔ xs = ys
  | [], [] => by simp [PyData.eqvAll]
  | x :: xs, [] => by simp [PyData.eqvAll]
  | [], y :: ys => by simp [PyData.eqvAll]
  | x :: xs, y :: ys => by simp only [List.map_cons, PyData.eqvAll, Bool.and_eq_true, Dat.eqv, eqv_all xs ys, List.cons.injEq]
instance datList [Dat α] : Dat (List α) where
  toD := fun xs => .list (xs.map Dat.toD)
  dmax := Dat.dmax α + 1
  dp := fun {K H v x} h => by
    obtain ⟨a, vs, rfl, q, h⟩ := h
    exact .lst (SqL.of q) (dp_all h)
  lay := fun x => by
    simp only [PyData.canLay0]
    exact lay_all x
  dep := fun x => by
    have h := dep_all x
    simp only [PyData.depth]
    omega
  eqv := fun x y => by
    simp only [PyData.eqv]
    exact eqv_all x y
instance datTup [Dat α] : Dat (Tup α) where
  toD := fun xs => .tuple (xs.l.map Dat.toD)
  dmax := Dat.dmax α + 1
  dp := fun {K H v x} h => by
    obtain ⟨a, vs, rfl, q, h⟩ := h
    exact .tup (SqT.of q) (dp_all h)
  lay := fun x => by
    simp only [PyData.canLay0]
    exact lay_all x.l
  dep := fun x => by
    have h := dep_all x.l
    simp only [PyData.depth]
    omega
  eqv := fun x y => by
    obtain ⟨x⟩ := x
    obtain ⟨y⟩ := y
    simp only [PyData.eqv, Tup.mk.injEq]
    exact eqv_all x y
instance datThing : Dat Thing where
  toD := fun x => match x with
    | .pl i => .int i
    | .ti a b => .tuple [.int a, .int b]
  dmax := 1
  dp := fun {K H v x} h => by
    cases x with
    | pl i =>
      have h' : v = V.int i := h
      subst h'
      exact .int _
    | ti a b =>
      obtain ⟨p, u, w, rfl, q, h1, h2⟩ := (show rep K H v (a, b) from h)
      have h1' : u = V.int a := h1
      have h2' : w = V.int b := h2
      subst h1' h2'
      exact .tup (SqT.of q) (.cons (.int _) (.cons (.int _) .nil))
  lay := fun x => by cases x <;> simp [PyData.canLay0, PyData.canLayAll0]
  dep := fun x => by cases x <;> simp [PyData.depth, PyData.depthAll]
  eqv := fun x y => by cases x <;> cases y <;> simp [PyData.eqv, PyData.eqvAll]
instance datScr : Dat Scr where
  toD := fun xs => .list (xs.l.map PyData.int)
  dmax := 1
  dp := fun {K H v x} h => by
    obtain ⟨a, rfl, q⟩ := h
    have e : ∀ l : List Int, DpAll K H (l.map V.int) (l.map PyData.int) := fun l => by
      induction l with
      | nil => exact .nil
      | cons x l ih => exact .cons (.int _) ih
    exact .lst q (e x.l)
  lay := fun x => by
    simp only [PyData.canLay0]
    exact lay_all (α := Int) x.l
  dep := fun x => by
    have h := dep_all (α := Int) x.l
    have h' : PyData.depthAll (x.l.map PyData.int) ≤ 0 := h
    simp only [PyData.depth]
    omega
  eqv := fun x y => by
    obtain ⟨x⟩ := x
    obtain ⟨y⟩ := y
    simp only [PyData.eqv, Scr.mk.injEq]
    exact eqv_all (α := Int) x y
theorem shapedD [Dat α] (hd : Dat.dmax α ≤ 60) (x : α) : SeqAt.shaped (Dat.toD x) = true := by
  have h := Dat.dep x
  show ((Dat.toD x).canLay0 && decide ((Dat.toD x).depth ≤ 64)) = true
  rw [Bool.and_eq_true]
  exact ⟨Dat.lay x, decide_eq_true (by omega)⟩
theorem eqvD [Dat α] [DecidableEq α] (x y : α) : PyData.eqv (Dat.toD x) (Dat.toD y) = decide (x = y) := by
  by_cases h : x = y
  · rw [decide_eq_true h]
    exact (Dat.eqv x y).mpr h
  · rw [decide_eq_false h]
    exact Bool.eq_false_iff.mpr fun e => h ((Dat.eqv x y).mp e)
theorem anyD [Dat α] [DecidableEq α] (x : α) : ∀ ys : List α, ((ys.map Dat.toD).any fun z => PyData.eqv z (Dat.toD x)) = decide (x ∈ ys)
  | [] => by simp
  | y :: ys => by
    rw [List.map_cons, List.any_cons, anyD x ys, eqvD]
    by_cases h : y = x
    · subst h; simp
    · have h' : ¬ x = y := fun e => h e.symm
      simp [h, h']
end

section
variable {X : Cx} {α β : Type} {K : Fg}
/-- ==, != of data -/
theorem op_eqDt (hK : X.K = K) (α : Type) [Dat α] [DecidableEq α] (hd : Dat.dmax α ≤ 60) (hu : X.A.units + 64 < cLine) : OpR X (compareOp .Eq) (fun x y H Q => ∃ a b : α, rep K H x a ∧ rep K H y b ∧ Q (.bl (decide (a = b))) H) := by
  subst hK
  intro pins s σ H x y v u Q I rx ry ⟨a, b, h1, h2, q⟩
  exact op_eqD hu pins s σ H x y v u Q I rx ry ⟨Dat.toD a, Dat.toD b, Dat.dp h1, Dat.dp h2, shapedD hd a, shapedD hd b, by rw [eqvD]; exact q⟩
theorem op_neDt (hK : X.K = K) (α : Type) [Dat α] [DecidableEq α] (hd : Dat.dmax α ≤ 60) (hu : X.A.units + 64 < cLine) : OpR X (compareOp .NotEq) (fun x y H Q => ∃ a b : α, rep K H x a ∧ rep K H y b ∧ Q (.bl (!decide (a = b))) H) := by
  subst hK
  intro pins s σ H x y v u Q I rx ry ⟨a, b, h1, h2, q⟩
  exact op_neD hu pins s σ H x y v u Q I rx ry ⟨Dat.toD a, Dat.toD b, Dat.dp h1, Dat.dp h2, shapedD hd a, shapedD hd b, by rw [eqvD]; exact q⟩
/-- in, not in a list, a tuple of data -/
theorem op_inL (hK : X.K = K) (α : Type) [Dat α] [DecidableEq α] (hd : Dat.dmax α ≤ 50) (hu : X.A.units + 65 < cLine) : OpR X (compareOp .In) (fun x y H Q => ∃ (a : α) (b : List α), rep K H x a ∧ rep K H y b ∧ Q (.bl (decide (a ∈ b))) H) := by
  subst hK
  intro pins s σ H x y v u Q I rx ry ⟨a, b, h1, h2, q⟩
  exact op_inD hu pins s σ H x y v u Q I rx ry ⟨Dat.toD a, b.map Dat.toD, Dat.dp h1, Dat.dp h2, shapedD (by omega) a, shapedD (α := List α) (by show Dat.dmax α + 1 ≤ 60; omega) b, by rw [anyD]; exact q⟩
theorem op_notInL (hK : X.K = K) (α : Type) [Dat α] [DecidableEq α] (hd : Dat.dmax α ≤ 50) (hu : X.A.units + 65 < cLine) : OpR X (compareOp .NotIn) (fun x y H Q => ∃ (a : α) (b : List α), rep K H x a ∧ rep K H y b ∧ Q (.bl (!decide (a ∈ b))) H) := by
  subst hK
  intro pins s σ H x y v u Q I rx ry ⟨a, b, h1, h2, q⟩
  exact op_notInD hu pins s σ H x y v u Q I rx ry ⟨Dat.toD a, b.map Dat.toD, Dat.dp h1, Dat.dp h2, shapedD (by omega) a, shapedD (α := List α) (by show Dat.dmax α + 1 ≤ 60; omega) b, by rw [anyD]; exact q⟩
theorem op_inT (hK : X.K = K) (α : Type) [Dat α] [DecidableEq α] (hd : Dat.dmax α ≤ 50) (hu : X.A.units + 65 < cLine) : OpR X (compareOp .In) (fun x y H Q => ∃ (a : α) (b : Tup α), rep K H x a ∧ rep K H y b ∧ Q (.bl (decide (a ∈ b.l))) H) := by
  subst hK
  intro pins s σ H x y v u Q I rx ry ⟨a, b, h1, h2, q⟩
  have sd := shapedD (by omega : Dat.dmax α ≤ 60) a
  have se : SeqAt.shaped (.tuple (b.l.map Dat.toD)) = true := shapedD (α := Tup α) (by show Dat.dmax α + 1 ≤ 60; omega) b
  obtain ⟨as, r1⟩ := Dp.reads I (Dat.toD a) x v (Dat.dp h1) rx
  obtain ⟨bs, r2⟩ := Dp.reads I (.tuple (b.l.map Dat.toD)) y u (Dat.dp h2) ry
  refine SeqAt.in_tuple_reads r2 r1 (SeqAt.canLay_of_shaped se) (SeqAt.canLay_of_shaped sd) (room_in_shaped sd hu) ?_
  rw [anyD]
  exact ⟨.bl _, H, I, rfl, q⟩
theorem op_notInT (hK : X.K = K) (α : Type) [Dat α] [DecidableEq α] (hd : Dat.dmax α ≤ 50) (hu : X.A.units + 65 < cLine) : OpR X (compareOp .NotIn) (fun x y H Q => ∃ (a : α) (b : Tup α), rep K H x a ∧ rep K H y b ∧ Q (.bl (!decide (a ∈ b.l))) H) := by
  subst hK
  intro pins s σ H x y v u Q I rx ry ⟨a, b, h1, h2, q⟩
  have sd := shapedD (by omega : Dat.dmax α ≤ 60) a
  have se : SeqAt.shaped (.tuple (b.l.map Dat.toD)) = true := shapedD (α := Tup α) (by show Dat.dmax α + 1 ≤ 60; omega) b
  obtain ⟨as, r1⟩ := Dp.reads I (Dat.toD a) x v (Dat.dp h1) rx
  obtain ⟨bs, r2⟩ := Dp.reads I (.tuple (b.l.map Dat.toD)) y u (Dat.dp h2) ry
  refine SeqAt.notIn_tuple_reads r2 r1 (SeqAt.canLay_of_shaped se) (SeqAt.canLay_of_shaped sd) (room_in_shaped sd hu) ?_
  rw [anyD]
  exact ⟨.bl _, H, I, rfl, q⟩
/-- == of texts -/
theorem decS (x y : Str) : decide (V.str x = V.str y) = decide (x = y) := by
  by_cases h : x = y
  · subst h; simp
  · rw [decide_eq_false h, decide_eq_false (fun e => h (V.str.inj e))]
theorem op_eqS : OpR X (compareOp .Eq) (fun x y H Q => ∃ a b : Str, x = .str a ∧ y = .str b ∧ Q (.bl (decide (a = b))) H) := by
  intro pins s σ H x y v u Q I rx ry ⟨a, b, h1, h2, q⟩
  subst h1 h2
  exact op_eq pins s σ H _ _ v u Q I rx ry ⟨rfl, by rw [decS]; exact q⟩
theorem op_neS : OpR X (compareOp .NotEq) (fun x y H Q => ∃ a b : Str, x = .str a ∧ y = .str b ∧ Q (.bl (!decide (a = b))) H) := by
  intro pins s σ H x y v u Q I rx ry ⟨a, b, h1, h2, q⟩
  subst h1 h2
  exact op_ne pins s σ H _ _ v u Q I rx ry ⟨rfl, by rw [decS]; exact q⟩
/-- == of truths -/
theorem decB (x y : Bool) : decide (V.bl x = V.bl y) = decide (x = y) := by
  cases x <;> cases y <;> rfl
theorem op_eqB : OpR X (compareOp .Eq) (fun x y H Q => ∃ a b : Bool, x = .bl a ∧ y = .bl b ∧ Q (.bl (decide (a = b))) H) := by
  intro pins s σ H x y v u Q I rx ry ⟨a, b, h1, h2, q⟩
  subst h1 h2
  exact op_eq pins s σ H _ _ v u Q I rx ry ⟨rfl, by rw [decB]; exact q⟩
theorem op_neB : OpR X (compareOp .NotEq) (fun x y H Q => ∃ a b : Bool, x = .bl a ∧ y = .bl b ∧ Q (.bl (!decide (a = b))) H) := by
  intro pins s σ H x y v u Q I rx ry ⟨a, b, h1, h2, q⟩
  subst h1 h2
  exact op_ne pins s σ H _ _ v u Q I rx ry ⟨rfl, by rw [decB]; exact q⟩

/-! ### built-ins -/
theorem call_lenN (hK : X.K = K) : CallR X (.builtin "len") (fun xs H Q => ∃ (p : Addr) (ys : List V) (n : Nat), xs = [.ref p] ∧ (SqL K H p ys ∨ SqT K H p ys) ∧ ys.length = n ∧ Q (.int (n : Int)) H) := by
  subst hK
  intro pins s σ H xs us Q I r ⟨p, ys, n, e, h, hn, q⟩
  subst hn
  exact call_len_seq pins s σ H xs us Q I r ⟨p, ys, e, h, q⟩
def absI (i : Int) : Int := if i < 0 then -i else i
def max2 (i j : Int) : Int := if j > i then j else i
def min2 (i j : Int) : Int := if j < i then j else i
/-- the greatest, the least of a list -/
def maxL (xs : List Int) : R Int := ofO xs.max?
def minL (xs : List Int) : R Int := ofO xs.min?
theorem pb_max {δ : Type} {xs : List Int} {f : Int → R δ} {P : δ → Prop} {E : Exn → Prop} (h : Post (maxL xs >>= f) P E) : ∃ m, xs.max? = some m ∧ Post (f m) P E := pb_ofO h
theorem pb_min {δ : Type} {xs : List Int} {f : Int → R δ} {P : δ → Prop} {E : Exn → Prop} (h : Post (minL xs >>= f) P E) : ∃ m, xs.min? = some m ∧ Post (f m) P E := pb_ofO h
theorem cr_maxI (hK : X.K = K) (hc : X.calm = true) : CallR X (.builtin "max") (fun vs H Q => ∃ (a : Addr) (ns : List Int) (m : Int), vs = [V.ref a] ∧ SqL K H a (ns.map V.int) ∧ ns.max? = some m ∧ Q (.int m) H) := by
  subst hK
  intro pins s σ H xs us Q I r ⟨a, ns, m, e, h, hm, q⟩
  obtain ⟨h1, h2⟩ := List.max?_eq_some_iff.mp hm
  refine cr_max hc pins s σ H xs us Q I r ⟨a, ns, e, h, ?_, fun k h3 h4 => ?_⟩
  · exact List.length_pos_of_mem h1
  · have e1 : k = m := Int.le_antisymm (h2 k h3) (h4 m h1)
    subst e1
    exact q
theorem cr_minI (hK : X.K = K) (hc : X.calm = true) : CallR X (.builtin "min") (fun vs H Q => ∃ (a : Addr) (ns : List Int) (m : Int), vs = [V.ref a] ∧ SqL K H a (ns.map V.int) ∧ ns.min? = some m ∧ Q (.int m) H) := by
  subst hK
  intro pins s σ H xs us Q I r ⟨a, ns, m, e, h, hm, q⟩
  obtain ⟨h1, h2⟩ := List.min?_eq_some_iff.mp hm
  refine cr_min hc pins s σ H xs us Q I r ⟨a, ns, e, h, ?_, fun k h3 h4 => ?_⟩
  · exact List.length_pos_of_mem h1
  · have e1 : k = m := Int.le_antisymm (h4 m h1) (h2 k h3)
    subst e1
    exact q
/-- the ints in order -/
def sortI (xs : List Int) : List Int := xs.mergeSort fun a b => decide (a ≤ b)
theorem sortI_perm (xs : List Int) : (sortI xs).Perm xs := List.mergeSort_perm xs _
theorem sortI_sorted (xs : List Int) : (sortI xs).Pairwise (· ≤ ·) := by
  have h := List.pairwise_mergeSort (le := fun a b : Int => decide (a ≤ b)) (fun a b c h1 h2 => by simp only [decide_eq_true_eq] at *; omega) (fun a b => by simp only [Bool.or_eq_true, decide_eq_true_eq]; omega) xs
  exact h.imp fun h => by simpa using h
theorem sort_uniq {xs ys : List Int} (h : xs.Perm ys) (hx : xs.Pairwise (· ≤ ·)) (hy : ys.Pairwise (· ≤ ·)) : xs = ys := by
  induction xs generalizing ys with
  | nil => exact (List.nil_perm.mp h).symm
  | cons x xs ih =>
    cases ys with
    | nil => exact absurd h.symm (by simp)
    | cons y ys =>
      rw [List.pairwise_cons] at hx hy
      have e : x = y := by
        have h1 : x ∈ y :: ys := h.mem_iff.mp List.mem_cons_self
        have h2 : y ∈ x :: xs := h.mem_iff.mpr List.mem_cons_self
        rcases List.mem_cons.mp h1 with h1 | h1
        · exact h1
        · rcases List.mem_cons.mp h2 with h2 | h2
          · exact h2.symm
          · have := hx.1 y h2
            have := hy.1 x h1
            omega
      subst e
      rw [ih (List.perm_cons x |>.mp h) hx.2 hy.2]
theorem sortI_eq {xs ys : List Int} (h : ys.Perm xs) (hy : ys.Pairwise (· ≤ ·)) : ys = sortI xs := sort_uniq (h.trans (sortI_perm xs).symm) hy (sortI_sorted xs)
theorem cr_sortI (hK : X.K = K) : CallR X (.builtin "sorted") (fun vs H Q => ∃ (a : Addr) (ns : List Int), vs = [V.ref a] ∧ SqL K H a (ns.map V.int) ∧ ∀ p, H p = none → Q (.ref p) (upd H p (.lst ((sortI ns).map V.int)))) := by
  subst hK
  intro pins s σ H xs us Q I r ⟨a, ns, e, h, q⟩
  refine cr_sortedI pins s σ H xs us Q I r ⟨a, ns, e, h, fun ns' p h1 h2 hp => ?_⟩
  rw [sortI_eq h1 h2]
  exact q p hp
theorem ix_listK (hK : X.K = K) : IxR X (rIxL K) := hK ▸ ix_list
theorem ix_tupK (hK : X.K = K) : IxR X (rIxT K) := hK ▸ ix_tup
theorem sl_listK (hK : X.K = K) : SlR X (rSlL K) := hK ▸ sl_list
theorem cr_sumK (hK : X.K = K) (hc : X.calm = true) : CallR X (.builtin "sum") (rSum K) := hK ▸ cr_sum hc
theorem call_list_ofK (hK : X.K = K) : CallR X (.type "list") (fun xs H Q => ∃ p ys, xs = [.ref p] ∧ (SqL K H p ys ∨ SqT K H p ys) ∧ ∀ l, H l = none → Q (.ref l) (upd H l (.lst ys))) := hK ▸ call_list_of
theorem call_tuple_ofK (hK : X.K = K) : CallR X (.type "tuple") (fun xs H Q => ∃ p ys, xs = [.ref p] ∧ ((SqL K H p ys ∧ ∀ l, H l = none → Q (.ref l) (upd H l (.tup ys))) ∨ (SqT K H p ys ∧ Q (.ref p) H))) := hK ▸ call_tuple_of
theorem pi_listK {tg l : Expr} {tl : TE} (hK : X.K = K) (hl : PE X l tl) : PI X tg l (iList K tl) := hK ▸ pi_list hl
theorem pi_tupK {tg l : Expr} {tl : TE} (hK : X.K = K) (hl : PE X l tl) : PI X tg l (iTup K tl) := hK ▸ pi_tup hl
theorem pi_k {tg l : Expr} {wi : Fg → TI} (hK : X.K = K) (h : PI X tg l (wi X.K)) : PI X tg l (wi K) := hK ▸ h
theorem pe_k {e : Expr} {t : Fg → TE} (hK : X.K = K) (h : PE X e (t X.K)) : PE X e (t K) := hK ▸ h
theorem pg_k {tg : Expr} {t : Fg → TG} (hK : X.K = K) (h : PG X tg (t X.K)) : PG X tg (t K) := hK ▸ h
end
end Z
/-! Z3: sets of tuples by their number, isinstance -/
namespace Z
open PySem L2 PySem.Spec PyProof.Rows
open Rep (rep)
/-- each once -/
def nub {α : Type} [DecidableEq α] : List α → List α
  | [] => []
  | x :: xs => if x ∈ xs then nub xs else x :: nub xs
section
variable {α : Type} [DecidableEq α]
theorem nub_mem {y : α} : ∀ {xs : List α}, y ∈ nub xs ↔ y ∈ xs
  | [] => Iff.rfl
  | x :: xs => by
    unfold nub
    by_cases h : x ∈ xs
    · rw [if_pos h, nub_mem]
      exact ⟨List.mem_cons_of_mem _, fun q => (List.mem_cons.mp q).elim (fun e => e ▸ h) id⟩
    · rw [if_neg h, List.mem_cons, List.mem_cons, nub_mem]
theorem nub_nodup : ∀ (xs : List α), (nub xs).Nodup
  | [] => List.nodup_nil
  | x :: xs => by
    unfold nub
    by_cases h : x ∈ xs
    · rw [if_pos h]
      exact nub_nodup xs
    · rw [if_neg h]
      exact List.nodup_cons.mpr ⟨fun q => h (nub_mem.mp q), nub_nodup xs⟩
theorem nub_le : ∀ (xs : List α), (nub xs).length ≤ xs.length
  | [] => Nat.le_refl _
  | x :: xs => by
    unfold nub
    have := nub_le xs
    by_cases h : x ∈ xs
    · rw [if_pos h, List.length_cons]
      omega
    · rw [if_neg h, List.length_cons, List.length_cons]
      omega
theorem nub_len : ∀ {xs : List α}, (nub xs).length = xs.length ↔ xs.Nodup
  | [] => by simp [nub]
  | x :: xs => by
    unfold nub
    by_cases h : x ∈ xs
    · rw [if_pos h, List.length_cons]
      have := nub_le xs
      constructor
      · intro e
        omega
      · intro e
        exact absurd h (List.nodup_cons.mp e).1
    · rw [if_neg h, List.length_cons, List.length_cons, List.nodup_cons]
      constructor
      · intro e
        exact ⟨h, nub_len.mp (by omega)⟩
      · intro e
        rw [nub_len.mpr e.2]
theorem nodup_le : ∀ {xs ys : List α}, xs.Nodup → (∀ y ∈ xs, y ∈ ys) → xs.length ≤ ys.length
  | [], _, _, _ => Nat.zero_le _
  | x :: xs, ys, h, hs => by
    obtain ⟨h1, h2⟩ := List.nodup_cons.mp h
    have hx : x ∈ ys := hs x List.mem_cons_self
    have := nodup_le (xs := xs) (ys := ys.erase x) h2 fun y hy => (List.mem_erase_of_ne (show y ≠ x from fun e => by subst e; exact h1 hy)).mpr (hs y (List.mem_cons_of_mem _ hy))
    rw [List.length_erase_of_mem hx] at this
    have := List.length_pos_of_mem hx
    rw [List.length_cons]
    omega
theorem nodup_len {xs ys : List α} (h1 : xs.Nodup) (h2 : ys.Nodup) (h : ∀ y, y ∈ xs ↔ y ∈ ys) : xs.length = ys.length := by
  refine Nat.le_antisymm ?_ ?_
  · exact nodup_le h1 fun y hy => (h y).mp hy
  · exact nodup_le h2 fun y hy => (h y).mpr hy
end
section
variable {X : Cx} {K : Fg} {P : Program} {w : World} {F H : Hp}
/-- tuples of ints by their places -/
theorem tups_ks : ∀ {vs : List V} {xs : List (Tup Int)}, A2 (rep K H) vs xs → ∃ ks : List (Addr × List Int), vs = ks.map (fun p => V.ref p.1) ∧ ks.map (·.2) = xs.map (·.l) ∧ ∀ p ∈ ks, H p.1 = some (.tup (p.2.map V.int))
  | _, _, .nil => ⟨[], rfl, rfl, fun _ h => nomatch h⟩
  | _, _, .cons (x := x) h t => by
    obtain ⟨ks, h1, h2, h3⟩ := tups_ks t
    obtain ⟨a, us, rfl, q, hu⟩ := h
    refine ⟨(a, x.l) :: ks, by rw [h1]; rfl, by rw [List.map_cons, List.map_cons, h2], fun p hp => ?_⟩
    rcases List.mem_cons.mp hp with rfl | hp
    · rw [← hu.ints]
      exact q
    · exact h3 p hp
theorem setT0_len {pins : List (Addr × Obj)} {σ : L2.St} {s : Shared} {a : Addr} {L : List (Addr × List Int)} {Q : VK} (I : Inv X pins σ H s) (R : SetT0 X.prog X.w s.heap a L) (q : (L.map (·.2)).Nodup → Q (.int (L.length : Nat)) H) :
    wpAny (model X.prog X.w) X.A (call (.builtin "len") [.ref a]) (EP X pins σ Q) X.xe s := by
  obtain ⟨es, ep, t, ⟨o, ho, hex, hd⟩, hr, ht, hn, _, _, _, hf⟩ := R.ex
  have hsz : es.size = L.length := by
    have h := congrArg List.length hr
    unfold rowsOf at h
    rw [Array.length_toList, List.length_map] at h
    exact h
  have hps : t.place.size = L.length := by
    have := ht.sz
    rw [List.length_map] at this
    exact this
  have hroom := R.ex
  obtain ⟨_, _, t', ⟨o', ho', _, hd'⟩, _, _, _, _, _, hm, _⟩ := hroom
  rw [ho] at ho'
  cases ho'
  rw [hd] at hd'
  cases hd'
  have hfit : t.fits es.size = true := by
    unfold SetTable.fits SetTable.fill
    rw [ht.dm, hps, hsz]
    simp
    omega
  exact call_len_set ho hex hd hfit (by rw [hsz]; omega) ⟨.int (L.length : Nat), H, I.tok _, ⟨_, by rw [hsz]⟩, q hn⟩
/-- set(xs) of tuples, then len of it -/
theorem cr_setT (hK : X.K = K) (hP : X.prog = P) (hw : X.w = w) (hc : X.calm = true) (hu : X.A.units + 64 < cLine) : CallR X (.type "set") (fun xs H Q => ∃ (ys : List (Tup Int)) (v : V), xs = [v] ∧ rep K H v ys ∧ ys.length < 64 ∧
    ∀ a L, H a = none → ((L.map (·.2)).Nodup → L.length = (nub ys).length) → Q (.ref a) (upd H a (SetTO P w a L))) := by
  subst hK hP hw
  intro pins s σ H xs us Q I r ⟨ys, v, e, hr, hl, q⟩
  obtain ⟨a, vs, rfl, hq, h⟩ := hr
  obtain ⟨ks, h1, h2, h3⟩ := tups_ks h
  subst h1
  have hks : ks.length = ys.length := by
    have := congrArg List.length h2
    simpa using this
  refine cr_setOfT hc hu pins s σ H xs us Q I r ⟨a, ks, e, SqL.of hq, fun p hp => SqT.of (h3 p hp), by omega, fun b L hb hsub hall => q b L hb fun hn => ?_⟩
  have key : (L.map (·.2)).length = ((nub ys).map (·.l)).length := by
    refine nodup_len hn ?_ fun y => ?_
    · have inj : ∀ x y : Tup Int, x.l = y.l → x = y := fun x y e => by cases x; cases y; simp at e; rw [e]
      refine List.Pairwise.map (R := (· ≠ ·)) _ (fun x y hxy e => hxy (inj x y e)) (nub_nodup ys)
    · constructor
      · intro hy
        obtain ⟨p, hp, rfl⟩ := List.mem_map.mp hy
        have h4 : p.2 ∈ ks.map (·.2) := List.mem_map.mpr ⟨p, hsub p hp, rfl⟩
        rw [h2] at h4
        obtain ⟨z, hz, e⟩ := List.mem_map.mp h4
        exact List.mem_map.mpr ⟨z, nub_mem.mpr hz, e⟩
      · intro hy
        obtain ⟨z, hz, rfl⟩ := List.mem_map.mp hy
        have h4 : z.l ∈ ks.map (·.2) := by
          rw [h2]
          exact List.mem_map.mpr ⟨z, nub_mem.mp hz, rfl⟩
        obtain ⟨p, hp, e⟩ := List.mem_map.mp h4
        rw [← e]
        exact hall p hp
  rw [List.length_map, List.length_map] at key
  exact key
theorem call_lenT (hP : X.prog = P) (hw : X.w = w) : CallR X (.builtin "len") (fun xs H Q => ∃ (a : Addr) (L : List (Addr × List Int)) (n : Nat), xs = [.ref a] ∧ H a = some (SetTO P w a L) ∧ ((L.map (·.2)).Nodup → L.length = n) ∧ Q (.int (n : Nat)) H) := by
  subst hP hw
  intro pins s σ H xs us Q I r ⟨a, L, n, e, ha, hn, q⟩
  subst e
  rw [Vals.ref1 r]
  have R : SetT0 X.prog X.w s.heap a L := (show ObjOk X.prog X.w H s.heap a (SetTO X.prog X.w a L) from I.hok a _ ha).1
  exact setT0_len I R fun nd => by rw [hn nd]; exact q
/-- isinstance of a plain value and a built-in class -/
theorem call_isB (hK : X.K = K) : CallR X (.builtin "isinstance") (fun xs H Q => ∃ (x : V) (a b : String) (r : Bool), xs = [x, .ty b] ∧ TyOf K H x (.type a) ∧ kitB a b = some r ∧ Q (.bl r) H) := by
  subst hK
  intro pins s σ H xs us Q I r ⟨x, a, b, c, e, h1, h2, q⟩
  exact call_isi pins s σ H xs us Q I r ⟨x, .ty b, .type a, .type b, c, e, .ty b, .base h1, kit_ty h2, q⟩
end
end Z
namespace Z
open PySem L2 PySem.Spec PyProof.Rows
open Rep (rep)
section
variable {α : Type}
/-- the first place of an item -/
def fidx [DecidableEq α] (y : α) : List α → Option Nat
  | [] => none
  | x :: xs => if x = y then some 0 else (fidx y xs).map (· + 1)
def idxR [DecidableEq α] (xs : List α) (y : α) : R Int := ofO ((fidx y xs).map fun j => ((j : Nat) : Int))
theorem fidx_spec [DecidableEq α] {y : α} : ∀ {xs : List α} {j : Nat}, fidx y xs = some j → xs[j]? = some y ∧ ∀ m z, m < j → xs[m]? = some z → z ≠ y
  | [], j, h => nomatch h
  | x :: xs, j, h => by
    unfold fidx at h
    by_cases e : x = y
    · rw [if_pos e] at h
      cases h
      subst e
      exact ⟨rfl, fun m z hm => absurd hm (Nat.not_lt_zero _)⟩
    · rw [if_neg e] at h
      cases q : fidx y xs with
      | none => rw [q] at h; cases h
      | some k =>
        rw [q] at h
        cases h
        obtain ⟨h1, h2⟩ := fidx_spec q
        refine ⟨by simpa using h1, fun m z hm hz => ?_⟩
        cases m with
        | zero =>
          simp at hz
          subst hz
          exact e
        | succ m => exact h2 m z (Nat.lt_of_succ_lt_succ hm) (by simpa using hz)
variable {δ : Type} {P : δ → Prop} {E : Exn → Prop}
theorem pb_idx [DecidableEq α] {xs : List α} {y : α} {f : Int → R δ} (h : Post (idxR xs y >>= f) P E) : ∃ j : Nat, fidx y xs = some j ∧ Post (f (j : Int)) P E := by
  unfold idxR at h
  cases q : fidx y xs with
  | none => rw [q] at h; exact (show False from h).elim
  | some j => rw [q] at h; exact ⟨j, rfl, h⟩
end
section
variable {X : Cx} {K : Fg} {F H : Hp}
theorem A2.strs {vs : List V} {xs : List Str} (h : A2 (rep K H) vs xs) : vs = xs.map V.str := by
  induction h with
  | nil => rfl
  | cons a _ ih =>
    have a' : _ = V.str _ := a
    rw [a', ih]
    rfl
theorem bools_q {a : Addr} {vs : List V} {xs : List Bool} (q : SqL K H a vs) (h : A2 (rep K F) vs xs) : SqL K H a (xs.map V.bl) := h.bools ▸ q
theorem strs_q {a : Addr} {vs : List V} {xs : List Str} (q : SqL K H a vs) (h : A2 (rep K F) vs xs) : SqL K H a (xs.map V.str) := h.strs ▸ q
theorem mt_indexS (hK : X.K = K) : MtR X "list.index" (fun x xs H Q => ∃ (a : Addr) (ys : List Str) (y : Str) (j : Nat), x = V.ref a ∧ xs = [.str y] ∧ SqL K H a (ys.map V.str) ∧ fidx y ys = some j ∧ Q (.int (j : Int)) H) := by
  subst hK
  intro pins s σ H x xs v us Q I rx rxs ⟨a, ys, y, j, e1, e2, hs, hj, q⟩
  obtain ⟨h1, h2⟩ := fidx_spec hj
  refine mt_index pins s σ H x xs v us Q I rx rxs ⟨a, _, .str y, j, .str y, e1, e2, hs, rfl, ?_, ?_, ?_, fun m z hm hz => ?_, q⟩
  · rw [List.all_eq_true]
    intro z hz
    obtain ⟨t, _, rfl⟩ := List.mem_map.mp hz
    rfl
  · rw [List.getElem?_map, h1]
    rfl
  · show (y == y) = true
    simp
  · rw [List.getElem?_map] at hz
    cases e : ys[m]? with
    | none => rw [e] at hz; cases hz
    | some t =>
      rw [e] at hz
      cases hz
      have := h2 m t hm e
      show (t == y) = false
      simpa using this
theorem mt_indexI (hK : X.K = K) : MtR X "list.index" (fun x xs H Q => ∃ (a : Addr) (ys : List Int) (y : Int) (j : Nat), x = V.ref a ∧ xs = [.int y] ∧ SqL K H a (ys.map V.int) ∧ fidx y ys = some j ∧ Q (.int (j : Int)) H) := by
  subst hK
  intro pins s σ H x xs v us Q I rx rxs ⟨a, ys, y, j, e1, e2, hs, hj, q⟩
  obtain ⟨h1, h2⟩ := fidx_spec hj
  refine mt_index pins s σ H x xs v us Q I rx rxs ⟨a, _, .int y, j, .int y, e1, e2, hs, rfl, ?_, ?_, ?_, fun m z hm hz => ?_, q⟩
  · rw [List.all_eq_true]
    intro z hz
    obtain ⟨t, _, rfl⟩ := List.mem_map.mp hz
    rfl
  · rw [List.getElem?_map, h1]
    rfl
  · show (y == y) = true
    simp
  · rw [List.getElem?_map] at hz
    cases e : ys[m]? with
    | none => rw [e] at hz; cases hz
    | some t =>
      rw [e] at hz
      cases hz
      have := h2 m t hm e
      show (t == y) = false
      simpa using this
theorem cr_allK (hK : X.K = K) (hc : X.calm = true) : CallR X (.builtin "all") (rAll K) := hK ▸ cr_all hc
theorem cr_anyK (hK : X.K = K) (hc : X.calm = true) : CallR X (.builtin "any") (rAny K) := hK ▸ cr_any hc
end
end Z
namespace HT
open PySem PySem.Spec PyProof.Rows
section
variable {prog : Program} {w : World} {A : Around} {E : Value → Shared → Prop} {s : Shared}
/-- t[::-1] of a tuple of two -/
theorem zrev_two {t sl : Addr} {x y vs : Value} {Q : Value → Shared → Prop} (ht : IsTup s.heap t #[x, y]) (hs : s.heap.IsSliceOf sl .none .none vs) (pl : IsPart .none none) (ps : IsPart vs (some (-1)))
    (h : Q (.ref s.heap.objs.size) { s with heap := s.heap.push { cls := .type "tuple", data := .seq #[y, x] } }) : wpAny (model prog w) A (getItem (.ref t) (.ref sl)) Q E s := by
  have htake : sizeOk (.seq #[y, x]) := by
    show 2 ≤ sizeLine
    decide
  obtain ⟨os, hos, hcs, hds⟩ := id hs
  have hTs : s.TypeIs (.ref sl) "slice" := ⟨os, hos, hcs⟩
  unfold getItem
  try with_reducible refine wpAny_holding ?_
  first | refine wpAny_bind (wpAny_pure ?_) | skip
  refine wpAny_bind (wpAny_sequenceKey ht.typeIs (by decide) ?_)
  refine wpAny_bind (wpAny_callSpecial?_slot (name := Str.ofString "__getitem__") ht.typeIs PyProof.Rows.slot_tuple_getitem
    (wpAny_call_entry PyProof.Rows.slot_tuple_getitem ht.typeIs entry_tuple_getitem ?_ (args_tuple_getitem _ _)))
  show wpAny _ _ (Builtin.Tuple.tupleItemsOf (.ref t) >>= _) _ _ s
  refine wpAny_bind (tupleItemsOf_ ht ?_)
  refine wpAny_bind (wpAny_typeOf hTs ?_)
  rw [if_pos (by decide)]
  have key : ∀ {A' : Around} {E' : Value → Shared → Prop} {R : Int × Int × Nat → Shared → Prop}, R ((1 : Int), -1, 2) s → wpAny (model prog w) A' (Builtin.Slice.sliceApplied (.ref sl) (pure (2 : Int))) R E' s := by
    intro A' E' R hR
    unfold Builtin.Slice.sliceApplied Builtin.Slice.sliceFields
    refine wpAny_bind (wpAny_bind (wpAny_field hos hds (x := .none) rfl (wpAny_bind (wpAny_field hos hds (x := .none) rfl (wpAny_bind (wpAny_field hos hds (x := vs) rfl (wpAny_pure ?_)))))))
    refine wpAny_bind (slicePart_ ps ?_)
    show wpAny _ _ (if ((-1 : Int) == 0) = true then _ else _) _ _ s
    rw [if_neg (by decide)]
    refine wpAny_bind (slicePart_ pl (wpAny_bind (slicePart_ pl (wpAny_bind (wpAny_pure ?_)))))
    show wpAny _ _ (match Builtin.Slice.sliceAdjust none none (-1) (2 : Int) with | (lo, hi) => pure (lo, (-1 : Int), Builtin.Slice.slicePlaces lo hi (-1))) _ _ s
    exact wpAny_pure hR
  refine wpAny_bind (key ?_)
  show wpAny _ _ (if ((1 : Int) == 0 && (-1 : Int) == 1 && (2 : Nat) == 2) = true then _ else _) _ _ s
  rw [if_neg (by decide)]
  first
    | exact wpAny_bind (m := Builtin.Tuple.tupleExact _) (wpAny_newObj_type (wpAny_pure ⟨_, rfl, wpAny_pure h⟩) htake)
    | exact wpAny_bind (m := Builtin.Tuple.tupleExact _) (wpAny_newObj_type (wpAny_bind (wpAny_pure (wpAny_pure ⟨_, rfl, wpAny_pure h⟩))) htake)
    | exact wpAny_bind (wpAny_bind (m := Builtin.Tuple.tupleExact _) (wpAny_newObj_type (wpAny_pure (wpAny_pure ⟨_, rfl, wpAny_pure h⟩)) htake))
    | exact wpAny_bind (wpAny_bind (m := Builtin.Tuple.tupleExact _) (wpAny_newObj_type (wpAny_pure ⟨_, rfl, wpAny_pure h⟩) htake))
end
end HT
namespace Z
open PySem L2 PySem.Spec PyProof.Rows
open Rep (rep)
section
variable {X : Cx} {K : Fg} {F H : Hp}
def tRev2 (te : TE) : TE := fun σ H Q => te σ H fun x H1 => ∃ a u w, x = .ref a ∧ H1 a = some (.tup [u, w]) ∧ ∀ p, H1 p = none → Q (.ref p) (upd H1 p (.tup [w, u]))
theorem pe_rev2 {e : Expr} {te : TE} {k : Nat} {p1 p2 p3 pos : Pos} (he : PE X e te) : PE X (.Subscript e (.Slice none none (some (.UnaryOp .USub (.Constant (.int 1) k p1) p2)) p3) pos) (tRev2 te) := by
  refine ⟨fun pins s σ H Q I h => ?_⟩
  refine Subscript_ (thn (he.run pins s σ H _ I h) fun v s1 ⟨x, H1, I1, r1, q1⟩ => ?_)
  obtain ⟨a, c, d, ex, hx, q⟩ := q1
  subst ex
  cases r1
  have hst : PO X (some (.UnaryOp .USub (.Constant (.int 1) k p1) p2)) (tPart (tUn (rU fun i => .int (-i)) (tC (.int 1)))) := po_some (pe_un un_neg pe_int)
  refine wpAny_Slice (thn (po_none.run pins s1 σ H1 (fun o H2 => o = none ∧ H2 = H1) I1 ⟨rfl, rfl⟩) fun vl s2 ⟨l, H2, I2, pl, el, e2⟩ => ?_)
  subst el e2
  refine thn (po_none.run pins s2 σ H2 (fun o H3 => o = none ∧ H3 = H2) I2 ⟨rfl, rfl⟩) fun vu s3 ⟨u, H3, I3, pu, eu, e3⟩ => ?_
  subst eu e3
  refine thn (hst.run pins s3 σ H3 (fun o H4 => o = some (-1) ∧ H4 = H3) I3 ⟨1, rfl, -1, rfl, rfl, rfl⟩) fun vs s4 ⟨o, H4, I4, ps, eo, e4⟩ => ?_
  subst eo e4
  have I5 : Inv X pins σ H4 { s4 with heap := s4.heap.push { cls := .type "slice", data := .fields #[vl, vu, vs] } } := I4.kept (t' := s4.toks) fun b ob q => Heap.get?_push_of_some _ q
  obtain ⟨its, r, ht, hz⟩ := I5.tuple (SqT.of hx)
  cases r with
  | cons r1 r' =>
    rename_i uu us
    cases r' with
    | cons r2 r'' =>
      rename_i ww ws
      cases r''
      cases pl
      cases pu
      show wpAny (model X.prog X.w) X.A (subscriptTail e (.Slice none none (some (.UnaryOp .USub (.Constant (.int 1) k p1) p2)) p3) (.ref a) (.ref s4.heap.objs.size)) (EP X pins σ Q) X.xe { s4 with heap := s4.heap.push { cls := .type "slice", data := .fields #[.none, .none, vs] } }
      refine tail_any (ops := [.ref a, .ref s4.heap.objs.size]) ht.typeIs (PyProof.Rows.slot_tuple_getitem.lookup) ?_ (by with_unfolding_all rfl)
      refine HT.zrev_two ht (Heap.IsSliceOf.new _ .none .none vs) .none ps ?_
      exact ⟨.ref _, _, I5.laid (t' := s4.toks) (o := .tup [d, c]) (fun b ob q => Heap.get?_push_of_some _ q) (Nat.le_refl _) ⟨by show 2 ≤ sizeLine; decide, [ww, uu], .cons r2 (.cons r1 .nil), IsTup.new _ _⟩, rfl, q _ (I5.hok.fresh (Nat.le_refl _))⟩
/-- two things turned about -/
def rev2 {α : Type} (xs : List α) : R (List α) := match xs with
  | [x, y] => .ok [y, x]
  | _ => .bad
theorem pb_rev2 {α δ : Type} {xs : List α} {f : List α → R δ} {P : δ → Prop} {E : Exn → Prop} (h : Post (rev2 xs >>= f) P E) : ∃ x y, xs = [x, y] ∧ Post (f [y, x]) P E := by
  cases xs with
  | nil => exact (show False from h).elim
  | cons x xs =>
    cases xs with
    | nil => exact (show False from h).elim
    | cons y xs =>
      cases xs with
      | nil => exact ⟨x, y, rfl, h⟩
      | cons z xs => exact (show False from h).elim
theorem A2.two {α : Type} {r : V → α → Prop} {vs : List V} {x y : α} (h : A2 r vs [x, y]) : ∃ u w, vs = [u, w] ∧ r u x ∧ r w y := by
  cases h with
  | cons a t =>
    cases t with
    | cons b t =>
      cases t
      exact ⟨_, _, rfl, a, b⟩
/-- xs * k -/
def repL {α : Type} (xs : List α) (k : Int) : List α := (List.replicate k.toNat xs).flatten
@[irreducible] def repR {α : Type} (xs : List α) (k : Int) : R (List α) := if -(2 ^ 62) ≤ k ∧ k < 2 ^ 62 ∧ xs.length * k.toNat < 100000 then .ok (repL xs k) else .bad
theorem pb_rep {α δ : Type} {xs : List α} {k : Int} {f : List α → R δ} {P : δ → Prop} {E : Exn → Prop} (h : Post (repR xs k >>= f) P E) : ∃ ys, (-(2 ^ 63) ≤ k ∧ k < 2 ^ 63 ∧ xs.length * k.toNat ≤ sizeLine) ∧ ys = repL xs k ∧ Post (f ys) P E := by
  unfold repR at h
  obtain ⟨⟨a, b, c⟩, d⟩ := pb_if h
  exact ⟨_, ⟨by omega, by omega, Nat.le_of_lt (Nat.lt_of_lt_of_le c line5)⟩, rfl, d⟩
theorem A2.flat {α : Type} {r : V → α → Prop} {vs : List V} {xs : List α} (h : A2 r vs xs) (n : Nat) : A2 r (List.replicate n vs).flatten (List.replicate n xs).flatten := by
  induction n with
  | zero => exact .nil
  | succ n ih =>
    rw [List.replicate_succ, List.replicate_succ, List.flatten_cons, List.flatten_cons]
    exact h.append ih
/-! ### None -/
class NonN (α : Type) extends Rep α where
  no : ∀ {K : Fg} {H : Hp} {v : V} {x : α}, rep K H v x → v ≠ .non
instance : NonN Int := ⟨fun h e => by have h' : _ = V.int _ := h; rw [h'] at e; cases e⟩
instance : NonN Bool := ⟨fun h e => by have h' : _ = V.bl _ := h; rw [h'] at e; cases e⟩
instance {α β : Type} [Rep α] [Rep β] : NonN (α × β) := ⟨fun {K H v x} h q => by
  obtain ⟨a, u, w, e, _⟩ := h
  rw [e] at q
  cases q⟩
instance {α : Type} [Rep α] : NonN (List α) := ⟨fun {K H v x} h q => by
  obtain ⟨a, u, e, _⟩ := h
  rw [e] at q
  cases q⟩
instance {α : Type} [Rep α] : NonN (Tup α) := ⟨fun {K H v x} h q => by
  obtain ⟨a, u, e, _⟩ := h
  rw [e] at q
  cases q⟩
theorem isN_eq {α : Type} [NonN α] {v : V} {o : Option α} (h : rep K F v o) : decide (v = .non) = o.isNone := by
  cases o with
  | none =>
    have h' : v = V.non := h
    rw [h']
    rfl
  | some x => exact decide_eq_false (NonN.no (α := α) h)
theorem op_isN2 : OpR X (compareOp .Is) (fun x y H Q => y = V.non ∧ ∃ b, decide (x = .non) = b ∧ Q (.bl b) H) := by
  intro pins s σ H x y v u Q I rx ry ⟨e, b, hb, q⟩
  exact op_isN pins s σ H x y v u Q I rx ry ⟨e, by rw [hb]; exact q⟩
theorem op_notN2 : OpR X (compareOp .IsNot) (fun x y H Q => y = V.non ∧ ∃ b, decide (x = .non) = b ∧ Q (.bl (!b)) H) := by
  intro pins s σ H x y v u Q I rx ry ⟨e, b, hb, q⟩
  exact op_notN pins s σ H x y v u Q I rx ry ⟨e, by rw [hb]; exact q⟩
instance datOptBool : Dat (Option Bool) where
  toD := fun x => match x with
    | none => .none
    | some i => .bool i
  dmax := 0
  dp := fun {K H v x} h => by
    cases x with
    | none =>
      have h' : v = V.non := h
      subst h'
      exact .non
    | some i =>
      have h' : v = V.bl i := h
      subst h'
      exact .bl _
  lay := fun x => by cases x <;> simp only [PyData.canLay0]
  dep := fun x => by cases x <;> simp only [PyData.depth, Nat.le_refl]
  eqv := fun x y => by cases x <;> cases y <;> simp [PyData.eqv]
end
end Z
/-! Z4: statements never reached, tuples into the frozen part, pairs sorted, dicts of scalars, list(range), pop -/
namespace Z
open PySem L2
open Rep (rep)
section
variable {X : Cx}
theorem ps_absurd {st : Stmt} : PS X st (fun _ _ _ => False) := ⟨fun _ _ _ _ _ _ h => h.elim⟩
theorem stepAnd {t u : TT} {σ : L2.St} {H : Hp} {Q : Bool → Hp → Prop} (h : t σ H fun c H1 => if c = true then u σ H1 Q else Q false H1) : tAnd t u σ H Q := h
theorem stepOr {t u : TT} {σ : L2.St} {H : Hp} {Q : Bool → Hp → Prop} (h : t σ H fun c H1 => if c = true then Q true H1 else u σ H1 Q) : tOr t u σ H Q := h
theorem stepNot {t : TT} {σ : L2.St} {H : Hp} {Q : Bool → Hp → Prop} (h : t σ H fun c H1 => Q (!c) H1) : tNot t σ H Q := h
/-- every tuple there is may be read -/
def tupF (F H : Hp) : Hp := fun b => match F b with
  | some u => some u
  | none => match H b with
    | some (.tup vs) => some (.tup vs)
    | _ => none
theorem tupF_some {F H : Hp} {b : Addr} {u : HO} (e : F b = some u) : tupF F H b = some u := by
  unfold tupF
  rw [e]
theorem tupF_none {F H : Hp} {b : Addr} {u : HO} (e : F b = none) (h : tupF F H b = some u) : H b = some u ∧ ∃ vs, u = .tup vs := by
  unfold tupF at h
  rw [e] at h
  dsimp only at h
  split at h
  · rename_i vs e'
    cases h
    exact ⟨e', _, rfl⟩
  · cases h
theorem tupF_tup {F H : Hp} {b : Addr} {vs : List V} (e : F b = none) (h : H b = some (.tup vs)) : tupF F H b = some (.tup vs) := by
  unfold tupF
  rw [e, h]
theorem W.tups {F H : Hp} {os : List (Addr × HO)} (w : W F H os) : ∃ F', Same F F' ∧ W F' H os ∧ ∀ b vs, H b = some (.tup vs) → F' b = some (.tup vs) := by
  refine ⟨tupF F H, fun b u e => tupF_some e, ⟨fun b u e => ?_, fun p hp => ?_, w.nd, w.nt⟩, fun b vs e => ?_⟩
  · cases q : F b with
    | some u' =>
      rw [tupF_some q] at e
      cases e
      exact w.same b _ q
    | none => exact (tupF_none q e).1
  · obtain ⟨h1, h2⟩ := w.own p hp
    refine ⟨h1, ?_⟩
    cases q : tupF F H p.1 with
    | none => rfl
    | some u =>
      obtain ⟨k, vs, rfl⟩ := tupF_none h2 q
      rw [h1] at k
      exact absurd (Option.some.inj k) (w.nt p hp vs)
  · cases q : F b with
    | some u' =>
      have := w.same b _ q
      rw [e] at this
      cases this
      exact tupF_some q
    | none => exact tupF_tup q e
/-! ### sorted, of pairs -/
def leP (p q : Int × Int) : Bool := decide (p.1 < q.1 ∨ (p.1 = q.1 ∧ p.2 ≤ q.2))
def sortP (xs : List (Int × Int)) : List (Int × Int) := xs.mergeSort leP
theorem sortP_perm (xs : List (Int × Int)) : (sortP xs).Perm xs := List.mergeSort_perm xs _
theorem sortP_sorted (xs : List (Int × Int)) : (sortP xs).Pairwise fun p q => leP p q = true := by
  refine List.pairwise_mergeSort (le := leP) (fun a b c h1 h2 => ?_) (fun a b => ?_) xs
  · unfold leP at *
    simp only [decide_eq_true_eq] at *
    omega
  · unfold leP
    simp only [Bool.or_eq_true, decide_eq_true_eq]
    omega
theorem sortP_uniq {xs ys : List (Int × Int)} (h : xs.Perm ys) (hx : xs.Pairwise fun p q => leP p q = true) (hy : ys.Pairwise fun p q => leP p q = true) : xs = ys := by
  induction xs generalizing ys with
  | nil => exact (List.nil_perm.mp h).symm
  | cons x xs ih =>
    cases ys with
    | nil => exact absurd h.length_eq (by simp)
    | cons y ys =>
      rw [List.pairwise_cons] at hx hy
      have e : x = y := by
        have h1 : y ∈ x :: xs := h.mem_iff.mpr List.mem_cons_self
        have h2 : x ∈ y :: ys := h.mem_iff.mp List.mem_cons_self
        rcases List.mem_cons.mp h1 with e | h1
        · exact e.symm
        · rcases List.mem_cons.mp h2 with e | h2
          · exact e
          · have a := hx.1 y h1
            have b := hy.1 x h2
            unfold leP at a b
            simp only [decide_eq_true_eq] at a b
            exact Prod.ext (by omega) (by omega)
      subst e
      rw [ih h.cons_inv hx.2 hy.2]
theorem sortP_eq {xs ys : List (Int × Int)} (h : ys.Perm xs) (hy : ys.Pairwise fun p q => leP p q = true) : ys = sortP xs := sortP_uniq (h.trans (sortP_perm xs).symm) hy (sortP_sorted xs)
/-- which pair stands at a reference -/
def keyP (H : Hp) (v : V) : Int × Int := match v with
  | .ref t => match H t with
    | some (.tup [.int i, .int j]) => (i, j)
    | _ => (0, 0)
  | _ => (0, 0)
theorem keyP_of {K : Fg} {F H : Hp} {v : V} {x : Int × Int} (s : Same F H) (r : rep K F v x) : ∃ t, v = .ref t ∧ F t = some (.tup [.int x.1, .int x.2]) ∧ keyP H v = x := by
  obtain ⟨t, u, z, rfl, q, r1, r2⟩ := r
  obtain rfl : u = V.int x.1 := r1
  obtain rfl : z = V.int x.2 := r2
  refine ⟨t, rfl, q, ?_⟩
  have h := s _ _ q
  unfold keyP
  dsimp only
  rw [h]
theorem keyP_all {K : Fg} {F H : Hp} {vs : List V} {xs : List (Int × Int)} (s : Same F H) (h : A2 (rep K F) vs xs) : xs = vs.map (keyP H) ∧ ∀ v ∈ vs, ∃ t, v = .ref t ∧ F t = some (.tup [.int (keyP H v).1, .int (keyP H v).2]) := by
  induction h with
  | nil => exact ⟨rfl, fun _ z => nomatch z⟩
  | cons a b ih =>
    obtain ⟨t, e, q, k⟩ := keyP_of s a
    refine ⟨by rw [List.map_cons, k, ← ih.1], fun v hv => ?_⟩
    rcases List.mem_cons.mp hv with rfl | hv
    · exact ⟨t, e, by rw [k]; exact q⟩
    · exact ih.2 v hv
theorem rep_keys {K : Fg} {F H : Hp} : ∀ {ys : List V}, (∀ v ∈ ys, ∃ t, v = V.ref t ∧ F t = some (.tup [.int (keyP H v).1, .int (keyP H v).2])) → A2 (rep K F) ys (ys.map (keyP H))
  | [], _ => .nil
  | v :: ys, h => by
    obtain ⟨t, e, q⟩ := h v List.mem_cons_self
    refine .cons ?_ (rep_keys fun y hy => h y (List.mem_cons_of_mem _ hy))
    subst e
    exact ⟨t, _, _, rfl, q, rfl, rfl⟩
theorem cr_sortP {K : Fg} (hK : X.K = K) : CallR X (.builtin "sorted") (fun vs H Q => ∃ (a : Addr) (us : List V) (F : Hp) (xs : List (Int × Int)), vs = [V.ref a] ∧ SqL K H a us ∧ Same F H ∧ A2 (rep K F) us xs ∧
    ∀ p ys, H p = none → A2 (rep K F) ys (sortP xs) → Q (.ref p) (upd H p (.lst ys))) := by
  subst hK
  intro pins s σ H vs us Q I r h
  obtain ⟨a, us', F, xs, rfl, hs, sF, hA, q⟩ := h
  obtain ⟨e1, e2⟩ := keyP_all sF hA
  refine cr_sortedPO pins s σ H _ us Q I r ⟨a, us', keyP H, rfl, hs, fun x hx => ?_, fun ys p h1 h2 hp => q p ys hp ?_⟩
  · obtain ⟨t, e, k⟩ := e2 x hx
    exact ⟨t, e, sF _ _ k⟩
  · have e : ys.map (keyP H) = sortP xs := by
      refine sortP_eq ?_ ?_
      · rw [e1]
        exact h2.perm.map _
      · rw [List.pairwise_map]
        refine h1.imp fun {x y} h => ?_
        have h := SrtO.lexB_no.mp h
        unfold leP
        rw [decide_eq_true_eq]
        omega
    rw [← e]
    exact rep_keys fun v hv => e2 v (h2.perm.mem_iff.mp hv)
end
/-! ### dicts of scalars -/
section
variable {κ β γ δ : Type} [DecidableEq κ]
def mput (m : List (κ × β)) (k : κ) (v : β) : List (κ × β) := if (m.any fun p => decide (p.1 = k)) = true then m.map (fun p => if p.1 = k then (p.1, v) else p) else m ++ [(k, v)]
def mhas (m : List (κ × β)) (k : κ) : Bool := m.any fun p => decide (p.1 = k)
def mget (m : List (κ × β)) (k : κ) : Option β := (m.find? fun p => decide (p.1 = k)).map (·.2)
def mputR (m : List (κ × β)) (k : κ) (v : β) : R (List (κ × β)) := if m.length < 100000 then .ok (mput m k v) else .bad
def mgetR (m : List (κ × β)) (k : κ) : R β := ofO (mget m k)
/-- as the dict stands -/
def encM (e : κ → γ) (ev : β → V) (m : List (κ × β)) : List (γ × V) := m.map fun p => (e p.1, ev p.2)
variable [DecidableEq γ] {e : κ → γ} {ev : β → V}
theorem any_enc (he : ∀ a b, e a = e b → a = b) (m : List (κ × β)) (k : κ) : ((encM e ev m).any fun p => decide (p.1 = e k)) = m.any fun p => decide (p.1 = k) := by
  unfold encM
  rw [List.any_map]
  congr 1
  funext p
  show decide (e p.1 = e k) = decide (p.1 = k)
  by_cases h : p.1 = k
  · rw [h]; simp
  · rw [decide_eq_false h, decide_eq_false fun z => h (he _ _ z)]
theorem put_enc (he : ∀ a b, e a = e b → a = b) (m : List (κ × β)) (k : κ) (v : β) : putK (encM e ev m) (e k) (ev v) = encM e ev (mput m k v) := by
  unfold putK mput
  rw [any_enc he]
  by_cases h : (m.any fun p => decide (p.1 = k)) = true
  · rw [if_pos h, if_pos h]
    unfold encM
    rw [List.map_map, List.map_map]
    refine List.map_congr_left fun p _ => ?_
    show (if e p.1 = e k then (e p.1, ev v) else (e p.1, ev p.2)) = (fun q : κ × β => (e q.1, ev q.2)) (if p.1 = k then (p.1, v) else p)
    by_cases h : p.1 = k
    · rw [if_pos h, if_pos (congrArg e h)]
    · rw [if_neg h, if_neg fun z => h (he _ _ z)]
  · rw [if_neg h, if_neg h]
    unfold encM
    rw [List.map_append]
    rfl
theorem val_enc (he : ∀ a b, e a = e b → a = b) (k : κ) : ∀ m : List (κ × β), valV (encM e ev m) (e k) = (mget m k).map ev
  | [] => rfl
  | p :: m => by
    show valV ((e p.1, ev p.2) :: encM e ev m) (e k) = _
    unfold mget
    by_cases h : p.1 = k
    · rw [valV_pos (congrArg e h), List.find?_cons_of_pos (by simpa using h)]
      rfl
    · rw [valV_neg (fun z => h (he _ _ z)), List.find?_cons_of_neg (by simpa using h), val_enc he k m]
      rfl
theorem has_enc (he : ∀ a b, e a = e b → a = b) (m : List (κ × β)) (k : κ) : (valV (encM e ev m) (e k)).isSome = mhas m k := by
  rw [← valV_any, any_enc he]
  rfl
theorem enc_length (m : List (κ × β)) : (encM e ev m).length = m.length := List.length_map _
end
abbrev kI : Int → Key := .inl
theorem kI_inj : ∀ a b, kI a = kI b → a = b := fun _ _ h => Sum.inl.inj h
def kP (p : Int × Int) : List Key := [.inl p.1, .inl p.2]
theorem kP_inj : ∀ a b, kP a = kP b → a = b := fun a b h => by
  unfold kP at h
  injection h with h1 h2
  injection h2 with h2 _
  exact Prod.ext (Sum.inl.inj h1) (Sum.inl.inj h2)
section
variable {β : Type} {ev : β → V} {H : Hp} {a b : Addr}
theorem dget_k {m : List (Int × β)} {k : Int} (e : H a = some (.dK (encM kI ev m))) : DGet H a (.int k) ((mget m k).map ev) := by
  rw [← val_enc kI_inj]
  exact DGet.k (k := kI k) e
theorem dget_p {m : List ((Int × Int) × β)} {k : Int × Int} (e : H a = some (.dT (encM kP ev m))) (eb : H b = some (.tup [.int k.1, .int k.2])) : DGet H a (.ref b) ((mget m k).map ev) := by
  rw [← val_enc kP_inj]
  exact DGet.t (k := kP k) e eb
theorem get_has {κ : Type} [DecidableEq κ] (m : List (κ × β)) (k : κ) (f : β → V) : ((mget m k).map f).isSome = mhas m k := by
  rw [Option.isSome_map]
  unfold mget mhas
  rw [Option.isSome_map, List.isSome_find?]
theorem dput_k {m : List (Int × β)} {k : Int} {v : β} (e : H a = some (.dK (encM kI ev m))) (hl : m.length < sizeLine) : DPut H a (.int k) (ev v) (upd H a (.dK (encM kI ev (mput m k v)))) := by
  rw [← put_enc kI_inj]
  exact DPut.k (k := kI k) e (by rw [enc_length]; exact hl)
theorem dput_p {m : List ((Int × Int) × β)} {k : Int × Int} {v : β} (e : H a = some (.dT (encM kP ev m))) (eb : H b = some (.tup [.int k.1, .int k.2])) (hl : m.length < sizeLine) : DPut H a (.ref b) (ev v) (upd H a (.dT (encM kP ev (mput m k v)))) := by
  rw [← put_enc kP_inj]
  exact DPut.t (k := kP k) e eb (by rw [enc_length]; exact hl)
end
/-- the keys of a dict, as tuples that may be read -/
theorem keys_rep {β : Type} {ev : β → V} {K : Fg} {F H : Hp} (hF : ∀ b vs, H b = some (.tup vs) → F b = some (.tup vs)) : ∀ {m : List ((Int × Int) × β)} {bs : List Addr}, IsKeys H (encM kP ev m) bs → A2 (rep K F) (bs.map V.ref) (m.map (·.1))
  | [], [], _ => .nil
  | [], _ :: _, h => nomatch h
  | _ :: _, [], h => nomatch h
  | p :: m, b :: bs, .cons h1 h2 => .cons ⟨b, _, _, rfl, hF _ _ h1, rfl, rfl⟩ (keys_rep hF h2)
theorem pn_mput {κ β δ : Type} [DecidableEq κ] {m : List (κ × β)} {k : κ} {v : β} {f : List (κ × β) → R δ} {P : δ → Prop} {E : Exn → Prop} (h : Post (mputR m k v >>= f) P E) : ∃ m', m.length < sizeLine ∧ m' = mput m k v ∧ Post (f m') P E := by
  unfold mputR at h
  by_cases hl : m.length < 100000
  · rw [if_pos hl] at h
    exact ⟨_, Nat.lt_of_lt_of_le hl line5, rfl, h⟩
  · rw [if_neg hl] at h
    exact (show False from h).elim
/-! ### list(range(n)) -/
@[irreducible] def listRng (i j : Int) : R (List Int) := if -(2 ^ 62) ≤ i ∧ i < 2 ^ 62 ∧ -(2 ^ 62) ≤ j ∧ j < 2 ^ 62 ∧ (j - i).toNat ≤ 100000 then .ok (rng i j) else .bad
theorem rgV_eq (i j : Int) : rgV i j = (rng i j).map V.int := by
  unfold rgV rng
  rw [List.map_map]
  rfl
theorem pb_lrng {δ : Type} {i j : Int} {f : List Int → R δ} {P : δ → Prop} {E : Exn → Prop} (h : Post (listRng i j >>= f) P E) : ∃ l, RgOk i j ∧ l = rng i j ∧ Post (f l) P E := by
  unfold listRng at h
  by_cases hl : -(2 ^ 62) ≤ i ∧ i < 2 ^ 62 ∧ -(2 ^ 62) ≤ j ∧ j < 2 ^ 62 ∧ (j - i).toNat ≤ 100000
  · rw [if_pos hl] at h
    obtain ⟨a, b, c, d, e⟩ := hl
    exact ⟨_, ⟨a, b, c, d, by omega⟩, rfl, h⟩
  · rw [if_neg hl] at h
    exact (show False from h).elim
/-! ### a list of perhaps nothing, where nothing is nothing -/
def allS {α : Type} : List (Option α) → R (List α)
  | [] => .ok []
  | none :: _ => .bad
  | some x :: xs => allS xs >>= fun ys => .ok (x :: ys)
theorem allS_iff {α : Type} : ∀ {xs : List (Option α)} {ys : List α}, allS xs = R.ok ys ↔ xs = ys.map some
  | [], ys => by
    constructor
    · intro h; cases h; rfl
    · intro h
      cases ys with
      | nil => rfl
      | cons => cases h
  | none :: xs, ys => by
    constructor
    · intro h; cases h
    · intro h
      cases ys <;> cases h
  | some x :: xs, ys => by
    constructor
    · intro h
      obtain ⟨zs, e, h⟩ := bind_ok_iff.mp h
      cases h
      rw [allS_iff.mp e]
      rfl
    · intro h
      cases ys with
      | nil => cases h
      | cons y ys =>
        rw [List.map_cons] at h
        injection h with h1 h2
        cases h1
        show (allS xs >>= fun ys => R.ok (x :: ys)) = _
        rw [allS_iff.mpr h2]
        rfl
theorem pb_allS {α δ : Type} {xs : List (Option α)} {f : List α → R δ} {P : δ → Prop} {E : Exn → Prop} (h : Post (allS xs >>= f) P E) : ∃ ys, xs = ys.map some ∧ Post (f ys) P E := by
  cases e : allS xs with
  | ok ys =>
    rw [e] at h
    exact ⟨ys, allS_iff.mp e, h⟩
  | exc x =>
    rw [e] at h
    exfalso
    clear h
    induction xs with
    | nil => cases e
    | cons x xs ih =>
      cases x with
      | none => cases e
      | some x =>
        have e' : (allS xs >>= fun ys => R.ok (x :: ys)) = R.exc _ := e
        cases e2 : allS xs with
        | ok y => rw [e2] at e'; cases e'
        | exc y => rw [e2] at e'; cases e'; exact ih e2
        | bad => rw [e2] at e'; cases e'
  | bad =>
    rw [e] at h
    exact (show False from h).elim
theorem A2.unsome {α : Type} [Rep α] {K : Fg} {F : Hp} : ∀ {vs : List V} {ys : List α}, A2 (rep K F) vs (ys.map some) → A2 (rep K F) vs ys
  | [], [], _ => .nil
  | _ :: _, [], h => nomatch h
  | [], _ :: _, h => nomatch h
  | _ :: _, _ :: _, .cons a b => .cons a (A2.unsome b)
/-! ### pop -/
@[irreducible] def popB {α : Type} (xs : List α) (i : Int) : R (α × List α) := if -(2 ^ 62) ≤ i ∧ i < 2 ^ 62 then popAt xs i else .bad
theorem pn_popB {α β : Type} {xs : List α} {i : Int} {f : α × List α → R β} {Q : β → Prop} {E : Exn → Prop} (h : Post (popB xs i >>= f) Q E) : ∃ j x ys, (-(2 ^ 63) ≤ i ∧ i < 2 ^ 63) ∧ ixN xs.length i = some j ∧ xs[j]? = some x ∧ ys = xs.eraseIdx j ∧ Post (f (x, ys)) Q E := by
  unfold popB at h
  by_cases hi : -(2 ^ 62) ≤ i ∧ i < 2 ^ 62
  · rw [if_pos hi] at h
    obtain ⟨j, x, ys, a, b, c, d⟩ := pn_popAt h
    exact ⟨j, x, ys, by omega, a, b, c, d⟩
  · rw [if_neg hi] at h
    exact (show False from h).elim
theorem pn_popI {α β : Type} {xs : List α} {f : α × List α → R β} {Q : β → Prop} {E : Exn → Prop} (h : Post (popI xs >>= f) Q E) : ∃ x ys, xs[xs.length - 1]? = some x ∧ ys = xs.dropLast ∧ Post (f (x, ys)) Q E := by
  unfold popI at h
  rw [List.getLast?_eq_getElem?] at h
  cases e : xs[xs.length - 1]? with
  | none =>
    rw [e] at h
    exact (show False from h).elim
  | some x =>
    rw [e] at h
    exact ⟨x, _, rfl, rfl, h⟩
theorem A2.lastV {α : Type} {r : V → α → Prop} {vs : List V} {xs : List α} {x : α} (h : A2 r vs xs) (e : xs[xs.length - 1]? = some x) : ∃ u, vs[vs.length - 1]? = some u ∧ r u x := by
  rw [h.length]
  exact h.get e
/-! ### in, of a dict of scalars -/
def tDInH (ty td : TE) : TE := fun σ H Q => ty σ H fun y H1 => td σ H1 fun x H2 => ∃ a o b, x = .ref a ∧ DGet H2 a y o ∧ o.isSome = b ∧ Q (.bl b) H2
def tDNotInH (ty td : TE) : TE := fun σ H Q => ty σ H fun y H1 => td σ H1 fun x H2 => ∃ a o b, x = .ref a ∧ DGet H2 a y o ∧ o.isSome = b ∧ Q (.bl (!b)) H2
section
variable {X : Cx} {o i : Expr} {td ty : TE}
theorem pc_dinH (hu : X.A.units + 1 < cLine) (hi : PE X i ty) (ho : PE X o td) : PC X .In i o (tDInH ty td) := by
  refine ⟨fun pins s σ H Q I h => ?_⟩
  refine thn (hi.run pins s σ H _ I h) fun iv s1 ⟨y, H1, I1, ry, q1⟩ => thn (ho.run pins s1 σ H1 _ I1 q1) fun u s2 ⟨x, H2, I2, rx, a, ov, b, ex, g, eb, q2⟩ => ?_
  subst ex
  subst eb
  obtain rfl : u = Value.ref a := rx
  exact d_in hu I2 g ry fun s3 I3 => ⟨.bl ov.isSome, H2, I3, rfl, q2⟩
theorem pc_dnotinH (hu : X.A.units + 1 < cLine) (hi : PE X i ty) (ho : PE X o td) : PC X .NotIn i o (tDNotInH ty td) := by
  refine ⟨fun pins s σ H Q I h => ?_⟩
  refine thn (hi.run pins s σ H _ I h) fun iv s1 ⟨y, H1, I1, ry, q1⟩ => thn (ho.run pins s1 σ H1 _ I1 q1) fun u s2 ⟨x, H2, I2, rx, a, ov, b, ex, g, eb, q2⟩ => ?_
  subst ex
  subst eb
  obtain rfl : u = Value.ref a := rx
  exact d_notIn hu I2 g ry fun s3 I3 => ⟨.bl (!ov.isSome), H2, I3, rfl, q2⟩
end
theorem Room.units1 {k : Nat} {A : Around} (r : Room k A) : A.units + 1 < cLine := by
  have := r.un
  omega
end Z
/-! ZX: an exception caught by its class, held behind the suite as a thing of its own -/
namespace L2
open PySem PySem.Spec PyProof.Rows
/-- a caught exception of the class cls at a -/
def ExH (cls : Value) (a : Addr) : HO := .ext fun h => ∃ (oe : Obj), h.get? a = some oe ∧ Zc cls none oe ∧ ∃ vs, oe.data = .fields vs
theorem exH_ok {P : Program} {w : World} {H : Hp} {h : Heap} {a : Addr} {cls : Value} {oe : Obj} (e : h.get? a = some oe) (z : Zc cls none oe) (d : ∃ vs, oe.data = .fields vs) : ObjOk P w H h a (ExH cls a) :=
  ⟨⟨oe, e, z, d⟩, ⟨oe, e⟩, fun _ _ ⟨o, q, r⟩ k => ⟨o, k o q, r⟩⟩
section
variable {X : Cx} {pins : List (Addr × Obj)} {σ : St} {H : Hp} {s : Shared}
/-- what is pinned, and new since the def began, may be tracked -/
theorem Inv.track {a : Addr} {oe : Obj} {cls : Value} (I : Inv X ((a, oe) :: pins) σ H s) (n0 : X.s_0.heap.get? a = none) (hz : Zc cls none oe) (hd : ∃ vs, oe.data = .fields vs) (hp : ∀ p ∈ X.pn ++ pins, p.1 ≠ a) : Inv X pins σ (upd H a (ExH cls a)) s := by
  obtain ⟨ha, na, nL, nF, _⟩ := I.pin (a, oe) (List.mem_append_right _ List.mem_cons_self)
  dsimp only at ha na nL nF
  have ne0 : ∀ b o, X.s_0.heap.get? b = some o → b ≠ a := fun b o e z => by
    rw [z, n0] at e
    cases e
  refine ⟨I.ok, I.os, I.bare, ⟨I.base.keep, I.base.slot, fun b o e n hq => ?_, I.base.there, fun b xs e => ?_, fun b o u e => ?_, fun b ps e => ?_⟩, I.loc, I.cell, ?_, fun x c e => ?_, fun p hp' => ?_, fun b u e => ?_, I.len⟩
  · rw [upd_ne (ne0 b o e)]
    exact I.base.free b o e n hq
  · have q := I.base.tups b xs e
    rw [upd_ne (ne_of_none q na)]
    exact q
  · have q := I.base.frzs b o u e
    rw [upd_ne (ne_of_none q na)]
    exact q
  · obtain ⟨m, q⟩ := I.base.tbls b ps e
    exact ⟨m, by rw [upd_ne (ne_of_none q na)]; exact q⟩
  · rw [upd_ne (Ne.symm nL)]
    exact I.free
  · have hne : c ≠ a := fun z => by
      obtain ⟨v, o, ho, hc⟩ := I.cell x c e
      rw [z, ha] at ho
      cases ho
      obtain ⟨vs, hd⟩ := hd
      rw [hd] at hc
      cases hc
    rw [upd_ne hne]
    exact I.freeC x c e
  · have hp2 : p ∈ X.pn ++ ((a, oe) :: pins) := by
      rcases List.mem_append.mp hp' with z | z
      · exact List.mem_append_left _ z
      · exact List.mem_append_right _ (List.mem_cons_of_mem _ z)
    obtain ⟨e, n, ne, nf, d⟩ := I.pin p hp2
    exact ⟨e, by rw [upd_ne (hp p hp')]; exact n, ne, nf, d⟩
  · by_cases hb : b = a
    · subst hb
      rw [upd_same] at e
      cases e
      exact exH_ok ha hz hd
    · rw [upd_ne hb] at e
      refine (I.hok b u e).stay (fun c v _ q => q) (fun c q => ?_) fun c xs q => ?_
      · rw [upd_ne (ne_of_none q na)]
        exact q
      · rw [upd_ne (ne_of_none q na)]
        exact q
theorem Inv.unsuiteK {a : Addr} {q : Addr × Obj} {pn' : List (Addr × Obj)} (I : Inv (X.suite a (q :: (X.pn ++ pins))) pn' σ H s) (ok : X.Ok) : Inv X (q :: pins) σ H s :=
  ⟨ok, I.os, I.bare, I.base, I.loc, I.cell, I.free, I.freeC, fun p hp => I.pin p (List.mem_append_left _ (by
    rcases List.mem_append.mp hp with z | z
    · exact List.mem_cons_of_mem _ (List.mem_append_left _ z)
    · rcases List.mem_cons.mp z with z | z
      · rw [z]; exact List.mem_cons_self
      · exact List.mem_cons_of_mem _ (List.mem_append_right _ z))), I.hok, I.len⟩
/-- what the clause 'except x as n' wishes, where the exception is held behind the suite: slot i is n's -/
def wHold (K : PySem.W.Frag) (c : Value) (i : Nat) (ts : Addr → Value → TS) (Wout : WX) (D : Ends) : WX := fun cls d σ H =>
  ∃ b, PySem.W.exmOne K cls c = some b ∧ (b = true → d = none ∧ ∀ a, H a = none → ts a cls { nx := fun σ' H' => H' a = none → D.nx (σ'.set i none) (upd H' a (ExH cls a)), rt := fun _ _ => False, bk := fun _ _ => False, ct := fun _ _ => False } (σ.set i (some (.ref a))) H) ∧
    (b = false → Wout cls d σ H)
variable {x n : Str} {c : Value} {i : Nat} {body suite : List Stmt} {b₀ : Stmt} {np pos pos' : Pos} {tb : WX → TS} {ts : Addr → Value → TS} {Wout : WX}
theorem ps_try_hold (hs : X.stack = X.env :: X.outer) (hf : X.env.frame = some X.env.locals) (hex : X.ex = []) (hN : X.N.Nodup) (hi : X.N[i]? = some n) (hln : X.env.kindOf n = some .local) (hc : Names X x c) (tk : Takes X Wout)
    (hb : ∀ (W : WX) (pn : List (Addr × Obj)) (xe : Value → Shared → Prop), Takes (X.tr pn xe) W → PassesOwn (model X.prog X.w) X.A X.env xe → PSs (X.tr pn xe) body (tb W))
    (hsu : ∀ (a : Addr) (oe : Obj) (cls : Value) (pn : List (Addr × Obj)), PSs (X.suite a ((a, oe) :: pn)) (b₀ :: suite) (ts a cls)) :
    PS X (.Try body [.ExceptHandler (some (.Name x np)) (some n) (b₀ :: suite) pos'] [] [] pos) (fun D σ H => tb (wHold X.K c i ts Wout D) D σ H) := by
  refine ⟨fun pins s σ H D I h => ?_⟩
  have ok := I.ok
  have hfr : X.A.frames = some (X.env :: X.outer) := by rw [ok.frames, hs]
  have hloc : Loc X.env.scope n := .inl hln
  refine wpAny_Try_except ?_
  refine wpAny_mono ((hb (wHold X.K c i ts Wout D) (X.pn ++ pins) (fun e s₁ => wpAny (model X.prog X.w) X.A (noteFrame e X.env) (fun _ s₂ => wpAny (model X.prog X.w) X.A (setFlight e none) (fun _ s₃ =>
    wpAny (model X.prog X.w) X.A (handleBy e X.env [.ExceptHandler (some (.Name x np)) (some n) (b₀ :: suite) pos']) (SP X pins D) X.xe s₃) X.xe s₂) X.xe s₁) (fun u s' xx => ?_) PassesOwn.looking).run [] s σ H D (I.toTry _) h) (fun f s1 hsp => ?_) (fun e s1 he => he)
  · -- the catch
    obtain ⟨a, B, sI, pins', σ', H', cls, d, rfl, J', nb, up, sky, na, os, ag, b, hb1, hyes, hno⟩ := xx
    have J : Inv X pins σ' H' sI := J'.ofTry ok
    have sky' : Sky B (X.env :: X.outer) a (Zc cls d) X.env.locals s'.heap := by rw [← hs]; exact sky
    show wpAny (model X.prog X.w) X.A (noteFrame (.ref a) X.env) _ _ _
    refine Sky.land Zc.steady hfr hf sky' fun h3 fl3 up3 => ?_
    have J3 : Inv X pins σ' H' { s' with heap := h3 } := J.landed nb fl3.1 (up.trans up3) os ag
    obtain ⟨oe3, vs3, he3, hz3, hd3⟩ := fl3.there
    have notFr : ∀ {h : Heap} {o : Obj} {vs : Array Value}, h.FunFrames B (X.env :: X.outer) → h.get? a = some o → o.data = .fields vs → a ∉ frs (X.env :: X.outer) := fun {h o vs} ff e dd hm => by
      obtain ⟨_, o', e', hnf⟩ := ff.mem hm
      rw [e] at e'; cases e'
      exact hnf _ dd
    have nfr := notFr fl3.2.2.1 he3 hd3
    have nL : a ≠ X.env.locals := fun z => nfr (List.mem_filterMap.mpr ⟨X.env, List.mem_cons_self, by rw [hf, z]⟩)
    have nF : a ∉ X.fs := fun hm => by
      obtain ⟨e, he, q⟩ := List.mem_filterMap.mp hm
      exact nfr (List.mem_filterMap.mpr ⟨e, List.mem_cons_of_mem _ he, q⟩)
    have nB : B.get? a = none := fl3.2.1
    have nI : sI.heap.get? a = none := by
      cases e : sI.heap.get? a with
      | none => rfl
      | some o =>
        have z := nb a o e (by rw [hs]; exact nfr)
        rw [nB] at z
        cases z
    have n0 : X.s_0.heap.get? a = none := by
      cases e : X.s_0.heap.get? a with
      | none => rfl
      | some o =>
        obtain ⟨o', z⟩ := J.base.there a o e (by rw [hex]; exact fun z => nomatch z)
        rw [nI] at z
        cases z
    have hpin : ∀ p ∈ X.pn ++ pins, p.1 ≠ a := fun p hp z => by
      have e := (J.pin p hp).1
      rw [z, nI] at e
      cases e
    have S3 := J3.suite he3 hd3 na nL nF
    refine wpAny_handleBy_cons (codeAny_handlers_test ?_) (by intro q; cases q)
    have LT : PySem.W.Looks (model X.prog X.w) h3 (typeOf (.ref a)) cls := fun A Q E s k q => wpAny_typeOf_ref (k _ _ he3) (by rw [hz3.1]; exact q)
    have LM := PySem.W.exm_one (M := model X.prog X.w) (J3.kIn) LT hb1
    have test : ∀ {Q : Value → Shared → Prop} {E : Value → Shared → Prop}, Q c { s' with heap := h3 } → wpAny (model X.prog X.w) (X.A.mark (some (.ref a))) (eval (.Name x np) X.env) Q E { s' with heap := h3 } := fun {Q E} q => by
      obtain ⟨hg, hdbg, hm | ⟨hm, hv, hnn⟩⟩ := hc
      · exact ld_glob (X := X.suite a ((a, oe3) :: (X.pn ++ pins))) S3 hg hm q hdbg
      · exact ld_blt (X := X.suite a ((a, oe3) :: (X.pn ++ pins))) S3 hg hm hv q hnn hdbg
    refine test (LM.here ?_)
    cases b with
    | true =>
      obtain ⟨rfl, hyes2⟩ := hyes rfl
      refine codeAny_handlers_suite_as ?_
      refine HandSPX.lands_againZ fl3 fun h4 fl4 up4 => ?_
      have J4 : Inv X pins σ' H' { s' with heap := h4 } := J.landed nb fl4.1 ((up.trans up3).trans up4) os ag
      obtain ⟨oe4, vs4, he4, hz4, hd4⟩ := fl4.there
      have S4 := J4.suite he4 hd4 na nL nF
      refine store_ok (X := X.suite a ((a, oe4) :: (X.pn ++ pins))) (v := .ref a) S4 hN hi hloc rfl (fun s5 S5 => ?_) (.inr hln)
      refine wpAny_mono ((hsu a oe4 cls (X.pn ++ pins)).run [] s5 _ H' _ S5 (hyes2 a na)) (fun f s6 hsp => ?_) (fun _ _ z => False.elim z)
      cases f with
      | next =>
        obtain ⟨σ6, H6, S6, q6⟩ := hsp
        refine gone_ok (S6.unsuiteK ok) hN hi hln fun s7 J7 => ?_
        have na6 : H6 a = none := (J7.pin (a, oe4) (List.mem_append_right _ List.mem_cons_self)).2.1
        exact ⟨_, _, J7.track n0 hz4 ⟨_, hd4⟩ hpin, q6 na6⟩
      | brk =>
        obtain ⟨σ6, H6, S6, q6⟩ := hsp
        exact q6.elim
      | cont =>
        obtain ⟨σ6, H6, S6, q6⟩ := hsp
        exact q6.elim
      | ret u =>
        obtain ⟨v6, σ6, H6, S6, r6, q6⟩ := hsp
        exact q6.elim
    | false =>
      show wpAny _ X.A (handleBy (.ref a) X.env []) _ _ _
      refine wpAny_handleBy_nil ?_
      obtain ⟨k1, k2, k3, oe, vs, T, oT, ts', he, hz, hd, h1, hr⟩ := id fl3
      unfold PySem.passOn
      refine wpAny_bind (wpAny_field he hd h1 ?_)
      rw [if_neg (show ¬ ((Value.ref T == Value.none) = true) from by simp)]
      have fin : wpAny (model X.prog X.w) X.A (setFlight (.ref a) X.env.frame) (fun _ s4 => wpAny (model X.prog X.w) X.A (throw (.ref a) : Sem Flow) (SP X pins D) X.xe s4) X.xe { s' with heap := h3 } := by
        rw [hf]
        refine HandSPX.setFlight_upZ fl3 fun h4 hh4 up4 => wpAny_throw (tk _ _ ?_)
        exact ⟨a, B, sI, pins, σ', H', cls, d, rfl, J, nb, (up.trans up3).trans up4, .inr (.inr (by rw [hs]; exact hh4)), na, os, ag, hno rfl⟩
      first
        | exact wpAny_bind (wpAny_pure (wpAny_bind fin))
        | exact wpAny_bind fin
  · cases f with
    | next =>
      obtain ⟨σ', H', J', q⟩ := hsp
      exact wpAny_execs_nil ⟨σ', H', J'.ofTry ok, q⟩
    | brk =>
      obtain ⟨σ', H', J', q⟩ := hsp
      exact ⟨σ', H', J'.ofTry ok, q⟩
    | cont =>
      obtain ⟨σ', H', J', q⟩ := hsp
      exact ⟨σ', H', J'.ofTry ok, q⟩
    | ret u =>
      obtain ⟨v, σ', H', J', r, q⟩ := hsp
      exact ⟨v, σ', H', J'.ofTry ok, r, q⟩
/-- isinstance(e, c) of a held exception e: c one class, or a tuple of classes -/
def rIsH (K : PySem.W.Frag) (D : Addr) : List V → Hp → VK → Prop := fun xs H Q => ∃ (a : Addr) (c : V) (b : Bool), xs = [.ref a, c] ∧ H a = some (ExH (.ref D) a) ∧
  ((∃ cv, (∀ u, RelV c u → u = cv) ∧ PySem.W.kitOne K (.ref D) cv = some b) ∨ (∃ p vs its, c = .ref p ∧ H p = some (.tup vs) ∧ (∀ us, Vals vs us → us = its) ∧ PySem.W.kitAny K (.ref D) its = some b)) ∧ Q (.bl b) H
theorem call_isH {D : Addr} (C : ExcC X.K D) : CallR X (.builtin "isinstance") (rIsH X.K D) := by
  intro pins s σ H xs us Q I r h
  obtain ⟨a, c, b, rfl, hH, hc, q⟩ := h
  cases r with
  | cons rx rr =>
    cases rr with
    | cons rt rr =>
      cases rr
      cases rx
      obtain ⟨⟨oe, hget, ⟨h1, h2⟩, vs, hv⟩, _, _⟩ := I.hok a _ hH
      have J : PySem.W.InstAt s.heap a oe D none := by
        obtain ⟨oc, od, oda, osl⟩ := oe
        dsimp only at h1 h2 hv
        subst h1 h2 hv
        exact ⟨hget, rfl, rfl, trivial⟩
      have fin : ∀ tk, EP X pins σ Q (.bool b) { s with toks := tk } := fun tk => ⟨.bl b, H, I.kept (t' := tk) fun _ _ z => z, rfl, q⟩
      rcases hc with ⟨cv, hcv, e⟩ | ⟨p, vs, its, rfl, hp, hu, e⟩
      · have ec := hcv _ rt
        subst ec
        exact PySem.W.kia_one (PySem.W.handS_kitx_exc C.hg C.hk C.hs C.hd C.ha C.hn C.ht C.hm) I.kIn J e (fun z => nomatch z) fin
      · cases rt
        obtain ⟨_, its', r', ob, ho, hob1, n, hob2⟩ := I.hok p _ hp
        have := hu _ r'
        subst this
        obtain ⟨oc, od, oda, osl⟩ := ob
        dsimp only at hob1 hob2
        subst hob1 hob2
        exact PySem.W.kia_tup (PySem.W.handS_kitx_exc C.hg C.hk C.hs C.hd C.ha C.hn C.ht C.hm) I.kIn J ho e (fun z => nomatch z) fin
/-- isinstance(e, c) of a handled exception, in its suite -/
def rIsEX (K : PySem.W.Frag) (cls : Value) (d : Option Addr) (a : Addr) : List V → Hp → VK → Prop := fun xs H Q => ∃ D, cls = .ref D ∧ d = none ∧ ExcC K D ∧ ∃ (c : V) (cv : Value) (b : Bool), xs = [.ref a, c] ∧ (∀ u, RelV c u → u = cv) ∧ PySem.W.kitOne K (.ref D) cv = some b ∧ Q (.bl b) H
theorem call_isEX {K : PySem.W.Frag} {a : Addr} {cls : Value} {d : Option Addr} {oe : Obj} {pn : List (Addr × Obj)} (hK : X.K = K) (hz : Zc cls d oe) (hf : ∃ vs, oe.data = .fields vs) : CallR (X.suite a ((a, oe) :: pn)) (.builtin "isinstance") (rIsEX K cls d a) := by
  subst hK
  intro pins s σ H xs us Q I r ⟨D, e1, e2, C, h⟩
  subst e1 e2
  exact call_isE C hz hf pins s σ H xs us Q I r h
theorem call_isH' : CallR X (.builtin "isinstance") (fun xs H Q => ∃ D, ExcC X.K D ∧ rIsH X.K D xs H Q) := fun pins s σ H xs us Q I r ⟨_, C, h⟩ => call_isH C pins s σ H xs us Q I r h
theorem call_isHK {K : PySem.W.Frag} (hK : X.K = K) : CallR X (.builtin "isinstance") (fun xs H Q => ∃ D, ExcC K D ∧ rIsH K D xs H Q) := by
  subst hK
  exact call_isH'
end
end L2
namespace Z
open PySem L2
open Rep (rep)
/-- the class that a name of the text names -/
def Nm (K : Fg) (x : Str) (C : Addr) : Prop := PySem.W.nsIn K mainGlobals x = some (some (.ref C))
theorem Nm.uniq {K : Fg} {x : Str} {C D : Addr} (a : Nm K x C) (b : Nm K x D) : C = D := by
  have h := a.symm.trans b
  injection h with h
  injection h with h
  injection h
instance repExn : Rep Exn := ⟨fun K F v e => ∃ a C, v = .ref a ∧ Nm K e.cls C ∧ F a = some (ExH (.ref C) a), fun s ⟨a, C, h, n, q⟩ => ⟨a, C, h, n, s _ _ q⟩⟩
/-- what a call that lets an error out leaves -/
def RetX (K : Fg) (F : Hp) (os : List (Addr × HO)) (E : XK) : Exn → Prop := fun e => ∀ C F' H', Nm K e.cls C → W F' H' os → Same F F' → E (.ref C) none H'
/-- all that the body lets out is caught -/
def tryR {α : Type} (names : List Str) (b : R α) : R (Option Exn) := match b with
  | .ok _ => .ok none
  | .exc e => if e.cls ∈ names then .ok (some e) else .bad
  | .bad => .bad
/-- .. with a suite -/
def tryWith {α : Type} (names : List Str) (b : R α) (h : Exn → R α) : R α := match b with
  | .ok x => .ok x
  | .exc e => if e.cls ∈ names then h e else .bad
  | .bad => .bad
theorem post_tryWith {α : Type} {names : List Str} {b : R α} {h : Exn → R α} {P : α → Prop} {X : Exn → Prop} (q : Post (tryWith names b h) P X) : Post b P (fun e => e.cls ∈ names ∧ Post (h e) P X) := by
  cases b with
  | ok a => exact q
  | exc e =>
    have q' : Post (if e.cls ∈ names then h e else R.bad) P X := q
    by_cases c : e.cls ∈ names
    · rw [if_pos c] at q'
      exact ⟨c, q'⟩
    · rw [if_neg c] at q'
      exact (show False from q').elim
  | bad => exact q
theorem post_try {α : Type} {names : List Str} {b : R α} {P : Option Exn → Prop} {X : Exn → Prop} (h : Post (tryR names b) P X) : Post b (fun _ => P none) (fun e => e.cls ∈ names ∧ P (some e)) := by
  cases b with
  | ok a => exact h
  | exc e =>
    have h' : Post (if e.cls ∈ names then R.ok (some e) else R.bad) P X := h
    by_cases c : e.cls ∈ names
    · rw [if_pos c] at h'
      exact ⟨c, h'⟩
    · rw [if_neg c] at h'
      exact (show False from h').elim
  | bad => exact h
/-- isinstance of a caught error: tn, the names under the classes asked -/
def isC (names tn : List Str) (e : Exn) : R Bool := if e.cls ∈ names then .ok (decide (e.cls ∈ tn)) else .bad
theorem pb_isC {δ : Type} {names tn : List Str} {e : Exn} {f : Bool → R δ} {P : δ → Prop} {X : Exn → Prop} (h : Post (isC names tn e >>= f) P X) : e.cls ∈ names ∧ Post (f (decide (e.cls ∈ tn))) P X := by
  unfold isC at h
  by_cases c : e.cls ∈ names
  · rw [if_pos c] at h
    exact ⟨c, h⟩
  · rw [if_neg c] at h
    exact (show False from h).elim
def raiseR {α : Type} (x : Str) : R α := .exc ⟨x, 0⟩
/-- a call that lets no error out -/
def nx {α : Type} (m : R α) : R α := match m with
  | .ok a => .ok a
  | .exc _ => .bad
  | .bad => .bad
theorem post_nx {α δ : Type} {m : R α} {k : α → R δ} {P : δ → Prop} {X : Exn → Prop} (h : Post (nx m >>= k) P X) : Post m (fun a => Post (k a) P X) noX := by
  cases m with
  | ok a => exact h
  | exc e => exact (show False from h).elim
  | bad => exact (show False from h).elim
theorem kit_ref {K : Fg} {x y : Addr} {b : Bool} (h1 : PySem.W.isClsIn K y = true) (h2 : PySem.W.typeIn K (.ref y) = some (.type "type")) (h3 : PySem.W.subIn K (.ref x) (.ref y) = some b) (h4 : b = true ∨ (Value.ref x == Value.ref y) = false) : PySem.W.kitOne K (.ref x) (.ref y) = some b := by
  have e : PySem.W.kitCls K (.ref x) (.ref y) = some b := by
    have h1' : (PySem.W.clsIn K y).isSome = true := h1
    have e2 : ((PySem.W.clsIn K y).isSome && PySem.W.typeIn K (.ref y) == some (.type "type")) = true := by rw [h1', h2] <;> rfl
    show (if ((PySem.W.clsIn K y).isSome && PySem.W.typeIn K (.ref y) == some (.type "type")) = true then PySem.W.subIn K (.ref x) (.ref y) else none) = some b
    rw [if_pos e2]
    exact h3
  unfold PySem.W.kitOne
  rcases h4 with rfl | h4
  · rw [e]
    split <;> rfl
  · rw [h4, if_neg (by decide)]
    exact e
theorem kit_ty {K : Fg} {x : Addr} {T : String} {b : Bool} (h1 : PySem.W.kitMeta T = true) (h3 : PySem.W.subIn K (.ref x) (.type T) = some b) : PySem.W.kitOne K (.ref x) (.type T) = some b := by
  have e : PySem.W.kitCls K (.ref x) (.type T) = some b := by
    show (if PySem.W.kitMeta T = true then PySem.W.subIn K (.ref x) (.type T) else none) = some b
    rw [if_pos h1]
    exact h3
  unfold PySem.W.kitOne
  have h4 : (Value.ref x == Value.type T) = false := rfl
  rw [h4, if_neg (by decide)]
  exact e
/-- what is known of an own error class -/
structure XC (K : Fg) (mg : Str → Option Value) (x : Str) (C : Addr) : Prop where
  ns : Nm K x C
  gm : mg x = some (.ref C)
  xc : PySem.W.excIn K C [.type "ValueError", .type "Exception", .type "BaseException", .type "object"] "ValueError.__new__" = true
  kp : PySem.W.keepIn K (.ref C) = true
  b : PySem.W.subIn K (.ref C) (.type "BaseException") = some true
  t : PySem.W.typeIn K (.ref C) = some (.type "type")
  ex : ExcC K C
end Z
/-! Z5: regions: lists of one's own by their number in a store -/
namespace Z
open PySem L2
open Rep (rep)
/-! ### two lists, item by item -/
inductive F2 {α β : Type} (r : α → β → Prop) : List α → List β → Prop
  | nil : F2 r [] []
  | cons {a : α} {b : β} {as : List α} {bs : List β} : r a b → F2 r as bs → F2 r (a :: as) (b :: bs)
section
variable {α β : Type} {r r' : α → β → Prop} {as : List α} {bs : List β}
theorem F2.length : ∀ {as : List α} {bs : List β}, F2 r as bs → as.length = bs.length
  | _, _, .nil => rfl
  | _, _, .cons _ t => by rw [List.length_cons, List.length_cons, F2.length t]
theorem F2.imp (f : ∀ a b, r a b → r' a b) : ∀ {as : List α} {bs : List β}, F2 r as bs → F2 r' as bs
  | _, _, .nil => .nil
  | _, _, .cons h t => .cons (f _ _ h) (F2.imp f t)
theorem F2.get : ∀ {as : List α} {bs : List β} {i : Nat} {b : β}, F2 r as bs → bs[i]? = some b → ∃ a, as[i]? = some a ∧ r a b
  | _, _, _, _, .nil, e => by simp at e
  | _, _, 0, _, .cons h _, e => by simp at e; subst e; exact ⟨_, rfl, h⟩
  | _, _, i + 1, b, .cons _ t, e => by
    obtain ⟨v, h1, h2⟩ := F2.get (i := i) (b := b) t (by simpa using e)
    exact ⟨v, by simpa using h1, h2⟩
theorem F2.set {a : α} {b : β} (h : r a b) : ∀ {as : List α} {bs : List β} (i : Nat), F2 r as bs → F2 r (as.set i a) (bs.set i b)
  | _, _, _, .nil => .nil
  | _, _, 0, .cons _ t => .cons h t
  | _, _, i + 1, .cons q t => .cons q (F2.set h i t)
theorem F2.append : ∀ {as as' : List α} {bs bs' : List β}, F2 r as bs → F2 r as' bs' → F2 r (as ++ as') (bs ++ bs')
  | _, _, _, _, .nil, h => h
  | _, _, _, _, .cons a t, h => .cons a (F2.append t h)
theorem F2.snoc {a : α} {b : β} (h : F2 r as bs) (q : r a b) : F2 r (as ++ [a]) (bs ++ [b]) := h.append (.cons q .nil)
end
/-! ### a store's lists: cells -/
def nz : List Addr → List (List V) → List (Addr × HO)
  | a :: as, vs :: vss => (a, .lst vs) :: nz as vss
  | _, _ => []
theorem nz_split : ∀ {as : List Addr} {vss : List (List V)} {j : Nat} {a : Addr} {vs : List V}, as[j]? = some a → vss[j]? = some vs →
    ∃ x y, nz as vss = x ++ (a, .lst vs) :: y ∧ ∀ us, nz as (vss.set j us) = x ++ (a, .lst us) :: y
  | [], _, j, _, _, h, _ => by simp at h
  | _ :: _, [], j, _, _, _, h => by simp at h
  | b :: as, ws :: vss, 0, a, vs, h1, h2 => by
    simp at h1 h2
    subst h1 h2
    exact ⟨[], nz as vss, rfl, fun _ => rfl⟩
  | b :: as, ws :: vss, j + 1, a, vs, h1, h2 => by
    obtain ⟨x, y, e1, e2⟩ := nz_split (as := as) (vss := vss) (j := j) (a := a) (vs := vs) (by simpa using h1) (by simpa using h2)
    exact ⟨(b, .lst ws) :: x, y, by show (b, HO.lst ws) :: nz as vss = _; rw [e1]; rfl, fun us => by show (b, HO.lst ws) :: nz as (vss.set j us) = _; rw [e2]; rfl⟩
theorem nz_snoc : ∀ {as : List Addr} {vss : List (List V)} {a : Addr} {vs : List V}, as.length = vss.length → nz (as ++ [a]) (vss ++ [vs]) = nz as vss ++ [(a, .lst vs)]
  | [], [], _, _, _ => rfl
  | [], _ :: _, _, _, h => by simp at h
  | _ :: _, [], _, _, h => by simp at h
  | b :: as, ws :: vss, a, vs, h => by
    show (b, HO.lst ws) :: nz (as ++ [a]) (vss ++ [vs]) = (b, HO.lst ws) :: (nz as vss ++ [(a, .lst vs)])
    rw [nz_snoc (by simpa using h)]
section
variable {F H : Hp} {os os' pre post : List (Addr × HO)} {a p : Addr} {o : HO} {as : List Addr} {vss : List (List V)} {j : Nat} {vs : List V}
theorem W.perm (h : os.Perm os') (w : W F H os) : W F H os' where
  same := w.same
  own := fun q hq => w.own q (h.mem_iff.mpr hq)
  nd := h.pairwise_iff (fun e q => e q.symm) |>.mp w.nd
  nt := fun q hq => w.nt q (h.mem_iff.mpr hq)
/-- the j-th list of a store -/
theorem W.nget (w : W F H (pre ++ (nz as vss ++ post))) (h1 : as[j]? = some a) (h2 : vss[j]? = some vs) : H a = some (.lst vs) := by
  obtain ⟨x, y, e, _⟩ := nz_split h1 h2
  rw [e] at w
  exact (w.own (a, .lst vs) (by simp)).1
theorem W.nset (w : W F H (pre ++ (nz as vss ++ post))) (us : List V) (h1 : as[j]? = some a) (h2 : vss[j]? = some vs) : W F (upd H a (.lst us)) (pre ++ (nz as (vss.set j us) ++ post)) := by
  obtain ⟨x, y, e, e2⟩ := nz_split h1 h2
  rw [e] at w
  rw [e2]
  have w' : W F H ((pre ++ x) ++ (a, .lst vs) :: (y ++ post)) := by
    have e3 : pre ++ (x ++ (a, HO.lst vs) :: y ++ post) = (pre ++ x) ++ (a, HO.lst vs) :: (y ++ post) := by simp
    rw [← e3]
    exact w
  have w2 := w'.set (o' := .lst us)
  have e3 : pre ++ (x ++ (a, HO.lst us) :: y ++ post) = (pre ++ x) ++ (a, HO.lst us) :: (y ++ post) := by simp
  rw [e3]
  exact w2
/-- a cell goes into a store -/
theorem W.nadd (w : W F H ((p, .lst vs) :: (pre ++ (nz as vss ++ post)))) (hl : as.length = vss.length) : W F H (pre ++ (nz (as ++ [p]) (vss ++ [vs]) ++ post)) := by
  rw [nz_snoc hl]
  refine w.perm ?_
  have e : pre ++ (nz as vss ++ [(p, HO.lst vs)] ++ post) = (pre ++ nz as vss) ++ (p, HO.lst vs) :: post := by simp
  have e2 : (p, HO.lst vs) :: (pre ++ (nz as vss ++ post)) = (p, HO.lst vs) :: ((pre ++ nz as vss) ++ post) := by simp
  rw [e, e2]
  exact List.perm_middle.symm
theorem W.dropL (w : W F H (pre ++ (os ++ post))) : W F H (pre ++ post) where
  same := w.same
  own := fun q hq => w.own q (by
    rcases List.mem_append.mp hq with h | h
    · exact List.mem_append_left _ h
    · exact List.mem_append_right _ (List.mem_append_right _ h))
  nd := by
    have nd := w.nd
    rw [List.pairwise_append] at nd ⊢
    obtain ⟨n1, n2, n3⟩ := nd
    rw [List.pairwise_append] at n2
    exact ⟨n1, n2.2.1, fun x hx y hy => n3 x hx y (List.mem_append_right _ hy)⟩
  nt := fun q hq => w.nt q (by
    rcases List.mem_append.mp hq with h | h
    · exact List.mem_append_left _ h
    · exact List.mem_append_right _ (List.mem_append_right _ h))
/-- the j-th list of a store, taken out as a cell; the others forgotten -/
theorem W.ntake (w : W F H (pre ++ (nz as vss ++ post))) (h1 : as[j]? = some a) (h2 : vss[j]? = some vs) : W F H ((a, .lst vs) :: (pre ++ post)) := by
  obtain ⟨x, y, e, _⟩ := nz_split h1 h2
  rw [e] at w
  have w' : W F H ((pre ++ x) ++ (a, .lst vs) :: (y ++ post)) := by
    have e3 : pre ++ (x ++ (a, HO.lst vs) :: y ++ post) = (pre ++ x) ++ (a, HO.lst vs) :: (y ++ post) := by simp
    rw [← e3]
    exact w
  have w2 := w'.front
  have e4 : (a, HO.lst vs) :: (pre ++ x ++ (y ++ post)) = ((a, HO.lst vs) :: pre) ++ ((x ++ y) ++ post) := by simp
  rw [e4] at w2
  exact w2.dropL
/-- a whole store is never written again -/
theorem W.nfreeze : ∀ {as : List Addr} {vss : List (List V)} {F : Hp}, W F H (pre ++ (nz as vss ++ post)) → ∃ F', Same F F' ∧ W F' H (pre ++ post) ∧ ∀ (j : Nat) (a : Addr) (vs : List V), as[j]? = some a → vss[j]? = some vs → F' a = some (.lst vs)
  | [], _, F, w => ⟨F, Same.refl _, w, fun j a vs h => by simp at h⟩
  | _ :: _, [], F, w => ⟨F, Same.refl _, w, fun j a vs _ h => by simp at h⟩
  | b :: as, ws :: vss, F, w => by
    have w' : W F H (pre ++ (b, .lst ws) :: (nz as vss ++ post)) := w
    obtain ⟨F1, s1, w1, q1⟩ := w'.freezeE
    obtain ⟨F2, s2, w2, q2⟩ := W.nfreeze (as := as) (vss := vss) w1
    refine ⟨F2, s1.trans s2, w2, fun j a vs h1 h2 => ?_⟩
    cases j with
    | zero =>
      simp at h1 h2
      subst h1 h2
      exact s2 _ _ q1
    | succ j => exact q2 j a vs (by simpa using h1) (by simpa using h2)
end
/-! ### what stands in a store -/
section
variable {α β δ : Type} [Rep α] [Rep β] {K : Fg} {F F' H : Hp} {as as' : List Addr} {vss : List (List V)} {st : List (List α)}
structure Sto (K : Fg) (F : Hp) (as : List Addr) (vss : List (List V)) (st : List (List α)) : Prop where
  len : as.length = vss.length
  all : F2 (A2 (rep K F)) vss st
theorem Sto.nil : Sto K F [] [] ([] : List (List α)) := ⟨rfl, .nil⟩
theorem Sto.mono (s : Same F F') (h : Sto K F as vss st) : Sto K F' as vss st := ⟨h.len, h.all.imp fun _ _ q => q.mono s⟩
theorem Sto.len2 (h : Sto K F as vss st) : as.length = st.length := h.len.trans h.all.length
theorem Sto.get {j : Nat} {xs : List α} (h : Sto K F as vss st) (e : st[j]? = some xs) : ∃ a vs, as[j]? = some a ∧ vss[j]? = some vs ∧ A2 (rep K F) vs xs := by
  obtain ⟨vs, h1, h2⟩ := h.all.get e
  have hj := (List.getElem?_eq_some_iff.mp e).1
  rw [← h.len2] at hj
  exact ⟨as[j], vs, List.getElem?_eq_getElem hj, h1, h2⟩
theorem Sto.set {j : Nat} {vs : List V} {xs : List α} (h : Sto K F as vss st) (q : A2 (rep K F) vs xs) : Sto K F as (vss.set j vs) (st.set j xs) := ⟨by rw [List.length_set]; exact h.len, h.all.set q j⟩
theorem Sto.snoc {p : Addr} {vs : List V} {xs : List α} (h : Sto K F as vss st) (q : A2 (rep K F) vs xs) : Sto K F (as ++ [p]) (vss ++ [vs]) (st ++ [xs]) := ⟨by simp [h.len], h.all.snoc q⟩
/-- a number in a store -/
abbrev Ix := Nat
def RX (as : List Addr) (v : V) (j : Ix) : Prop := ∃ a, v = .ref a ∧ as[j]? = some a
theorem RX.mono (h : as <+: as') {v : V} {j : Ix} (q : RX as v j) : RX as' v j := by
  obtain ⟨a, e, q⟩ := q
  obtain ⟨t, rfl⟩ := h
  refine ⟨a, e, ?_⟩
  rw [List.getElem?_append_left (List.getElem?_eq_some_iff.mp q).1]
  exact q
theorem RX.new (h : as.length = n) {p : Addr} : RX (as ++ [p]) (.ref p) n := ⟨p, rfl, by rw [List.getElem?_append_right (by omega), ← h]; simp⟩
theorem IQ.mono (h : as <+: as') {a : Addr} {j : Nat} (q : as[j]? = some a) : as'[j]? = some a := by
  obtain ⟨t, rfl⟩ := h
  rw [List.getElem?_append_left (List.getElem?_eq_some_iff.mp q).1]
  exact q
theorem IQ.new {n : Nat} (h : as.length = n) {p : Addr} : (as ++ [p])[n]? = some p := by
  rw [List.getElem?_append_right (by omega), ← h]
  simp
theorem pfx_trans {as2 : List Addr} (h : as <+: as') (h' : as' <+: as2) : as <+: as2 := h.trans h'
theorem Sto.getq {j : Nat} {xs : List α} {a : Addr} (h : Sto K F as vss st) (e : st[j]? = some xs) (q : as[j]? = some a) : ∃ vs, vss[j]? = some vs ∧ A2 (rep K F) vs xs := h.all.get e
theorem pfx_refl : as <+: as := List.prefix_refl _
theorem pfx_snoc {p : Addr} : as <+: as ++ [p] := List.prefix_append _ _
/-- the list of a number -/
def getS (st : List (List α)) (j : Ix) : R (List α) := ofO st[j]?
theorem pb_getS {st : List (List α)} {j : Ix} {f : List α → R δ} {P : δ → Prop} {E : Exn → Prop} (h : Post (getS st j >>= f) P E) : ∃ xs, st[j]? = some xs ∧ Post (f xs) P E := pb_ofO h
/-- .. another list in its place -/
def setS (st : List (List α)) (j : Ix) (ys : List α) : R (List (List α)) := .ok (st.set j ys)
theorem pn_setS {st : List (List α)} {j : Ix} {ys : List α} {f : List (List α) → R δ} {P : δ → Prop} {E : Exn → Prop} (h : Post (setS st j ys >>= f) P E) : ∃ st', st' = st.set j ys ∧ Post (f st') P E := ⟨_, rfl, h⟩
/-- .. a new one -/
def newS (st : List (List α)) (ys : List α) : R (Ix × List (List α)) := .ok (st.length, st ++ [ys])
theorem pn_newS {st : List (List α)} {ys : List α} {f : Ix × List (List α) → R δ} {P : δ → Prop} {E : Exn → Prop} (h : Post (newS st ys >>= f) P E) : ∃ j st', j = st.length ∧ st' = st ++ [ys] ∧ Post (f (j, st')) P E := ⟨_, _, rfl, rfl, h⟩
/-- lists by their numbers -/
def deref (st : List (List α)) (js : List Ix) : R (List (List α)) := mapR (getS st) js
theorem deref_rep {vs : List V} {js : List Ix} {xss : List (List α)} (h : Sto K F as vss st) (hf : ∀ (j : Nat) (a : Addr) (vs : List V), as[j]? = some a → vss[j]? = some vs → F' a = some (.lst vs)) (s : Same F F')
    (hv : A2 (RX as) vs js) (e : deref st js = R.ok xss) : A2 (rep K F') vs xss := by
  induction hv generalizing xss with
  | nil =>
    cases e
    exact .nil
  | cons a b ih =>
    obtain ⟨ad, rfl, h1⟩ := a
    obtain ⟨ys, e1, e⟩ := bind_ok_iff.mp e
    obtain ⟨yss, e2, e⟩ := bind_ok_iff.mp e
    cases e
    rename_i j js' _ _
    unfold getS at e1
    cases q : st[j]? with
    | none => rw [q] at e1; cases e1
    | some zs =>
      rw [q] at e1
      cases e1
      obtain ⟨a', ws, h2, h3, h4⟩ := h.get q
      rw [h1] at h2
      cases h2
      exact .cons ⟨ad, ws, rfl, hf _ _ _ h1 h3, h4.mono s⟩ (ih e2)
theorem pb_deref {js : List Ix} {f : List (List α) → R δ} {P : δ → Prop} {E : Exn → Prop} (h : Post (deref st js >>= f) P E) : ∃ xss, deref st js = R.ok xss ∧ Post (f xss) P E := by
  cases e : deref st js with
  | ok xss =>
    rw [e] at h
    exact ⟨xss, rfl, h⟩
  | exc x =>
    exfalso
    clear h
    unfold deref at e
    induction js with
    | nil => cases e
    | cons j js ih =>
      have e' : (getS st j >>= fun y => mapR (getS st) js >>= fun ys => R.ok (y :: ys)) = R.exc x := e
      unfold getS at e'
      cases q : st[j]? with
      | none => rw [q] at e'; cases e'
      | some z =>
        rw [q] at e'
        have e2 : (mapR (getS st) js >>= fun ys => R.ok (z :: ys)) = R.exc x := e'
        cases q2 : mapR (getS st) js with
        | ok y => rw [q2] at e2; cases e2
        | exc y => rw [q2] at e2; cases e2; exact ih q2
        | bad => rw [q2] at e2; cases e2
  | bad =>
    rw [e] at h
    exact (show False from h).elim
end
section
variable {F H : Hp} {os os' pre post x : List (Addr × HO)} {a p : Addr} {o : HO} {as : List Addr} {vss : List (List V)} {j : Nat} {vs : List V}
/-! the second store -/
theorem W.as2 : pre ++ (x ++ (os ++ post)) = (pre ++ x) ++ (os ++ post) := by simp
theorem W.nget2 (w : W F H (pre ++ (x ++ (nz as vss ++ post)))) (h1 : as[j]? = some a) (h2 : vss[j]? = some vs) : H a = some (.lst vs) := (W.as2 ▸ w : W F H ((pre ++ x) ++ (nz as vss ++ post))).nget h1 h2
theorem W.nset2 (w : W F H (pre ++ (x ++ (nz as vss ++ post)))) (us : List V) (h1 : as[j]? = some a) (h2 : vss[j]? = some vs) : W F (upd H a (.lst us)) (pre ++ (x ++ (nz as (vss.set j us) ++ post))) := by
  rw [W.as2] at w ⊢
  exact w.nset us h1 h2
theorem W.nadd2 (w : W F H ((p, .lst vs) :: (pre ++ (x ++ (nz as vss ++ post))))) (hl : as.length = vss.length) : W F H (pre ++ (x ++ (nz (as ++ [p]) (vss ++ [vs]) ++ post))) := by
  rw [W.as2] at w ⊢
  exact w.nadd hl
theorem W.dropL0 (w : W F H (nz as vss ++ post)) : W F H post := W.dropL (pre := []) (os := nz as vss) w
theorem W.dropL2 (w : W F H (pre ++ (x ++ (os ++ post)))) : W F H (pre ++ (x ++ post)) := by
  rw [W.as2] at w
  have h := w.dropL
  rw [List.append_assoc] at h
  exact h
theorem W.nfreeze2 (w : W F H (pre ++ (x ++ (nz as vss ++ post)))) : ∃ F', Same F F' ∧ W F' H (pre ++ (x ++ post)) ∧ ∀ (j : Nat) (a : Addr) (vs : List V), as[j]? = some a → vss[j]? = some vs → F' a = some (.lst vs) := by
  rw [W.as2] at w
  obtain ⟨F', s, w', h⟩ := w.nfreeze
  rw [List.append_assoc] at w'
  exact ⟨F', s, w', h⟩
theorem W.ntake2 (w : W F H (pre ++ (x ++ (nz as vss ++ post)))) (h1 : as[j]? = some a) (h2 : vss[j]? = some vs) : W F H ((a, .lst vs) :: (pre ++ (x ++ post))) := by
  rw [W.as2] at w
  have h := w.ntake h1 h2
  rw [List.append_assoc] at h
  exact h
end
section
variable {K : Fg} {F : Hp} {a : Addr} {β : Type} {vs : List V} {xs : List β} {r : V → β → Prop}
theorem tw_listR (h : A2 r vs xs) : TW (Itl K a) xs (fun H => SqL K H a vs) (fun b H x H' => H' = H ∧ r x b) := ⟨by
  rw [← h.length]
  exact walk_list.mono (fun _ g => g) fun i H x H' _ _ y => by
    obtain ⟨y1, y2⟩ := y
    obtain ⟨b, h1, h2⟩ := h.getV y2
    exact ⟨b, h1, y1, h2⟩⟩
end
section
variable {F H : Hp} {os pre post x : List (Addr × HO)} {q : Addr × HO} {as : List Addr} {vss : List (List V)}
/-- a store behind the cells -/
theorem W.nback (w : W F H (q :: (nz as vss ++ (pre ++ post)))) : W F H (q :: (pre ++ (nz as vss ++ post))) := by
  refine w.perm (List.Perm.cons _ ?_)
  rw [← List.append_assoc, ← List.append_assoc]
  exact List.perm_append_comm.append_right _
variable {α : Type} [Rep α] {K : Fg} {a : Addr} {us : List V} {js : List Ix} {st xss : List (List α)}
theorem rl_all (s : Same F H) (hf : ∀ (j : Nat) (a : Addr) (vs : List V), as[j]? = some a → vss[j]? = some vs → H a = some (.lst vs)) (h : Sto K F as vss st) (hv : A2 (RX as) us js) (e : deref st js = R.ok xss) : A2 (rep K H) us xss := deref_rep h hf s hv e
theorem W.rl (w : W F H (pre ++ (nz as vss ++ post))) (qa : H a = some (.lst us)) (h : Sto K F as vss st) (hv : A2 (RX as) us js) (e : deref st js = R.ok xss) : rep K H (.ref a) xss :=
  ⟨a, us, rfl, qa, rl_all w.same (fun _ _ _ h1 h2 => w.nget h1 h2) h hv e⟩
theorem W.rl2 (w : W F H (pre ++ (x ++ (nz as vss ++ post)))) (qa : H a = some (.lst us)) (h : Sto K F as vss st) (hv : A2 (RX as) us js) (e : deref st js = R.ok xss) : rep K H (.ref a) xss :=
  ⟨a, us, rfl, qa, rl_all w.same (fun _ _ _ h1 h2 => w.nget2 h1 h2) h hv e⟩
end
/-! ### comprehensions, what is made told by the state -/
section
variable {J : It} {β γ δ ε : Type} {items : List β} {G : Hp → Prop} {Y : β → Hp → V → Hp → Prop} {g : TG} {tt : TT} {te : TE} {P : ε → Prop} {X : Exn → Prop} {K : Fg} {vs : List Nat} {σ : St} {F H1 : Hp} {os : List (Addr × HO)} {D : Addr} {Qd : Hp → Prop}
theorem lcG (tw : TW J items G Y) {f : γ → β → R (Option δ × γ)} {s0 : γ} {k : List δ × γ → R ε} (hm : Post (filStG f s0 items >>= k) P X) (O : γ → Hp → List (Addr × HO) → List V → List δ → Prop) (w : W F H1 os) (o0 : O s0 F os [] []) (nD : H1 D = none)
    (hl : ∀ c F' os' us ys, O c F' os' us ys → us.length = ys.length)
    (hG : ∀ c F' H' os' acc ys, Same F F' → W F' H' ((D, .lst acc) :: os') → O c F' os' acc ys → G H')
    (hs : ∀ (b : β) (c : γ) (x : V) (F' H' H'' : Hp) (os' : List (Addr × HO)) (acc : List V) (ys : List δ) (N : V → Hp → Prop) (N0 : Hp → Prop) (P' : Option δ × γ → Prop), Same F F' → W F' H' ((D, .lst acc) :: os') → O c F' os' acc ys → Y b H' x H'' →
      (∀ d c', P' (some d, c') → ∀ y F'' H'' os'', W F'' H'' ((D, .lst acc) :: os'') → Same F' F'' → O c' F'' os'' (acc ++ [y]) (ys ++ [d]) → N y H'') →
      (∀ c', P' (none, c') → ∀ F'' H'' os'', W F'' H'' ((D, .lst acc) :: os'') → Same F' F'' → O c' F'' os'' acc ys → N0 H'') → Post (f c b) P' X →
      g x (wipe σ vs) H'' fun σ2 H2 => wipe σ2 vs = wipe σ vs ∧ tt σ2 H2 fun b H3 => if b = true then te σ2 H3 N else N0 H3)
    (hd : ∀ c us F' H' os' ys, Same F F' → W F' H' ((D, .lst us) :: os') → O c F' os' us ys → Post (k (ys, c)) P X → Qd H') : LcAsk J g tt te vs σ H1 D Qd := by
  obtain ⟨hlen, hm⟩ := pb_grd (pb_assoc hm)
  have hlen : items.length < sizeLine := Nat.lt_of_lt_of_le (of_decide_eq_true hlen) line5
  refine lc_it tw.walk (fun i H => ∃ c F' os' us ys, i ≤ items.length ∧ Same F F' ∧ W F' H ((D, .lst us) :: os') ∧ O c F' os' us ys ∧ ys.length ≤ i ∧ Post (filSt f c (items.drop i) >>= fun q => k (ys ++ q.1, q.2)) P X) ?_ ?_ ?_ ?_
  · exact ⟨s0, F, os, [], [], Nat.zero_le _, Same.refl _, w.new nD, o0, Nat.le_refl _, hm⟩
  · rintro i H _ ⟨c, F', os', us, ys, _, s, w', o, _⟩
    exact hG c F' H os' us ys s w' o
  · rintro i x H H' hi ⟨c, F', os', us, ys, _, s, w', o, hl2, hm⟩ ⟨b, hb, y⟩
    rw [drop_cons hb] at hm
    have hm' : Post ((f c b >>= fun p => filSt f p.2 (items.drop (i + 1)) >>= fun q => match p.1 with
      | some y => (R.ok (y :: q.1, q.2) : R (List δ × γ))
      | none => R.ok q) >>= fun q => k (ys ++ q.1, q.2)) P X := hm
    rw [bind_bind] at hm'
    have hm2 := post_bind hm'
    have hul : us.length = ys.length := hl _ _ _ _ _ o
    refine hs b c x F' H H' os' us ys (fun y H4 => ∃ acc, H4 D = some (.lst acc) ∧ acc.length < sizeLine ∧ _) _ _ s w' o y ?_ ?_ hm2
    · intro d c' p2 y F'' H'' os'' w2 s2 o2
      refine ⟨us, w2.get (pre := []), by omega, c', F'', os'', us ++ [y], ys ++ [d], hi, s.trans s2, w2.set (pre := []), o2, by rw [List.length_append, List.length_singleton]; omega, ?_⟩
      have p3 : Post ((filSt f c' (items.drop (i + 1)) >>= fun q => (R.ok (d :: q.1, q.2) : R (List δ × γ))) >>= fun q => k (ys ++ q.1, q.2)) P X := p2
      rw [bind_bind] at p3
      have e : (fun q : List δ × γ => (R.ok (d :: q.1, q.2) : R (List δ × γ)) >>= fun q => k (ys ++ q.1, q.2)) = fun q => k (ys ++ [d] ++ q.1, q.2) := by
        funext q
        show k (ys ++ (d :: q.1), q.2) = k (ys ++ [d] ++ q.1, q.2)
        rw [List.append_assoc]
        rfl
      rw [e] at p3
      exact p3
    · intro c' p2 F'' H'' os'' w2 s2 o2
      refine ⟨c', F'', os'', us, ys, hi, s.trans s2, w2, o2, by omega, ?_⟩
      have p3 : Post ((filSt f c' (items.drop (i + 1)) >>= fun q => (R.ok q : R (List δ × γ))) >>= fun q => k (ys ++ q.1, q.2)) P X := p2
      rw [bind_bind] at p3
      exact p3
  · rintro H ⟨c, F', os', us, ys, _, s, w', o, _, hm⟩
    rw [List.drop_length] at hm
    have hm' : Post (k (ys ++ [], c)) P X := hm
    rw [List.append_nil] at hm'
    exact hd c us F' H os' ys s w' o hm'
theorem lcGM (tw : TW J items G Y) {f : γ → β → R (δ × γ)} {s0 : γ} {k : List δ × γ → R ε} (hm : Post (mapStG f s0 items >>= k) P X) (O : γ → Hp → List (Addr × HO) → List V → List δ → Prop) (w : W F H1 os) (o0 : O s0 F os [] []) (nD : H1 D = none)
    (hl : ∀ c F' os' us ys, O c F' os' us ys → us.length = ys.length)
    (hG : ∀ c F' H' os' acc ys, Same F F' → W F' H' ((D, .lst acc) :: os') → O c F' os' acc ys → G H')
    (hs : ∀ (b : β) (c : γ) (x : V) (F' H' H'' : Hp) (os' : List (Addr × HO)) (acc : List V) (ys : List δ) (N : V → Hp → Prop) (P' : δ × γ → Prop), Same F F' → W F' H' ((D, .lst acc) :: os') → O c F' os' acc ys → Y b H' x H'' →
      (∀ d c', P' (d, c') → ∀ y F'' H'' os'', W F'' H'' ((D, .lst acc) :: os'') → Same F' F'' → O c' F'' os'' (acc ++ [y]) (ys ++ [d]) → N y H'') → Post (f c b) P' X →
      g x (wipe σ vs) H'' fun σ2 H2 => wipe σ2 vs = wipe σ vs ∧ te σ2 H2 N)
    (hd : ∀ c us F' H' os' ys, Same F F' → W F' H' ((D, .lst us) :: os') → O c F' os' us ys → Post (k (ys, c)) P X → Qd H') : LcAsk J g tYes te vs σ H1 D Qd := by
  have e : ∀ (s : γ) (l : List β), filSt (fun c b => f c b >>= fun p => R.ok (some p.1, p.2)) s l = mapSt f s l := by
    intro s l
    induction l generalizing s with
    | nil => rfl
    | cons b l ih =>
      show ((f s b >>= fun p => R.ok (some p.1, p.2)) >>= fun p => filSt (fun c b => f c b >>= fun p => R.ok (some p.1, p.2)) p.2 l >>= fun q => match p.1 with
        | some y => (R.ok (y :: q.1, q.2) : R (List δ × γ))
        | none => R.ok q) = (f s b >>= fun p => mapSt f p.2 l >>= fun q => .ok (p.1 :: q.1, q.2))
      rw [bind_bind]
      refine congrArg (f s b >>= ·) ?_
      funext p
      show (filSt (fun c b => f c b >>= fun p => R.ok (some p.1, p.2)) p.2 l >>= fun q => (R.ok (p.1 :: q.1, q.2) : R (List δ × γ))) = _
      rw [ih]
  have hm' : Post (filStG (fun c b => f c b >>= fun p => R.ok (some p.1, p.2)) s0 items >>= k) P X := by
    unfold filStG
    simp only [e]
    exact hm
  refine lcG tw hm' O w o0 nD hl hG (fun b c x F' H' H'' os' acc ys N N0 P' s w' o y hN hN0 hp => ?_) hd
  exact hs b c x F' H' H'' os' acc ys N _ s w' o y (fun d c' p2 y F'' H'' os'' w2 s2 o2 => hN d c' p2 y F'' H'' os'' w2 s2 o2) (post_bind hp)
end
end Z
/-! Z6: constants of the module, things, dicts as written and asked -/
namespace Z
open PySem L2
open Rep (rep)
section
variable {X : Cx}
theorem pe_globI {x : Str} {n : Int} {pos : Pos} (hg : Gl X x) (h : ∃ t, X.mg x = some (.int n t)) (hd : (x == ("__debug__" : Str)) = false := by decide) : PE X (.Name x pos) (tC (.int n)) := by
  obtain ⟨t, e⟩ := h
  exact pe_glob hg e ⟨_, rfl⟩ hd
theorem call_intB : CallR X (.type "int") (fun xs H Q => ∃ k, xs = [.bl k] ∧ Q (.int (if k = true then 1 else 0)) H) := by
  intro pins s σ H xs us Q I r ⟨k, e, q⟩
  exact call_int1 pins s σ H xs us Q I r (.inr ⟨k, e, q⟩)
end
theorem call_lenDR {X : Cx} : CallR X (.builtin "len") (fun xs H Q => ∃ (a : Addr) (kvs : List (Key × V)) (n : Nat), xs = [V.ref a] ∧ H a = some (.dK kvs) ∧ kvs.length = n ∧ Q (.int (n : Int)) H) := by
  intro pins s σ H xs us Q I r ⟨a, kvs, n, e, h, hn, q⟩
  subst hn
  exact call_lenD pins s σ H xs us Q I r ⟨a, kvs, e, h, q⟩
/-- a while's fuel, not to be reckoned with -/
@[irreducible] def fu (n : Nat) : Nat := n
theorem fu_eq (n : Nat) : fu n = n := by
  unfold fu
  rfl
/-- x in l -/
abbrev inB {α : Type} [DecidableEq α] (x : α) (l : List α) : Bool := decide (x ∈ l)
theorem inB_t {α : Type} [DecidableEq α] {x : α} {l : List α} : inB x l = true ↔ x ∈ l := decide_eq_true_iff
theorem inB_f {α : Type} [DecidableEq α] {x : α} {l : List α} : inB x l = false ↔ x ∉ l := decide_eq_false_iff_not
def b2i (b : Bool) : Int := if b = true then 1 else 0
/-! ### things -/
def Thing.isPl : Thing → Bool
  | .pl _ => true
  | .ti _ _ => false
def asPl : Thing → R Int
  | .pl i => .ok i
  | .ti _ _ => .bad
def asTi : Thing → R (Int × Int)
  | .pl _ => .bad
  | .ti a b => .ok (a, b)
def mkpl (xs : List Int) : List Thing := xs.map Thing.pl
def mkti (xs : List (Int × Int)) : List Thing := xs.map fun p => Thing.ti p.1 p.2
section
variable {δ : Type} {P : δ → Prop} {E : Exn → Prop} {K : Fg} {F H : Hp}
theorem pb_asPl {t : Thing} {f : Int → R δ} (h : Post (asPl t >>= f) P E) : ∃ i, t = .pl i ∧ Post (f i) P E := by
  cases t with
  | pl i => exact ⟨i, rfl, h⟩
  | ti a b => exact (show False from h).elim
theorem pb_asTi {t : Thing} {f : Int × Int → R δ} (h : Post (asTi t >>= f) P E) : ∃ q : Int × Int, t = .ti q.1 q.2 ∧ Post (f q) P E := by
  cases t with
  | pl i => exact (show False from h).elim
  | ti a b => exact ⟨(a, b), rfl, h⟩
theorem A2.pl : ∀ {vs : List V} {xs : List Int}, A2 (rep K F) vs xs → A2 (rep K F) vs (mkpl xs)
  | _, _, .nil => .nil
  | _, _, .cons h t => .cons h (A2.pl t)
theorem A2.ti : ∀ {vs : List V} {xs : List (Int × Int)}, A2 (rep K F) vs xs → A2 (rep K F) vs (mkti xs)
  | _, _, .nil => .nil
  | _, _, .cons h t => .cons h (A2.ti t)
theorem th_ty (s : Same F H) {v : V} {t : Thing} (r : rep K F v t) : ∃ a, TyOf K H v (.type a) ∧ (a = "int" ∧ t.isPl = true ∨ a = "tuple" ∧ t.isPl = false) := by
  cases t with
  | pl i =>
    have r' : v = V.int i := r
    subst r'
    exact ⟨_, .int i, .inl ⟨rfl, rfl⟩⟩
  | ti a b =>
    obtain ⟨c, u, w, rfl, q, _⟩ := (show rep K F v (a, b) from r)
    exact ⟨_, .tup (s _ _ q), .inr ⟨rfl, rfl⟩⟩
theorem th_int (s : Same F H) {v : V} {t : Thing} (r : rep K F v t) : ∃ a, TyOf K H v (.type a) ∧ kitB a "int" = some t.isPl := by
  obtain ⟨a, h, z⟩ := th_ty s r
  rcases z with ⟨rfl, e⟩ | ⟨rfl, e⟩
  · exact ⟨_, h, by rw [e]; decide +kernel⟩
  · exact ⟨_, h, by rw [e]; decide +kernel⟩
theorem th_tuple (s : Same F H) {v : V} {t : Thing} (r : rep K F v t) : ∃ a, TyOf K H v (.type a) ∧ kitB a "tuple" = some (!t.isPl) := by
  obtain ⟨a, h, z⟩ := th_ty s r
  rcases z with ⟨rfl, e⟩ | ⟨rfl, e⟩
  · exact ⟨_, h, by rw [e]; decide +kernel⟩
  · exact ⟨_, h, by rw [e]; decide +kernel⟩
theorem th_bool (s : Same F H) {v : V} {t : Thing} (r : rep K F v t) : ∃ a, TyOf K H v (.type a) ∧ kitB a "bool" = some false := by
  obtain ⟨a, h, z⟩ := th_ty s r
  rcases z with ⟨rfl, e⟩ | ⟨rfl, e⟩
  · exact ⟨_, h, by decide +kernel⟩
  · exact ⟨_, h, by decide +kernel⟩
end
/-! ### dicts of scalars: as written, asked -/
section
variable {κ β γ : Type} [DecidableEq κ]
/-- as a display makes it -/
def mmk (l : List (κ × β)) : List (κ × β) := l.foldl (fun m p => mput m p.1 p.2) []
theorem merge_enc {ev : β → V} (l m : List (Int × β)) : mergeK (encM kI ev m) (encM kI ev l) = encM kI ev (l.foldl (fun m p => mput m p.1 p.2) m) := by
  induction l generalizing m with
  | nil => rfl
  | cons p l ih =>
    show mergeK (putK (encM kI ev m) (kI p.1) (ev p.2)) (encM kI ev l) = _
    rw [put_enc kI_inj, ih]
    rfl
end
section
variable {β δ : Type} {ev : β → V} {H : Hp} {a b : Addr} {P : δ → Prop} {E : Exn → Prop}
theorem dgets_k {m : List (Int × β)} {k : Int} {t : β} (e : H a = some (.dK (encM kI ev m))) (q : mget m k = some t) : DGet H a (.int k) (some (ev t)) := by
  have h := dget_k (k := k) e
  rw [q] at h
  exact h
theorem dgets_p {m : List ((Int × Int) × β)} {k : Int × Int} {t : β} (e : H a = some (.dT (encM kP ev m))) (eb : H b = some (.tup [.int k.1, .int k.2])) (q : mget m k = some t) : DGet H a (.ref b) (some (ev t)) := by
  have h := dget_p (k := k) e eb
  rw [q] at h
  exact h
theorem pb_mget {κ : Type} [DecidableEq κ] {m : List (κ × β)} {k : κ} {f : β → R δ} (h : Post (mgetR m k >>= f) P E) : ∃ t, mget m k = some t ∧ Post (f t) P E := pb_ofO h
theorem getD_ev (f : β → V) (o : Option β) (d : β) : (o.map f).getD (f d) = f (o.getD d) := by cases o <;> rfl
theorem isD_k {kvs : List (Key × V)} (e : H a = some (.dK kvs)) : IsD H a := .inl ⟨kvs, .inl e⟩
theorem isD_t {kvs : List (List Key × V)} (e : H a = some (.dT kvs)) : IsD H a := .inr ⟨kvs, .inl e⟩
end
def tDGet2R (td ty tx : TE) : TE := fun σ H Q => td σ H fun x H1 => ∃ a, x = .ref a ∧ IsD H1 a ∧ ty σ H1 fun y H2 => tx σ H2 fun z H3 => ∃ o r, DGet H3 a y o ∧ o.getD z = r ∧ Q r H3
section
variable {X : Cx} {o e f : Expr} {apos cpos : Pos} {td ty tx : TE}
theorem pe_dget2R (hu : X.A.units + 1 < cLine) (ho : PE X o td) (he : PE X e ty) (hf : PE X f tx) (m : M2 X o "get" apos e f cpos) : PE X (.Call (.Attribute o "get" apos) [e, f] [] cpos) (tDGet2R td ty tx) := by
  refine ⟨fun pins s σ H Q I h => ?_⟩
  refine wpAny_Call_method m.base m.few m.line PySem.F.plainAttrs_dict PySem.F.slot_dict_get PySem.F.type_dict_get (thn (ho.run pins s σ H _ I h) fun u s1 ⟨x, H1, I1, rx, a, ex, d, q1⟩ => ?_)
  subst ex
  obtain rfl : u = Value.ref a := rx
  obtain ⟨t1, t2, _⟩ := isD_at I1 d
  refine ⟨t1, t2, ?_⟩
  rw [m.trees]
  refine Calls.callWith_builtin rfl (Calls.evalArgs_plain (Calls.spliced_cons (thn (he.run pins s1 σ H1 _ I1 q1) fun iv s2 ⟨y, H2, I2, ry, q2⟩ =>
    Calls.spliced_cons (thn (hf.run pins s2 σ H2 _ I2 q2) fun fv s3 ⟨z, H3, I3, rz, ov, r, g, er, q3⟩ => Calls.spliced_nil ?_))))
  subst er
  exact d_get2 hu I3 g ry rz fun w' s4 I4 rw' => ⟨_, H3, I4, rw', q3⟩
end
/-! ### tuples cut and joined -/
section
variable {X : Cx} {K : Fg}
theorem sl_tupU (hK : X.K = K) : SlR X (fun x lo hi H Q => ∃ (a : Addr) (xs : List V) (F : Hp) (os : List (Addr × HO)), x = .ref a ∧ W F H os ∧ F a = some (.tup xs) ∧ ∀ p F' H', Same F F' → W F' H' os → F' p = some (.tup (cutV xs lo hi)) → Q (.ref p) H') := by
  subst hK
  intro pins s σ H x v vl vu lo hi sl Q I rx hs pl pu ⟨a, xs, F, os, e, w, q, h⟩
  refine sl_tupA pins s σ H x v vl vu lo hi sl Q I rx hs pl pu ⟨a, xs, e, SqT.of (w.same _ _ q), fun c => ?_, fun _ p hp => ?_⟩
  · refine h a F H (Same.refl _) w ?_
    have ec : cutV xs lo hi = xs := by
      unfold cutV
      rw [c.1, c.2]
      simp
    rw [ec]
    exact q
  · obtain ⟨F', s', w', q'⟩ := w.frzE (o := .tup (cutV xs lo hi)) hp
    exact h p F' _ s' w' q'
theorem op_catU (hK : X.K = K) : OpR X (binaryOp .Add) (fun x y H Q => ∃ (a b : Addr) (xs ys : List V) (F : Hp) (os : List (Addr × HO)), x = .ref a ∧ y = .ref b ∧ W F H os ∧ F a = some (.tup xs) ∧ F b = some (.tup ys) ∧ xs.length + ys.length ≤ sizeLine ∧
    ∀ p F' H', Same F F' → W F' H' os → F' p = some (.tup (xs ++ ys)) → Q (.ref p) H') := by
  subst hK
  intro pins s σ H x y v u Q I rx ry ⟨a, b, xs, ys, F, os, e1, e2, w, qa, qb, hl, h⟩
  refine op_catA pins s σ H x y v u Q I rx ry ⟨a, b, xs, ys, e1, e2, SqT.of (w.same _ _ qa), SqT.of (w.same _ _ qb), hl, fun c => ?_, fun c d => ?_, fun _ _ p hp => ?_⟩
  · subst c
    exact h b F H (Same.refl _) w qb
  · subst d
    exact h a F H (Same.refl _) w (by rw [List.append_nil]; exact qa)
  · obtain ⟨F', s', w', q'⟩ := w.frzE (o := .tup (xs ++ ys)) hp
    exact h p F' _ s' w' q'
end
end Z
/-! Z7: dicts of tuple keys whose values are lists of a store; their values walked -/
namespace L2
open PySem PySem.Spec PyProof.Rows
/-- the values of the locked dict at d, of tuple keys -/
def ItdT (d : Addr) (o : Obj) (kvs : List (List Key × V)) : It :=
  ⟨fun i H => H d = some (.frz o (.dT kvs)) ∧ i < kvs.length, fun i H x H' => H' = H ∧ ∃ k, kvs[i]? = some (k, x), fun i H => H d = some (.frz o (.dT kvs)) ∧ kvs.length ≤ i⟩
section
variable {X : Cx} {pins : List (Addr × Obj)} {σ : St} {H : Hp} {s : Shared} {d : Addr} {o : Obj}
theorem Inv.frzTV {kvs : List (List Key × V)} (I : Inv X pins σ H s) (h : H d = some (.frz o (.dT kvs))) :
    (d == sysModules) = false ∧ s.heap.get? d = some o ∧ o.ExactDict ∧ ∃ (es : Array DictEntry) (ep : Nat), o.data = .dict es ep ∧ es.size = kvs.length ∧
      ∀ (i : Nat) (k : List Key) (v : V), kvs[i]? = some (k, v) → ∃ en : DictEntry, es[i]? = some en ∧ RelV v en.val := by
  obtain ⟨hd, z, hs, xs, pr, o', es, ep, ho, hx, hdt, he, _⟩ := I.hok d _ h
  rw [hd] at ho
  cases ho
  refine ⟨hs, hd, hx, es, ep, hdt, ?_, fun i k v e => ?_⟩
  · have l1 : es.size = xs.length := size_of_entries he
    have l2 : kvs.length = xs.length := Paired.length pr
    omega
  · obtain ⟨b, hb, e1, e2, e3⟩ := paired_get pr e
    have q := entry_at he i
    rw [hb] at q
    exact ⟨_, q, e3⟩
end
section
variable {P : Program} {w : World} {K : PySem.W.Frag} {tg : Expr} {d : Addr} {o : Obj} {es : Array DictEntry} {ep : Nat}
theorem turn_valsT {kvs : List (List Key × V)} (it : Addr) (hod : o.data = .dict es ep) : Turn P w K tg (ItdT d o kvs) [it] it (fun i h => h.IsValIter it d i kvs.length ep) where
  mem := by simp
  obj := fun i h st b hb => by
    have e : b = it := by simpa using hb
    subst e
    obtain ⟨oi, e, c, dd⟩ := st
    exact ⟨oi, e, fun v z => by rw [dd] at z; cases z⟩
  keep := fun i h h' st k => st.at fun oi e => k it (by simp) oi e
  item := by
    intro X hP hw hK hc i pins s σ H E I hf st hg
    subst hP hw hK
    obtain ⟨hd, hi⟩ := hg
    obtain ⟨f0, f1, f2, f3, f4, f5⟩ := hf it (by simp)
    obtain ⟨hs, hgd, hx, es', ep', hdt, hsz, ent⟩ := I.frzTV hd
    obtain ⟨rfl, rfl⟩ := dict_ep hod hdt
    obtain ⟨⟨k, v⟩, hkv⟩ : ∃ p, kvs[i]? = some p := ⟨kvs[i], List.getElem?_eq_getElem hi⟩
    obtain ⟨en, hen, ru⟩ := ent i k v hkv
    have hil : i < es'.size := by omega
    have een : es'[i] = en := by
      rw [Array.getElem?_eq_getElem hil] at hen
      exact Option.some.inj hen
    rw [← hsz] at st
    refine wpAny_pyNext_values_item_raw st ⟨o, hgd, hx, hdt⟩ hil fun h' st' sb => ?_
    have I1 : Inv X pins σ H { s with heap := h' } := I.turned (t' := s.toks) (fun b ob hb e => (sb.2 b hb).trans e) f0 f1 f3 f4 f5
    obtain ⟨oi, e, c, dd⟩ := id st'
    refine ⟨_, rfl, go_of (s := { s with heap := h' }) e c dd (by decide) ⟨v, H, I1, by rw [een]; exact ru, ⟨rfl, k, hkv⟩, ?_, fun b hb => (hf b hb).1⟩⟩
    show h'.IsValIter it d (i + 1) kvs.length _
    rw [← hsz]
    exact st'
  done := by
    intro X hP hw hK hc i pins s σ H E I hf st hg
    subst hP hw hK
    obtain ⟨hd, hi⟩ := hg
    obtain ⟨f0, f1, f2, f3, f4, f5⟩ := hf it (by simp)
    obtain ⟨hs, hgd, hx, es', ep', hdt, hsz, ent⟩ := I.frzTV hd
    obtain ⟨rfl, rfl⟩ := dict_ep hod hdt
    rw [← hsz] at st
    exact wpAny_pyNext_values_end_raw (I.ok.hd hc) st ⟨o, hgd, hx, hdt⟩ (by omega) fun h' eb => ⟨rfl, I.turned (t' := s.toks) (fun b ob hb e => eb b ob hb e) f0 f1 f3 f4 f5⟩
  self := fun A i s Q E st h => wpAny_pyIter_valiter st h
end
/-- d.values() of a dict that is locked from there on -/
def iValsT (td : TE) : TI := fun σ H R => td σ H fun x H1 => ∃ d kvs, x = .ref d ∧ H1 d = some (.dT kvs) ∧ ∀ od, R (ItdT d od kvs) (upd H1 d (.frz od (.dT kvs)))
section
variable {X : Cx} {tg e : Expr} {td : TE} {apos cpos : Pos}
theorem pi_valuesT (he : PE X e td) (hbase : attributeBase e "values" X.env (eval e X.env) = eval e X.env := by rfl) (hline : (apos.endLine == cpos.line) = true := by rfl) : PI X tg (.Call (.Attribute e "values" apos) [] [] cpos) (iValsT td) := by
  refine ⟨fun pins s σ H R I h => ?_⟩
  refine wpAny_Call_method (T := "dict") (id := "dict.values") hbase rfl hline F.plainAttrs_dict F.slot_dict_values F.type_dict_values (thn (he.run pins s σ H _ I h) fun u s1 ⟨x, H0, I0, rx, d, kvs, ex, hd0, q0⟩ => ?_)
  subst ex
  obtain rfl : u = Value.ref d := rx
  obtain ⟨od, I1⟩ := I0.lock hd0 (by exact True.intro)
  have q := q0 od
  have hd : upd H0 d (.frz od (.dT kvs)) d = some (.frz od (.dT kvs)) := upd_same
  obtain ⟨hs, hgd, hx, es, ep, hdt, hsz, ent⟩ := I1.frzTV hd
  have hm : s1.heap.DictRaw d es ep := ⟨od, hgd, hx, hdt⟩
  refine ⟨hm.typeIs, fun b hb => ?_, ?_⟩
  · cases hb
    exact ⟨od, hgd, hx.2.1⟩
  have I2 : Inv X pins σ (upd H0 d (.frz od (.dT kvs))) { s1 with heap := s1.heap.push { cls := .type "dict_values", data := .fields #[.ref d] } } := I1.kept (t' := s1.toks) fun b ob q => Heap.get?_push_of_some _ q
  have fin : wpAny (model X.prog X.w) X.A (pyIter (.ref s1.heap.objs.size)) (PIE X pins σ tg R) X.xe { s1 with heap := s1.heap.push { cls := .type "dict_values", data := .fields #[.ref d] } } := by
    refine wpAny_pyIter_values_raw (d := d) (es := es) (ep := ep) ⟨_, Heap.get?_push_size _ rfl, rfl, rfl⟩ (hm.at fun o q => Heap.get?_push_of_some _ q) (pi_one (tk := s1.toks) I2 _ (turn_valsT _ hdt) ⟨_, Heap.get?_push_size _ rfl, rfl, ?_⟩ q)
    rw [hsz] <;> rfl
  show wpAny _ _ (callWith cpos (.builtin "dict.values") [.ref d] [] []) _ X.xe s1
  exact method_meetsIn F.slot_dict_values F.entry_dict_values rfl (PySem.evalArgs_none ⟨rfl, hm.typeIs, F.args_dict_values_1 _, _, meets_dict_values_raw d hs, ⟨es, ep, hm⟩, fin⟩)
end
end L2
namespace Z
open PySem L2
open Rep (rep)
/-! ### dicts by what their values stand for -/
section
variable {κ β γ : Type} [DecidableEq κ] [DecidableEq γ] {e : κ → γ} {r r' : V → β → Prop}
inductive AD (e : κ → γ) (r : V → β → Prop) : List (γ × V) → List (κ × β) → Prop
  | nil : AD e r [] []
  | cons {k : κ} {v : V} {x : β} {kvs : List (γ × V)} {m : List (κ × β)} : r v x → AD e r kvs m → AD e r ((e k, v) :: kvs) ((k, x) :: m)
theorem AD.length : ∀ {kvs : List (γ × V)} {m : List (κ × β)}, AD e r kvs m → kvs.length = m.length
  | _, _, .nil => rfl
  | _, _, .cons _ t => by rw [List.length_cons, List.length_cons, AD.length t]
theorem AD.imp (f : ∀ v x, r v x → r' v x) : ∀ {kvs : List (γ × V)} {m : List (κ × β)}, AD e r kvs m → AD e r' kvs m
  | _, _, .nil => .nil
  | _, _, .cons h t => .cons (f _ _ h) (AD.imp f t)
theorem AD.no (he : ∀ a b, e a = e b → a = b) {k : κ} : ∀ {kvs : List (γ × V)} {m : List (κ × β)}, AD e r kvs m → (valV kvs (e k)).isSome = mhas m k
  | _, _, .nil => rfl
  | _, _, .cons (k := j) (v := v) (x := x) (kvs := kvs) (m := m) h t => by
    show _ = (decide (j = k) || mhas m k)
    by_cases q : j = k
    · rw [valV_pos (congrArg e q), decide_eq_true q]; rfl
    · rw [valV_neg (fun z => q (he _ _ z)), decide_eq_false q, AD.no he t]; rfl
theorem AD.get (he : ∀ a b, e a = e b → a = b) {k : κ} {y : β} : ∀ {kvs : List (γ × V)} {m : List (κ × β)}, AD e r kvs m → mget m k = some y → ∃ v, valV kvs (e k) = some v ∧ r v y
  | _, _, .nil, h => by cases h
  | _, _, .cons (k := j) (v := v) (x := x) (kvs := kvs) (m := m) h t, g => by
    unfold mget at g
    by_cases q : j = k
    · rw [List.find?_cons_of_pos (by simpa using q)] at g
      cases g
      exact ⟨v, valV_pos (congrArg e q), h⟩
    · rw [List.find?_cons_of_neg (by simpa using q)] at g
      obtain ⟨u, h1, h2⟩ := AD.get he (k := k) t g
      exact ⟨u, by rw [valV_neg (fun z => q (he _ _ z))]; exact h1, h2⟩
theorem AD.snoc {k : κ} {v : V} {x : β} (h : r v x) : ∀ {kvs : List (γ × V)} {m : List (κ × β)}, AD e r kvs m → AD e r (kvs ++ [(e k, v)]) (m ++ [(k, x)])
  | _, _, .nil => .cons h .nil
  | _, _, .cons a t => .cons a (AD.snoc h t)
theorem AD.upd (he : ∀ a b, e a = e b → a = b) {k : κ} {v : V} {x : β} (h : r v x) : ∀ {kvs : List (γ × V)} {m : List (κ × β)}, AD e r kvs m → AD e r (kvs.map fun p => if p.1 = e k then (p.1, v) else p) (m.map fun p => if p.1 = k then (p.1, x) else p)
  | _, _, .nil => .nil
  | _, _, .cons (k := j) (v := u) (x := y) (kvs := kvs) (m := m) a t => by
    rw [List.map_cons, List.map_cons]
    by_cases q : j = k
    · subst q
      rw [if_pos rfl, if_pos rfl]
      exact .cons h (AD.upd he h t)
    · rw [if_neg q, if_neg (fun z => q (he _ _ z))]
      exact .cons a (AD.upd he h t)
theorem AD.any (he : ∀ a b, e a = e b → a = b) {k : κ} : ∀ {kvs : List (γ × V)} {m : List (κ × β)}, AD e r kvs m → (kvs.any fun p => decide (p.1 = e k)) = m.any fun p => decide (p.1 = k)
  | _, _, .nil => rfl
  | _, _, .cons (k := j) (kvs := kvs) (m := m) a t => by
    rw [List.any_cons, List.any_cons, AD.any he t]
    congr 1
    by_cases q : j = k
    · rw [q]; simp
    · rw [decide_eq_false q, decide_eq_false (fun z => q (he _ _ z))]
theorem AD.put (he : ∀ a b, e a = e b → a = b) {k : κ} {v : V} {x : β} {kvs : List (γ × V)} {m : List (κ × β)} (t : AD e r kvs m) (h : r v x) : AD e r (putK kvs (e k) v) (mput m k x) := by
  unfold putK mput
  rw [t.any he]
  by_cases q : (m.any fun p => decide (p.1 = k)) = true
  · rw [if_pos q, if_pos q]
    exact t.upd he h
  · rw [if_neg q, if_neg q]
    exact t.snoc h
theorem AD.vals : ∀ {kvs : List (γ × V)} {m : List (κ × β)}, AD e r kvs m → ∀ {i : Nat} {k : γ} {v : V}, kvs[i]? = some (k, v) → ∃ x, (m.map (·.2))[i]? = some x ∧ r v x
  | _, _, .nil, i, k, v, h => by simp at h
  | _, _, .cons (k := j) (v := u) (x := x) a t, 0, k, v, h => by
    simp at h
    obtain ⟨_, rfl⟩ := h
    exact ⟨x, rfl, a⟩
  | _, _, .cons a t, i + 1, k, v, h => by
    obtain ⟨x, h1, h2⟩ := AD.vals t (i := i) (k := k) (v := v) (by simpa using h)
    exact ⟨x, by simpa using h1, h2⟩
end
/-- a tuple of ints as a key -/
def kT (t : Tup Int) : List Key := t.l.map Sum.inl
theorem kT_inj : ∀ a b, kT a = kT b → a = b := fun a b h => by
  have g : ∀ xs ys : List Int, (xs.map Sum.inl : List Key) = ys.map Sum.inl → xs = ys := by
    intro xs
    induction xs with
    | nil => intro ys e; cases ys <;> first | rfl | cases e
    | cons x xs ih =>
      intro ys e
      cases ys with
      | nil => cases e
      | cons y ys =>
        rw [List.map_cons, List.map_cons] at e
        injection e with e1 e2
        rw [Sum.inl.inj e1, ih ys e2]
  have : a.l = b.l := g _ _ h
  cases a
  cases b
  simp at this
  rw [this]
section
variable {K : Fg} {F H : Hp} {a b : Addr} {kvs : List (List Key × V)} {vs : List V} {t : Tup Int} {β : Type} {r : V → β → Prop} {m : List (Tup Int × β)}
theorem key_tup (s : Same F H) (q : F b = some (.tup vs)) (h : A2 (rep K F) vs t.l) : H b = some (.tup ((kT t).map kV)) := by
  have e : vs = (kT t).map kV := by
    rw [h.ints]
    unfold kT
    rw [List.map_map]
    rfl
  rw [← e]
  exact s _ _ q
theorem dgetA (e : H a = some (.dT kvs)) (eb : H b = some (.tup ((kT t).map kV))) : DGet H a (.ref b) (valV kvs (kT t)) := DGet.t e eb
theorem dgetsA {v : V} (e : H a = some (.dT kvs)) (eb : H b = some (.tup ((kT t).map kV))) (q : valV kvs (kT t) = some v) : DGet H a (.ref b) (some v) := by
  have h := dgetA (t := t) e eb
  rw [q] at h
  exact h
theorem dputA {v : V} (e : H a = some (.dT kvs)) (eb : H b = some (.tup ((kT t).map kV))) (h : AD kT r kvs m) (hl : m.length < sizeLine) : DPut H a (.ref b) v (upd H a (.dT (putK kvs (kT t) v))) := DPut.t e eb (by rw [h.length]; exact hl)
theorem tw_valsT {d : Addr} {o : Obj} (h : AD kT r kvs m) : TW (ItdT d o kvs) (m.map (·.2)) (fun H => H d = some (.frz o (.dT kvs))) (fun b H x H' => H' = H ∧ r x b) := ⟨by
  rw [List.length_map, ← h.length]
  refine ⟨fun _ _ hi q => ⟨q, hi⟩, fun _ q => ⟨q, Nat.le_refl _⟩, fun i H x H' _ _ y => ?_⟩
  obtain ⟨e, k, hk⟩ := y
  obtain ⟨b, h1, h2⟩ := h.vals hk
  exact ⟨b, h1, e, h2⟩⟩
end
section
variable {X : Cx} {K : Fg}
/-- l.index(x), of data -/
theorem mt_indexDt (hK : X.K = K) (α : Type) [Dat α] [DecidableEq α] (hd : Dat.dmax α ≤ 50) (hu : X.A.units + 65 < cLine) : MtR X "list.index" (fun x xs H Q => ∃ (a : Addr) (u : V) (ys : List α) (y : α) (j : Nat), x = V.ref a ∧ xs = [u] ∧ rep K H (V.ref a) ys ∧ rep K H u y ∧ fidx y ys = some j ∧ Q (.int (j : Int)) H) := by
  subst hK
  intro pins s σ H x xs v us Q I rx rxs ⟨a, u, ys, y, j, e1, e2, hs, hy, hj, q⟩
  obtain ⟨h1, h2⟩ := fidx_spec hj
  refine mt_indexD hu pins s σ H x xs v us Q I rx rxs ⟨a, u, Dat.toD y, ys.map Dat.toD, j, Dat.toD y, e1, e2, Dat.dp hs, Dat.dp hy, shapedD (α := List α) (by show Dat.dmax α + 1 ≤ 60; omega) ys, shapedD (by omega) y, ?_, ?_, fun m z hm hz => ?_, q⟩
  · rw [List.getElem?_map, h1]
    rfl
  · rw [eqvD]
    exact decide_eq_true rfl
  · rw [List.getElem?_map] at hz
    cases e : ys[m]? with
    | none => rw [e] at hz; cases hz
    | some t =>
      rw [e] at hz
      cases hz
      rw [eqvD]
      exact decide_eq_false (h2 m t hm e)
end
end Z
/-! Z8: set(list of ints), sorted of it; list.count of data; list.insert -/
namespace L2
open PySem PySem.Spec PyProof.Rows
section
variable {P : Program} {w : World} {A : Around} {E : Value → Shared → Prop} {s : Shared}
set_option maxHeartbeats 3200000 in
/-- set(l) of a list of ints (turned from the tuple's, call_set_tupI) -/
theorem set_of_listI {l : Addr} {items : Array Value} (ns : List Int) {Q : Value → Shared → Prop} (hh : A.handled = none) (hl : s.heap.IsList l items) (hit : IntsAre items.toList ns) (hb : ns.length + 1 < scanBound)
    (h : ∀ (h' : Heap) (tk c : Nat), SetR w h' s.heap.objs.size (fun j => decide (j ∈ ns)) c → c ≤ ns.length → (∀ b o, s.heap.get? b = some o → h'.get? b = some o) → Q (.ref s.heap.objs.size) { s with heap := h', toks := tk }) :
    wpAny (model P w) A (call (.type "set") [.ref l]) Q E s := by
  have hisz : items.size = ns.length := by
    have q := IntsAre.length hit
    rw [Array.length_toList] at q
    exact q
  obtain ⟨c, tl, hmro⟩ := F.called_set.mro
  have hmade := F.called_set.made
  have hsub := F.called_set.sub
  refine wpAny_call (codeAny_of_tree ?_)
  show wpAny _ _ (callAny (.type "set") _) _ _ _
  refine wpAny_pure ⟨Code.quiet_builtin _ (by decide +kernel), codeAny_builtin F.entry_type_call ?_⟩
  rw [Around.under_plain (weight_type_call_type "set" [.ref l] []) rfl]
  have h1 := F.called_set.notType
  have h2 := F.called_set.canCreate
  have hct := F.typeCall_set_1 (.ref l)
  repeat (any_goals (first | assumption | wp_step))
  refine codeAny_mono (code_set_led1 (.ref l) (E := E) (Q₁ := fun obj s₁ => obj = .ref s.heap.objs.size ∧ s₁ = { s with heap := s.heap.push { cls := .type "set", dict := none, data := .set #[] 0 (.fresh 0 0 (!w.params.followText "set-order")) } }) ⟨rfl, rfl⟩) fun r s₁ hr => ?_
  cases r with
  | error e => exact hr
  | ok fl =>
    cases fl with
    | ret obj =>
      obtain ⟨rfl, rfl⟩ := hr
      have hS : (s.heap.push { cls := .type "set", dict := none, data := .set #[] 0 (.fresh 0 0 (!w.params.followText "set-order")) }).get? s.heap.objs.size = some { cls := .type "set", dict := none, data := .set #[] 0 (.fresh 0 0 (!w.params.followText "set-order")) } := Heap.get?_push_size _ rfl
      have hT : Shared.TypeIs { s with heap := s.heap.push { cls := .type "set", dict := none, data := .set #[] 0 (.fresh 0 0 (!w.params.followText "set-order")) } } (.ref s.heap.objs.size) "set" := ⟨_, hS, rfl⟩
      have hli := F.called_set.init.lookup
      have hbi := F.called_set.init.bind (.ref s.heap.objs.size)
      repeat (any_goals (first | assumption | wp_step))
      refine codeAny_mono (codeAny_call_builtin (R := wants (fun r s₂ => r = .none ∧ ∃ h' tk c, s₂ = { s with heap := h', toks := tk } ∧ SetR w h' s.heap.objs.size (fun j => decide (j ∈ ns)) c ∧ c ≤ ns.length ∧
          (∀ b o, s.heap.get? b = some o → h'.get? b = some o)) E) F.called_set.init.plain F.entry_set_init (check_set_init_1 hT ?_)) fun r₂ s₂ hr₂ => ?_
      · obtain ⟨ol, hol, hcl, nl, hdl⟩ := hl
        obtain ⟨ocls, odict, odata, oslots⟩ := ol
        simp only at hcl hdl
        subst hcl; subst hdl
        have hol' : (s.heap.push { cls := .type "set", dict := none, data := .set #[] 0 (.fresh 0 0 (!w.params.followText "set-order")) }).get? l = some { cls := .type "list", dict := odict, data := .seq items nl, slots := oslots } := Heap.get?_push_of_some _ hol
        have hsls := F.sub_list_set
        have hslf := F.sub_list_frozenset
        have hne : (Value.type "list" == Value.type "dict") = false := by decide
        have hl1 : (s.heap.push { cls := .type "set", dict := none, data := .set #[] 0 (.fresh 0 0 (!w.params.followText "set-order")) }).IsList l items := ⟨_, hol', rfl, nl, rfl⟩
        unfold Builtin.«set.__init__» noKeywords Builtin.Frozenset.updateFrom
        generalize hPI : pyIter = PI
        wp_walk
        subst hPI
        refine wpAny_pyIter_list hl1 ?_
        refine wpAny_bind (wpAny_runValue ?_)
        have hlS : l < s.heap.objs.size := Heap.lt_size hol
        have hh3 : A.in1.in1.in1.handled = none := by simp [hh]
        have hz1 : (s.heap.push { cls := .type "set", dict := none, data := .set #[] 0 (.fresh 0 0 (!w.params.followText "set-order")) }).objs.size = s.heap.objs.size + 1 := Heap.size_push ..
        have hneI : l ≠ (s.heap.push { cls := .type "set", dict := none, data := .set #[] 0 (.fresh 0 0 (!w.params.followText "set-order")) }).objs.size := by
          rw [Heap.size_push]; exact Nat.ne_of_lt (Nat.lt_succ_of_lt hlS)
        have hSf : s.heap.objs.size ∉ [(s.heap.push { cls := .type "set", dict := none, data := .set #[] 0 (.fresh 0 0 (!w.params.followText "set-order")) }).objs.size, l] := by
          rw [Heap.size_push]; simp only [List.mem_cons, List.mem_singleton, List.not_mem_nil, or_false, not_or]
          exact ⟨Nat.ne_of_lt (Nat.lt_succ_self _), Nat.ne_of_gt hlS⟩
        have hval : ∀ (i : Nat) (v : Value), items[i]? = some v → ∃ k t, ns[i]? = some k ∧ v = .int k t := fun i v hv => by
          have hi : i < ns.length := by rw [← hisz]; exact (Array.getElem?_eq_some_iff.mp hv).1
          obtain ⟨t, e⟩ := PyProof.Rows.IntsAre.int_at hit i v (by rw [Array.getElem?_toList]; exact hv)
          refine ⟨ns[i], t, List.getElem?_eq_getElem hi, ?_⟩
          rw [e, List.getD_eq_getElem?_getD, List.getElem?_eq_getElem hi] <;> rfl
        refine set_update_ints ((Walks.list hh3 _ l hneI items).toS) s.heap.objs.size
          hSf ns hisz hb hval (items.size - 0) 0 _ (by omega) (Nat.zero_le _)
          ⟨⟨_, Heap.get?_push_size _ rfl, rfl, rfl⟩, (hl1.push _)⟩ ?hS0 ?hR
        case hS0 =>
          have hget : ((s.heap.push { cls := .type "set", dict := none, data := .set #[] 0 (.fresh 0 0 (!w.params.followText "set-order")) }).push { cls := .type "list_iterator", data := .fields #[.ref l, .int 0 0] }).get? s.heap.objs.size = some { cls := .type "set", dict := none, data := .set #[] 0 (.fresh 0 0 (!w.params.followText "set-order")) } := Heap.get?_push_of_some _ hS
          exact ⟨0, Nat.le_refl 0, setR_new_at hget⟩
        case hR =>
          intro s' c' hm hc' hS'
          obtain ⟨h', g2, d', tk', os'⟩ := s'
          have eg : g2 = s.gens := hm.gens
          have ed : d' = s.drawn := hm.drawn
          have eo : os' = s.os := hm.os
          subst eg; subst ed; subst eo
          show wpAny _ _ _ _ _ _
          refine wpAny_pure ?_
          show wpAny _ _ (ret Value.none) _ _ _
          rw [hisz] at hc'
          refine wpAny_pure ⟨rfl, h', tk', c', rfl, hS', hc', fun b o e => ?_⟩
          have hb0 : b < s.heap.objs.size := Heap.lt_size e
          have hb1 : b ≠ s.heap.objs.size := Nat.ne_of_lt hb0
          have hb2 : b ≠ (s.heap.push { cls := .type "set", dict := none, data := .set #[] 0 (.fresh 0 0 (!w.params.followText "set-order")) }).objs.size := by
            rw [Heap.size_push]; exact Nat.ne_of_lt (Nat.lt_succ_of_lt hb0)
          exact hm.heap b o (by simp only [List.mem_cons, List.mem_singleton, List.not_mem_nil, or_false, not_or]; exact ⟨hb1, hb2⟩) (Heap.get?_push_of_some _ (Heap.get?_push_of_some _ e))
      · cases r₂ with
        | error e => exact hr₂
        | ok fl₂ =>
          cases fl₂ with
          | ret r =>
            obtain ⟨rfl, h', tk, c', rfl, hS', hc', hk'⟩ := hr₂
            repeat (any_goals (first | assumption | wp_step))
            exact h _ _ _ hS' hc' hk'
          | _ => exact hr₂.elim
    | _ => exact hr.elim
end
end L2
namespace Z
open PySem L2
open Rep (rep)
section
variable {X : Cx} {K : Fg} {w : World}
theorem cr_setLI (hK : X.K = K) (hw : X.w = w) (hc : X.calm = true) : CallR X (.type "set") (fun xs H Q => ∃ (l : Addr) (ns : List Int), xs = [V.ref l] ∧ SqL K H l (ns.map V.int) ∧ ns.length < 4000 ∧ ∀ a, H a = none → Q (.ref a) (upd H a (SetO w a (fun j => decide (j ∈ ns)) (nub ns).length))) := by
  subst hK hw
  intro pins s σ H xs us Q I r h
  obtain ⟨l, ns, rfl, hl, hf, q⟩ := h
  rw [Vals.ref1 r]
  obtain ⟨its, rv, pl, hz⟩ := I.list hl
  have hn : H s.heap.objs.size = none := I.hok.fresh (Nat.le_refl _)
  refine set_of_listI ns (I.ok.hd hc) pl.isList (by simpa using ints_of_vals rv) (by unfold scanBound; omega) fun h' tk c R hcn k => ?_
  have ec : c = (nub ns).length := by
    obtain ⟨o, es, ep, t, ho, hex, hdt, g, nd, hm2, hb, hf, hcs, hr, hl2⟩ := R
    rw [← hcs]
    have e1 : (es.toList.map keyOf).length = (nub ns).length := nodup_len nd (nub_nodup _) fun y => by
      rw [nub_mem, ← hm2 y, decide_eq_true_eq]
    rw [← e1, List.length_map, Array.length_toList]
  subst ec
  exact ⟨.ref s.heap.objs.size, upd H s.heap.objs.size (SetO X.w s.heap.objs.size (fun j => decide (j ∈ ns)) (nub ns).length), I.laid (t' := tk) k (Nat.le_refl _) (setO_new R), rfl, q _ hn⟩
theorem cr_sortSet (hw : X.w = w) (hc : X.calm = true) : CallR X (.builtin "sorted") (rSortedSet w) := by
  subst hw
  exact cr_sortedSet hc
end
/-- sorted(set(xs)) -/
def ssI (xs : List Int) : List Int := sortI (nub xs)
def ssR (xs : List Int) : R (List Int) := grd (decide (xs.length < 4000) && decide ((nub xs).length < 64)) >>= fun _ => .ok (ssI xs)
theorem perm_ints {xs ys : List Int} (h1 : xs.Nodup) (h2 : ys.Nodup) (h : ∀ x, x ∈ xs ↔ x ∈ ys) : xs.Perm ys := by
  rw [List.perm_iff_count]
  intro a
  rw [h1.count, h2.count]
  by_cases q : a ∈ xs
  · rw [if_pos q, if_pos ((h a).mp q)]
  · rw [if_neg q, if_neg (fun z => q ((h a).mpr z))]
theorem ssI_uniq {xs ns : List Int} (h1 : ns.Pairwise (· < ·)) (h2 : ∀ k : Int, k ∈ ns ↔ decide (k ∈ xs) = true) : ns = ssI xs := by
  unfold ssI
  refine sort_uniq ?_ (h1.imp fun h => Int.le_of_lt h) (sortI_sorted _)
  refine List.Perm.trans ?_ (sortI_perm _).symm
  refine perm_ints (h1.imp fun h => Int.ne_of_lt h) (nub_nodup _) fun k => ?_
  rw [h2 k, decide_eq_true_iff, nub_mem]
theorem pb_ss {δ : Type} {xs : List Int} {f : List Int → R δ} {P : δ → Prop} {E : Exn → Prop} (h : Post (ssR xs >>= f) P E) : ∃ l, (xs.length < 4000 ∧ (nub xs).length < 64) ∧ l = ssI xs ∧ Post (f l) P E := by
  unfold ssR at h
  cases q : (decide (xs.length < 4000) && decide ((nub xs).length < 64)) with
  | true =>
    rw [q] at h
    rw [Bool.and_eq_true, decide_eq_true_iff, decide_eq_true_iff] at q
    exact ⟨_, q, rfl, h⟩
  | false =>
    rw [q] at h
    exact (show False from h).elim
/-- xs.insert(i, y), i not below nought -/
def insR {α : Type} (xs : List α) (i : Int) (y : α) : R (List α) := if xs.length < 100000 ∧ 0 ≤ i ∧ i < 9223372036854775808 then .ok (xs.take i.toNat ++ [y] ++ xs.drop i.toNat) else .bad
theorem pn_ins {α δ : Type} {xs : List α} {i : Int} {y : α} {f : List α → R δ} {P : δ → Prop} {E : Exn → Prop} (h : Post (insR xs i y >>= f) P E) : ∃ l, (xs.length < 100000 ∧ 0 ≤ i ∧ i < 9223372036854775808) ∧ l = xs.take i.toNat ++ [y] ++ xs.drop i.toNat ∧ Post (f l) P E := by
  unfold insR at h
  by_cases q : xs.length < 100000 ∧ 0 ≤ i ∧ i < 9223372036854775808
  · rw [if_pos q] at h
    exact ⟨_, q, rfl, h⟩
  · rw [if_neg q] at h
    exact (show False from h).elim
theorem A2.ins {α : Type} {r : V → α → Prop} {v : V} {y : α} (n : Nat) {vs : List V} {xs : List α} (h : A2 r vs xs) (g : r v y) : A2 r (vs.take n ++ [v] ++ vs.drop n) (xs.take n ++ [y] ++ xs.drop n) := A2.append (A2.append (A2.take n h) (.cons g .nil)) (A2.drop n h)
theorem line_ins {α : Type} {r : V → α → Prop} {vs : List V} {xs : List α} (h : A2 r vs xs) (g : xs.length < 100000) : vs.length < sizeLine := by
  rw [h.length]
  exact Nat.lt_of_lt_of_le g line5
/-- l.count(x), of data -/
def cntB {α : Type} [DecidableEq α] (xs : List α) (y : α) : Int := ((xs.countP fun z => decide (z = y) : Nat) : Int)
section
variable {X : Cx} {K : Fg}
theorem mt_countDt (hK : X.K = K) (α : Type) [Dat α] [DecidableEq α] (hd : Dat.dmax α ≤ 50) (hu : X.A.units + 65 < cLine) : MtR X "list.count" (fun x xs H Q => ∃ (a : Addr) (u : V) (ys : List α) (y : α), x = V.ref a ∧ xs = [u] ∧ rep K H (V.ref a) ys ∧ rep K H u y ∧ Q (.int (cntB ys y)) H) := by
  subst hK
  intro pins s σ H x xs v us Q I rx rxs ⟨a, y, ys, k, e1, e2, hs0, hy, q⟩
  subst e1 e2
  cases rx
  cases rxs with
  | cons ry rt =>
    rename_i uy ut
    cases rt
    have sl : SeqAt.shaped (.list (ys.map Dat.toD)) = true := shapedD (α := List α) (by show Dat.dmax α + 1 ≤ 60; omega) ys
    have sd : SeqAt.shaped (Dat.toD k) = true := shapedD (by omega) k
    have hl : Dp X.K H (V.ref a) (.list (ys.map Dat.toD)) := Dat.dp hs0
    obtain ⟨bs, r1⟩ := Dp.reads I (Dat.toD k) y uy (Dat.dp hy) ry
    have hxs : PyData.canLayAll0 (ys.map Dat.toD) = true := SeqAt.canLay_of_shaped sl
    have hroom : X.A.units + 1 + min (PyData.depthAll (ys.map Dat.toD)) (Dat.toD k).depth < cLine := PyProof.Rows.room_in_shaped sd hu
    cases hl with
    | lst hs ha =>
      obtain ⟨its, rv, ⟨⟨cls, dd, data, sls⟩, n, ho, hc, hdn, hdt⟩, hlen⟩ := I.list hs
      simp only at hc hdt
      subst hc hdt
      obtain ⟨as, h4⟩ := Dp.readsAll I _ _ its ha rv
      have hmap : its.map (SeqAt.readOf s.heap) = ys.map Dat.toD := SeqAt.readsAll_map _ its as hxs h4
      have hcount : its.toArray.toList.countP (fun u => PyData.eqv (SeqAt.readOf s.heap u) (Dat.toD k)) = ys.countP fun z => decide (z = k) := by
        have e1 : its.countP (fun u => PyData.eqv (SeqAt.readOf s.heap u) (Dat.toD k)) = (its.map (SeqAt.readOf s.heap)).countP fun z => PyData.eqv z (Dat.toD k) := by rw [List.countP_map]; rfl
        rw [List.toList_toArray, e1, hmap, List.countP_map]
        refine List.countP_congr fun z _ => ?_
        show PyData.eqv (Dat.toD z) (Dat.toD k) = true ↔ _
        rw [eqvD]
      refine call_meets PySem.F.slot_list_count ⟨_, ho, rfl⟩ PySem.F.entry_list_count (PySem.F.args_list_count_2 _ _)
        (SeqAt.list_countAt a its.toArray n dd sls uy (fun u => PyData.eqv (SeqAt.readOf s.heap u) (Dat.toD k))) ⟨ho, SeqAt.items_eqAt (vs := its.toArray) (show ReadsAll s.heap its.toArray.toList _ as from h4) r1 hxs (SeqAt.canLay_of_shaped sd) hroom, ?_⟩
      refine ⟨.int (cntB ys k), H, I.tok _, ⟨s.toks, ?_⟩, q⟩
      show Value.int ((its.toArray.toList.countP _ : Nat) : Int) s.toks = Value.int (cntB ys k) s.toks
      rw [hcount]
      rfl
end
end Z
namespace Z
open PySem L2
open Rep (rep)
/-- a dict that stays as it is -/
structure FzD (κ β : Type) where
  m : List (κ × β)
  deriving DecidableEq
instance repFD : Rep (FzD Int Int) := ⟨fun K H v d => ∃ a, v = .ref a ∧ H a = some (.dK (encM kI V.int d.m)), fun s ⟨a, e, q⟩ => ⟨a, e, s _ _ q⟩⟩
end Z
namespace Z
open PySem L2
open Rep (rep)
/-- a text as a key -/
def kS (s : Str) : Key := Sum.inr s
theorem kS_inj : ∀ a b, kS a = kS b → a = b := fun _ _ h => Sum.inr.inj h
theorem AD.merge {κ β : Type} [DecidableEq κ] {e : κ → Key} {r : V → β → Prop} (he : ∀ a b, e a = e b → a = b) : ∀ {more : List (Key × V)} {l : List (κ × β)}, AD e r more l → ∀ {kvs : List (Key × V)} {m : List (κ × β)}, AD e r kvs m → AD e r (mergeK kvs more) (l.foldl (fun m p => mput m p.1 p.2) m)
  | _, _, .nil, _, _, h => h
  | _, _, .cons a t, _, _, h => AD.merge he t (AD.put he h a)
theorem AD.mmk {κ β : Type} [DecidableEq κ] {e : κ → Key} {r : V → β → Prop} (he : ∀ a b, e a = e b → a = b) {more : List (Key × V)} {l : List (κ × β)} (h : AD e r more l) : AD e r (mergeK [] more) (Z.mmk l) := AD.merge he h .nil
theorem dgetsS {H : Hp} {a : Addr} {kvs : List (Key × V)} {s : Str} {v : V} (e : H a = some (.dK kvs)) (q : valV kvs (kS s) = some v) : DGet H a (.str s) (some v) := by
  have h : DGet H a (.str s) (valV kvs (kS s)) := DGet.k (k := kS s) e
  rw [q] at h
  exact h
end Z
namespace Z
open PySem L2
open Rep (rep)
section
variable {X : Cx} {K : Fg} {F H : Hp}
/-- isinstance(x, (b, c)) -/
theorem call_isBT (hK : X.K = K) : CallR X (.builtin "isinstance") (fun xs H Q => ∃ (x : V) (tp : Addr) (a b c : String) (r q : Bool), xs = [x, .ref tp] ∧ H tp = some (.tup [.ty b, .ty c]) ∧ TyOf K H x (.type a) ∧ kitB a b = some r ∧ kitB a c = some q ∧ Q (.bl (r || q)) H) := by
  subst hK
  intro pins s σ H xs us Q I rx ⟨x, tp, a, b, c, r, q, e, ht, h1, h2, h3, k⟩
  refine call_isiT pins s σ H xs us Q I rx ⟨x, tp, _, .type a, [.type b, .type c], r || q, e, ht, .cons (.ty b) (.cons (.ty c) .nil), .base h1, ?_, k⟩
  refine L2.kitAny_cons (L2.kit_ty h2) (fun e => ?_) fun e => by rw [e]; rfl
  rw [e, Bool.false_or]
  refine L2.kitAny_cons (L2.kit_ty h3) (fun e => ?_) fun e => e
  rw [e]
  exact L2.kitAny_nil
theorem th_it (s : Same F H) {v : V} {t : Thing} (r : rep K F v t) : ∃ a, TyOf K H v (.type a) ∧ kitB a "int" = some t.isPl ∧ kitB a "tuple" = some (!t.isPl) := by
  obtain ⟨a, h, z⟩ := th_ty s r
  rcases z with ⟨rfl, e⟩ | ⟨rfl, e⟩
  · exact ⟨_, h, by rw [e]; decide +kernel, by rw [e]; decide +kernel⟩
  · exact ⟨_, h, by rw [e]; decide +kernel, by rw [e]; decide +kernel⟩
theorem A2.some {α : Type} [Rep α] {vs : List V} {xs : List α} (h : A2 (rep K F) vs xs) : A2 (rep K F) vs (xs.map Option.some) := by
  induction h with
  | nil => exact .nil
  | cons a _ ih => exact .cons (rep_some a) ih
end
end Z
/-! ZE: tuples item by item (Nt), objects of an own class (Oj), trees of tuples (Tr) -/
namespace Z
open PySem L2 PySem.Spec PyProof.Rows
open Rep (rep)
class RepL (α : Type) where
  repTs : Fg → Hp → List V → α → Prop
  mono : ∀ {K : Fg} {H H' : Hp} {vs : List V} {x : α}, Same H H' → repTs K H vs x → repTs K H' vs x
open RepL (repTs)
instance repLU : RepL Unit := ⟨fun _ _ vs _ => vs = [], fun _ h => h⟩
instance repLP {α β : Type} [Rep α] [RepL β] : RepL (α × β) := ⟨fun K H vs x => ∃ v us, vs = v :: us ∧ rep K H v x.1 ∧ repTs K H us x.2, fun s ⟨v, us, e, h1, h2⟩ => ⟨v, us, e, Rep.mono s h1, RepL.mono s h2⟩⟩
/-- a tuple, item by item -/
structure Nt (α : Type) where
  v : α
  deriving DecidableEq
instance decNtL {α : Type} [DecidableEq α] : DecidableEq (List (Nt α)) := inferInstance
instance repNt {α : Type} [RepL α] : Rep (Nt α) := ⟨fun K H v x => ∃ a vs, v = .ref a ∧ H a = some (.tup vs) ∧ repTs K H vs x.v, fun s ⟨a, vs, e, q, h⟩ => ⟨a, vs, e, s _ _ q, RepL.mono s h⟩⟩
section
variable {α β γ δ : Type} [Rep α] [Rep β] [Rep γ] [Rep δ] {K : Fg} {H H' : Hp} {v u1 u2 u3 u4 : V} {a : Addr}
theorem nt3 {x : Nt (α × β × γ × Unit)} (h : rep K H v x) : ∃ a u1 u2 u3, v = .ref a ∧ H a = some (.tup [u1, u2, u3]) ∧ rep K H u1 x.v.1 ∧ rep K H u2 x.v.2.1 ∧ rep K H u3 x.v.2.2.1 := by
  obtain ⟨a, vs, e, q, u1, _, rfl, h1, u2, _, rfl, h2, u3, _, rfl, h3, rfl⟩ := h
  exact ⟨a, u1, u2, u3, e, q, h1, h2, h3⟩
theorem nt4 {x : Nt (α × β × γ × δ × Unit)} (h : rep K H v x) : ∃ a u1 u2 u3 u4, v = .ref a ∧ H a = some (.tup [u1, u2, u3, u4]) ∧ rep K H u1 x.v.1 ∧ rep K H u2 x.v.2.1 ∧ rep K H u3 x.v.2.2.1 ∧ rep K H u4 x.v.2.2.2.1 := by
  obtain ⟨a, vs, e, q, u1, _, rfl, h1, u2, _, rfl, h2, u3, _, rfl, h3, u4, _, rfl, h4, rfl⟩ := h
  exact ⟨a, u1, u2, u3, u4, e, q, h1, h2, h3, h4⟩
theorem nt2 {x : Nt (α × β × Unit)} (h : rep K H v x) : ∃ a u1 u2, v = .ref a ∧ H a = some (.tup [u1, u2]) ∧ rep K H u1 x.v.1 ∧ rep K H u2 x.v.2.1 := by
  obtain ⟨a, vs, e, q, u1, _, rfl, h1, u2, _, rfl, h2, rfl⟩ := h
  exact ⟨a, u1, u2, e, q, h1, h2⟩
theorem rep_nt2 {x1 : α} {x2 : β} (q : H a = some (.tup [u1, u2])) (h1 : rep K H u1 x1) (h2 : rep K H u2 x2) : rep K H (.ref a) (⟨(x1, x2, ())⟩ : Nt (α × β × Unit)) := ⟨a, _, rfl, q, u1, _, rfl, h1, u2, _, rfl, h2, rfl⟩
theorem rep_nt3 {x1 : α} {x2 : β} {x3 : γ} (q : H a = some (.tup [u1, u2, u3])) (h1 : rep K H u1 x1) (h2 : rep K H u2 x2) (h3 : rep K H u3 x3) : rep K H (.ref a) (⟨(x1, x2, x3, ())⟩ : Nt (α × β × γ × Unit)) := ⟨a, _, rfl, q, u1, _, rfl, h1, u2, _, rfl, h2, u3, _, rfl, h3, rfl⟩
theorem rep_nt4 {x1 : α} {x2 : β} {x3 : γ} {x4 : δ} (q : H a = some (.tup [u1, u2, u3, u4])) (h1 : rep K H u1 x1) (h2 : rep K H u2 x2) (h3 : rep K H u3 x3) (h4 : rep K H u4 x4) : rep K H (.ref a) (⟨(x1, x2, x3, x4, ())⟩ : Nt (α × β × γ × δ × Unit)) := ⟨a, _, rfl, q, u1, _, rfl, h1, u2, _, rfl, h2, u3, _, rfl, h3, u4, _, rfl, h4, rfl⟩
end
/-! ### as data -/
class DatL (α : Type) extends RepL α where
  toDs : α → List PyData
  dmaxL : Nat
  dpL : ∀ {K : Fg} {H : Hp} {vs : List V} {x : α}, repTs K H vs x → DpAll K H vs (toDs x)
  layL : ∀ x : α, PyData.canLayAll0 (toDs x) = true
  depL : ∀ x : α, PyData.depthAll (toDs x) ≤ dmaxL
  eqvL : ∀ x y : α, PyData.eqvAll (toDs x) (toDs y) = true ↔ x = y
instance datLU : DatL Unit where
  toDs := fun _ => []
  dmaxL := 0
  dpL := fun h => by
    have h' : _ = [] := h
    subst h'
    exact .nil
  layL := fun _ => by simp only [PyData.canLayAll0]
  depL := fun _ => by simp only [PyData.depthAll, Nat.le_refl]
  eqvL := fun _ _ => by simp [PyData.eqvAll]
instance datLP {α β : Type} [Dat α] [DatL β] : DatL (α × β) where
  toDs := fun x => Dat.toD x.1 :: DatL.toDs x.2
  dmaxL := max (Dat.dmax α) (DatL.dmaxL β)
  dpL := fun {K H vs x} h => by
    obtain ⟨v, us, rfl, h1, h2⟩ := h
    exact .cons (Dat.dp h1) (DatL.dpL h2)
  layL := fun x => by simp only [PyData.canLayAll0, Dat.lay, DatL.layL, Bool.and_true]
  depL := fun x => by
    have h1 := Dat.dep x.1
    have h2 := DatL.depL x.2
    simp only [PyData.depthAll]
    omega
  eqvL := fun x y => by
    obtain ⟨x1, x2⟩ := x
    obtain ⟨y1, y2⟩ := y
    simp only [PyData.eqvAll, Bool.and_eq_true, Dat.eqv, DatL.eqvL, Prod.mk.injEq]
instance datNt {α : Type} [DatL α] : Dat (Nt α) where
  toD := fun x => .tuple (DatL.toDs x.v)
  dmax := DatL.dmaxL α + 1
  dp := fun {K H v x} h => by
    obtain ⟨a, vs, rfl, q, h⟩ := h
    exact .tup (SqT.of q) (DatL.dpL h)
  lay := fun x => by
    simp only [PyData.canLay0]
    exact DatL.layL x.v
  dep := fun x => by
    have h := DatL.depL x.v
    simp only [PyData.depth]
    omega
  eqv := fun x y => by
    obtain ⟨x⟩ := x
    obtain ⟨y⟩ := y
    simp only [PyData.eqv, Nt.mk.injEq]
    exact DatL.eqvL x y
/-! ### objects of an own class -/
def mkfs (fs : List Str) (us : List V) : List (Str × V) := (fs.zip us).foldl (fun l p => putF p.1 p.2 l) []
structure Oj (nm : Str) (fs : List Str) (α : Type) where
  v : α
instance repOj {nm : Str} {fs : List Str} {α : Type} [RepL α] : Rep (Oj nm fs α) := ⟨fun K H v x => ∃ a C dx us, v = .ref a ∧ Nm K nm C ∧ H a = some (.ins C dx (mkfs fs us)) ∧ repTs K H us x.v, fun s ⟨a, C, dx, us, e, n, q, h⟩ => ⟨a, C, dx, us, e, n, s _ _ q, RepL.mono s h⟩⟩
section
variable {α β γ δ : Type} [Rep α] [Rep β] [Rep γ] [Rep δ] {K : Fg} {H H' : Hp} {u1 u2 u3 u4 : V} {us : List V}
theorem rl1 {x : α × Unit} (h : repTs K H us x) : ∃ u1, us = [u1] ∧ rep K H u1 x.1 := by
  obtain ⟨u1, _, rfl, h1, rfl⟩ := h
  exact ⟨u1, rfl, h1⟩
theorem rl2 {x : α × β × Unit} (h : repTs K H us x) : ∃ u1 u2, us = [u1, u2] ∧ rep K H u1 x.1 ∧ rep K H u2 x.2.1 := by
  obtain ⟨u1, _, rfl, h1, u2, _, rfl, h2, rfl⟩ := h
  exact ⟨u1, u2, rfl, h1, h2⟩
theorem rl3 {x : α × β × γ × Unit} (h : repTs K H us x) : ∃ u1 u2 u3, us = [u1, u2, u3] ∧ rep K H u1 x.1 ∧ rep K H u2 x.2.1 ∧ rep K H u3 x.2.2.1 := by
  obtain ⟨u1, _, rfl, h1, u2, _, rfl, h2, u3, _, rfl, h3, rfl⟩ := h
  exact ⟨u1, u2, u3, rfl, h1, h2, h3⟩
theorem rl4 {x : α × β × γ × δ × Unit} (h : repTs K H us x) : ∃ u1 u2 u3 u4, us = [u1, u2, u3, u4] ∧ rep K H u1 x.1 ∧ rep K H u2 x.2.1 ∧ rep K H u3 x.2.2.1 ∧ rep K H u4 x.2.2.2.1 := by
  obtain ⟨u1, _, rfl, h1, u2, _, rfl, h2, u3, _, rfl, h3, u4, _, rfl, h4, rfl⟩ := h
  exact ⟨u1, u2, u3, u4, rfl, h1, h2, h3, h4⟩
theorem mk_rl1 {x1 : α} (h1 : rep K H u1 x1) : repTs K H [u1] (x1, ()) := ⟨u1, _, rfl, h1, rfl⟩
theorem mk_rl2 {x1 : α} {x2 : β} (h1 : rep K H u1 x1) (h2 : rep K H u2 x2) : repTs K H [u1, u2] (x1, x2, ()) := ⟨u1, _, rfl, h1, u2, _, rfl, h2, rfl⟩
theorem mk_rl3 {x1 : α} {x2 : β} {x3 : γ} (h1 : rep K H u1 x1) (h2 : rep K H u2 x2) (h3 : rep K H u3 x3) : repTs K H [u1, u2, u3] (x1, x2, x3, ()) := ⟨u1, _, rfl, h1, u2, _, rfl, h2, u3, _, rfl, h3, rfl⟩
theorem mk_rl4 {x1 : α} {x2 : β} {x3 : γ} {x4 : δ} (h1 : rep K H u1 x1) (h2 : rep K H u2 x2) (h3 : rep K H u3 x3) (h4 : rep K H u4 x4) : repTs K H [u1, u2, u3, u4] (x1, x2, x3, x4, ()) := ⟨u1, _, rfl, h1, u2, _, rfl, h2, u3, _, rfl, h3, u4, _, rfl, h4, rfl⟩
end
/-! ### trees: (a thing, a thing, a tuple of trees) -/
inductive Tr where
  | n (a b : Thing) (ts : List Tr)
def Tr.a : Tr → Thing
  | .n a _ _ => a
def Tr.b : Tr → Thing
  | .n _ b _ => b
def Tr.ts : Tr → List Tr
  | .n _ _ ts => ts
mutual
def trRep (K : Fg) (H : Hp) : Tr → V → Prop
  | .n a b ts, v => ∃ p u w q vs, v = .ref p ∧ H p = some (.tup [u, w, .ref q]) ∧ rep K H u a ∧ rep K H w b ∧ H q = some (.tup vs) ∧ trsRep K H ts vs
def trsRep (K : Fg) (H : Hp) : List Tr → List V → Prop
  | [], vs => vs = []
  | t :: ts, vs => ∃ v us, vs = v :: us ∧ trRep K H t v ∧ trsRep K H ts us
end
mutual
theorem trRep_mono {K : Fg} {H H' : Hp} (s : Same H H') : ∀ (t : Tr) (v : V), trRep K H t v → trRep K H' t v
  | .n a b ts, v, h => by
    rw [trRep] at h ⊢
    obtain ⟨p, u, w, q, vs, e, h1, h2, h3, h4, h5⟩ := h
    exact ⟨p, u, w, q, vs, e, s _ _ h1, Rep.mono s h2, Rep.mono s h3, s _ _ h4, trsRep_mono s ts vs h5⟩
theorem trsRep_mono {K : Fg} {H H' : Hp} (s : Same H H') : ∀ (ts : List Tr) (vs : List V), trsRep K H ts vs → trsRep K H' ts vs
  | [], vs, h => by
    rw [trsRep] at h ⊢
    exact h
  | t :: ts, vs, h => by
    rw [trsRep] at h ⊢
    obtain ⟨v, us, e, h1, h2⟩ := h
    exact ⟨v, us, e, trRep_mono s t v h1, trsRep_mono s ts us h2⟩
end
instance repTr : Rep Tr := ⟨fun K H v t => trRep K H t v, fun {_ _ _ v t} s h => trRep_mono s t v h⟩
theorem trs_a2 {K : Fg} {H : Hp} : ∀ (ts : List Tr) (vs : List V), trsRep K H ts vs ↔ A2 (rep K H) vs ts
  | [], vs => by
    rw [trsRep]
    exact ⟨fun e => by rw [e]; exact .nil, fun h => by cases h; rfl⟩
  | t :: ts, vs => by
    rw [trsRep]
    constructor
    · rintro ⟨v, us, rfl, h1, h2⟩
      exact .cons h1 ((trs_a2 ts us).mp h2)
    · intro h
      cases h with
      | cons h1 h2 => exact ⟨_, _, rfl, h1, (trs_a2 ts _).mpr h2⟩
abbrev TrN := Nt (Thing × Thing × Tup Tr × Unit)
def Tr.nt (t : Tr) : TrN := ⟨(t.a, t.b, ⟨t.ts⟩, ())⟩
def Tr.of (x : TrN) : Tr := .n x.v.1 x.v.2.1 x.v.2.2.1.l
theorem tr_nt {K : Fg} {H : Hp} {v : V} : ∀ {t : Tr}, rep K H v t → rep K H v t.nt
  | .n a b ts, h => by
    have h' : trRep K H (.n a b ts) v := h
    rw [trRep] at h'
    obtain ⟨p, u, w, q, vs, rfl, h1, h2, h3, h4, h5⟩ := h'
    exact rep_nt3 h1 h2 h3 ⟨q, vs, rfl, h4, (trs_a2 ts vs).mp h5⟩
theorem rep_tr {K : Fg} {H : Hp} {v : V} {x : TrN} (h : rep K H v x) : rep K H v (Tr.of x) := by
  obtain ⟨p, u, w, z, rfl, h1, h2, h3, h4⟩ := nt3 h
  obtain ⟨q, vs, rfl, h5, h6⟩ := h4
  show trRep K H (.n _ _ _) _
  rw [trRep]
  exact ⟨p, u, w, q, vs, rfl, h1, h2, h3, h5, (trs_a2 _ vs).mpr h6⟩
theorem nt_tr {K : Fg} {H : Hp} {v : V} : ∀ {t : Tr}, rep K H v t.nt → rep K H v t
  | .n a b ts, h => rep_tr h
/-! ### a tuple and the empty one -/
theorem A2.emp {α : Type} {r : V → α → Prop} {vs : List V} {xs : List α} (h : A2 r vs xs) : vs.isEmpty = xs.isEmpty := by
  cases h <;> rfl
theorem op_eqE {X : Cx} {K : Fg} (hK : X.K = K) (hu : X.A.units + 64 < cLine) : OpR X (compareOp .Eq) (fun x y H Q => ∃ (a b : Addr) (vs : List V) (k : Bool), x = .ref a ∧ y = .ref b ∧ SqT K H a vs ∧ SqT K H b [] ∧ vs.isEmpty = k ∧ Q (.bl k) H) := by
  subst hK
  intro pins s σ H x y v u Q I rx ry ⟨a, b, vs, k, e1, e2, h1, h2, ek, q⟩
  subst e1 e2 ek
  cases rx
  cases ry
  obtain ⟨its, r1, p1, _⟩ := I.tuple h1
  obtain ⟨its2, r2, p2, _⟩ := I.tuple h2
  cases r2
  have l1 : its.length = vs.length := (Vals.length r1).symm
  refine PySem.SeqAt.eq_tupleAt (e := fun _ => false) p1 p2 (by omega) (fun j _ z => absurd z (by simp)) ⟨.bl _, H, I, rfl, ?_⟩
  have e : ((List.range (min its.toArray.size ([] : List Value).toArray.size)).all (fun _ => false) && its.toArray.size == ([] : List Value).toArray.size) = vs.isEmpty := by
    cases vs with
    | nil =>
      have : its = [] := List.length_eq_zero_iff.mp l1
      subst this
      rfl
    | cons v vs =>
      cases its with
      | nil => cases l1
      | cons i its => simp
  rw [e]
  exact q
/-! ### great powers and products -/
@[irreducible] def sqR (i : Int) : R Int := if i.natAbs < 2 ^ 400 then .ok (i ^ (2 : Int).toNat) else .bad
@[irreducible] def mulW (i j : Int) : R Int := if i.natAbs < 2 ^ 400 ∧ j.natAbs < 2 ^ 400 then .ok (i * j) else .bad
theorem pb_sq {β : Type} {Q : β → Prop} {E : Exn → Prop} {i : Int} {f : Int → R β} (h : Post (sqR i >>= f) Q E) : i.natAbs < 2 ^ 400 ∧ Post (f (i ^ (2 : Int).toNat)) Q E := by
  unfold sqR at h
  exact pb_if h
theorem pb_mulW {β : Type} {Q : β → Prop} {E : Exn → Prop} {i j : Int} {f : Int → R β} (h : Post (mulW i j >>= f) Q E) : (i.natAbs < 2 ^ 400 ∧ j.natAbs < 2 ^ 400) ∧ Post (f (i * j)) Q E := by
  unfold mulW at h
  exact pb_if h
theorem po_sq {i : Int} (h : i.natAbs < 2 ^ 400) : sqR i = R.ok (i * i) := by
  unfold sqR
  rw [if_pos h]
  have e : i ^ (2 : Int).toNat = i * i := by
    show i ^ 2 = i * i
    rw [Int.pow_succ, Int.pow_succ, Int.pow_zero, Int.one_mul]
  rw [e]
theorem po_mulW {i j : Int} (h : i.natAbs < 2 ^ 400) (h2 : j.natAbs < 2 ^ 400) : mulW i j = R.ok (i * j) := by
  unfold mulW
  rw [if_pos ⟨h, h2⟩]
section
variable {X : Cx}
theorem op_sq : OpR X (binaryOp .Pow) (rI (fun i j => j = 2 ∧ i.natAbs < 2 ^ 400) fun i j => .int (i ^ j.toNat)) := opI fun i j _ _ _ _ _ hc q => by
  obtain ⟨rfl, h⟩ := hc
  refine PyProof.Rows.pow_int (by decide) ?_ q
  have := intBits_le_iff.mpr h
  omega
theorem op_mulW4 : OpR X (binaryOp .Mult) (rI (fun i j => i.natAbs < 2 ^ 400 ∧ j.natAbs < 2 ^ 400) fun i j => .int (i * j)) := opI fun _ _ _ _ _ _ _ hc q =>
  mul_int q (IntMulOk.of_le (intBits_le_iff.mpr hc.1) (intBits_le_iff.mpr hc.2) (by decide))
end
/-! ### min, max of a tuple of two ints -/
section
variable {prog : Program} {w : World} {A : Around} {E : Value → Shared → Prop} {s : Shared} {l : Addr} {xs : Array (Int × Tok)} {Q : Value → Shared → Prop}
theorem iter_intTup (hl : s.heap.IsTuple l (intItems xs))
    (h : ∀ s₂ : Shared, s₂ = { s with heap := s.heap.push { cls := .type "tuple_iterator", data := .fields #[.ref l, .int 0 0] } } →
      (s₂.heap.IsTupleIter s.heap.objs.size l 0 ∧ s₂.heap.IsTuple l (intItems xs)) → (∀ b ∈ [s.heap.objs.size, l], b < s₂.heap.objs.size) → l ≠ s.heap.objs.size → Q (.ref s.heap.objs.size) s₂) :
    wpAny (model prog w) A (pyIter (.ref l)) Q E s := by
  have hlt : l < s.heap.objs.size := by obtain ⟨_, e, _⟩ := hl; exact Heap.lt_size e
  refine wpAny_pyIter_tuple hl (h _ rfl ⟨⟨_, Heap.get?_push_size _ rfl, rfl, rfl⟩, hl.push _⟩ (fun b hb => ?_) (Nat.ne_of_lt hlt))
  show b < (s.heap.push _).objs.size
  rw [Heap.size_push]
  rcases List.mem_cons.mp hb with rfl | hb
  · exact Nat.lt_succ_self _
  · rcases List.mem_cons.mp hb with rfl | hb
    · exact Nat.lt_succ_of_lt hlt
    · cases hb
theorem old_keptT {h' : Heap} (hk : ∀ b o, b ∉ [s.heap.objs.size] → (s.heap.push { cls := .type "tuple_iterator", data := .fields #[.ref l, .int 0 0] }).get? b = some o → h'.get? b = some o) :
    ∀ b o, s.heap.get? b = some o → h'.get? b = some o := fun b o e => by
  refine hk b o (fun hm => ?_) (Heap.get?_push_of_some _ e)
  rcases List.mem_cons.mp hm with e1 | hm
  · exact absurd (e1 ▸ Heap.lt_size e) (Nat.lt_irrefl _)
  · cases hm
theorem max_intTup (hh : A.handled = none) (hl : s.heap.IsTuple l (intItems xs)) (hne : 0 < xs.size)
    (h : ∀ v h' tk, (intItems xs)[argBest (fun i j => decide (numAt xs i > numAt xs j)) (xs.size - 1)]? = some v → (∀ b o, s.heap.get? b = some o → h'.get? b = some o) → Q v { s with heap := h', toks := tk }) :
    wpAny (model prog w) A (call (.builtin "max") [.ref l]) Q E s := by
  refine call_max_walk (iter_intTup hl fun s₂ e st hfp hlI => ?_)
  subst e
  refine ⟨_, _, _, _, _, _, _, rfl, Walks.tuple (A := A.in1) hh _ l hlI (intItems xs), st, hfp, by simpa [intItems] using hne, CmpOf.ints_gt (numAt xs) (fun _ _ => intItems_at), fun v h' tk hP hk => ?_⟩
  exact h v h' tk (by simpa [intItems] using hP) (old_keptT hk)
theorem min_intTup (hh : A.handled = none) (hl : s.heap.IsTuple l (intItems xs)) (hne : 0 < xs.size)
    (h : ∀ v h' tk, (intItems xs)[argBest (fun i j => decide (numAt xs i < numAt xs j)) (xs.size - 1)]? = some v → (∀ b o, s.heap.get? b = some o → h'.get? b = some o) → Q v { s with heap := h', toks := tk }) :
    wpAny (model prog w) A (call (.builtin "min") [.ref l]) Q E s := by
  refine call_min_walk (iter_intTup hl fun s₂ e st hfp hlI => ?_)
  subst e
  refine ⟨_, _, _, _, _, _, _, rfl, Walks.tuple (A := A.in1) hh _ l hlI (intItems xs), st, hfp, by simpa [intItems] using hne, CmpOf.ints_lt (numAt xs) (fun _ _ => intItems_at), fun v h' tk hP hk => ?_⟩
  exact h v h' tk (by simpa [intItems] using hP) (old_keptT hk)
end
section
variable {X : Cx} {K : Fg}
theorem cr_maxT2 (hK : X.K = K) (hc : X.calm = true) : CallR X (.builtin "max") (fun vs H Q => ∃ (a : Addr) (i j : Int), vs = [V.ref a] ∧ SqT K H a [.int i, .int j] ∧ ∃ k, max2 i j = k ∧ Q (.int k) H) := by
  subst hK
  intro pins s σ H vs us Q I r ⟨a, i, j, e, h, k, ek, q⟩
  subst e ek
  obtain ⟨its, rv, hT, _⟩ := I.tuple h
  obtain ⟨t, u, rfl⟩ := Vals.int2 rv
  rw [Vals.ref1 r]
  refine max_intTup (xs := #[(i, t), (j, u)]) (I.ok.hd hc) (by rw [show intItems #[(i, t), (j, u)] = #[Value.int i t, Value.int j u] by simp [intItems]]; exact hT) (show 0 < 2 from by decide) fun v h' tk hv hk => ?_
  have hv' : v = Value.int (max2 i j) (if j > i then u else t) := by
    unfold max2
    by_cases z : j > i
    · have e : argBest (fun x y => decide (numAt #[(i, t), (j, u)] x > numAt #[(i, t), (j, u)] y)) 1 = 1 := by simp [argBest, numAt, z]
      rw [show (#[(i, t), (j, u)] : Array (Int × Tok)).size - 1 = 1 from rfl, e] at hv
      simpa [intItems, z] using hv.symm
    · have e : argBest (fun x y => decide (numAt #[(i, t), (j, u)] x > numAt #[(i, t), (j, u)] y)) 1 = 0 := by simp [argBest, numAt, z]
      rw [show (#[(i, t), (j, u)] : Array (Int × Tok)).size - 1 = 1 from rfl, e] at hv
      simpa [intItems, z] using hv.symm
  rw [hv']
  exact ⟨.int _, H, I.kept hk, ⟨_, rfl⟩, q⟩
theorem cr_minT2 (hK : X.K = K) (hc : X.calm = true) : CallR X (.builtin "min") (fun vs H Q => ∃ (a : Addr) (i j : Int), vs = [V.ref a] ∧ SqT K H a [.int i, .int j] ∧ ∃ k, min2 i j = k ∧ Q (.int k) H) := by
  subst hK
  intro pins s σ H vs us Q I r ⟨a, i, j, e, h, k, ek, q⟩
  subst e ek
  obtain ⟨its, rv, hT, _⟩ := I.tuple h
  obtain ⟨t, u, rfl⟩ := Vals.int2 rv
  rw [Vals.ref1 r]
  refine min_intTup (xs := #[(i, t), (j, u)]) (I.ok.hd hc) (by rw [show intItems #[(i, t), (j, u)] = #[Value.int i t, Value.int j u] by simp [intItems]]; exact hT) (show 0 < 2 from by decide) fun v h' tk hv hk => ?_
  have hv' : v = Value.int (min2 i j) (if j < i then u else t) := by
    unfold min2
    by_cases z : j < i
    · have e : argBest (fun x y => decide (numAt #[(i, t), (j, u)] x < numAt #[(i, t), (j, u)] y)) 1 = 1 := by simp [argBest, numAt, z]
      rw [show (#[(i, t), (j, u)] : Array (Int × Tok)).size - 1 = 1 from rfl, e] at hv
      simpa [intItems, z] using hv.symm
    · have e : argBest (fun x y => decide (numAt #[(i, t), (j, u)] x < numAt #[(i, t), (j, u)] y)) 1 = 0 := by simp [argBest, numAt, z]
      rw [show (#[(i, t), (j, u)] : Array (Int × Tok)).size - 1 = 1 from rfl, e] at hv
      simpa [intItems, z] using hv.symm
  rw [hv']
  exact ⟨.int _, H, I.kept hk, ⟨_, rfl⟩, q⟩
end
/-! ### a list grows by a tuple's items -/
theorem meets_extend_tup (l : Addr) (items : Array Value) (n : Nat) (b : Addr) (items2 : Array Value) (n2 : Nat) (o2 : Obj) (hc2 : o2.cls = .type "tuple") (hd2 : o2.data = .seq items2 n2) (hs0 : ¬(!items.isEmpty && Builtin.List.listTooLong (items.size + items2.size)) = true) (hs1 : items.size ≤ sizeLine) (hs2 : items.size + items2.size ≤ sizeLine + 1) :
    Meets (Builtin.«list.extend» ⟨[.ref l, .ref b], []⟩) (fun _ R s => s.heap.get? l = some { cls := .type "list", dict := none, data := .seq items n, slots := #[] } ∧ s.heap.get? b = some o2 ∧ R (.ok (.ret Value.none)) { s with heap := s.heap.update l (Obj.mapSeq fun x => x ++ items2), toks := s.toks }) :=
  .of_wp fun prog w A R s h => by
    obtain ⟨c2, d2, da2, sl2⟩ := o2
    dsimp only at hc2 hd2
    subst hc2 hd2
    obtain ⟨hp, g, d, tk, os⟩ := s; obtain ⟨hl, hb, h⟩ := h; have f1 := AutoSeq1.idx_int; have f2 := AutoSeq1.sub_tuple_tuple; have f3 := AutoSeq1.sub_list_list; have f4 := AutoSeq1.sub_tuple_list; have f5 := AutoSeq1.sub_list_tuple;
    have hz' : (items ++ items2).size ≤ sizeLine + 1 := by rw [Array.size_append]; exact hs2
    wp_walk using (wpAny_updateSeq hl rfl (hz := hs1) (_hz' := hz')), AutoSeq1.wpAny_loadPart' hl, AutoSeq1.wpAny_loadPart' hb; exact ⟨_, rfl, h⟩
theorem mt_extendT {X : Cx} {K : Fg} (hK : X.K = K) : MtM X "list.extend" (fun x vs H Q => ∃ l b xs zs, x = .ref l ∧ vs = [.ref b] ∧ H l = some (.lst xs) ∧ SqT K H b zs ∧ xs.length + zs.length ≤ sizeLine ∧ Q .non (upd H l (.lst (xs ++ zs)))) := by
  subst hK
  intro pins s σ H x vs v us Q I rx rv h
  obtain ⟨l, b, xs, zs, rfl, rfl, hH, hB, hz, q⟩ := h
  cases rx
  obtain ⟨u, rfl, ru⟩ := rv.one
  cases ru
  obtain ⟨z, its, n, r, hl, e⟩ := I.lstM hH
  obtain ⟨its2, r2, ⟨o2, e2, hc2, n2, hd2⟩, hl2⟩ := I.tuple hB
  have hl3 : zs.length = its2.length := r2.length
  have hsz : its.toArray.size + its2.toArray.size ≤ sizeLine := by rw [List.size_toArray, List.size_toArray]; omega
  have hlong : ¬ (!its.toArray.isEmpty && Builtin.List.listTooLong (its.toArray.size + its2.toArray.size)) = true := by
    rw [notLongL hsz, Bool.and_false]
    exact Bool.false_ne_true
  refine call_meets F.slot_list_extend ⟨_, e, rfl⟩ F.entry_list_extend (F.args_list_extend_2 _ _)
    (meets_extend_tup l its.toArray n b its2.toArray n2 o2 hc2 hd2 hlong (by rw [List.size_toArray]; omega) (by omega)) ⟨e, e2, ?_⟩
  refine ⟨.non, _, I.lset (its' := its ++ its2) hH e (by simp) (r.append r2) ?_, rfl, q⟩
  rw [List.length_append]
  omega
end Z
/-! ZF: dicts of tuple keys: setdefault, what is walked of them (keys, pairs), values of any kind -/
namespace L2
open PySem PySem.Spec PyProof.Rows
section
variable {X : Cx} {pins : List (Addr × Obj)} {σ : St} {H : Hp} {s : Shared} {a b : Addr} {A : Around} {E : Value → Shared → Prop}
/-- setdefault, the key a tuple -/
theorem dT_setd {kvs : List (List Key × V)} {k : List Key} {y : V} {r : Value} {Q : Value → Shared → Prop} (room : A.units + 1 < cLine) (I : Inv X pins σ H s) (at_ : H a = some (.dT kvs)) (key : H b = some (.tup (k.map kV))) (val : RelV y r) (few : kvs.length < sizeLine)
    (there : ∀ x, valV kvs k = some x → ∀ (u : Value) (s' : Shared), Inv X pins σ H s' → RelV x u → Q u s') (made : valV kvs k = none → ∀ (u : Value) (s' : Shared), Inv X pins σ (upd H a (.dT (putK kvs k y))) s' → RelV y u → Q u s') :
    wpAny (model X.prog X.w) A (call (.builtin "dict.setdefault") [.ref a, .ref b, r]) Q E s := by
  obtain ⟨z, hs, rows, rel, dd⟩ := dt_of I.hok at_
  have rowsFew : rows.length ≤ sizeLine := by
    have := Paired.length rel
    omega
  have newFew : (putK kvs k y).length ≤ sizeLine := by
    have := length_putK kvs k y
    omega
  have q := rel.val k
  refine call_setdefault_heap (hsz := rowsFew) (tupleKind_room_in1 room) (key_of I.hok key) hs dd (fun p hp => ?_) fun hn h2 dd2 same => ?_
  · rw [hp] at q
    cases e : valV kvs k with
    | some x =>
      rw [e] at q
      exact there x e _ _ (I.tok _) q
    | none =>
      rw [e] at q
      exact (show False from q).elim
  · rw [hn] at q
    cases e : valV kvs k with
    | some x =>
      rw [e] at q
      exact (show False from q).elim
    | none =>
      obtain ⟨ob, es, ep, g1, g2, g3, g4, _, g5⟩ := dd2
      have kept : KT (upd H a (.dT (putK kvs k y))) (putK kvs k y) (storedH rows k b r) := (rel.put k key val).keeps fun c ys ec => by
        rw [upd_ne (ne_of ec at_ (fun z => nomatch z))]
        exact ec
      exact made e _ _ (d_write (ob := .dT (putK kvs k y)) I (by rw [at_]; exact True.intro) same ⟨ob, g1⟩ ⟨newFew, hs, _, kept, ob, es, ep, g1, g2, g3, g4, g5⟩) val
end
/-- o.setdefault(k, x), the key a tuple -/
def tDSetdT (to tk tx : TE) : TE := fun σ H Q => to σ H fun o H1 => ∃ a, o = .ref a ∧ IsD H1 a ∧ tk σ H1 fun y H2 => tx σ H2 fun z H3 => ∃ (kvs : List (List Key × V)) (k : List Key) (b : Addr), H3 a = some (.dT kvs) ∧ y = .ref b ∧ H3 b = some (.tup (k.map kV)) ∧ kvs.length < sizeLine ∧
  (∀ x, valV kvs k = some x → Q x H3) ∧ (valV kvs k = none → Q z (upd H3 a (.dT (putK kvs k z))))
section
variable {X : Cx} {o e f : Expr} {to tk tx : TE} {apos cpos : Pos}
theorem pe_dsetdT (room : X.A.units + 1 < cLine) (ho : PE X o to) (he : PE X e tk) (hf : PE X f tx) (m : M2 X o "setdefault" apos e f cpos) : PE X (.Call (.Attribute o "setdefault" apos) [e, f] [] cpos) (tDSetdT to tk tx) := ⟨fun pins s σ H Q I h => by
  refine wpAny_Call_method m.base m.few m.line PySem.F.plainAttrs_dict F.slot_dict_setdefault F.type_dict_setdefault (thn (ho.run pins s σ H _ I h) fun u1 s1 hu1 => ?_)
  obtain ⟨v1, H1, I1, r1, a, rfl, d, q1⟩ := hu1
  obtain rfl : u1 = Value.ref a := r1
  refine ⟨(isD_at I1 d).1, (isD_at I1 d).2.1, ?_⟩
  rw [m.trees]
  refine Calls.callWith_builtin rfl (Calls.evalArgs_plain (Calls.spliced_cons (thn (he.run pins s1 σ H1 _ I1 q1) fun u2 s2 hu2 => ?_)))
  obtain ⟨v2, H2, I2, r2, q2⟩ := hu2
  refine Calls.spliced_cons (thn (hf.run pins s2 σ H2 _ I2 q2) fun u3 s3 hu3 => Calls.spliced_nil ?_)
  obtain ⟨v3, H3, I3, r3, kvs, k, b, at_, rfl, key, few, q3, q4⟩ := hu3
  obtain rfl : u2 = Value.ref b := r2
  exact dT_setd room I3 at_ key r3 few (fun x hx w4 s4 I4 r4 => ⟨x, H3, I4, r4, q3 x hx⟩) fun hx w4 s4 I4 r4 => ⟨v3, _, I4, r4, q4 hx⟩⟩
end
/-- what setdefault leaves -/
def setdK (kvs : List (List Key × V)) (k : List Key) (v : V) : List (List Key × V) := if (valV kvs k).isSome = true then kvs else putK kvs k v
/-- o.setdefault(k, x), the answer dropped -/
def tDSetdU (to tk tx : TE) : TE := fun σ H Q => to σ H fun o H1 => ∃ a, o = .ref a ∧ IsD H1 a ∧ tk σ H1 fun y H2 => tx σ H2 fun z H3 => ∃ (kvs : List (List Key × V)) (k : List Key) (b : Addr), H3 a = some (.dT kvs) ∧ y = .ref b ∧ H3 b = some (.tup (k.map kV)) ∧ kvs.length < sizeLine ∧
  ∀ x, Q x (upd H3 a (.dT (setdK kvs k z)))
theorem upd_id {H : Hp} {a : Addr} {o : HO} (h : H a = some o) : upd H a o = H := by
  funext b
  by_cases e : b = a
  · rw [e, upd_same, h]
  · rw [upd_ne e]
section
variable {X : Cx} {o e f : Expr} {to tk tx : TE} {apos cpos : Pos}
theorem pe_dsetdU (room : X.A.units + 1 < cLine) (ho : PE X o to) (he : PE X e tk) (hf : PE X f tx) (m : M2 X o "setdefault" apos e f cpos) : PE X (.Call (.Attribute o "setdefault" apos) [e, f] [] cpos) (tDSetdU to tk tx) := ⟨fun pins s σ H Q I h => by
  refine wpAny_Call_method m.base m.few m.line PySem.F.plainAttrs_dict F.slot_dict_setdefault F.type_dict_setdefault (thn (ho.run pins s σ H _ I h) fun u1 s1 hu1 => ?_)
  obtain ⟨v1, H1, I1, r1, a, rfl, d, q1⟩ := hu1
  obtain rfl : u1 = Value.ref a := r1
  refine ⟨(isD_at I1 d).1, (isD_at I1 d).2.1, ?_⟩
  rw [m.trees]
  refine Calls.callWith_builtin rfl (Calls.evalArgs_plain (Calls.spliced_cons (thn (he.run pins s1 σ H1 _ I1 q1) fun u2 s2 hu2 => ?_)))
  obtain ⟨v2, H2, I2, r2, q2⟩ := hu2
  refine Calls.spliced_cons (thn (hf.run pins s2 σ H2 _ I2 q2) fun u3 s3 hu3 => Calls.spliced_nil ?_)
  obtain ⟨v3, H3, I3, r3, kvs, k, b, at_, rfl, key, few, q3⟩ := hu3
  obtain rfl : u2 = Value.ref b := r2
  refine dT_setd room I3 at_ key r3 few (fun x hx w4 s4 I4 r4 => ⟨x, H3, I4, r4, ?_⟩) fun hx w4 s4 I4 r4 => ⟨v3, _, I4, r4, ?_⟩
  · have z := q3 x
    unfold setdK at z
    rw [hx, if_pos (show (some x).isSome = true from rfl), upd_id at_] at z
    exact z
  · have z := q3 v3
    unfold setdK at z
    rw [hx, if_neg (by simp)] at z
    exact z⟩
end
/-! ### the pairs of a locked dict -/
/-- each a new tuple: the key's own tuple, the value -/
def ItiT (d : Addr) (o : Obj) (kvs : List (List Key × V)) : It :=
  ⟨fun i H => H d = some (.frz o (.dT kvs)) ∧ i < kvs.length, fun i H x H' => ∃ T q k v, kvs[i]? = some (k, v) ∧ H q = some (.tup (k.map kV)) ∧ x = .ref T ∧ H T = none ∧ H' = upd H T (.tup [.ref q, v]), fun i H => H d = some (.frz o (.dT kvs)) ∧ kvs.length ≤ i⟩
section
variable {X : Cx} {pins : List (Addr × Obj)} {σ : St} {H : Hp} {s : Shared} {d : Addr} {o : Obj}
theorem Inv.frzTP {kvs : List (List Key × V)} (I : Inv X pins σ H s) (h : H d = some (.frz o (.dT kvs))) :
    (d == sysModules) = false ∧ s.heap.get? d = some o ∧ o.ExactDict ∧ ∃ (es : Array DictEntry) (ep : Nat), o.data = .dict es ep ∧ es.size = kvs.length ∧
      ∀ (i : Nat) (k : List Key) (v : V), kvs[i]? = some (k, v) → ∃ (en : DictEntry) (q : Addr), es[i]? = some en ∧ en.key = .ref q ∧ H q = some (.tup (k.map kV)) ∧ RelV v en.val := by
  obtain ⟨look, few, big, rows, pr, o2, es, ep, look2, exact_, dat, ents, _⟩ := I.hok d _ h
  obtain rfl : o2 = o := by
    rw [look] at look2
    exact (Option.some.inj look2).symm
  refine ⟨big, look, exact_, es, ep, dat, ?_, fun i k v e => ?_⟩
  · have := size_of_entries ents
    have := Paired.length pr
    omega
  · obtain ⟨row, hrow, _, e2, e3⟩ := paired_get pr e
    have q := entry_at ents i
    rw [hrow] at q
    exact ⟨_, row.2.1, q, rfl, e2, e3⟩
end
section
variable {P : Program} {w : World} {K : PySem.W.Frag} {d : Addr} {o : Obj} {es : Array DictEntry} {ep : Nat} {elts : List Expr} {kk : Nat} {tpos : Pos}
theorem turn_itemsT {kvs : List (List Key × V)} (it : Addr) (dat : o.data = .dict es ep) :
    Turn P w K (.Tuple elts kk tpos) (ItiT d o kvs) [it] it (fun i h => ∃ ok ov, IsItemIter h it d i kvs.length ep ok ov) where
  mem := List.mem_singleton.mpr rfl
  obj := fun i h st b hb => by
    obtain rfl := List.mem_singleton.mp hb
    obtain ⟨ok, ov, e⟩ := st
    exact ⟨_, e, fun v z => nomatch z⟩
  keep := fun i h h' st keep => by
    obtain ⟨ok, ov, e⟩ := st
    exact ⟨ok, ov, keep it (List.mem_singleton.mpr rfl) _ e⟩
  item := by
    intro X hP hw hK hc i pins s σ H E I free st hg
    subst hP hw hK
    obtain ⟨at_, few⟩ := hg
    obtain ⟨big, look, exact_, es2, ep2, dat2, size, ents⟩ := I.frzTP at_
    obtain ⟨rfl, rfl⟩ := dict_ep dat dat2
    obtain ⟨⟨k, v⟩, hkv⟩ : ∃ p, kvs[i]? = some p := ⟨kvs[i], List.getElem?_eq_getElem few⟩
    obtain ⟨en, q, hen, ekey, hq, rv⟩ := ents i k v hkv
    have hil : i < es2.size := by omega
    have een : es2[i] = en := by
      rw [Array.getElem?_eq_getElem hil] at hen
      exact Option.some.inj hen
    obtain ⟨ok, ov, he⟩ := st
    rw [← size] at he
    have under : it < s.heap.objs.size := Heap.lt_size he
    refine wpAny_pyNext_items_item_raw he ⟨o, look, exact_, dat2⟩ hil fun h2 ho hT hz hk => ?_
    refine ⟨_, rfl, wpAny_letOwnedTupleGo_items (s := { s with heap := h2 }) ho fun h3 he3 sb => ?_⟩
    rw [een] at hT
    have hT3 : h3.get? s.heap.objs.size = some { cls := .type "tuple", data := .seq #[en.key, en.val] } := (sb.2 _ (Nat.ne_of_gt under)).trans hT
    have new : ObjOk X.prog X.w (upd H s.heap.objs.size (.tup [.ref q, v])) h3 s.heap.objs.size (.tup [.ref q, v]) :=
      ⟨by show 2 ≤ sizeLine; decide, [en.key, en.val], .cons ekey (.cons rv .nil), ⟨_, hT3, rfl, _, rfl⟩⟩
    have I1 : Inv X pins σ (upd H s.heap.objs.size (.tup [.ref q, v])) { s with heap := h3 } :=
      I.turnedNew (t' := s.toks) (ch := [it]) (fun c ob hb e => (sb.2 c (fun z => hb (List.mem_singleton.mpr z))).trans (hk c ob (fun z => hb (List.mem_singleton.mpr z)) e)) free (Nat.le_refl _) new
    refine ⟨.ref s.heap.objs.size, _, I1, rfl, ⟨_, q, k, v, hkv, hq, rfl, I.hok.fresh (Nat.le_refl _), rfl⟩, ⟨es2[i].key, es2[i].val, ?_⟩, fun c hc => ?_⟩
    · rw [← size]
      exact he3
    · obtain rfl := List.mem_singleton.mp hc
      rw [upd_ne (Nat.ne_of_lt under)]
      exact (free c (List.mem_singleton.mpr rfl)).1
  done := by
    intro X hP hw hK hc i pins s σ H E I free st hg
    subst hP hw hK
    obtain ⟨at_, few⟩ := hg
    obtain ⟨f0, f1, f2, f3, f4, f5⟩ := free it (List.mem_singleton.mpr rfl)
    obtain ⟨big, look, exact_, es2, ep2, dat2, size, ents⟩ := I.frzTP at_
    obtain ⟨rfl, rfl⟩ := dict_ep dat dat2
    obtain ⟨ok, ov, he⟩ := st
    rw [← size] at he
    exact wpAny_pyNext_items_end_raw (I.ok.hd hc) he ⟨o, look, exact_, dat2⟩ (by omega) fun h2 eb => ⟨rfl, I.turned (t' := s.toks) (fun c ob hb e => eb c ob hb e) f0 f1 f3 f4 f5⟩
  self := fun A i s Q E st h => by
    obtain ⟨_, _, e⟩ := st
    exact PySem.W.kcp_self e h
end
/-- d.items(), d of tuple keys, locked from there on; locked already -/
def iItemsT (td : TE) : TI := fun σ H R => td σ H fun x H1 => ∃ d kvs, x = .ref d ∧ H1 d = some (.dT kvs) ∧ ∀ od, R (ItiT d od kvs) (upd H1 d (.frz od (.dT kvs)))
def iKeysL (td : TE) : TI := fun σ H R => td σ H fun x H1 => ∃ d kvs, x = .ref d ∧ H1 d = some (.dT kvs) ∧ ∀ od, R (Itkt d od kvs) (upd H1 d (.frz od (.dT kvs)))
section
variable {X : Cx} {tg e : Expr} {td : TE} {apos cpos : Pos}
theorem pi_itemsT {elts : List Expr} {kk : Nat} {tpos : Pos} (he : PE X e td) (hbase : attributeBase e "items" X.env (eval e X.env) = eval e X.env := by rfl) (hline : (apos.endLine == cpos.line) = true := by rfl) :
    PI X (.Tuple elts kk tpos) (.Call (.Attribute e "items" apos) [] [] cpos) (iItemsT td) := ⟨fun pins s σ H R I h => by
  refine wpAny_Call_method (T := "dict") (id := "dict.items") hbase rfl hline F.plainAttrs_dict F.slot_dict_items F.type_dict_items (thn (he.run pins s σ H _ I h) fun u s1 hu => ?_)
  obtain ⟨x, H0, I0, rx, d, kvs, rfl, at0, q0⟩ := hu
  obtain rfl : u = Value.ref d := rx
  obtain ⟨od, I1⟩ := I0.lock at0 (by exact True.intro)
  have q := q0 od
  have at1 : upd H0 d (.frz od (.dT kvs)) d = some (.frz od (.dT kvs)) := upd_same
  obtain ⟨big, look, exact_, es, ep, dat, size, ents⟩ := I1.frzTP at1
  have raw : s1.heap.DictRaw d es ep := ⟨od, look, exact_, dat⟩
  refine ⟨raw.typeIs, fun c hc => ?_, ?_⟩
  · cases hc
    exact ⟨od, look, exact_.2.1⟩
  have I2 : Inv X pins σ (upd H0 d (.frz od (.dT kvs))) { s1 with heap := s1.heap.push { cls := .type "dict_items", data := .fields #[.ref d] } } := I1.kept (t' := s1.toks) fun c ob z => Heap.get?_push_of_some _ z
  have fin : wpAny (model X.prog X.w) X.A (pyIter (.ref s1.heap.objs.size)) (PIE X pins σ (.Tuple elts kk tpos) R) X.xe { s1 with heap := s1.heap.push { cls := .type "dict_items", data := .fields #[.ref d] } } := by
    refine wpAny_pyIter_items_raw (d := d) (es := es) (ep := ep) ⟨_, Heap.get?_push_size _ rfl, rfl, rfl⟩ (raw.at fun c z => Heap.get?_push_of_some _ z) (pi_one (tk := s1.toks) I2 _ (turn_itemsT _ dat) ⟨.none, .none, ?_⟩ q)
    rw [← size]
    exact Heap.get?_push_size _ rfl
  show wpAny _ _ (callWith cpos (.builtin "dict.items") [.ref d] [] []) _ X.xe s1
  exact method_meetsIn F.slot_dict_items F.entry_dict_items rfl (PySem.evalArgs_none ⟨rfl, raw.typeIs, F.args_dict_items_1 _, _, meets_dict_items_raw d big, ⟨es, ep, raw⟩, fin⟩)⟩
theorem pi_keysL (he : PE X e td) : PI X tg e (iKeysL td) := ⟨fun pins s σ H R I h => by
  refine thn (he.run pins s σ H _ I h) fun u s1 hu => ?_
  obtain ⟨x, H0, I0, rx, d, kvs, rfl, at0, q0⟩ := hu
  obtain rfl : u = Value.ref d := rx
  obtain ⟨od, I1⟩ := I0.lock at0 (by exact True.intro)
  obtain ⟨big, look, exact_, es, ep, dat, size, ents⟩ := I1.frzT (d := d) (o := od) (kvs := kvs) upd_same
  refine iter_keys big look exact_ dat (pi_one (tk := s1.toks) I1 _ (turn_keysT _ dat) ⟨_, Heap.get?_push_size _ rfl, rfl, ?_⟩ (q0 od))
  rw [size] <;> rfl⟩
end
end L2
namespace Z
open PySem L2
open Rep (rep)
section
variable {K : Fg} {d : Addr} {o : Obj} {β : Type} {r : V → β → Prop} {kvs : List (List Key × V)} {m : List (Tup Int × β)}
theorem AD.both {κ γ : Type} {e : κ → γ} : ∀ {kvs : List (γ × V)} {m : List (κ × β)}, AD e r kvs m → ∀ {i : Nat} {k : γ} {v : V}, kvs[i]? = some (k, v) → ∃ p, m[i]? = some p ∧ k = e p.1 ∧ r v p.2
  | _, _, .nil, i, k, v, h => by simp at h
  | _, _, .cons (k := j) (v := u) (x := x) a t, 0, k, v, h => by
    simp at h
    obtain ⟨rfl, rfl⟩ := h
    exact ⟨(j, x), rfl, rfl, a⟩
  | _, _, .cons a t, i + 1, k, v, h => by
    obtain ⟨p, h1, h2⟩ := AD.both t (i := i) (k := k) (v := v) (by simpa using h)
    exact ⟨p, by simpa using h1, h2⟩
theorem kT_ints (t : Tup Int) : (kT t).map kV = t.l.map V.int := by
  unfold kT
  rw [List.map_map]
  rfl
/-- the pairs: a new tuple of the key's own tuple and the value -/
theorem tw_itemsT (h : AD kT r kvs m) : TW (ItiT d o kvs) m (fun H => H d = some (.frz o (.dT kvs))) (fun b H x H' => ∃ T q v, x = .ref T ∧ H T = none ∧ H q = some (.tup (b.1.l.map V.int)) ∧ H' = upd H T (.tup [.ref q, v]) ∧ r v b.2) := ⟨by
  rw [← h.length]
  refine ⟨fun _ _ hi q => ⟨q, hi⟩, fun _ q => ⟨q, Nat.le_refl _⟩, fun i H x H' _ _ y => ?_⟩
  obtain ⟨T, q, k, v, hk, hq, e1, e2, e3⟩ := y
  obtain ⟨p, h1, h2, h3⟩ := h.both hk
  rw [h2, kT_ints] at hq
  exact ⟨p, h1, T, q, v, e1, e2, hq, e3, h3⟩⟩
theorem tw_keysT (h : AD kT r kvs m) : TW (Itkt d o kvs) (m.map (·.1)) (fun H => H d = some (.frz o (.dT kvs))) (fun b H x H' => H' = H ∧ ∃ q, x = .ref q ∧ H q = some (.tup (b.l.map V.int))) := ⟨by
  rw [List.length_map, ← h.length]
  refine ⟨fun _ _ hi q => ⟨q, hi⟩, fun _ q => ⟨q, Nat.le_refl _⟩, fun i H x H' _ _ y => ?_⟩
  obtain ⟨e, k, v, q, hk, e1, hq⟩ := y
  obtain ⟨p, h1, h2, h3⟩ := h.both hk
  rw [h2, kT_ints] at hq
  exact ⟨p.1, by rw [List.getElem?_map, h1]; rfl, e, q, e1, hq⟩⟩
end
section
variable {κ β : Type} [DecidableEq κ]
def msetd (m : List (κ × β)) (k : κ) (v : β) : List (κ × β) := if mhas m k = true then m else mput m k v
def msetdR (m : List (κ × β)) (k : κ) (v : β) : R (List (κ × β)) := if m.length < 100000 then .ok (msetd m k v) else .bad
theorem pn_msetd {δ : Type} {m : List (κ × β)} {k : κ} {v : β} {f : List (κ × β) → R δ} {P : δ → Prop} {E : Exn → Prop} (h : Post (msetdR m k v >>= f) P E) : ∃ m', m.length < sizeLine ∧ m' = msetd m k v ∧ Post (f m') P E := by
  unfold msetdR at h
  by_cases hl : m.length < 100000
  · rw [if_pos hl] at h
    exact ⟨_, by rw [sizeLine_eq]; omega, rfl, h⟩
  · rw [if_neg hl] at h
    exact (show False from h).elim
theorem po_msetd {δ : Type} {m : List (κ × β)} {k : κ} {v : β} {f : List (κ × β) → R δ} {S : δ → Prop} {X : Exn → Prop} (h : m.length < 100000) (hk : Post (f (msetd m k v)) S X) : Post (msetdR m k v >>= f) S X := by
  unfold msetdR
  rw [if_pos h]
  exact hk
end
theorem AD.setd {β : Type} {r : V → β → Prop} {kvs : List (List Key × V)} {m : List (Tup Int × β)} {k : Tup Int} {v : V} {x : β} (h : AD kT r kvs m) (hv : r v x) : AD kT r (setdK kvs (kT k) v) (msetd m k x) := by
  unfold setdK msetd
  rw [h.no kT_inj]
  split
  · exact h
  · exact h.put kT_inj hv
theorem W.reho {F H : Hp} {pre post : List (Addr × HO)} {a : Addr} {o o' : HO} (w : W F H (pre ++ (a, o) :: post)) (e : o = o') : W F H (pre ++ (a, o') :: post) := e ▸ w
end Z
/-! ZH: trees that may be nothing (To), what a search for fewest looks tells (Fw) -/
namespace Z
open PySem L2 PySem.Spec PyProof.Rows
open Rep (rep)
inductive To where
  | no
  | n (a b : Thing) (ts : List To)
mutual
def toRep (K : Fg) (H : Hp) : To → V → Prop
  | .no, v => v = .non
  | .n a b ts, v => ∃ p u w q vs, v = .ref p ∧ H p = some (.tup [u, w, .ref q]) ∧ rep K H u a ∧ rep K H w b ∧ H q = some (.tup vs) ∧ tosRep K H ts vs
def tosRep (K : Fg) (H : Hp) : List To → List V → Prop
  | [], vs => vs = []
  | t :: ts, vs => ∃ v us, vs = v :: us ∧ toRep K H t v ∧ tosRep K H ts us
end
mutual
theorem toRep_mono {K : Fg} {H H' : Hp} (s : Same H H') : ∀ (t : To) (v : V), toRep K H t v → toRep K H' t v
  | .no, v, h => by
    rw [toRep] at h ⊢
    exact h
  | .n a b ts, v, h => by
    rw [toRep] at h ⊢
    obtain ⟨p, u, w, q, vs, e, h1, h2, h3, h4, h5⟩ := h
    exact ⟨p, u, w, q, vs, e, s _ _ h1, Rep.mono s h2, Rep.mono s h3, s _ _ h4, tosRep_mono s ts vs h5⟩
theorem tosRep_mono {K : Fg} {H H' : Hp} (s : Same H H') : ∀ (ts : List To) (vs : List V), tosRep K H ts vs → tosRep K H' ts vs
  | [], vs, h => by
    rw [tosRep] at h ⊢
    exact h
  | t :: ts, vs, h => by
    rw [tosRep] at h ⊢
    obtain ⟨v, us, e, h1, h2⟩ := h
    exact ⟨v, us, e, toRep_mono s t v h1, tosRep_mono s ts us h2⟩
end
instance repTo : Rep To := ⟨fun K H v t => toRep K H t v, fun {_ _ _ v t} s h => toRep_mono s t v h⟩
theorem tos_a2 {K : Fg} {H : Hp} : ∀ (ts : List To) (vs : List V), tosRep K H ts vs ↔ A2 (rep K H) vs ts
  | [], vs => by
    rw [tosRep]
    exact ⟨fun e => by rw [e]; exact .nil, fun h => by cases h; rfl⟩
  | t :: ts, vs => by
    rw [tosRep]
    constructor
    · rintro ⟨v, us, rfl, h1, h2⟩
      exact .cons h1 ((tos_a2 ts us).mp h2)
    · intro h
      cases h with
      | cons h1 h2 => exact ⟨_, _, rfl, h1, (tos_a2 ts _).mpr h2⟩
theorem rep_toN {K : Fg} {H : Hp} {p q : Addr} {u w : V} {vs : List V} {a b : Thing} {ts : List To} (h1 : H p = some (.tup [u, w, .ref q])) (h2 : rep K H u a) (h3 : rep K H w b) (h4 : H q = some (.tup vs)) (h5 : A2 (rep K H) vs ts) : rep K H (.ref p) (To.n a b ts) := by
  show toRep K H (.n a b ts) _
  rw [toRep]
  exact ⟨p, u, w, q, vs, rfl, h1, h2, h3, h4, (tos_a2 ts vs).mpr h5⟩
theorem rep_toZ {K : Fg} {H : Hp} : rep K H .non To.no := by
  show toRep K H .no _
  rw [toRep]
/-- a tree all of whose parts are trees -/
def toTr : To → Option Tr
  | .no => none
  | .n a b ts => (toTrs ts).map (.n a b)
where toTrs : List To → Option (List Tr)
  | [] => some []
  | t :: ts => match toTr t, toTrs ts with
    | some x, some xs => some (x :: xs)
    | _, _ => none
/-- what may be a tree: nothing, or such a one -/
def asTr : To → R (Option Tr)
  | .no => .ok none
  | t => match toTr t with
    | some x => .ok (some x)
    | none => .bad
mutual
theorem toTr_rep {K : Fg} {H : Hp} : ∀ (t : To) (x : Tr) (v : V), toTr t = some x → toRep K H t v → trRep K H x v
  | .no, x, v, e, h => by rw [toTr] at e; cases e
  | .n a b ts, x, v, e, h => by
    rw [toTr] at e
    cases e2 : toTr.toTrs ts with
    | none => rw [e2] at e; cases e
    | some xs =>
      rw [e2] at e
      cases e
      rw [toRep] at h
      obtain ⟨p, u, w, q, vs, e, h1, h2, h3, h4, h5⟩ := h
      rw [trRep]
      exact ⟨p, u, w, q, vs, e, h1, h2, h3, h4, toTrs_rep ts xs vs e2 h5⟩
theorem toTrs_rep {K : Fg} {H : Hp} : ∀ (ts : List To) (xs : List Tr) (vs : List V), toTr.toTrs ts = some xs → tosRep K H ts vs → trsRep K H xs vs
  | [], xs, vs, e, h => by
    rw [toTr.toTrs] at e
    cases e
    rw [tosRep] at h
    rw [trsRep]
    exact h
  | t :: ts, xs, vs, e, h => by
    rw [toTr.toTrs] at e
    cases e1 : toTr t with
    | none => rw [e1] at e; cases e
    | some y =>
      cases e2 : toTr.toTrs ts with
      | none => rw [e1, e2] at e; cases e
      | some ys =>
        rw [e1, e2] at e
        cases e
        rw [tosRep] at h
        obtain ⟨v, us, e, h1, h2⟩ := h
        rw [trsRep]
        exact ⟨v, us, e, toTr_rep t y v e1 h1, toTrs_rep ts ys us e2 h2⟩
end
theorem pb_asTr {K : Fg} {H : Hp} {v : V} {t : To} {δ : Type} {f : Option Tr → R δ} {P : δ → Prop} {E : Exn → Prop} (r : rep K H v t) (h : Post (asTr t >>= f) P E) : ∃ x : Option Tr, asTr t = R.ok x ∧ rep K H v x ∧ Post (f x) P E := by
  cases t with
  | no =>
    have r' : toRep K H .no v := r
    rw [toRep] at r'
    exact ⟨none, rfl, by rw [r']; exact rep_none, h⟩
  | n a b ts =>
    have e : asTr (.n a b ts) = match toTr (.n a b ts) with
      | some x => .ok (some x)
      | none => .bad := rfl
    rw [e] at h ⊢
    cases e2 : toTr (.n a b ts) with
    | none =>
      rw [e2] at h
      exact (show False from h).elim
    | some x =>
      rw [e2] at h
      exact ⟨some x, rfl, rep_some (toTr_rep _ x v e2 r), h⟩
/-! ### what fewest_looks tells -/
inductive Fw where
  | never (a b : Thing)
  | looks (l : List Int) (t : Option Tr)
def Fw.w : Fw → Str
  | .never _ _ => ("never" : Str)
  | .looks _ _ => ("looks" : Str)
instance repFw : Rep Fw := ⟨fun K H v x => ∃ p u w, v = .ref p ∧ H p = some (.tup [.str x.w, u, w]) ∧ match x with
  | .never a b => rep K H u a ∧ rep K H w b
  | .looks l t => rep K H u l ∧ rep K H w t, fun {_ _ _ v x} s ⟨p, u, w, e, q, h⟩ => ⟨p, u, w, e, s _ _ q, by
    cases x with
    | never a b => exact ⟨Rep.mono s h.1, Rep.mono s h.2⟩
    | looks l t => exact ⟨Rep.mono s h.1, Rep.mono s h.2⟩⟩⟩
def asLk : Fw → R (List Int × Option Tr)
  | .looks l t => .ok (l, t)
  | .never _ _ => .bad
def asNv : Fw → R (Thing × Thing)
  | .never a b => .ok (a, b)
  | .looks _ _ => .bad
section
variable {K : Fg} {H : Hp} {v : V} {x : Fw} {δ : Type} {P : δ → Prop} {E : Exn → Prop}
theorem fw_open (h : rep K H v x) : ∃ p u w, v = .ref p ∧ H p = some (.tup [.str x.w, u, w]) := by
  obtain ⟨p, u, w, e, q, _⟩ := h
  exact ⟨p, u, w, e, q⟩
theorem rep_nv {p : Addr} {u w : V} {a b : Thing} (q : H p = some (.tup [.str "never", u, w])) (h1 : rep K H u a) (h2 : rep K H w b) : rep K H (.ref p) (Fw.never a b) := ⟨p, u, w, rfl, q, h1, h2⟩
theorem rep_lk {p : Addr} {u w : V} {l : List Int} {t : Option Tr} (q : H p = some (.tup [.str "looks", u, w])) (h1 : rep K H u l) (h2 : rep K H w t) : rep K H (.ref p) (Fw.looks l t) := ⟨p, u, w, rfl, q, h1, h2⟩
theorem pb_lk {f : List Int × Option Tr → R δ} {p : Addr} {u w : V} (q : H p = some (.tup [.str x.w, u, w])) (r : rep K H (.ref p) x) (h : Post (asLk x >>= f) P E) : ∃ t, asLk x = R.ok t ∧ x.w = ("looks" : Str) ∧ rep K H u t.1 ∧ rep K H w t.2 ∧ Post (f t) P E := by
  obtain ⟨p', u', w', e, q', h2⟩ := r
  cases e
  rw [q] at q'
  cases q'
  cases x with
  | never a b => exact (show False from h).elim
  | looks l t => exact ⟨(l, t), rfl, rfl, h2.1, h2.2, h⟩
theorem pb_nv {f : Thing × Thing → R δ} {p : Addr} {u w : V} (q : H p = some (.tup [.str x.w, u, w])) (r : rep K H (.ref p) x) (h : Post (asNv x >>= f) P E) : ∃ t, asNv x = R.ok t ∧ x.w = ("never" : Str) ∧ rep K H u t.1 ∧ rep K H w t.2 ∧ Post (f t) P E := by
  obtain ⟨p', u', w', e, q', h2⟩ := r
  cases e
  rw [q] at q'
  cases q'
  cases x with
  | never a b => exact ⟨(a, b), rfl, rfl, h2.1, h2.2, h⟩
  | looks l t => exact (show False from h).elim
end
/-- the word looks -/
inductive Lk where
  | mk
  deriving DecidableEq
instance repLk : Rep Lk := ⟨fun _ _ v _ => v = .str "looks", fun _ h => h⟩
theorem lk_w {K : Fg} {H : Hp} {s : Str} (e : s = ("looks" : Str)) : rep K H (.str s) Lk.mk := by
  rw [e]
  exact (rfl : V.str "looks" = V.str "looks")
instance datLk : Dat Lk where
  toD := fun _ => .str "looks"
  dmax := 0
  dp := fun {K H v x} h => by
    have h' : v = V.str "looks" := h
    rw [h']
    exact .str _
  lay := fun _ => by decide +kernel
  dep := fun _ => Nat.le_refl _
  eqv := fun x y => by cases x; cases y; exact ⟨fun _ => rfl, fun _ => by decide +kernel⟩
instance {α : Type} [RepL α] : NonN (Nt α) := ⟨fun {K H v x} h q => by
  obtain ⟨a, vs, e, _⟩ := h
  rw [e] at q
  cases q⟩
instance : NonN Tr := ⟨fun {K H v x} h q => by
  cases x with
  | n a b ts =>
    have h' : trRep K H (.n a b ts) v := h
    rw [trRep] at h'
    obtain ⟨p, u, w, z, vs, e, _⟩ := h'
    rw [e] at q
    cases q⟩
/-! ### nothing -/
instance datUnit : Dat Unit where
  toD := fun _ => .none
  dmax := 0
  dp := fun {K H v x} h => by
    have h' : v = V.non := h
    rw [h']
    exact .non
  lay := fun _ => rfl
  dep := fun _ => Nat.le_refl _
  eqv := fun _ _ => ⟨fun _ => rfl, fun _ => rfl⟩
def noT {α : Type} : Option α → R Unit
  | none => .ok ()
  | some _ => .bad
theorem pb_noT {α : Type} [Rep α] {K : Fg} {H : Hp} {v : V} {o : Option α} {δ : Type} {f : Unit → R δ} {P : δ → Prop} {E : Exn → Prop} (r : rep K H v o) (h : Post (noT o >>= f) P E) : o = none ∧ v = .non ∧ Post (f ()) P E := by
  cases o with
  | none => exact ⟨rfl, r, h⟩
  | some x => exact (show False from h).elim
end Z
/-! ZS: len(set(xs)) where xs holds an int and a tuple: what has different hashes is never compared -/
namespace L2
open PySem PySem.Spec PyProof.Rows
/-- a set that is known by its hashes -/
structure SetH (w : World) (h : Heap) (a : Addr) (hs : List Int) (es : Array (Int × Value)) (ep : Nat) (t : SetTable) : Prop where
  ob : ∃ o, h.get? a = some o ∧ o.ExactSet ∧ o.data = .set es ep t
  rows : es.toList.map (·.1) = hs
  tab : TabOk t hs
  plain : t.plain = true
  m7 : t.mask = 7
  few : hs.length ≤ 3
  sees : t.fill = hs.length
section
variable {P : Program} {w : World} {A : Around} {E : Value → Shared → Prop} {s : Shared}
variable {a : Addr} {hs : List Int} {es : Array (Int × Value)} {ep : Nat} {t : SetTable}
theorem SetH.size (R : SetH w s.heap a hs es ep t) : es.size = hs.length := by
  rw [← R.rows, List.length_map, Array.length_toList]
theorem SetH.fits (R : SetH w s.heap a hs es ep t) : t.fits es.size = true := by
  have h1 := R.tab.sz
  have h2 := R.size
  have h3 := R.few
  have h4 := R.sees
  have h5 := R.m7
  unfold SetTable.fits
  rw [Bool.and_eq_true]
  refine ⟨by rw [h1, h2]; exact beq_self_eq_true _, decide_eq_true ?_⟩
  rw [h4, h5]
  omega
theorem SetH.hashAt (R : SetH w s.heap a hs es ep t) {i : Nat} (hi : i < hs.length) : (es[i]?.map (·.1)).getD 0 ∈ hs := by
  have hz := R.size
  have e : es[i]? = some es[i] := Array.getElem?_eq_getElem (by omega)
  have q : es[i].1 ∈ es.toList.map (·.1) := List.mem_map.mpr ⟨es[i], by rw [Array.mem_toList_iff]; exact Array.getElem_mem _, rfl⟩
  rw [R.rows] at q
  rw [e]
  exact q
theorem probe_new (T : TabOk t hs) (h7 : hs.length ≤ t.mask) (hashAt : Nat → Int) {h : Int} (hn : ∀ i, i < hs.length → hashAt i ≠ h) : ∃ K, way t.mask h K ∉ t.place.toList ∧ (∀ k, k < K → way t.mask h k ∈ t.place.toList) ∧ t.probe hashAt h (t.probeStart h) = some (.empty (way t.mask h K) none) := by
  obtain ⟨K, hKf, hK, hKb⟩ := T.first h7 h
  refine ⟨K, hK, hKb, ?_⟩
  rcases go_spec t T.ris T.dm hashAt h (10 * SetTable.turns t.mask) K (runAt t.mask (SetTable.bits h % (t.mask + 1)) (SetTable.bits h)) rfl hKf hKb hK with ⟨q, i, _, hi, hh, _⟩ | ⟨_, hpr⟩
  · exfalso
    have h1 : i < t.place.toList.length := (List.getElem?_eq_some_iff.mp hi).1
    have h2 := T.sz
    rw [Array.length_toList] at h1
    exact hn i (by omega) hh
  · exact hpr
theorem search_new (R : SetH w s.heap a hs es ep t) {x : Value} {h : Int} (hn : h ∉ hs) {Q : SetFound → Shared → Prop}
    (hq : ∀ K, way t.mask h K ∉ t.place.toList → (∀ k, k < K → way t.mask h k ∈ t.place.toList) → Q (.free (way t.mask h K) false) s) : wpAny (model P w) A (setSearch a x h true) Q E s := by
  obtain ⟨o, ho, hex, hd⟩ := R.ob
  have h7 := R.m7
  have hf := R.few
  obtain ⟨K, k1, k2, k3⟩ := probe_new R.tab (by omega) (fun i => (es[i]?.map (·.1)).getD 0) (h := h) fun i hi e => hn (by rw [← e]; exact R.hashAt hi)
  unfold setSearch
  rw [show (100000 : Nat) = 99999 + 1 from rfl, setSearchFrom_succ]
  refine wpAny_bind (wpAny_setState_of ho hd R.fits ?_)
  dsimp only
  refine wp_if_neg (by unfold SetTable.gaveWay; rw [h7]; decide) ?_
  try refine wpAny_bind (wpAny_pure ?_)
  have k4 : t.probe (fun i => (es[i]?.map (·.1)).getD 0) h ((none : Option SetTable.Probe).getD (t.probeStart h)) = some (.empty (way t.mask h K) none) := k3
  rw [k4]
  dsimp only
  exact wpAny_pure (hq K k1 k2)
theorem insertH {x : Value} {h : Int} {p : Nat} (hp : p ≤ es.size) : (SetTable.insertAt es p (h, x)).toList = es.toList.take p ++ (h, x) :: es.toList.drop p := SetTable.toList_insertAt _ _ _
/-- one put in that is not there -/
theorem put_new (R : SetH w s.heap a hs es ep t) {x : Value} {h : Int} {K : Nat} (h2 : hs.length ≤ 2) (hK : way t.mask h K ∉ t.place.toList) (hb : ∀ k, k < K → way t.mask h k ∈ t.place.toList) :
    (t.put (way t.mask h K)).1.tooFull = false ∧ (SetTable.insertAt es (t.put (way t.mask h K)).2 (h, x)).size = hs.length + 1 ∧ ((SetTable.insertAt es (t.put (way t.mask h K)).2 (h, x)).toList.Perm ((h, x) :: es.toList)) ∧ (t.put (way t.mask h K)).1.plain = true ∧
    ∀ h' : Heap, (∃ o ep', h'.get? a = some o ∧ o.ExactSet ∧ o.data = .set (SetTable.insertAt es (t.put (way t.mask h K)).2 (h, x)) ep' (t.put (way t.mask h K)).1) → ∃ ep' hs', hs'.Perm (h :: hs) ∧ SetH w h' a hs' (SetTable.insertAt es (t.put (way t.mask h K)).2 (h, x)) ep' (t.put (way t.mask h K)).1 := by
  obtain ⟨q1, q2, q3, q4, q5, q6, q7, q8, q9⟩ := R.tab.put hK hb
  have hz := R.size
  have h7 := R.m7
  generalize hpt : t.put (way t.mask h K) = pt at q1 q3 q4 q5 q6 q7 q8 q9 ⊢
  obtain ⟨t1, p⟩ := pt
  dsimp only at q1 q3 q4 q5 q6 q7 q8 q9 ⊢
  rw [← q1] at q2 q3
  have hin := insertH (es := es) (x := x) (h := h) (p := p) (by omega)
  have pm : (SetTable.insertAt es p (h, x)).toList.Perm ((h, x) :: es.toList) := by
    rw [hin]
    exact put_perm _ _ _
  have hsz : (SetTable.insertAt es p (h, x)).size = hs.length + 1 := by
    have := pm.length_eq
    rw [Array.length_toList, List.length_cons, Array.length_toList] at this
    omega
  refine ⟨?_, hsz, pm, by rw [q6]; exact R.plain, fun h' ⟨o, ep', z1, z2, z3⟩ => ⟨ep', _, put_perm hs p h, ⟨o, z1, z2, z3⟩, ?_, q3, by rw [q6]; exact R.plain, by rw [q4]; exact h7, ?_, ?_⟩⟩
  · unfold SetTable.tooFull
    rw [q9, q4, h7]
    exact decide_eq_false (by omega)
  · rw [hin, List.map_append, List.map_cons, List.map_take, List.map_drop, R.rows]
  · rw [(put_perm hs p h).length_eq, List.length_cons]
    omega
  · rw [q9, (put_perm hs p h).length_eq, List.length_cons]
/-- setAdd's word on a value of a new hash, where the table is searched -/
theorem add_new (R : SetH w s.heap a hs es ep t) {x : Value} {h : Int} (h2 : hs.length ≤ 2) (hn : h ∉ hs) (hsc : byScan x es = false) (hv : ∀ {A : Around} {Q : Bool → Shared → Prop}, Q true s → wpAny (model P w) A (hashByValue 8 x) Q E s) {Q : Bool → Shared → Prop}
    (hQ : ∀ h' hs' es' ep' t', Heap.SameBut a s.heap h' → SetH w h' a hs' es' ep' t' → hs'.Perm (h :: hs) → es'.toList.Perm ((h, x) :: es.toList) → Q true { s with heap := h' }) : wpAny (model P w) A (setAddHashed a x h) Q E s := by
  obtain ⟨o, ho, hex, hd⟩ := R.ob
  unfold setAddHashed
  refine wpAny_holding ?_
  rw [show (100000 : Nat) = 99999 + 1 from rfl, setAddHashedIn_succ]
  refine wpAny_bind (wpAny_setState_of ho hd R.fits ?_)
  dsimp only
  refine wp_if_neg (by rw [hsc]; decide) ?_
  try refine wpAny_bind (wpAny_pure ?_)
  refine wpAny_bind (search_new R hn fun K hK hb => ?_)
  dsimp only
  refine wpAny_bind (wpAny_setState_of ho hd R.fits ?_)
  dsimp only
  obtain ⟨q1, q2, q3, q4, q5⟩ := put_new R (x := x) h2 hK hb
  generalize hpt : t.put (way t.mask h K) = pt at q1 q2 q3 q4 q5 ⊢
  obtain ⟨t1, p⟩ := pt
  dsimp only at q1 q2 q3 q4 q5 ⊢
  first
    | (refine wpAny_bind ?_; refine wp_if_pos q4 ?_; refine hv ?_)
    | refine wp_if_pos q4 (wpAny_bind (hv ?_))
  simp only [if_true]
  refine wpAny_bind (wpAny_storeSet_of ho hd ?_ (by rw [q2, sizeLine_eq]; omega))
  have sb : Heap.SameBut a s.heap (s.heap.update a (Obj.putSet (SetTable.insertAt es p (h, x)) t1)) := Heap.SameBut.update ..
  have ho1 := store_at (es' := SetTable.insertAt es p (h, x)) (t' := t1) ho hd
  obtain ⟨ep', hs', pm, R'⟩ := q5 _ ⟨_, _, ho1, ⟨hex.1, hex.2.1, hex.2.2⟩, rfl⟩
  first
    | refine wp_if_neg (by simp [q1]) ?_
    | (refine wpAny_bind ?_; refine wp_if_neg (by simp [q1]) ?_; refine wpAny_pure ?_)
  exact wpAny_pure (hQ _ hs' _ ep' t1 sb R' pm q3)
/-- the first one, an int -/
theorem add_int1 (R : SetH w s.heap a [] es ep t) {i : Int} {tk : Tok} {h : Int} {Q : Bool → Shared → Prop}
    (hQ : ∀ h' hs' es' ep' t', Heap.SameBut a s.heap h' → SetH w h' a hs' es' ep' t' → hs'.Perm [h] → es'.toList.Perm [(h, .int i tk)] → Q true { s with heap := h' }) : wpAny (model P w) A (setAddHashed a (.int i tk) h) Q E s := by
  obtain ⟨o, ho, hex, hd⟩ := R.ob
  have hz : es.size = 0 := R.size
  have he : es = #[] := Array.eq_empty_of_size_eq_zero hz
  subst he
  unfold setAddHashed
  refine wpAny_holding ?_
  rw [show (100000 : Nat) = 99999 + 1 from rfl, setAddHashedIn_succ]
  refine wpAny_bind (wpAny_setState_of ho hd R.fits ?_)
  dsimp only
  have hsc : byScan (.int i tk) #[] = true := by simp [byScan, Value.scannable, scanBound]
  rw [hsc]
  simp only [if_true]
  unfold setAddByScan
  refine wpAny_bind ?_
  refine wpAny_bind (wpAny_rule ?_)
  have hscan : setScan a (.int i tk) h true #[] = pure .absent := rfl
  rw [hscan]
  refine wpAny_bind (wpAny_pure ?_)
  dsimp only
  have hgw : ∀ (b : Bool) {s₁ : Shared} {Q' : Unit → Shared → Prop}, Q' () s₁ → wpAny (model P w) A (match b with | true => rule "set.scan.the-table-gave-way" | false => pure ()) Q' E s₁ :=
      fun b s₁ Q' hq => by cases b <;> first | exact wpAny_pure hq | exact wpAny_rule hq
  have h7 := R.m7
  obtain ⟨K, k1, k2, k3⟩ := probe_new R.tab (by rw [h7]; decide) (fun _ => h + 1) (h := h) (fun i hi => absurd hi (Nat.not_lt_zero _))
  have hfree : t.freeSlot h = some (way t.mask h K, false) := by
    unfold SetTable.freeSlot
    rw [k3]
    rfl
  obtain ⟨q1, q2, q3, q4, q5⟩ := put_new R (x := .int i tk) (Nat.zero_le _) k1 k2
  generalize hpt : t.put (way t.mask h K) = pt at q1 q2 q3 q4 q5
  obtain ⟨t1, p⟩ := pt
  dsimp only at q1 q2 q3 q4 q5
  obtain ⟨ep0, hs0, pm0, R0⟩ := q5 (s.heap.update a (Obj.putSet (SetTable.insertAt #[] p (h, .int i tk)) t1)) ⟨_, _, store_at (es' := SetTable.insertAt #[] p (h, .int i tk)) (t' := t1) ho hd, ⟨hex.1, hex.2.1, hex.2.2⟩, rfl⟩
  have hfit : t1.fits (SetTable.insertAt #[] p (h, Value.int i tk)).size = true := SetH.fits (s := { s with heap := _ }) R0
  have hlay : layNew t #[] h (.int i tk) = (SetTable.insertAt #[] p (h, .int i tk), t1, false, false) := by
    unfold layNew
    rw [hfree]
    dsimp only
    rw [hpt]
    dsimp only
    rw [hfit]
    unfold SetTable.orStandIn
    rw [if_pos hfit]
    rfl
  rw [hlay]
  dsimp only
  refine wpAny_bind (hgw false ?_)
  first
    | (refine wpAny_bind ?_; refine wp_if_pos q4 ?_; rw [hashBy_int]; refine wpAny_pure ?_)
    | (refine wp_if_pos q4 ?_; rw [hashBy_int]; refine wpAny_bind (wpAny_pure ?_))
  simp only [if_true]
  refine wpAny_bind (wpAny_storeSet_of ho hd ?_ (by rw [q2, sizeLine_eq]; decide))
  have sb : Heap.SameBut a s.heap (s.heap.update a (Obj.putSet (SetTable.insertAt #[] p (h, .int i tk)) t1)) := Heap.SameBut.update ..
  first
    | refine wp_if_neg (by simp [q1]) ?_
    | (refine wpAny_bind ?_; refine wp_if_neg (by simp [q1]) ?_)
  exact wpAny_pure (wpAny_pure (hQ _ hs0 _ ep0 t1 sb R0 pm0 q3))
theorem setH_fresh {h : Heap} {a : Addr} (ho : h.get? a = some { cls := .type "set", dict := none, data := .set #[] 0 (.fresh 0 0 (!w.params.followText "set-order")) }) : SetH w h a [] #[] 0 (.fresh 0 0 (!w.params.followText "set-order")) where
  ob := ⟨_, ho, ⟨rfl, rfl, rfl⟩, rfl⟩
  rows := rfl
  tab := ⟨List.Pairwise.nil, rfl, rfl, .inl rfl, fun x hx => (by cases hx), fun i h j hi => (by simp at hi)⟩
  plain := rfl
  m7 := rfl
  few := Nat.zero_le _
  sees := rfl
theorem SetH.keep {h h' : Heap} (R : SetH w h a hs es ep t) (ha : ∀ o, h.get? a = some o → h'.get? a = some o) : SetH w h' a hs es ep t := by
  obtain ⟨o, ho, r⟩ := R.ob
  exact ⟨⟨o, ha o ho, r⟩, R.rows, R.tab, R.plain, R.m7, R.few, R.sees⟩
/-- an int or a tuple of ints, and its hash -/
def KeyH (P : Program) (w : World) (h : Heap) (p : Value × Int) : Prop := (∃ i t, p.1 = .int i t ∧ p.2 = hashInt i) ∨ (∃ b k, p.1 = .ref b ∧ IsT P w h k b ∧ p.2 = thash P w k)
/-- ints come first, or behind a tuple -/
def MixH (ks : List (Value × Int)) : Prop := ∀ i p, ks[i]? = some p → (∃ b, p.1 = .ref b) ∨ i = 0 ∨ ∃ j q, j < i ∧ ks[j]? = some q ∧ ∃ b, q.1 = .ref b
structure GotH (w : World) (h : Heap) (a : Addr) (ks : List (Value × Int)) (i : Nat) : Prop where
  ex : ∃ hs es ep t, SetH w h a hs es ep t ∧ hs.Perm ((ks.take i).map (·.2)) ∧ es.toList.Perm ((ks.take i).map fun p => (p.2, p.1))
theorem GotH.keep {h h' : Heap} {ks : List (Value × Int)} {i : Nat} (g : GotH w h a ks i) (ha : ∀ o, h.get? a = some o → h'.get? a = some o) : GotH w h' a ks i := by
  obtain ⟨hs, es, ep, t, R, p1, p2⟩ := g.ex
  exact ⟨hs, es, ep, t, R.keep ha, p1, p2⟩
/-- set.add within the loop -/
theorem add_step {ks : List (Value × Int)} {h0 : Heap} (hfew : ks.length ≤ 3) (hnd : (ks.map (·.2)).Nodup) (hmix : MixH ks) (hu : A.units < cLine) {i : Nat} {p : Value × Int} (hp : ks[i]? = some p) (hk : KeyH P w h0 p) (kp : ∀ b o, h0.get? b = some o → s.heap.get? b = some o)
    (g : GotH w s.heap a ks i) {Q : Bool → Shared → Prop} (hQ : ∀ h' tk, s.toks ≤ tk → Heap.SameBut a s.heap h' → GotH w h' a ks (i + 1) → Q true { s with heap := h', toks := tk }) : wpAny (model P w) A (setAdd a p.1) Q E s := by
  obtain ⟨hs, es, ep, t, R, p1, p2⟩ := g.ex
  have hi : i < ks.length := (List.getElem?_eq_some_iff.mp hp).1
  have et : ks.take (i + 1) = ks.take i ++ [p] := take_next hp
  have hl : hs.length = i := by
    have := p1.length_eq
    rw [List.length_map, List.length_take] at this
    omega
  have hn : p.2 ∉ hs := fun z => by
    have z1 := p1.mem_iff.mp z
    have z2 : ks.map (·.2) = (ks.take i).map (·.2) ++ (ks.drop i).map (·.2) := by rw [← List.map_append, List.take_append_drop]
    rw [z2, List.nodup_append] at hnd
    exact hnd.2.2 _ z1 _ (List.mem_map.mpr ⟨p, by rw [List.mem_iff_getElem?]; exact ⟨0, by rw [List.getElem?_drop]; exact hp⟩, rfl⟩) rfl
  have fin : ∀ (hs' : List Int) (es' : Array (Int × Value)), hs'.Perm (p.2 :: hs) → es'.toList.Perm ((p.2, p.1) :: es.toList) → hs'.Perm ((ks.take (i + 1)).map (·.2)) ∧ es'.toList.Perm ((ks.take (i + 1)).map fun p => (p.2, p.1)) := fun hs' es' a1 a2 => by
    rw [et, List.map_append, List.map_append]
    exact ⟨a1.trans ((p1.cons _).trans (List.perm_append_comm (l₁ := [p.2]))), a2.trans ((p2.cons _).trans (List.perm_append_comm (l₁ := [(p.2, p.1)])))⟩
  unfold setAdd
  refine wpAny_holding ?_
  obtain ⟨v, hh⟩ := p
  rcases hk with ⟨n, tk, rfl, e2⟩ | ⟨b, k, rfl, hT, e2⟩
  · have e2' : hh = hashInt n := e2
    subst e2'
    refine wpAny_bind (wpAny_pyHash_int ?_)
    by_cases h0' : i = 0
    · subst h0'
      have : hs = [] := List.length_eq_zero_iff.mp hl
      subst this
      refine add_int1 (s := { s with toks := s.toks + 1 }) R fun h' hs' es' ep' t' sb R' a1 a2 => hQ h' (s.toks + 1) (Nat.le_succ _) sb ⟨hs', es', ep', t', R', ?_⟩
      have e0 : es = #[] := Array.eq_empty_of_size_eq_zero R.size
      subst e0
      exact fin hs' es' a1 a2
    · have hsc : byScan (.int n tk) es = false := by
        rcases hmix i _ hp with ⟨b, z⟩ | z | ⟨j, q, hj, hq, b, eb⟩
        · exact nomatch z
        · exact absurd z h0'
        · have hq2 : (q.2, q.1) ∈ es.toList := p2.mem_iff.mpr (List.mem_map.mpr ⟨q, by rw [List.mem_iff_getElem?]; exact ⟨j, by rw [List.getElem?_take, if_pos hj]; exact hq⟩, rfl⟩)
          unfold byScan
          have : es.all (fun e => e.2.scannable) = false := by
            rw [← Bool.not_eq_true, Array.all_eq_true_iff_forall_mem]
            intro z
            have := z _ (by rw [← Array.mem_toList_iff]; exact hq2)
            rw [eb] at this
            exact nomatch this
          rw [this, Bool.and_false]
      exact add_new (s := { s with toks := s.toks + 1 }) R (by omega) hn hsc (fun h => by rw [hashBy_int]; exact wpAny_pure h) fun h' hs' es' ep' t' sb R' a1 a2 => hQ h' (s.toks + 1) (Nat.le_succ _) sb ⟨hs', es', ep', t', R', fin hs' es' a1 a2⟩
  · have e2' : hh = thash P w k := e2
    subst e2'
    have hT' := isT_keep hT kp
    refine wpAny_bind (wpAny_pyHash_tuple hu hT' ?_)
    exact add_new (s := { s with toks := s.toks + (k.length + 1) }) R (by omega) hn (by simp [byScan, Value.scannable]) (fun h => hashBy_tup hT' h) fun h' hs' es' ep' t' sb R' a1 a2 => hQ h' (s.toks + (k.length + 1)) (Nat.le_add_right _ _) sb ⟨hs', es', ep', t', R', fin hs' es' a1 a2⟩
/-- set.update's loop over a short list whose hashes differ -/
theorem update_mix {I : Addr} {fp wr : List Addr} {G : Array GenState → Array GenState → Prop} {n : Nat} {Pv : Nat → Value → Prop} {St : Nat → Shared → Prop} {R : Result → Shared → Prop}
    (W : WalksS P w A.in1 I fp wr G n Pv St) (S : Addr) (hSf : S ∉ fp) (ks : List (Value × Int)) (hn : n = ks.length) (hfew : ks.length ≤ 3) (hnd : (ks.map (·.2)).Nodup) (hmix : MixH ks) (hval : ∀ i v, Pv i v → ∃ p, ks[i]? = some p ∧ v = p.1)
    (h0 : Heap) (hk : ∀ p ∈ ks, KeyH P w h0 p) (hS0 : h0.get? S = none) (hw0 : ∀ b ∈ wr, h0.get? b = none) (hu : A.in1.units < cLine) :
    ∀ (k i : Nat) (s : Shared), n - i = k → i ≤ n → St i s → (∀ b o, h0.get? b = some o → s.heap.get? b = some o) → GotH w s.heap S ks i →
      (∀ s', Moved (S :: wr) G s s' → GotH w s'.heap S ks n → (∀ b o, h0.get? b = some o → s'.heap.get? b = some o) → R (.ok (.ret .none)) s') →
      codeAny (model P w) A (.builtin "set.update.loop" ⟨[.ref S, .ref I], []⟩) R s := by
  have hSw : S ∉ wr := fun h => hSf (W.sub _ h)
  have hsub : ∀ b ∈ wr, b ∈ S :: wr := fun b hb => List.mem_cons_of_mem _ hb
  have keepM : ∀ {s s' : Shared}, Moved wr G s s' → (∀ b o, h0.get? b = some o → s.heap.get? b = some o) → ∀ b o, h0.get? b = some o → s'.heap.get? b = some o := fun hm hkp b o e =>
    hm.heap b o (fun hb => by rw [hw0 b hb] at e; cases e) (hkp b o e)
  intro k
  induction k with
  | zero =>
    intro i s hk' hi hst hkp g hR
    have hin : i = n := by omega
    subst hin
    refine codeAny_builtin F.entry_set_update_loop ?_
    rw [Around.under_plainId F.plain_set_update_loop _]
    show wpAny _ A.in1 (pyNext (.ref I) >>= _) _ _ s
    refine wpAny_bind (W.done s _ _ hst fun s' hm => ?_)
    show wpAny _ A.in1 (ret Value.none) _ _ s'
    exact wpAny_pure (hR s' (hm.mono hsub) (g.keep fun o e => hm.heap S o hSw e) (keepM hm hkp))
  | succ k ih =>
    intro i s hk' hi hst hkp g hR
    have hlt : i < n := by omega
    refine codeAny_builtin F.entry_set_update_loop ?_
    rw [Around.under_plainId F.plain_set_update_loop _]
    show wpAny _ A.in1 (pyNext (.ref I) >>= _) _ _ s
    refine wpAny_bind (W.item i s _ _ hlt hst fun v s' hP hst' hm => ?_)
    obtain ⟨p, hp, rfl⟩ := hval i v hP
    have hkp' := keepM hm hkp
    show wpAny _ A.in1 (holding [p.1] (setAdd S p.1) >>= _) _ _ s'
    refine wpAny_bind (wpAny_holding ?_)
    refine add_step (s := s') hfew hnd hmix hu hp (hk p (List.mem_of_getElem? hp)) hkp' (g.keep fun o e => hm.heap S o hSw e) fun h' tk htk hsb g2 => ?_
    have hkp2 : ∀ b o, h0.get? b = some o → h'.get? b = some o := fun b o e => (hsb.2 b (fun z => by rw [z, hS0] at e; cases e)).trans (hkp' b o e)
    refine wpAny_pure ⟨plainId_quiet F.plain_set_update_loop _, ih (i + 1) _ (by omega) hlt (W.frame _ s' _ _ hst' htk fun b hb o e => ?_) hkp2 g2 fun s'' hm'' g'' hkp'' => ?_⟩
    · rw [hsb.2 b (fun h : b = S => hSf (by rw [← h]; exact hb))]; exact e
    · refine hR s'' (Moved.trans W.gtrans ((hm.mono hsub).then_heap htk fun b o hb e => ?_) hm'') g'' hkp''
      rw [hsb.2 b (fun h : b = S => hb (by rw [h]; exact List.mem_cons_self))]; exact e
set_option maxHeartbeats 3200000 in
/-- set(xs) of a short list whose hashes differ (its frame is that of the other texts' set(xs)) -/
theorem set_of_mix {l : Addr} {items : Array Value} (ks : List (Value × Int)) {Q : Value → Shared → Prop} (hh : A.handled = none) (hl : s.heap.IsList l items) (hit : items.toList = ks.map (·.1))
    (hk : ∀ p ∈ ks, KeyH P w s.heap p) (hfew : ks.length ≤ 3) (hnd : (ks.map (·.2)).Nodup) (hmix : MixH ks) (hu : A.units + 3 < cLine)
    (h : ∀ (h' : Heap) (tk : Nat), GotH w h' s.heap.objs.size ks ks.length → (∀ b o, s.heap.get? b = some o → h'.get? b = some o) → Q (.ref s.heap.objs.size) { s with heap := h', toks := tk }) :
    wpAny (model P w) A (call (.type "set") [.ref l]) Q E s := by
  have hisz : items.size = ks.length := by
    have q := congrArg List.length hit
    rw [Array.length_toList, List.length_map] at q
    exact q
  obtain ⟨c, tl, hmro⟩ := F.called_set.mro
  have hmade := F.called_set.made
  have hsub := F.called_set.sub
  refine wpAny_call (codeAny_of_tree ?_)
  show wpAny _ _ (callAny (.type "set") _) _ _ _
  refine wpAny_pure ⟨Code.quiet_builtin _ (by decide +kernel), codeAny_builtin F.entry_type_call ?_⟩
  rw [Around.under_plain (weight_type_call_type "set" [.ref l] []) rfl]
  have h1 := F.called_set.notType
  have h2 := F.called_set.canCreate
  have hct := F.typeCall_set_1 (.ref l)
  repeat (any_goals (first | assumption | wp_step))
  refine codeAny_mono (code_set_led1 (.ref l) (E := E) (Q₁ := fun obj s₁ => obj = .ref s.heap.objs.size ∧ s₁ = { s with heap := s.heap.push { cls := .type "set", dict := none, data := .set #[] 0 (.fresh 0 0 (!w.params.followText "set-order")) } }) ⟨rfl, rfl⟩) fun r s₁ hr => ?_
  cases r with
  | error e => exact hr
  | ok fl =>
    cases fl with
    | ret obj =>
      obtain ⟨rfl, rfl⟩ := hr
      have hS : (s.heap.push { cls := .type "set", dict := none, data := .set #[] 0 (.fresh 0 0 (!w.params.followText "set-order")) }).get? s.heap.objs.size = some { cls := .type "set", dict := none, data := .set #[] 0 (.fresh 0 0 (!w.params.followText "set-order")) } := Heap.get?_push_size _ rfl
      have hT : Shared.TypeIs { s with heap := s.heap.push { cls := .type "set", dict := none, data := .set #[] 0 (.fresh 0 0 (!w.params.followText "set-order")) } } (.ref s.heap.objs.size) "set" := ⟨_, hS, rfl⟩
      have hli := F.called_set.init.lookup
      have hbi := F.called_set.init.bind (.ref s.heap.objs.size)
      repeat (any_goals (first | assumption | wp_step))
      refine codeAny_mono (codeAny_call_builtin (R := wants (fun r s₂ => r = .none ∧ ∃ h' tk, s₂ = { s with heap := h', toks := tk } ∧ GotH w h' s.heap.objs.size ks ks.length ∧
          (∀ b o, s.heap.get? b = some o → h'.get? b = some o)) E) F.called_set.init.plain F.entry_set_init (check_set_init_1 hT ?_)) fun r₂ s₂ hr₂ => ?_
      · obtain ⟨ol, hol, hcl, nl, hdl⟩ := hl
        obtain ⟨ocls, odict, odata, oslots⟩ := ol
        simp only at hcl hdl
        subst hcl; subst hdl
        have hol' : (s.heap.push { cls := .type "set", dict := none, data := .set #[] 0 (.fresh 0 0 (!w.params.followText "set-order")) }).get? l = some { cls := .type "list", dict := odict, data := .seq items nl, slots := oslots } := Heap.get?_push_of_some _ hol
        have hsls := F.sub_list_set
        have hslf := F.sub_list_frozenset
        have hne : (Value.type "list" == Value.type "dict") = false := by decide
        have hl1 : (s.heap.push { cls := .type "set", dict := none, data := .set #[] 0 (.fresh 0 0 (!w.params.followText "set-order")) }).IsList l items := ⟨_, hol', rfl, nl, rfl⟩
        unfold Builtin.«set.__init__» noKeywords Builtin.Frozenset.updateFrom
        generalize hPI : pyIter = PI
        wp_walk
        subst hPI
        refine wpAny_pyIter_list hl1 ?_
        refine wpAny_bind (wpAny_runValue ?_)
        have hlS : l < s.heap.objs.size := Heap.lt_size hol
        have hh3 : A.in1.in1.in1.handled = none := by simp [hh]
        have hneI : l ≠ (s.heap.push { cls := .type "set", dict := none, data := .set #[] 0 (.fresh 0 0 (!w.params.followText "set-order")) }).objs.size := by
          rw [Heap.size_push]; exact Nat.ne_of_lt (Nat.lt_succ_of_lt hlS)
        have hSf : s.heap.objs.size ∉ [(s.heap.push { cls := .type "set", dict := none, data := .set #[] 0 (.fresh 0 0 (!w.params.followText "set-order")) }).objs.size, l] := by
          rw [Heap.size_push]; simp only [List.mem_cons, List.mem_singleton, List.not_mem_nil, or_false, not_or]
          exact ⟨Nat.ne_of_lt (Nat.lt_succ_self _), Nat.ne_of_gt hlS⟩
        have hval : ∀ (i : Nat) (v : Value), items[i]? = some v → ∃ p, ks[i]? = some p ∧ v = p.1 := fun i v hv => by
          have q : items.toList[i]? = some v := by rw [Array.getElem?_toList]; exact hv
          rw [hit, List.getElem?_map] at q
          cases hq : ks[i]? with
          | none => rw [hq] at q; cases q
          | some p =>
            rw [hq] at q
            exact ⟨p, rfl, (Option.some.inj q).symm⟩
        have none_of : ∀ b, s.heap.objs.size ≤ b → s.heap.get? b = none := fun b hb => by
          cases q : s.heap.get? b with
          | none => rfl
          | some o => exact absurd (Nat.lt_of_lt_of_le (Heap.lt_size q) hb) (Nat.lt_irrefl _)
        refine update_mix ((Walks.list hh3 _ l hneI items).toS) s.heap.objs.size
          hSf ks hisz hfew hnd hmix hval s.heap hk (none_of _ (Nat.le_refl _)) (fun b hb => none_of b (by
            rw [List.mem_singleton.mp hb, Heap.size_push]
            exact Nat.le_succ _)) hu (items.size - 0) 0 _ (by omega) (Nat.zero_le _)
          ⟨⟨_, Heap.get?_push_size _ rfl, rfl, rfl⟩, (hl1.push _)⟩ (fun b o e => Heap.get?_push_of_some _ (Heap.get?_push_of_some _ e)) ?hS0 ?hR
        case hS0 =>
          have hget : ((s.heap.push { cls := .type "set", dict := none, data := .set #[] 0 (.fresh 0 0 (!w.params.followText "set-order")) }).push { cls := .type "list_iterator", data := .fields #[.ref l, .int 0 0] }).get? s.heap.objs.size
              = some { cls := .type "set", dict := none, data := .set #[] 0 (.fresh 0 0 (!w.params.followText "set-order")) } := Heap.get?_push_of_some _ hS
          exact ⟨[], #[], 0, _, setH_fresh hget, List.Perm.refl _, List.Perm.refl _⟩
        case hR =>
          intro s' hm g' hkp
          obtain ⟨h', g2, d', tk', os'⟩ := s'
          have eg : g2 = s.gens := hm.gens
          have ed : d' = s.drawn := hm.drawn
          have eo : os' = s.os := hm.os
          subst eg; subst ed; subst eo
          show wpAny _ _ _ _ _ _
          refine wpAny_pure ?_
          show wpAny _ _ (ret Value.none) _ _ _
          rw [hisz] at g'
          exact wpAny_pure ⟨rfl, h', tk', rfl, g', hkp⟩
      · cases r₂ with
        | error e => exact hr₂
        | ok fl₂ =>
          cases fl₂ with
          | ret r =>
            obtain ⟨rfl, h', tk, rfl, g', hk'⟩ := hr₂
            repeat (any_goals (first | assumption | wp_step))
            exact h _ _ g' hk'
          | _ => exact hr₂.elim
    | _ => exact hr.elim
end
end L2
/-! ZU: len(set(xs)) of things, of ints -/
namespace Z
open PySem L2
open Rep (rep)
theorem hash_small : ((List.range 64).all fun i => hashInt (i : Int) == (i : Int)) = true := by decide +kernel
theorem hash_pairs : ((List.range 64).all fun a => (List.range 64).all fun b => decide (reduceHash (Builtin.Tuple.tupleHashOf [hashInt (a : Int), hashInt (b : Int)]) < 0) || decide (64 ≤ reduceHash (Builtin.Tuple.tupleHashOf [hashInt (a : Int), hashInt (b : Int)]))) = true := by decide +kernel
theorem hash_int {i : Int} (h0 : 0 ≤ i) (h1 : i < 64) : hashInt i = i := by
  have h := List.all_eq_true.mp hash_small i.toNat (List.mem_range.mpr (by omega))
  rw [beq_iff_eq, show ((i.toNat : Nat) : Int) = i by omega] at h
  exact h
theorem hash_ne {P : Program} {w : World} {i a b : Int} (h0 : 0 ≤ i) (h1 : i < 64) (a0 : 0 ≤ a) (a1 : a < 64) (b0 : 0 ≤ b) (b1 : b < 64) : thash P w [a, b] ≠ hashInt i := by
  rw [hash_int h0 h1]
  have h := List.all_eq_true.mp (List.all_eq_true.mp hash_pairs a.toNat (List.mem_range.mpr (by omega))) b.toNat (List.mem_range.mpr (by omega))
  rw [show ((a.toNat : Nat) : Int) = a by omega, show ((b.toNat : Nat) : Int) = b by omega, Bool.or_eq_true, decide_eq_true_eq, decide_eq_true_eq] at h
  have e : thash P w [a, b] = reduceHash (Builtin.Tuple.tupleHashOf [hashInt a, hashInt b]) := rfl
  rw [e]
  omega
/-- == of ints, within a chain -/
theorem op_eqI {X : Cx} : OpR X (compareOp .Eq) (rI0 fun i j => .bl (decide (i = j))) := opB0 fun _ _ _ _ _ _ _ q => PyProof.Rows.eq_int (by rw [Bool.beq_eq_decide_eq]; exact q)
/-- at a: a set of n things -/
def SetN (a : Addr) (n : Nat) : HO := .ext fun h => ∃ (o : Obj) (es : Array (Int × Value)) (ep : Nat) (t : SetTable), h.get? a = some o ∧ o.ExactSet ∧ o.data = .set es ep t ∧ t.fits es.size = true ∧ es.size = n
theorem setN_new {P : Program} {w : World} {H : Hp} {h : Heap} {a : Addr} {n : Nat} (R : ∃ (o : Obj) (es : Array (Int × Value)) (ep : Nat) (t : SetTable), h.get? a = some o ∧ o.ExactSet ∧ o.data = .set es ep t ∧ t.fits es.size = true ∧ es.size = n) : ObjOk P w H h a (SetN a n) := by
  have ⟨o, _, _, _, ho, _⟩ := R
  exact ⟨R, ⟨o, ho⟩, fun h1 h2 z k => by
    obtain ⟨o, es, ep, t, ho, r⟩ := z
    exact ⟨o, es, ep, t, k o ho, r⟩⟩
def Thing.small : Thing → Bool
  | .pl i => decide (0 ≤ i) && decide (i < 64)
  | .ti a b => decide (0 ≤ a) && decide (a < 64) && decide (0 ≤ b) && decide (b < 64)
/-- things whose set is as long as their list -/
def okS (ts : List Thing) : Bool := decide ts.Nodup && decide (ts.length < 64) && (ts.all Thing.isPl || ts.all (fun t => !t.isPl) || (decide (ts.length = 2) && ts.all Thing.small))
section
variable {K : Fg} {F H : Hp}
theorem all_pl : ∀ {us : List V} {ts : List Thing}, A2 (rep K H) us ts → ts.all Thing.isPl = true → ∃ ns : List Int, ts = mkpl ns ∧ us = ns.map V.int
  | _, _, .nil, _ => ⟨[], rfl, rfl⟩
  | x :: _, t :: _, .cons h hs, e => by
    rw [List.all_cons, Bool.and_eq_true] at e
    obtain ⟨ns, e1, e2⟩ := all_pl hs e.2
    cases t with
    | pl i =>
      have h' : x = V.int i := h
      exact ⟨i :: ns, by rw [e1]; rfl, by rw [e2, h']; rfl⟩
    | ti a b => exact nomatch e.1
theorem all_ti (sm : Same F H) : ∀ {us : List V} {ts : List Thing}, A2 (rep K F) us ts → ts.all (fun t => !t.isPl) = true → ∃ ks : List (Addr × List Int), us = ks.map (fun p => V.ref p.1) ∧ (∀ p ∈ ks, SqT K H p.1 (p.2.map V.int)) ∧ ks.map (·.2) = ts.map (fun t => match t with | .pl i => [i] | .ti a b => [a, b])
  | _, _, .nil, _ => ⟨[], rfl, ⟨fun _ z => (nomatch z), rfl⟩⟩
  | x :: _, t :: _, .cons h hs, e => by
    rw [List.all_cons, Bool.and_eq_true] at e
    obtain ⟨ks, e1, e2, e3⟩ := all_ti sm hs e.2
    cases t with
    | pl i => exact nomatch e.1
    | ti a b =>
      obtain ⟨c, u, w, rfl, q, r1, r2⟩ := (show rep K F x (a, b) from h)
      have r1' : u = V.int a := r1
      have r2' : w = V.int b := r2
      subst r1' r2'
      refine ⟨(c, [a, b]) :: ks, by rw [e1]; rfl, fun p hp => ?_, by rw [List.map_cons, e3]; rfl⟩
      rcases List.mem_cons.mp hp with rfl | hp
      · exact .inl (.inl (sm _ _ q))
      · exact e2 p hp
end
section
variable {X : Cx} {K : Fg} {w : World}
theorem cr_setN (hK : X.K = K) (hc : X.calm = true) (hu : X.A.units + 64 < cLine) : CallR X (.type "set") (fun xs H Q => ∃ (l : Addr) (us : List V) (ts : List Thing) (F : Hp), xs = [V.ref l] ∧ SqL K H l us ∧ Same F H ∧ A2 (rep K F) us ts ∧ okS ts = true ∧ ∀ a, H a = none → Q (.ref a) (upd H a (SetN a ts.length))) := by
  subst hK
  intro pins s σ H xs vs Q I r h
  obtain ⟨l, us, ts, F, rfl, hl, sm, hA, hok, q⟩ := h
  rw [Vals.ref1 r]
  obtain ⟨its, rv, pl, hz⟩ := I.list hl
  have hn : H s.heap.objs.size = none := I.hok.fresh (Nat.le_refl _)
  unfold okS at hok
  rw [Bool.and_eq_true, Bool.and_eq_true, decide_eq_true_eq, decide_eq_true_eq] at hok
  obtain ⟨⟨hnd, hlen⟩, hcase⟩ := hok
  have lay : ∀ (h' : Heap) (tk : Nat), (∀ b o, s.heap.get? b = some o → h'.get? b = some o) → (∃ (o : Obj) (es : Array (Int × Value)) (ep : Nat) (t : SetTable), h'.get? s.heap.objs.size = some o ∧ o.ExactSet ∧ o.data = .set es ep t ∧ t.fits es.size = true ∧ es.size = ts.length) →
      EP X pins σ Q (.ref s.heap.objs.size) { s with heap := h', toks := tk } := fun h' tk k R =>
    ⟨.ref s.heap.objs.size, upd H s.heap.objs.size (SetN s.heap.objs.size ts.length), I.laid (t' := tk) k (Nat.le_refl _) (setN_new R), rfl, q _ hn⟩
  by_cases c1 : ts.all Thing.isPl = true
  · obtain ⟨ns, rfl, rfl⟩ := all_pl hA c1
    have hnl : ns.length < 64 := by
      unfold mkpl at hlen
      rw [List.length_map] at hlen
      exact hlen
    have hnn : ns.Nodup := nodup_of_map hnd
    refine set_of_listI ns (I.ok.hd hc) pl.isList (by simpa using ints_of_vals rv) (by unfold scanBound; omega) fun h' tk c R hcn k => lay h' tk k ?_
    obtain ⟨o, es, ep, t, ho, hex, hdt, g, nd, hm2, hb, hf, hcs, hr, hl2⟩ := R
    refine ⟨o, es, ep, t, ho, hex, hdt, hf, ?_⟩
    have e1 : (es.toList.map keyOf).length = ns.length := nodup_len nd hnn fun y => by
      rw [← hm2 y, decide_eq_true_eq]
    rw [List.length_map, Array.length_toList] at e1
    rw [e1]
    unfold mkpl
    rw [List.length_map]
  · by_cases c2 : ts.all (fun t => !t.isPl) = true
    · obtain ⟨ks, rfl, hks, ek⟩ := all_ti sm hA c2
      have ekl : ks.length = ts.length := by
        have := congrArg List.length ek
        rw [List.length_map, List.length_map] at this
        exact this
      have hkn : (ks.map (·.2)).Nodup := by
        rw [ek]
        refine List.pairwise_map.mpr (hnd.imp_of_mem fun {a b} ha hb hne e => hne ?_)
        have q1 := List.all_eq_true.mp c2 a ha
        have q2 := List.all_eq_true.mp c2 b hb
        cases a with
        | pl i => exact nomatch q1
        | ti a1 a2 =>
          cases b with
          | pl i => exact nomatch q2
          | ti b1 b2 =>
            have e' : [a1, a2] = [b1, b2] := e
            injection e' with z1 z2
            injection z2 with z2 _
            rw [z1, z2]
      have eits := refs_of_vals rv
      refine call_set_tups ks (I.ok.hd hc) pl.isList (by simpa using eits) (fun p hp => I.isT (hks p hp)) (by omega) (by omega) fun h' tk L es ep t R G k => lay h' tk k ?_
      obtain ⟨o, ho, hex, hd⟩ := R.ob
      refine ⟨o, es, ep, t, ho, hex, hd, SetTR.fits (s := { s with heap := h' }) R, ?_⟩
      rw [SetTR.size (s := { s with heap := h' }) R, ← ekl]
      refine Nat.le_antisymm G.len ?_
      have z : (ks.map (·.2)).length ≤ (L.map (·.2)).length := by
        refine nodup_le hkn fun x hx => ?_
        obtain ⟨p, hp, rfl⟩ := List.mem_map.mp hx
        exact G.all p (by rw [List.take_length]; exact hp)
      rw [List.length_map, List.length_map] at z
      exact z
    · have c3 : ts.length = 2 ∧ ts.all Thing.small = true := by
        rw [Bool.or_eq_true, Bool.or_eq_true, Bool.and_eq_true, decide_eq_true_eq] at hcase
        rcases hcase with (z | z) | z
        · exact absurd z c1
        · exact absurd z c2
        · exact z
      obtain ⟨x, y, rfl⟩ : ∃ x y, ts = [x, y] := by
        match ts, c3.1 with
        | [x, y], _ => exact ⟨x, y, rfl⟩
      rw [List.all_cons, List.all_cons, Bool.and_eq_true, Bool.and_eq_true] at c3
      obtain ⟨_, s1, s2, _⟩ := c3
      cases hA with
      | cons h1 hA =>
        cases hA with
        | cons h2 hA =>
          cases hA
          rename_i v1 v2
          -- one is an int, one a tuple
          have key : ∀ (i a b : Int), Thing.small (.pl i) = true → Thing.small (.ti a b) = true → (0 ≤ i ∧ i < 64) ∧ (0 ≤ a ∧ a < 64) ∧ 0 ≤ b ∧ b < 64 := fun i a b z1 z2 => by
            unfold Thing.small at z1 z2
            simp only [Bool.and_eq_true, decide_eq_true_eq] at z1 z2
            omega
          cases x with
          | pl i =>
            cases y with
            | pl j => exact absurd rfl c1
            | ti a b =>
              obtain ⟨k1, k2, k3⟩ := key i a b s1 s2
              have h1' : v1 = V.int i := h1
              subst h1'
              obtain ⟨c, u, w', rfl, hq, r1, r2⟩ := (show rep X.K F v2 (a, b) from h2)
              have r1' : u = V.int a := r1
              have r2' : w' = V.int b := r2
              subst r1' r2'
              cases rv with
              | cons g1 rv =>
                cases rv with
                | cons g2 rv =>
                  cases rv
                  obtain ⟨tk0, rfl⟩ := (show ∃ t, _ = Value.int i t from g1)
                  obtain rfl : _ = Value.ref c := g2
                  have hT : IsT X.prog X.w s.heap [a, b] c := I.isT (.inl (.inl (sm _ _ hq)))
                  refine set_of_mix [(.int i tk0, hashInt i), (.ref c, thash X.prog X.w [a, b])] (I.ok.hd hc) pl.isList (by rfl) (fun p hp => ?_) (by show 2 ≤ 3; decide) ?_ ?_ (by omega) fun h' tk g k => lay h' tk k ?_
                  · rcases List.mem_cons.mp hp with rfl | hp
                    · exact .inl ⟨i, tk0, rfl, rfl⟩
                    · rw [List.mem_singleton.mp hp]
                      exact .inr ⟨c, [a, b], rfl, hT, rfl⟩
                  · show [hashInt i, thash X.prog X.w [a, b]].Nodup
                    have := hash_ne (P := X.prog) (w := X.w) k1.1 k1.2 k2.1 k2.2 k3.1 k3.2
                    simp only [List.nodup_cons, List.mem_singleton, List.not_mem_nil, not_false_eq_true, List.nodup_nil, and_true]
                    exact fun z => this z.symm
                  · intro n p hp
                    match n, hp with
                    | 0, _ => exact .inr (.inl rfl)
                    | 1, hp => exact .inl ⟨c, by cases hp; rfl⟩
                  · obtain ⟨hs, es, ep, t, R, p1, p2⟩ := g.ex
                    obtain ⟨o, ho, hex, hd⟩ := R.ob
                    exact ⟨o, es, ep, t, ho, hex, hd, SetH.fits (s := { s with heap := h' }) R, by rw [← Array.length_toList, p2.length_eq]; rfl⟩
          | ti a b =>
            cases y with
            | ti a' b' => exact absurd rfl c2
            | pl i =>
              obtain ⟨k1, k2, k3⟩ := key i a b s2 s1
              have h2' : v2 = V.int i := h2
              subst h2'
              obtain ⟨c, u, w', rfl, hq, r1, r2⟩ := (show rep X.K F v1 (a, b) from h1)
              have r1' : u = V.int a := r1
              have r2' : w' = V.int b := r2
              subst r1' r2'
              cases rv with
              | cons g1 rv =>
                cases rv with
                | cons g2 rv =>
                  cases rv
                  obtain ⟨tk0, rfl⟩ := (show ∃ t, _ = Value.int i t from g2)
                  obtain rfl : _ = Value.ref c := g1
                  have hT : IsT X.prog X.w s.heap [a, b] c := I.isT (.inl (.inl (sm _ _ hq)))
                  refine set_of_mix [(.ref c, thash X.prog X.w [a, b]), (.int i tk0, hashInt i)] (I.ok.hd hc) pl.isList (by rfl) (fun p hp => ?_) (by show 2 ≤ 3; decide) ?_ ?_ (by omega) fun h' tk g k => lay h' tk k ?_
                  · rcases List.mem_cons.mp hp with rfl | hp
                    · exact .inr ⟨c, [a, b], rfl, hT, rfl⟩
                    · rw [List.mem_singleton.mp hp]
                      exact .inl ⟨i, tk0, rfl, rfl⟩
                  · show [thash X.prog X.w [a, b], hashInt i].Nodup
                    have := hash_ne (P := X.prog) (w := X.w) k1.1 k1.2 k2.1 k2.2 k3.1 k3.2
                    simp only [List.nodup_cons, List.mem_singleton, List.not_mem_nil, not_false_eq_true, List.nodup_nil, and_true]
                    exact this
                  · intro n p hp
                    match n, hp with
                    | 0, hp => exact .inl ⟨c, by cases hp; rfl⟩
                    | 1, _ => exact .inr (.inr ⟨0, _, Nat.zero_lt_one, rfl, c, rfl⟩)
                  · obtain ⟨hs, es, ep, t, R, p1, p2⟩ := g.ex
                    obtain ⟨o, ho, hex, hd⟩ := R.ob
                    exact ⟨o, es, ep, t, ho, hex, hd, SetH.fits (s := { s with heap := h' }) R, by rw [← Array.length_toList, p2.length_eq]; rfl⟩
/-- len of it -/
theorem call_lenSN : CallR X (.builtin "len") (fun xs H Q => ∃ (a : Addr) (n : Nat), xs = [V.ref a] ∧ H a = some (SetN a n) ∧ n < 100000 ∧ Q (.int (n : Int)) H) := by
  intro pins s σ H xs us Q I r ⟨a, n, e, h, hn, q⟩
  subst e
  rw [Vals.ref1 r]
  obtain ⟨o, es, ep, t, ho, hex, hd, hf, hs⟩ := (I.hok a _ h).1
  exact call_len_set ho hex hd hf (by rw [hs]; omega) ⟨.int n, H, I.tok _, ⟨_, by rw [hs]⟩, q⟩
/-- len of a set of ints -/
theorem call_lenSO (hw : X.w = w) : CallR X (.builtin "len") (fun xs H Q => ∃ (a : Addr) (S : Int → Bool) (n : Nat), xs = [V.ref a] ∧ H a = some (SetO w a S n) ∧ n < 100000 ∧ Q (.int (n : Int)) H) := by
  subst hw
  intro pins s σ H xs us Q I r ⟨a, S, n, e, h, hn, q⟩
  subst e
  rw [Vals.ref1 r]
  obtain ⟨o, es, ep, t, ho, hex, hd, _, _, _, _, hf, hs, _⟩ := (I.hok a _ h).1
  exact call_len_set ho hex hd hf (by rw [hs]; omega) ⟨.int n, H, I.tok _, ⟨_, by rw [hs]⟩, q⟩
end
/-- len(set(ts)) -/
def setLen (ts : List Thing) : R Int := if okS ts = true then .ok (ts.length : Int) else .bad
theorem pb_setLen {δ : Type} {ts : List Thing} {f : Int → R δ} {P : δ → Prop} {E : Exn → Prop} (h : Post (setLen ts >>= f) P E) : okS ts = true ∧ Post (f (ts.length : Int)) P E := by
  unfold setLen at h
  exact pb_if h
theorem okS_len {ts : List Thing} (h : okS ts = true) : ts.length < 100000 := by
  unfold okS at h
  rw [Bool.and_eq_true, Bool.and_eq_true, decide_eq_true_eq, decide_eq_true_eq] at h
  omega
/-- len(set(xs)), ints -/
def setLenI (xs : List Int) : R Int := if xs.length < 4000 then .ok ((nub xs).length : Int) else .bad
theorem nub_leL (xs : List Int) : (nub xs).length ≤ xs.length := nodup_le (nub_nodup _) fun y hy => nub_mem.mp hy
theorem pb_setLenI {δ : Type} {xs : List Int} {f : Int → R δ} {P : δ → Prop} {E : Exn → Prop} (h : Post (setLenI xs >>= f) P E) : xs.length < 4000 ∧ (nub xs).length < 100000 ∧ Post (f ((nub xs).length : Int)) P E := by
  unfold setLenI at h
  obtain ⟨c, h⟩ := pb_if h
  have := nub_leL xs
  exact ⟨c, by omega, h⟩
end Z
/-! ZM: lemmas about mirrors -/
namespace Z
open PySem L2
section
variable {α β γ : Type}
theorem foldR_inv {f : β → α → R β} (I : β → Prop) : ∀ {xs : List α} {s : β}, I s → (∀ s x, I s → x ∈ xs → ∃ s', f s x = R.ok s' ∧ I s') → ∃ s', foldR f s xs = R.ok s' ∧ I s'
  | [], s, h, _ => ⟨s, rfl, h⟩
  | x :: xs, s, h, hf => by
    obtain ⟨s', e, h'⟩ := hf s x h List.mem_cons_self
    obtain ⟨s2, e2, h2⟩ := foldR_inv I (xs := xs) (s := s') h' fun s y hs hy => hf s y hs (List.mem_cons_of_mem _ hy)
    exact ⟨s2, by show (f s x >>= fun s' => foldR f s' xs) = _; rw [e]; exact e2, h2⟩
/-- with how many items are gone through -/
theorem foldR_invN {f : β → α → R β} (I : Nat → β → Prop) : ∀ {xs : List α} {n : Nat} {s : β}, I n s → (∀ n s x, I n s → x ∈ xs → ∃ s', f s x = R.ok s' ∧ I (n + 1) s') → ∃ s', foldR f s xs = R.ok s' ∧ I (n + xs.length) s'
  | [], n, s, h, _ => ⟨s, rfl, h⟩
  | x :: xs, n, s, h, hf => by
    obtain ⟨s', e, h'⟩ := hf n s x h List.mem_cons_self
    obtain ⟨s2, e2, h2⟩ := foldR_invN I (xs := xs) (n := n + 1) (s := s') h' fun n s y hs hy => hf n s y hs (List.mem_cons_of_mem _ hy)
    refine ⟨s2, by show (f s x >>= fun s' => foldR f s' xs) = _; rw [e]; exact e2, ?_⟩
    rw [List.length_cons, show n + (xs.length + 1) = n + 1 + xs.length by omega]
    exact h2
theorem foldX_inv {ρ : Type} {f : β → α → R (Sum ρ (Bool × β))} (I : β → Prop) : ∀ {xs : List α} {s : β}, I s → (∀ s x, I s → x ∈ xs → ∃ s', f s x = R.ok (.inr (true, s')) ∧ I s') → ∃ s', foldX f s xs = R.ok (.inr s') ∧ I s'
  | [], s, h, _ => ⟨s, rfl, h⟩
  | x :: xs, s, h, hf => by
    obtain ⟨s', e, h'⟩ := hf s x h List.mem_cons_self
    obtain ⟨s2, e2, h2⟩ := foldX_inv I (xs := xs) (s := s') h' fun s y hs hy => hf s y hs (List.mem_cons_of_mem _ hy)
    refine ⟨s2, ?_, h2⟩
    show (f s x >>= fun r => match r with
      | .inl z => R.ok (.inl z)
      | .inr (true, s') => foldX f s' xs
      | .inr (false, s') => R.ok (.inr s')) = _
    rw [e]
    exact e2
/-- a search that never ends the whole -/
theorem foldX_unit {ρ : Type} {f : Unit → α → R (Sum ρ (Bool × Unit))} {xs : List α} (hf : ∀ x ∈ xs, f () x = R.ok (.inr (true, ()))) : foldX f () xs = R.ok (.inr ()) := by
  obtain ⟨s, e, _⟩ := foldX_inv (fun _ => True) (f := f) (xs := xs) (s := ()) trivial fun s x _ hx => ⟨(), hf x hx, trivial⟩
  exact e
theorem mapR_ok {f : α → R β} {g : α → β} : ∀ {xs : List α}, (∀ x ∈ xs, f x = R.ok (g x)) → mapR f xs = R.ok (xs.map g)
  | [], _ => rfl
  | x :: xs, h => by
    show (f x >>= fun y => mapR f xs >>= fun ys => R.ok (y :: ys)) = _
    rw [h x List.mem_cons_self, mapR_ok fun y hy => h y (List.mem_cons_of_mem _ hy)]
    rfl
theorem mapG_ok {f : α → R β} {g : α → β} {xs : List α} (hl : xs.length < 100000) (h : ∀ x ∈ xs, f x = R.ok (g x)) : mapG f xs = R.ok (xs.map g) := by
  unfold mapG
  rw [grd_t (decide_eq_true hl)]
  exact mapR_ok h
theorem mapR_ex {f : α → R β} (p : β → Prop) : ∀ {xs : List α}, (∀ x ∈ xs, ∃ y, f x = R.ok y ∧ p y) → ∃ ys, mapR f xs = R.ok ys ∧ ys.length = xs.length ∧ ∀ y ∈ ys, p y
  | [], _ => ⟨[], rfl, rfl, fun _ h => nomatch h⟩
  | x :: xs, h => by
    obtain ⟨y, e, hy⟩ := h x List.mem_cons_self
    obtain ⟨ys, e2, hl, hp⟩ := mapR_ex p fun y hy => h y (List.mem_cons_of_mem _ hy)
    refine ⟨y :: ys, ?_, by rw [List.length_cons, List.length_cons, hl], fun z hz => ?_⟩
    · show (f x >>= fun y => mapR f xs >>= fun ys => R.ok (y :: ys)) = _
      rw [e, e2]
      rfl
    · rcases List.mem_cons.mp hz with rfl | hz
      · exact hy
      · exact hp z hz
theorem mapG_ex {f : α → R β} (p : β → Prop) {xs : List α} (hl : xs.length < 100000) (h : ∀ x ∈ xs, ∃ y, f x = R.ok y ∧ p y) : ∃ ys, mapG f xs = R.ok ys ∧ ys.length = xs.length ∧ ∀ y ∈ ys, p y := by
  unfold mapG
  rw [grd_t (decide_eq_true hl)]
  exact mapR_ex p h
theorem filR_ok {f : α → R (Option β)} {g : α → Option β} : ∀ {xs : List α}, (∀ x ∈ xs, f x = R.ok (g x)) → filR f xs = R.ok (xs.filterMap g)
  | [], _ => rfl
  | x :: xs, h => by
    show (f x >>= fun o => filR f xs >>= fun ys => match o with
      | some y => R.ok (y :: ys)
      | none => R.ok ys) = _
    rw [h x List.mem_cons_self, filR_ok fun y hy => h y (List.mem_cons_of_mem _ hy)]
    show (match g x with
      | some y => R.ok (y :: xs.filterMap g)
      | none => R.ok (xs.filterMap g)) = R.ok ((x :: xs).filterMap g)
    rw [List.filterMap_cons]
    cases g x <;> rfl
theorem filG_ok {f : α → R (Option β)} {g : α → Option β} {xs : List α} (hl : xs.length < 100000) (h : ∀ x ∈ xs, f x = R.ok (g x)) : filG f xs = R.ok (xs.filterMap g) := by
  unfold filG
  rw [grd_t (decide_eq_true hl)]
  exact filR_ok h
theorem getI_nat {xs : List α} {i : Int} (h0 : 0 ≤ i) (h1 : i < xs.length) : ∃ x, getI xs i = R.ok x ∧ x ∈ xs ∧ xs[i.toNat]? = some x := by
  have hj : i.toNat < xs.length := by omega
  refine ⟨xs[i.toNat], ?_, List.getElem_mem hj, List.getElem?_eq_getElem hj⟩
  unfold getI
  have e : atI xs i = some xs[i.toNat] := by
    have := atI_nat (xs := xs) (j := i.toNat) (v := xs[i.toNat]) (List.getElem?_eq_getElem hj)
    rw [Int.toNat_of_nonneg h0] at this
    exact this
  rw [e]
  rfl
theorem getI_eq {xs : List α} {i : Int} {x : α} (h0 : 0 ≤ i) (h : xs[i.toNat]? = some x) : getI xs i = R.ok x := by
  have h1 := (List.getElem?_eq_some_iff.mp h).1
  obtain ⟨y, e, _, e2⟩ := getI_nat (xs := xs) (i := i) h0 (by omega)
  rw [h] at e2
  cases e2
  exact e
theorem getI_last {xs : List α} (x : α) : getI (xs ++ [x]) (-1) = R.ok x := by
  unfold getI
  rw [atI_last]
  rfl
theorem setI_nat {xs : List α} {i : Int} {x : α} (h0 : 0 ≤ i) (h1 : i < xs.length) : setI xs i x = R.ok (xs.set i.toNat x) := by
  have e : ixN xs.length i = some i.toNat := by
    unfold ixN
    rw [if_pos h0, if_pos h1]
  unfold setI
  rw [e]
theorem app_ok {xs : List α} {x : α} (h : xs.length < 100000) : app xs x = R.ok (xs ++ [x]) := by
  unfold app
  rw [if_pos h]
theorem extend_ok {xs ys : List α} (h : xs.length + ys.length < 100000) : extend xs ys = R.ok (xs ++ ys) := by
  unfold extend
  rw [if_pos h]
theorem modI_ok {i j : Int} (h : 0 < j) : modI i j = R.ok (i % j) := by
  unfold modI
  rw [if_pos h]
theorem divI_okW {i j : Int} (h : 0 < j) (h2 : j.natAbs.log2 < 9000) : divI i j = R.ok (i / j) := by
  unfold divI
  rw [if_pos ⟨h, h2⟩]
theorem divI_ok {i j : Int} (h : 0 < j) (h2 : j < 1073741824) : divI i j = R.ok (i / j) := by
  refine divI_okW h (Nat.lt_of_lt_of_le ((Nat.log2_lt (by omega)).mpr (show j.natAbs < 2 ^ 30 by omega)) (by decide))
theorem mulI_ok {i j : Int} (h : (-(2 ^ 64) < i ∧ i < 2 ^ 64) ∨ (-(2 ^ 64) < j ∧ j < 2 ^ 64)) : mulI i j = R.ok (i * j) := by
  unfold mulI
  rw [if_pos h]
theorem rngI_ok {i j : Int} (h1 : -(2 ^ 62) ≤ i) (h2 : i < 2 ^ 62) (h3 : -(2 ^ 62) ≤ j) (h4 : j < 2 ^ 62) : rngI i j = R.ok (rng i j) := by
  unfold rngI
  rw [if_pos ⟨h1, h2, h3, h4⟩]
theorem rng_mem {i j k : Int} : k ∈ rng i j ↔ i ≤ k ∧ k < j := by
  unfold rng
  rw [List.mem_map]
  constructor
  · rintro ⟨n, hn, rfl⟩
    have := List.mem_range.mp hn
    omega
  · intro h
    exact ⟨(k - i).toNat, List.mem_range.mpr (by omega), by omega⟩
/-! ### what holds of a result, step by step -/
section
variable {P Q : α → Prop} {S : β → Prop} {X : Exn → Prop}
theorem po_bind {m : R α} {k : α → R β} (h : Post m Q X) (hk : ∀ a, Q a → Post (k a) S X) : Post (m >>= k) S X := by
  cases m with
  | ok a => exact hk a h
  | exc e => exact h
  | bad => exact h
theorem po_ok {a : α} (h : P a) : Post (R.ok a) P X := h
theorem po_eq {m : R α} {a : α} (h : m = R.ok a) (hp : P a) : Post m P X := by
  rw [h]
  exact hp
theorem po_if {c : Prop} [Decidable c] {m n : R α} (h1 : c → Post m P X) (h2 : ¬ c → Post n P X) : Post (if c then m else n) P X := by
  by_cases h : c
  · rw [if_pos h]
    exact h1 h
  · rw [if_neg h]
    exact h2 h
theorem po_ex {m : R α} (h : Post m P noX) : ∃ a, m = R.ok a ∧ P a := by
  cases m with
  | ok a => exact ⟨a, rfl, h⟩
  | exc e => exact (show False from h).elim
  | bad => exact (show False from h).elim
theorem po_iff {m : R α} {a : α} (h : Post m (· = a) noX) : m = R.ok a := by
  obtain ⟨b, e, rfl⟩ := po_ex h
  exact e
theorem po_grd {b : Bool} {k : Unit → R β} (h : b = true) (hk : Post (k ()) S X) : Post (grd b >>= k) S X := by
  rw [grd_t h]
  exact hk
theorem po_get {xs : List α} {i : Int} {k : α → R β} (h0 : 0 ≤ i) (h1 : i < xs.length) (hk : ∀ x, x ∈ xs → xs[i.toNat]? = some x → Post (k x) S X) : Post (getI xs i >>= k) S X := by
  obtain ⟨x, e, h2, h3⟩ := getI_nat h0 h1
  rw [e]
  exact hk x h2 h3
theorem po_getE {xs : List α} {i : Int} {x : α} {k : α → R β} (h : getI xs i = R.ok x) (hk : Post (k x) S X) : Post (getI xs i >>= k) S X := by
  rw [h]
  exact hk
theorem po_last {xs : List α} {k : α → R β} (h : xs ≠ []) (hk : ∀ x, x ∈ xs → Post (k x) S X) : Post (getI xs (-1) >>= k) S X := by
  obtain ⟨ys, y, rfl⟩ : ∃ ys y, xs = ys ++ [y] := ⟨xs.dropLast, xs.getLast h, (List.dropLast_concat_getLast h).symm⟩
  rw [getI_last]
  exact hk y (List.mem_append_right _ List.mem_cons_self)
theorem po_set {xs : List α} {i : Int} {x : α} {k : List α → R β} (h0 : 0 ≤ i) (h1 : i < xs.length) (hk : Post (k (xs.set i.toNat x)) S X) : Post (setI xs i x >>= k) S X := by
  rw [setI_nat h0 h1]
  exact hk
theorem po_app {xs : List α} {x : α} {k : List α → R β} (h : xs.length < 100000) (hk : Post (k (xs ++ [x])) S X) : Post (app xs x >>= k) S X := by
  rw [app_ok h]
  exact hk
theorem po_extend {xs ys : List α} {k : List α → R β} (h : xs.length + ys.length < 100000) (hk : Post (k (xs ++ ys)) S X) : Post (extend xs ys >>= k) S X := by
  rw [extend_ok h]
  exact hk
theorem po_mod {i j : Int} {k : Int → R β} (h : 0 < j) (hk : 0 ≤ i % j → i % j < j → Post (k (i % j)) S X) : Post (modI i j >>= k) S X := by
  rw [modI_ok h]
  exact hk (Int.emod_nonneg _ (by omega)) (Int.emod_lt_of_pos _ h)
theorem po_div {i j : Int} {k : Int → R β} (h : 0 < j) (h2 : j < 1073741824) (hk : Post (k (i / j)) S X) : Post (divI i j >>= k) S X := by
  rw [divI_ok h h2]
  exact hk
theorem po_divW {i j : Int} {k : Int → R β} (h : 0 < j) (h2 : j.natAbs.log2 < 9000) (hk : Post (k (i / j)) S X) : Post (divI i j >>= k) S X := by
  rw [divI_okW h h2]
  exact hk
theorem po_mul {i j : Int} {k : Int → R β} (h : (-(2 ^ 64) < i ∧ i < 2 ^ 64) ∨ (-(2 ^ 64) < j ∧ j < 2 ^ 64)) (hk : Post (k (i * j)) S X) : Post (mulI i j >>= k) S X := by
  rw [mulI_ok h]
  exact hk
theorem po_rng {i j : Int} {k : List Int → R β} (h1 : -(2 ^ 62) ≤ i) (h2 : i < 2 ^ 62) (h3 : -(2 ^ 62) ≤ j) (h4 : j < 2 ^ 62) (hk : Post (k (rng i j)) S X) : Post (rngI i j >>= k) S X := by
  rw [rngI_ok h1 h2 h3 h4]
  exact hk
theorem po_fold {f : β → α → R β} {s : β} {xs : List α} (I : β → Prop) (h0 : I s) (hf : ∀ s x, I s → x ∈ xs → Post (f s x) I X) : Post (foldR f s xs) I X := by
  induction xs generalizing s with
  | nil => exact h0
  | cons x xs ih =>
    show Post (f s x >>= fun s' => foldR f s' xs) I X
    exact po_bind (hf s x h0 List.mem_cons_self) fun s' h' => ih h' fun s y hs hy => hf s y hs (List.mem_cons_of_mem _ hy)
/-- .. with the number of turns gone -/
theorem po_foldN {f : β → α → R β} {s : β} {xs : List α} (I : Nat → β → Prop) (h0 : I 0 s) (hf : ∀ n s x, n < xs.length → I n s → xs[n]? = some x → Post (f s x) (I (n + 1)) X) : Post (foldR f s xs) (I xs.length) X := by
  have key : ∀ (l : List α) (n : Nat) (s : β), xs.drop n = l → n ≤ xs.length → I n s → Post (foldR f s l) (I xs.length) X := by
    intro l
    induction l with
    | nil =>
      intro n s e hn h
      have : xs.length ≤ n := by
        have := congrArg List.length e
        rw [List.length_drop, List.length_nil] at this
        omega
      rw [show xs.length = n by omega]
      exact h
    | cons x l ih =>
      intro n s e hn h
      have hlt : n < xs.length := by
        have := congrArg List.length e
        rw [List.length_drop, List.length_cons] at this
        omega
      have e1 : xs[n] :: xs.drop (n + 1) = x :: l := (List.drop_eq_getElem_cons hlt).symm.trans e
      injection e1 with e2 e3
      show Post (f s x >>= fun s' => foldR f s' l) _ X
      exact po_bind (hf n s x hlt h (by rw [List.getElem?_eq_getElem hlt, e2])) fun s' h' => ih (n + 1) s' e3 (by omega) h'
  exact key xs 0 s rfl (Nat.zero_le _) h0
theorem po_foldX {ρ : Type} {f : β → α → R (Sum ρ (Bool × β))} {s : β} {xs : List α} (I : β → Prop) (h0 : I s) (hf : ∀ s x, I s → x ∈ xs → Post (f s x) (fun r => ∃ s', r = .inr (true, s') ∧ I s') X) : Post (foldX f s xs) (fun r => ∃ s', r = .inr s' ∧ I s') X := by
  induction xs generalizing s with
  | nil => exact ⟨s, rfl, h0⟩
  | cons x xs ih =>
    refine po_bind (S := fun r => ∃ s', r = Sum.inr s' ∧ I s') (k := fun r => match r with
      | .inl z => (R.ok (.inl z) : R (Sum ρ β))
      | .inr (true, s') => foldX f s' xs
      | .inr (false, s') => R.ok (.inr s')) (hf s x h0 List.mem_cons_self) fun r hr => ?_
    obtain ⟨s', rfl, h'⟩ := hr
    exact ih h' fun s y hs hy => hf s y hs (List.mem_cons_of_mem _ hy)
theorem po_mapG {f : α → R β} {xs : List α} (p : β → Prop) (hl : xs.length < 100000) (hf : ∀ x ∈ xs, Post (f x) p X) : Post (mapG f xs) (fun ys => ys.length = xs.length ∧ ∀ y ∈ ys, p y) X := by
  unfold mapG
  rw [grd_t (decide_eq_true hl)]
  show Post (mapR f xs) _ X
  clear hl
  induction xs with
  | nil => exact ⟨rfl, fun _ h => nomatch h⟩
  | cons x xs ih =>
    show Post (f x >>= fun y => mapR f xs >>= fun ys => R.ok (y :: ys)) _ X
    refine po_bind (hf x List.mem_cons_self) fun y hy => po_bind (ih fun z hz => hf z (List.mem_cons_of_mem _ hz)) fun ys ⟨h1, h2⟩ => ?_
    refine ⟨by rw [List.length_cons, List.length_cons, h1], fun z hz => ?_⟩
    rcases List.mem_cons.mp hz with rfl | hz
    · exact hy
    · exact h2 z hz
end
theorem cut_head (xs : List α) : cutL xs none (some 1) = xs.take 1 := by
  unfold cutL
  have e : HT.sIx xs.length xs.length (some 1) = min 1 xs.length := HT.sIx_nat xs.length xs.length 1
  have e0 : HT.sIx xs.length 0 none = 0 := rfl
  rw [e, e0, List.drop_zero]
  cases xs with
  | nil => rfl
  | cons x xs => simp
theorem cut_last (xs : List α) : cutL xs (some (-1)) none = xs.drop (xs.length - 1) := by
  unfold cutL
  have e : HT.sIx xs.length 0 (some (-1)) = xs.length - 1 := by
    unfold HT.sIx
    simp only [show ((-1 : Int) < 0) = True from eq_true (by decide), if_true]
    omega
  have e0 : HT.sIx xs.length xs.length none = xs.length := rfl
  rw [e, e0]
  refine List.take_of_length_le ?_
  rw [List.length_drop]
  exact Nat.le_refl _
end
section
variable {α β γ : Type} {X : Exn → Prop}
theorem po_mapStN {f : γ → α → R (β × γ)} {s : γ} {xs : List α} (I : Nat → γ → Prop) (p : β → Prop) (hl : xs.length < 100000) (h0 : I 0 s) (hf : ∀ n s x, n < xs.length → I n s → xs[n]? = some x → Post (f s x) (fun r => p r.1 ∧ I (n + 1) r.2) X) :
    Post (mapStG f s xs) (fun r => r.1.length = xs.length ∧ (∀ y ∈ r.1, p y) ∧ I xs.length r.2) X := by
  unfold mapStG
  rw [grd_t (decide_eq_true hl), ok_bind]
  clear hl
  have key : ∀ (l : List α) (n : Nat) (s : γ), xs.drop n = l → n ≤ xs.length → I n s → Post (mapSt f s l) (fun r => r.1.length = l.length ∧ (∀ y ∈ r.1, p y) ∧ I xs.length r.2) X := by
    intro l
    induction l with
    | nil =>
      intro n s e hn h
      have : xs.length ≤ n := by
        have := congrArg List.length e
        rw [List.length_drop, List.length_nil] at this
        omega
      rw [show n = xs.length by omega] at h
      exact ⟨rfl, by intro y hy; exact absurd hy List.not_mem_nil, h⟩
    | cons x l ih =>
      intro n s e hn h
      have hlt : n < xs.length := by
        have := congrArg List.length e
        rw [List.length_drop, List.length_cons] at this
        omega
      have e1 : xs[n] :: xs.drop (n + 1) = x :: l := (List.drop_eq_getElem_cons hlt).symm.trans e
      injection e1 with e2 e3
      refine po_bind (hf n s x hlt h (by rw [List.getElem?_eq_getElem hlt, e2])) fun r ⟨h1, h2⟩ => po_bind (ih (n + 1) r.2 e3 (by omega) h2) fun q ⟨h3, h4, h5⟩ => ?_
      refine ⟨by rw [List.length_cons, List.length_cons, h3], fun y hy => ?_, h5⟩
      rcases List.mem_cons.mp hy with rfl | hy
      · exact h1
      · exact h4 y hy
  exact key xs 0 s rfl (Nat.zero_le _) h0
end
section
variable {α : Type}
theorem cut_take (xs : List α) (n : Nat) : cutL xs none (some (n : Int)) = xs.take n := by
  unfold cutL
  have e : HT.sIx xs.length xs.length (some (n : Int)) = min n xs.length := HT.sIx_nat xs.length xs.length n
  have e0 : HT.sIx xs.length 0 none = 0 := rfl
  rw [e, e0, List.drop_zero, Nat.sub_zero]
  by_cases h : n ≤ xs.length
  · rw [Nat.min_eq_left h]
  · rw [Nat.min_eq_right (by omega), List.take_of_length_le (Nat.le_refl _), List.take_of_length_le (by omega)]
theorem cut_mid (xs : List α) (m n : Nat) : cutL xs (some (m : Int)) (some (n : Int)) = (xs.drop m).take (n - m) := by
  unfold cutL
  have e : HT.sIx xs.length xs.length (some (n : Int)) = min n xs.length := HT.sIx_nat xs.length xs.length n
  have e0 : HT.sIx xs.length 0 (some (m : Int)) = min m xs.length := HT.sIx_nat xs.length 0 m
  rw [e, e0]
  by_cases h : m ≤ xs.length
  · rw [Nat.min_eq_left h]
    by_cases h2 : n ≤ xs.length
    · rw [Nat.min_eq_left h2]
    · rw [Nat.min_eq_right (by omega), List.take_of_length_le (by rw [List.length_drop]; exact Nat.le_refl _), List.take_of_length_le (by rw [List.length_drop]; omega)]
  · rw [List.drop_of_length_le (by omega), List.drop_of_length_le (by omega), List.take_nil, List.take_nil]
end
/-! ### dicts -/
section
variable {κ β : Type} [DecidableEq κ]
theorem mhas_iff {m : List (κ × β)} {k : κ} : mhas m k = true ↔ ∃ p ∈ m, p.1 = k := by
  unfold mhas
  rw [List.any_eq_true]
  constructor
  · rintro ⟨p, h, e⟩
    exact ⟨p, h, of_decide_eq_true e⟩
  · rintro ⟨p, h, e⟩
    exact ⟨p, h, decide_eq_true e⟩
theorem mput_new {m : List (κ × β)} {k : κ} {v : β} (h : mhas m k = false) : mput m k v = m ++ [(k, v)] := by
  unfold mput
  have h' : (m.any fun p => decide (p.1 = k)) = false := h
  rw [h', if_neg (by decide)]
theorem mput_old {m : List (κ × β)} {k : κ} {v : β} (h : mhas m k = true) : mput m k v = m.map (fun p => if p.1 = k then (p.1, v) else p) := by
  unfold mput
  have h' : (m.any fun p => decide (p.1 = k)) = true := h
  rw [h', if_pos rfl]
theorem mput_keys {m : List (κ × β)} {k j : κ} {v : β} : (∃ p ∈ mput m k v, p.1 = j) ↔ (j = k ∨ ∃ p ∈ m, p.1 = j) := by
  cases h : mhas m k with
  | false =>
    rw [mput_new h]
    constructor
    · rintro ⟨p, hp, rfl⟩
      rcases List.mem_append.mp hp with hp | hp
      · exact .inr ⟨p, hp, rfl⟩
      · rw [List.mem_singleton] at hp
        exact .inl (by rw [hp])
    · rintro (rfl | ⟨p, hp, rfl⟩)
      · exact ⟨(j, v), List.mem_append_right _ List.mem_cons_self, rfl⟩
      · exact ⟨p, List.mem_append_left _ hp, rfl⟩
  | true =>
    rw [mput_old h]
    have fst : ∀ p : κ × β, (if p.1 = k then (p.1, v) else p).1 = p.1 := fun p => by split <;> rfl
    constructor
    · rintro ⟨p, hp, rfl⟩
      obtain ⟨q, hq, rfl⟩ := List.mem_map.mp hp
      rw [fst]
      exact .inr ⟨q, hq, rfl⟩
    · rintro (rfl | ⟨p, hp, rfl⟩)
      · obtain ⟨p, hp, e⟩ := mhas_iff.mp h
        exact ⟨_, List.mem_map.mpr ⟨p, hp, rfl⟩, by rw [fst]; exact e⟩
      · exact ⟨_, List.mem_map.mpr ⟨p, hp, rfl⟩, fst p⟩
theorem mput_length {m : List (κ × β)} {k : κ} {v : β} : (mput m k v).length = m.length + if mhas m k = true then 0 else 1 := by
  cases h : mhas m k with
  | false =>
    rw [mput_new h, List.length_append]
    rfl
  | true =>
    rw [mput_old h, List.length_map]
    rfl
theorem po_mput {δ : Type} {m : List (κ × β)} {k : κ} {v : β} {f : List (κ × β) → R δ} {S : δ → Prop} {X : Exn → Prop} (h : m.length < 100000) (hk : Post (f (mput m k v)) S X) : Post (mputR m k v >>= f) S X := by
  unfold mputR
  rw [if_pos h]
  exact hk
end
end Z
/-! ZG: webs: joined, how far; no program in sight -/
namespace Z
open PySem L2
/-! ### more steps -/
section
variable {α β γ δ : Type} {P Q : α → Prop} {S : β → Prop} {X : Exn → Prop}
/-- a fold, by what is gone through -/
theorem po_foldP {f : β → α → R β} {s : β} {xs : List α} (I : List α → β → Prop) (h0 : I [] s) (hf : ∀ pre s x post, xs = pre ++ x :: post → I pre s → Post (f s x) (I (pre ++ [x])) X) : Post (foldR f s xs) (I xs) X := by
  have key : ∀ (l pre : List α) (s : β), xs = pre ++ l → I pre s → Post (foldR f s l) (I xs) X := by
    intro l
    induction l with
    | nil =>
      intro pre s e h
      rw [List.append_nil] at e
      rw [e]
      exact h
    | cons x l ih =>
      intro pre s e h
      show Post (f s x >>= fun s' => foldR f s' l) _ X
      exact po_bind (hf pre s x l e h) fun s' h' => ih (pre ++ [x]) s' (by rw [e, List.append_assoc]; rfl) h'
  exact key xs [] s rfl h0
/-- items for items with a state, by what is made -/
theorem po_mapStA {f : γ → α → R (β × γ)} {s : γ} {xs : List α} (I : List α → List β → γ → Prop) (hl : xs.length < 100000) (h0 : I [] [] s)
    (hf : ∀ pre acc s x post, xs = pre ++ x :: post → I pre acc s → Post (f s x) (fun r => I (pre ++ [x]) (acc ++ [r.1]) r.2) X) : Post (mapStG f s xs) (fun r => I xs r.1 r.2) X := by
  unfold mapStG
  rw [grd_t (decide_eq_true hl), ok_bind]
  have key : ∀ (l pre : List α) (acc : List β) (s : γ), xs = pre ++ l → I pre acc s → Post (mapSt f s l) (fun r => I xs (acc ++ r.1) r.2) X := by
    intro l
    induction l with
    | nil =>
      intro pre acc s e h
      rw [List.append_nil] at e
      show I xs (acc ++ []) s
      rw [List.append_nil, e]
      exact h
    | cons x l ih =>
      intro pre acc s e h
      refine po_bind (hf pre acc s x l e h) fun r hr => po_bind (ih (pre ++ [x]) (acc ++ [r.1]) r.2 (by rw [e, List.append_assoc]; rfl) hr) fun q hq => ?_
      show I xs (acc ++ (r.1 :: q.1)) q.2
      rw [List.append_assoc] at hq
      exact hq
  exact key xs [] [] s rfl h0
theorem po_mapGE {f : α → R β} {g : α → β} {xs : List α} {k : List β → R γ} {T : γ → Prop} (hl : xs.length < 100000) (h : ∀ x ∈ xs, f x = R.ok (g x)) (hk : Post (k (xs.map g)) T X) : Post (mapG f xs >>= k) T X := by
  rw [mapG_ok hl h]
  exact hk
theorem po_filGE {f : α → R (Option β)} {g : α → Option β} {xs : List α} {k : List β → R γ} {T : γ → Prop} (hl : xs.length < 100000) (h : ∀ x ∈ xs, f x = R.ok (g x)) (hk : Post (k (xs.filterMap g)) T X) : Post (filG f xs >>= k) T X := by
  rw [filG_ok hl h]
  exact hk
/-- a while: an invariant, a measure -/
theorem po_while {c : γ → R Bool} {b : γ → R γ} {T : γ → Prop} (I : γ → Prop) (μ : γ → Nat)
    (hs : ∀ s, I s → Post (c s) (fun t => (t = true → Post (b s) (fun s' => I s' ∧ μ s' < μ s) X) ∧ (t = false → T s)) X) : ∀ {n : Nat} {s : γ}, I s → μ s < n → Post (whileR c b n s) T X
  | 0, s, _, h => absurd h (Nat.not_lt_zero _)
  | n + 1, s, hi, h => by
    refine po_bind (hs s hi) fun t ⟨h1, h2⟩ => ?_
    cases t with
    | false => exact h2 rfl
    | true => exact po_bind (h1 rfl) fun s' ⟨a, d⟩ => po_while I μ hs a (by omega)
theorem po_getS {st : List (List α)} {j : Nat} {xs : List α} {k : List α → R γ} {T : γ → Prop} (h : st[j]? = some xs) (hk : Post (k xs) T X) : Post (getS st j >>= k) T X := by
  unfold getS
  rw [h]
  exact hk
theorem po_setS {st : List (List α)} {j : Nat} {xs : List α} {k : List (List α) → R γ} {T : γ → Prop} (hk : Post (k (st.set j xs)) T X) : Post (setS st j xs >>= k) T X := hk
theorem po_newS {st : List (List α)} {xs : List α} {k : Nat × List (List α) → R γ} {T : γ → Prop} (hk : Post (k (st.length, st ++ [xs])) T X) : Post (newS st xs >>= k) T X := hk
theorem po_listRng {i j : Int} {k : List Int → R γ} {T : γ → Prop} (h1 : -(2 ^ 62) ≤ i) (h2 : i < 2 ^ 62) (h3 : -(2 ^ 62) ≤ j) (h4 : j < 2 ^ 62) (h5 : (j - i).toNat ≤ 100000) (hk : Post (k (rng i j)) T X) : Post (listRng i j >>= k) T X := by
  unfold listRng
  rw [if_pos ⟨h1, h2, h3, h4, h5⟩]
  exact hk
theorem po_rep {xs : List α} {i : Int} {k : List α → R γ} {T : γ → Prop} (h1 : 0 ≤ i) (h2 : i < 1000) (h3 : xs.length < 100) (hk : Post (k (repL xs i)) T X) : Post (repR xs i >>= k) T X := by
  unfold repR
  have h4 : xs.length * i.toNat ≤ 100 * 1000 := Nat.mul_le_mul (by omega) (by omega)
  have h5 : xs.length * i.toNat < 100000 := by
    have h6 : xs.length * i.toNat ≤ 99 * 999 := Nat.mul_le_mul (by omega) (by omega)
    omega
  rw [if_pos ⟨by omega, by omega, h5⟩]
  exact hk
theorem po_ofO {o : Option α} {x : α} {k : α → R γ} {T : γ → Prop} (h : o = some x) (hk : Post (k x) T X) : Post (ofO o >>= k) T X := by
  rw [h]
  exact hk
theorem po_mgetE {κ : Type} [DecidableEq κ] {m : List (κ × α)} {j : κ} {x : α} {k : α → R γ} {T : γ → Prop} (h : mget m j = some x) (hk : Post (k x) T X) : Post (mgetR m j >>= k) T X := po_ofO h hk
theorem po_popB {xs : List α} {i : Int} {k : α × List α → R γ} {T : γ → Prop} (h0 : 0 ≤ i) (h1 : i < xs.length) (h2 : i < 2 ^ 62) (hk : ∀ x, xs[i.toNat]? = some x → Post (k (x, xs.eraseIdx i.toNat)) T X) : Post (popB xs i >>= k) T X := by
  have hj : i.toNat < xs.length := by omega
  have e : popB xs i = R.ok (xs[i.toNat], xs.eraseIdx i.toNat) := by
    unfold popB popAt
    rw [if_pos (by omega)]
    have ei : ixN xs.length i = some i.toNat := by
      unfold ixN
      rw [if_pos h0, if_pos h1]
    rw [ei]
    dsimp only
    rw [List.getElem?_eq_getElem hj]
  rw [e]
  exact hk _ (List.getElem?_eq_getElem hj)
end
theorem rng_len {n : Int} (h : 0 ≤ n) : ((rng 0 n).length : Int) = n := by
  rw [rng_length]
  omega
theorem rng_atE {i j : Int} {k : Nat} (h : k < (j - i).toNat) : (rng i j)[k]? = some (i + k) := rng_get h
theorem rng_nodup (i j : Int) : (rng i j).Nodup := by
  unfold rng
  refine List.Pairwise.map _ (fun a b h => ?_) List.nodup_range
  intro e
  exact h (by omega)
theorem rng_pre {i j x : Int} {pre post : List Int} (h : rng i j = pre ++ x :: post) : x = i + pre.length := by
  have h1 : (rng i j)[pre.length]? = some x := by rw [h]; simp
  have hl : pre.length < (rng i j).length := by rw [h]; simp
  rw [rng_length] at hl
  rw [rng_atE hl] at h1
  cases h1
  rfl
theorem rng_split {i j x : Int} {pre post : List Int} (h : rng i j = pre ++ x :: post) : pre = rng i x ∧ i ≤ x ∧ x < j := by
  have e := rng_pre h
  have hl : (rng i j).length = pre.length + (post.length + 1) := by rw [h]; simp
  rw [rng_length] at hl
  refine ⟨?_, by omega, by omega⟩
  apply List.ext_getElem?
  intro k
  by_cases hk : k < pre.length
  · have h1 : (rng i j)[k]? = pre[k]? := by rw [h, List.getElem?_append_left hk]
    rw [← h1, rng_atE (by omega), rng_atE (by omega)]
  · rw [List.getElem?_eq_none (by omega), List.getElem?_eq_none (by rw [rng_length]; omega)]
theorem rng_snoc {i j : Int} (h : i ≤ j) : rng i (j + 1) = rng i j ++ [j] := by
  apply List.ext_getElem?
  intro k
  by_cases hk : k < (j - i).toNat
  · rw [List.getElem?_append_left (by rw [rng_length]; exact hk), rng_atE hk, rng_atE (by omega)]
  · by_cases hk2 : k = (j - i).toNat
    · rw [List.getElem?_append_right (by rw [rng_length]; omega), rng_atE (by omega), rng_length, hk2]
      simp
      omega
    · rw [List.getElem?_eq_none (by rw [rng_length]; omega), List.getElem?_eq_none (by rw [List.length_append, rng_length]; simp; omega)]
/-! ### joined -/
def Adj (ts : List (Int × Int)) (a b : Int) : Prop := (a, b) ∈ ts ∨ (b, a) ∈ ts
theorem Adj.symm {ts : List (Int × Int)} {a b : Int} (h : Adj ts a b) : Adj ts b a := h.elim .inr .inl
/-- what holds of a place and goes along all ties holds of all places -/
def Conn (n : Int) (ts : List (Int × Int)) : Prop := ∀ S : Int → Prop, S 0 → (∀ p ∈ ts, S p.1 ↔ S p.2) → ∀ k, 0 ≤ k → k < n → S k
theorem Conn.any {n : Int} {ts : List (Int × Int)} (h : Conn n ts) {S : Int → Prop} {r : Int} (r0 : 0 ≤ r) (r1 : r < n) (hr : S r) (hc : ∀ p ∈ ts, S p.1 ↔ S p.2) : ∀ k, 0 ≤ k → k < n → S k := by
  by_cases h0 : S 0
  · exact h S h0 hc
  · exact absurd hr (h (fun k => ¬ S k) h0 (fun p hp => not_congr (hc p hp)) r r0 r1)
theorem Conn.mono {n : Int} {ts us : List (Int × Int)} (h : Conn n ts) (hs : ∀ p ∈ ts, p ∈ us) : Conn n us := fun S h0 hc => h S h0 fun p hp => hc p (hs p hp)
theorem conn_tree {n : Int} {ts : List (Int × Int)} (h : ∀ k, 1 ≤ k → k < n → ∃ j, 0 ≤ j ∧ j < k ∧ Adj ts j k) : Conn n ts := by
  intro S h0 hc
  have key : ∀ (m : Nat) (k : Int), k.toNat ≤ m → 0 ≤ k → k < n → S k := by
    intro m
    induction m with
    | zero =>
      intro k hk k0 _
      rw [show k = 0 by omega]
      exact h0
    | succ m ih =>
      intro k hk k0 k1
      by_cases hz : k = 0
      · rw [hz]; exact h0
      · obtain ⟨j, j0, jk, hj⟩ := h k (by omega) k1
        have hj' := ih j (by omega) j0 (by omega)
        rcases hj with hj | hj
        · exact (hc _ hj).mp hj'
        · exact (hc _ hj).mpr hj'
  exact fun k k0 k1 => key k.toNat k (Nat.le_refl _) k0 k1
/-! ### how far -/
structure IsDist (n : Int) (ts : List (Int × Int)) (p : Int) (f : Int → Int) : Prop where
  zero : f p = 0
  nn : ∀ v, 0 ≤ v → v < n → 0 ≤ f v
  lip : ∀ a b, Adj ts a b → f b ≤ f a + 1
  desc : ∀ v, 0 ≤ v → v < n → v ≠ p → ∃ w, 0 ≤ w ∧ w < n ∧ Adj ts w v ∧ f w + 1 = f v
theorem IsDist.le {n : Int} {ts : List (Int × Int)} {p : Int} {f g : Int → Int} (hf : IsDist n ts p f) (hg : IsDist n ts p g) : ∀ v, 0 ≤ v → v < n → f v ≤ g v := by
  have key : ∀ (m : Nat) (v : Int), (g v).toNat ≤ m → 0 ≤ v → v < n → f v ≤ g v := by
    intro m
    induction m with
    | zero =>
      intro v hm v0 v1
      by_cases hv : v = p
      · rw [hv, hf.zero, hg.zero]; exact Int.le_refl _
      · obtain ⟨w, w0, w1, _, e⟩ := hg.desc v v0 v1 hv
        have := hg.nn w w0 w1
        omega
    | succ m ih =>
      intro v hm v0 v1
      by_cases hv : v = p
      · rw [hv, hf.zero, hg.zero]; exact Int.le_refl _
      · obtain ⟨w, w0, w1, ha, e⟩ := hg.desc v v0 v1 hv
        have h1 := hg.nn w w0 w1
        have h2 := ih w (by omega) w0 w1
        have h3 := hf.lip w v ha
        omega
  exact fun v v0 v1 => key _ v (Nat.le_refl _) v0 v1
theorem IsDist.uniq {n : Int} {ts : List (Int × Int)} {p : Int} {f g : Int → Int} (hf : IsDist n ts p f) (hg : IsDist n ts p g) (v : Int) (v0 : 0 ≤ v) (v1 : v < n) : f v = g v :=
  Int.le_antisymm (hf.le hg v v0 v1) (hg.le hf v v0 v1)
theorem IsDist.level {n : Int} {ts : List (Int × Int)} {p : Int} {f : Int → Int} (hf : IsDist n ts p f) : ∀ (m : Nat) (v : Int), 0 ≤ v → v < n → (f v).toNat = m → ∀ k : Nat, k ≤ m → ∃ w, 0 ≤ w ∧ w < n ∧ f w = k := by
  intro m
  induction m with
  | zero =>
    intro v v0 v1 e k hk
    have := hf.nn v v0 v1
    exact ⟨v, v0, v1, by omega⟩
  | succ m ih =>
    intro v v0 v1 e k hk
    have hv := hf.nn v v0 v1
    by_cases hk2 : k = m + 1
    · exact ⟨v, v0, v1, by omega⟩
    · have hne : v ≠ p := by
        intro e2
        rw [e2, hf.zero] at e
        simp at e
      obtain ⟨w, w0, w1, _, e2⟩ := hf.desc v v0 v1 hne
      exact ih w w0 w1 (by omega) k (by omega)
/-- no place is as far as there are places -/
theorem IsDist.lt {n : Int} {ts : List (Int × Int)} {p : Int} {f : Int → Int} (hf : IsDist n ts p f) (v : Int) (v0 : 0 ≤ v) (v1 : v < n) : f v < n := by
  have hv := hf.nn v v0 v1
  have hl := hf.level _ v v0 v1 rfl
  have key : ∀ m : Nat, m ≤ (f v).toNat + 1 → ∃ ws : List Int, ws.length = m ∧ ws.Nodup ∧ (∀ w ∈ ws, w ∈ rng 0 n ∧ f w < m) := by
    intro m
    induction m with
    | zero => exact fun _ => ⟨[], rfl, List.nodup_nil, fun _ h => nomatch h⟩
    | succ m ih =>
      intro hm
      obtain ⟨ws, h1, h2, h3⟩ := ih (by omega)
      obtain ⟨w, w0, w1, e⟩ := hl m (by omega)
      refine ⟨w :: ws, by rw [List.length_cons, h1], List.nodup_cons.mpr ⟨fun h => ?_, h2⟩, fun u hu => ?_⟩
      · have := (h3 w h).2
        omega
      · rcases List.mem_cons.mp hu with rfl | hu
        · exact ⟨rng_mem.mpr ⟨w0, w1⟩, by omega⟩
        · have := h3 u hu
          exact ⟨this.1, by omega⟩
  obtain ⟨ws, h1, h2, h3⟩ := key _ (Nat.le_refl _)
  have := nodup_le h2 fun w hw => (h3 w hw).1
  rw [h1, rng_length] at this
  omega
/-- how far places are from one, in a web that hangs together -/
noncomputable def dst (n : Int) (ts : List (Int × Int)) (p : Int) : Int → Int := by
  classical
  exact if h : ∃ f, IsDist n ts p f then Classical.choose h else fun _ => 0
theorem dst_is {n : Int} {ts : List (Int × Int)} {p : Int} {f : Int → Int} (h : IsDist n ts p f) : IsDist n ts p (dst n ts p) := by
  have e : ∃ f, IsDist n ts p f := ⟨f, h⟩
  unfold dst
  rw [dif_pos e]
  exact Classical.choose_spec e
theorem dst_eq {n : Int} {ts : List (Int × Int)} {p : Int} {f : Int → Int} (h : IsDist n ts p f) (v : Int) (v0 : 0 ≤ v) (v1 : v < n) : f v = dst n ts p v := h.uniq (dst_is h) v v0 v1
/-! ### there is a distance -/
inductive Rch (ts : List (Int × Int)) (p : Int) : Nat → Int → Prop
  | here : Rch ts p 0 p
  | step {k : Nat} {a b : Int} : Rch ts p k a → Adj ts a b → Rch ts p (k + 1) b
theorem least {P : Nat → Prop} (h : ∃ k, P k) : ∃ k, P k ∧ ∀ j, j < k → ¬ P j := by
  obtain ⟨k, hk⟩ := h
  induction k using Nat.strongRecOn with
  | _ k ih =>
    by_cases q : ∃ j, j < k ∧ P j
    · obtain ⟨j, h1, h2⟩ := q
      exact ih j h1 h2
    · exact ⟨k, hk, fun j hj hp => q ⟨j, hj, hp⟩⟩
theorem conn_ex {n : Int} {ts : List (Int × Int)} {p : Int} (hr : ∀ q ∈ ts, 0 ≤ q.1 ∧ q.1 < n ∧ 0 ≤ q.2 ∧ q.2 < n) (hc : Conn n ts) (p0 : 0 ≤ p) (p1 : p < n) : IsDist n ts p (dst n ts p) := by
  classical
  have all : ∀ v, 0 ≤ v → v < n → ∃ k, Rch ts p k v := hc.any (S := fun v => ∃ k, Rch ts p k v) p0 p1 ⟨0, .here⟩ fun q hq => ⟨fun ⟨k, h⟩ => ⟨k + 1, h.step (.inl hq)⟩, fun ⟨k, h⟩ => ⟨k + 1, h.step (.inr hq)⟩⟩
  have adj : ∀ a b, Adj ts a b → (0 ≤ a ∧ a < n) ∧ (0 ≤ b ∧ b < n) := fun a b h => by
    rcases h with h | h
    · have := hr _ h
      exact ⟨⟨this.1, this.2.1⟩, ⟨this.2.2.1, this.2.2.2⟩⟩
    · have := hr _ h
      exact ⟨⟨this.2.2.1, this.2.2.2⟩, ⟨this.1, this.2.1⟩⟩
  have key : ∀ v, ∃ d : Int, 0 ≤ d ∧ (0 ≤ v → v < n → ∃ k : Nat, d = k ∧ Rch ts p k v ∧ ∀ j, j < k → ¬ Rch ts p j v) := fun v => by
    by_cases hv : 0 ≤ v ∧ v < n
    · obtain ⟨k, h1, h2⟩ := least (all v hv.1 hv.2)
      exact ⟨k, by omega, fun _ _ => ⟨k, rfl, h1, h2⟩⟩
    · exact ⟨0, Int.le_refl 0, fun a b => absurd ⟨a, b⟩ hv⟩
  have hf : ∃ f : Int → Int, ∀ v, 0 ≤ f v ∧ (0 ≤ v → v < n → ∃ k : Nat, f v = k ∧ Rch ts p k v ∧ ∀ j, j < k → ¬ Rch ts p j v) := ⟨fun v => Classical.choose (key v), fun v => Classical.choose_spec (key v)⟩
  obtain ⟨f, hf⟩ := hf
  have lip : ∀ a b, Adj ts a b → f b ≤ f a + 1 := fun a b h => by
    obtain ⟨⟨a0, a1⟩, ⟨b0, b1⟩⟩ := adj a b h
    obtain ⟨k, e1, h1, _⟩ := (hf a).2 a0 a1
    obtain ⟨j, e2, _, h2⟩ := (hf b).2 b0 b1
    have : ¬ k + 1 < j := fun q => h2 (k + 1) q (h1.step h)
    omega
  refine dst_is (f := f) ⟨?_, fun v _ _ => (hf v).1, lip, fun v v0 v1 hne => ?_⟩
  · obtain ⟨k, e, _, h2⟩ := (hf p).2 p0 p1
    have : ¬ 0 < k := fun q => h2 0 q .here
    omega
  · obtain ⟨k, e, h1, h2⟩ := (hf v).2 v0 v1
    cases h1 with
    | here => exact absurd rfl hne
    | step h3 h4 =>
      rename_i j w
      obtain ⟨⟨w0, w1⟩, _⟩ := adj _ _ h4
      refine ⟨w, w0, w1, h4, ?_⟩
      obtain ⟨i, e2, _, h5⟩ := (hf w).2 w0 w1
      have h6 : ¬ j < i := fun q => h5 j q h3
      have := lip w v h4
      omega
end Z
/-! ZN: dicts as lists of pairs -/
namespace Z
open PySem L2
section
variable {κ β γ : Type} [DecidableEq κ]
def mkeys (m : List (κ × β)) : List κ := m.map (·.1)
theorem mget_nil (j : κ) : mget ([] : List (κ × β)) j = none := rfl
theorem mget_cons (p : κ × β) (m : List (κ × β)) (j : κ) : mget (p :: m) j = if p.1 = j then some p.2 else mget m j := by
  unfold mget
  by_cases h : p.1 = j
  · rw [List.find?_cons_of_pos (by simpa using h), if_pos h]
    rfl
  · rw [List.find?_cons_of_neg (by simpa using h), if_neg h]
theorem mget_append (m m' : List (κ × β)) (j : κ) : mget (m ++ m') j = (mget m j).or (mget m' j) := by
  induction m with
  | nil => rfl
  | cons p m ih =>
    rw [List.cons_append, mget_cons, mget_cons, ih]
    by_cases h : p.1 = j
    · rw [if_pos h, if_pos h]; rfl
    · rw [if_neg h, if_neg h]
theorem mhas_mget (m : List (κ × β)) (j : κ) : mhas m j = (mget m j).isSome := by
  unfold mhas mget
  rw [Option.isSome_map, List.isSome_find?]
theorem mhas_keys {m : List (κ × β)} {j : κ} : mhas m j = true ↔ j ∈ mkeys m := by
  rw [mhas_iff]
  unfold mkeys
  rw [List.mem_map]
theorem mget_mput (m : List (κ × β)) (k : κ) (v : β) (j : κ) : mget (mput m k v) j = if j = k then some v else mget m j := by
  cases h : mhas m k with
  | false =>
    rw [mput_new h, mget_append, mget_cons, mget_nil]
    by_cases e : j = k
    · subst e
      rw [if_pos rfl, if_pos rfl]
      rw [mhas_mget] at h
      cases q : mget m j with
      | none => rfl
      | some x => rw [q] at h; cases h
    · rw [if_neg (fun q => e q.symm), if_neg e]
      cases mget m j <;> rfl
  | true =>
    rw [mput_old h]
    by_cases e : j = k
    · subst e
      rw [if_pos rfl]
      induction m with
      | nil => cases h
      | cons p m ih =>
        rw [List.map_cons, mget_cons]
        by_cases q : p.1 = j
        · rw [if_pos q, if_pos q]
        · rw [if_neg q, if_neg q]
          refine ih ?_
          rw [mhas_mget, mget_cons, if_neg q, ← mhas_mget] at h
          exact h
    · rw [if_neg e]
      clear h
      induction m with
      | nil => rfl
      | cons p m ih =>
        rw [List.map_cons, mget_cons, mget_cons, ih]
        by_cases q : p.1 = k
        · rw [if_pos q, if_neg (by rw [q]; exact fun z => e z.symm), if_neg (by rw [q]; exact fun z => e z.symm)]
        · rw [if_neg q]
theorem mkeys_mput (m : List (κ × β)) (k : κ) (v : β) : mkeys (mput m k v) = if k ∈ mkeys m then mkeys m else mkeys m ++ [k] := by
  cases h : mhas m k with
  | false =>
    rw [mput_new h, if_neg (fun q => by rw [mhas_keys.mpr q] at h; cases h)]
    unfold mkeys
    rw [List.map_append]
    rfl
  | true =>
    rw [mput_old h, if_pos (mhas_keys.mp h)]
    unfold mkeys
    rw [List.map_map]
    refine List.map_congr_left fun p _ => ?_
    show (if p.1 = k then (p.1, v) else p).1 = p.1
    split <;> rfl
theorem mkeys_nodup {m : List (κ × β)} {k : κ} {v : β} (h : (mkeys m).Nodup) : (mkeys (mput m k v)).Nodup := by
  rw [mkeys_mput]
  split
  · exact h
  · rename_i q
    rw [List.nodup_append]
    refine ⟨h, by simp, fun a ha c hc e => ?_⟩
    rw [List.mem_singleton] at hc
    rw [e, hc] at ha
    exact q ha
theorem mkeys_length (m : List (κ × β)) : (mkeys m).length = m.length := List.length_map _
theorem mget_keys {m : List (κ × β)} {j : κ} : j ∈ mkeys m ↔ ∃ v, mget m j = some v := by
  rw [← mhas_keys, mhas_mget, Option.isSome_iff_exists]
end
end Z
namespace G
open PySem L2 Z
open Rep (rep)
open RepL (repTs)
def top (i : Nat) : Stmt := PySem.Challenge.pw_farhail_k41_whole_floors_below_the_fewes.main.body.getD i (.Pass ⟨0, 0, 0, 0⟩)
abbrev s_near_lists : Stmt := top 6
abbrev s_fars_by : Stmt := top 8
abbrev s_place_asked : Stmt := top 9
abbrev s_neighbours_of : Stmt := top 10
abbrev s_fars_from : Stmt := top 11
abbrev s_table_of : Stmt := top 13
abbrev s_things_of : Stmt := top 14
abbrev s_looks_asked : Stmt := top 15
abbrev s_far_by : Stmt := top 16
abbrev s_by_code : Stmt := top 18
abbrev s_likes_by : Stmt := top 19
abbrev s_is_known : Stmt := top 20
abbrev s_fars_of : Stmt := top 23
abbrev s_far_in : Stmt := top 24
abbrev s_parters_in : Stmt := top 25
abbrev s_pairs_of : Stmt := top 26
abbrev s_leanest_pairs : Stmt := top 27
abbrev s_too_seldom : Stmt := top 28
abbrev s_fewest_looks : Stmt := top 30
abbrev s_near_lists_floors : Stmt := top 32
abbrev s_far_by_floors : Stmt := top 34
abbrev s_are_twins : Stmt := top 36
abbrev s_twins_of : Stmt := top 37
abbrev s_is_lot : Stmt := top 38
abbrev s_lot_parters : Stmt := top 39
abbrev s_floor_height : Stmt := top 40
abbrev s_law_purse : Stmt := top 42
abbrev s_law_take : Stmt := top 43
abbrev s_law_order : Stmt := top 44
abbrev s_law_pairs : Stmt := top 45
abbrev s_law_web : Stmt := top 46
abbrev s_law_table : Stmt := top 47
abbrev s_law_things : Stmt := top 48
abbrev s_law_far : Stmt := top 49
abbrev s_law_parters : Stmt := top 50
abbrev s_law_parted : Stmt := top 51
abbrev s_law_floor : Stmt := top 52
abbrev s_law : Stmt := top 53
abbrev s_Search_init : Stmt := inClass (top 29) 0
abbrev s_Search_tree_of : Stmt := inClass (top 29) 1
abbrev SearchF : Type := (List (Nt (Thing × Thing × (List Int) × Unit))) × Int × Int × (Option (List Int)) × Unit
abbrev SearchO : Type := Oj ("Search" : Str) [("pairs" : Str), ("strength" : Str), ("many" : Str), ("looks" : Str)] SearchF
theorem fl_Search_pairs (u0 u1 u2 u3 : V) : (mkfs [("pairs" : Str), ("strength" : Str), ("many" : Str), ("looks" : Str)] [u0, u1, u2, u3]).lookup ("pairs" : Str) = some u0 := by kernel_rfl
theorem fr_Search_pairs {K : Fg} {F : Hp} {us : List V} {x : SearchF} (h : repTs K F us x) : ∃ u, (mkfs [("pairs" : Str), ("strength" : Str), ("many" : Str), ("looks" : Str)] us).lookup ("pairs" : Str) = some u ∧ rep K F u x.1 := by
  obtain ⟨u0, _, rfl, h0, u1, _, rfl, h1, u2, _, rfl, h2, u3, _, rfl, h3, rfl⟩ := h
  exact ⟨u0, fl_Search_pairs u0 u1 u2 u3, h0⟩
theorem fl_Search_strength (u0 u1 u2 u3 : V) : (mkfs [("pairs" : Str), ("strength" : Str), ("many" : Str), ("looks" : Str)] [u0, u1, u2, u3]).lookup ("strength" : Str) = some u1 := by kernel_rfl
theorem fr_Search_strength {K : Fg} {F : Hp} {us : List V} {x : SearchF} (h : repTs K F us x) : ∃ u, (mkfs [("pairs" : Str), ("strength" : Str), ("many" : Str), ("looks" : Str)] us).lookup ("strength" : Str) = some u ∧ rep K F u x.2.1 := by
  obtain ⟨u0, _, rfl, h0, u1, _, rfl, h1, u2, _, rfl, h2, u3, _, rfl, h3, rfl⟩ := h
  exact ⟨u1, fl_Search_strength u0 u1 u2 u3, h1⟩
theorem fl_Search_many (u0 u1 u2 u3 : V) : (mkfs [("pairs" : Str), ("strength" : Str), ("many" : Str), ("looks" : Str)] [u0, u1, u2, u3]).lookup ("many" : Str) = some u2 := by kernel_rfl
theorem fr_Search_many {K : Fg} {F : Hp} {us : List V} {x : SearchF} (h : repTs K F us x) : ∃ u, (mkfs [("pairs" : Str), ("strength" : Str), ("many" : Str), ("looks" : Str)] us).lookup ("many" : Str) = some u ∧ rep K F u x.2.2.1 := by
  obtain ⟨u0, _, rfl, h0, u1, _, rfl, h1, u2, _, rfl, h2, u3, _, rfl, h3, rfl⟩ := h
  exact ⟨u2, fl_Search_many u0 u1 u2 u3, h2⟩
theorem fl_Search_looks (u0 u1 u2 u3 : V) : (mkfs [("pairs" : Str), ("strength" : Str), ("many" : Str), ("looks" : Str)] [u0, u1, u2, u3]).lookup ("looks" : Str) = some u3 := by kernel_rfl
theorem fr_Search_looks {K : Fg} {F : Hp} {us : List V} {x : SearchF} (h : repTs K F us x) : ∃ u, (mkfs [("pairs" : Str), ("strength" : Str), ("many" : Str), ("looks" : Str)] us).lookup ("looks" : Str) = some u ∧ rep K F u x.2.2.2.1 := by
  obtain ⟨u0, _, rfl, h0, u1, _, rfl, h1, u2, _, rfl, h2, u3, _, rfl, h3, rfl⟩ := h
  exact ⟨u3, fl_Search_looks u0 u1 u2 u3, h3⟩
theorem fz_Search {K : Fg} {F : Hp} {us : List V} {x : SearchF} (h : repTs K F us x) : (mkfs [("pairs" : Str), ("strength" : Str), ("many" : Str), ("looks" : Str)] us).length < 1000 := by
  obtain ⟨u0, _, rfl, h0, u1, _, rfl, h1, u2, _, rfl, h2, u3, _, rfl, h3, rfl⟩ := h
  show 4 < 1000
  decide
theorem fp_Search_pairs (v u0 u1 u2 u3 : V) : putF ("pairs" : Str) v (mkfs [("pairs" : Str), ("strength" : Str), ("many" : Str), ("looks" : Str)] [u0, u1, u2, u3]) = mkfs [("pairs" : Str), ("strength" : Str), ("many" : Str), ("looks" : Str)] [v, u1, u2, u3] := by kernel_rfl
theorem fw_Search_pairs {K : Fg} {F : Hp} {us : List V} {x : SearchF} {v : V} {y : (List (Nt (Thing × Thing × (List Int) × Unit)))} (h : repTs K F us x) (hv : rep K F v y) : ∃ us', putF ("pairs" : Str) v (mkfs [("pairs" : Str), ("strength" : Str), ("many" : Str), ("looks" : Str)] us) = mkfs [("pairs" : Str), ("strength" : Str), ("many" : Str), ("looks" : Str)] us' ∧ repTs K F us' ((y, x.2.1, x.2.2.1, x.2.2.2.1, ()) : SearchF) := by
  obtain ⟨u0, _, rfl, h0, u1, _, rfl, h1, u2, _, rfl, h2, u3, _, rfl, h3, rfl⟩ := h
  exact ⟨_, fp_Search_pairs v u0 u1 u2 u3, ⟨_, _, rfl, hv, _, _, rfl, h1, _, _, rfl, h2, _, _, rfl, h3, rfl⟩⟩
theorem fp_Search_strength (v u0 u1 u2 u3 : V) : putF ("strength" : Str) v (mkfs [("pairs" : Str), ("strength" : Str), ("many" : Str), ("looks" : Str)] [u0, u1, u2, u3]) = mkfs [("pairs" : Str), ("strength" : Str), ("many" : Str), ("looks" : Str)] [u0, v, u2, u3] := by kernel_rfl
theorem fw_Search_strength {K : Fg} {F : Hp} {us : List V} {x : SearchF} {v : V} {y : Int} (h : repTs K F us x) (hv : rep K F v y) : ∃ us', putF ("strength" : Str) v (mkfs [("pairs" : Str), ("strength" : Str), ("many" : Str), ("looks" : Str)] us) = mkfs [("pairs" : Str), ("strength" : Str), ("many" : Str), ("looks" : Str)] us' ∧ repTs K F us' ((x.1, y, x.2.2.1, x.2.2.2.1, ()) : SearchF) := by
  obtain ⟨u0, _, rfl, h0, u1, _, rfl, h1, u2, _, rfl, h2, u3, _, rfl, h3, rfl⟩ := h
  exact ⟨_, fp_Search_strength v u0 u1 u2 u3, ⟨_, _, rfl, h0, _, _, rfl, hv, _, _, rfl, h2, _, _, rfl, h3, rfl⟩⟩
theorem fp_Search_many (v u0 u1 u2 u3 : V) : putF ("many" : Str) v (mkfs [("pairs" : Str), ("strength" : Str), ("many" : Str), ("looks" : Str)] [u0, u1, u2, u3]) = mkfs [("pairs" : Str), ("strength" : Str), ("many" : Str), ("looks" : Str)] [u0, u1, v, u3] := by kernel_rfl
theorem fw_Search_many {K : Fg} {F : Hp} {us : List V} {x : SearchF} {v : V} {y : Int} (h : repTs K F us x) (hv : rep K F v y) : ∃ us', putF ("many" : Str) v (mkfs [("pairs" : Str), ("strength" : Str), ("many" : Str), ("looks" : Str)] us) = mkfs [("pairs" : Str), ("strength" : Str), ("many" : Str), ("looks" : Str)] us' ∧ repTs K F us' ((x.1, x.2.1, y, x.2.2.2.1, ()) : SearchF) := by
  obtain ⟨u0, _, rfl, h0, u1, _, rfl, h1, u2, _, rfl, h2, u3, _, rfl, h3, rfl⟩ := h
  exact ⟨_, fp_Search_many v u0 u1 u2 u3, ⟨_, _, rfl, h0, _, _, rfl, h1, _, _, rfl, hv, _, _, rfl, h3, rfl⟩⟩
theorem fp_Search_looks (v u0 u1 u2 u3 : V) : putF ("looks" : Str) v (mkfs [("pairs" : Str), ("strength" : Str), ("many" : Str), ("looks" : Str)] [u0, u1, u2, u3]) = mkfs [("pairs" : Str), ("strength" : Str), ("many" : Str), ("looks" : Str)] [u0, u1, u2, v] := by kernel_rfl
theorem fw_Search_looks {K : Fg} {F : Hp} {us : List V} {x : SearchF} {v : V} {y : (Option (List Int))} (h : repTs K F us x) (hv : rep K F v y) : ∃ us', putF ("looks" : Str) v (mkfs [("pairs" : Str), ("strength" : Str), ("many" : Str), ("looks" : Str)] us) = mkfs [("pairs" : Str), ("strength" : Str), ("many" : Str), ("looks" : Str)] us' ∧ repTs K F us' ((x.1, x.2.1, x.2.2.1, y, ()) : SearchF) := by
  obtain ⟨u0, _, rfl, h0, u1, _, rfl, h1, u2, _, rfl, h2, u3, _, rfl, h3, rfl⟩ := h
  exact ⟨_, fp_Search_looks v u0 u1 u2 u3, ⟨_, _, rfl, h0, _, _, rfl, h1, _, _, rfl, h2, _, _, rfl, hv, rfl⟩⟩
theorem fm0_Search_tree_of (u0 u1 u2 u3 : V) : (mkfs [("pairs" : Str), ("strength" : Str), ("many" : Str), ("looks" : Str)] [u0, u1, u2, u3]).lookup ("tree_of" : Str) = none := by kernel_rfl
theorem fm_Search_tree_of {K : Fg} {F : Hp} {us : List V} {x : SearchF} (h : repTs K F us x) : (mkfs [("pairs" : Str), ("strength" : Str), ("many" : Str), ("looks" : Str)] us).lookup ("tree_of" : Str) = none := by
  obtain ⟨u0, _, rfl, h0, u1, _, rfl, h1, u2, _, rfl, h2, u3, _, rfl, h3, rfl⟩ := h
  exact fm0_Search_tree_of u0 u1 u2 u3
/-! ### the mirrors -/
/-! near_lists_webs -/
def near_lists (x_web : (Int × (Tup (Int × Int)))) : R (List (List Int)) := do
  let l4 ← rngI 0 x_web.1
  let l5 ← mapStG (fun (g5 : (List (List Int))) (b5 : Int) => do
      let r9 ← newS g5 ([] : (List Int))
      R.ok (r9.1, r9.2)) ([] : List (List Int)) l4
  let g11 ← foldR (fun (g11 : (List (List Int))) (b11 : (Int × Int)) => do
      let t14 ← getI l5.1 b11.1
      let x16 ← getS g11 t14
      let l17 ← app x16 b11.2
      let r17 ← setS g11 t14 l17
      let t18 ← getI l5.1 b11.2
      let x20 ← getS r17 t18
      let l21 ← app x20 b11.1
      let r21 ← setS r17 t18 l21
      R.ok r21) l5.2 x_web.2.l
  let l22 ← mapG (fun (b22 : Ix) => do
      let x26 ← getS g11 b22
      R.ok (sortI x26)) l5.1
  R.ok l22
/-! fars_by -/
def fars_by (x_near : (List (List Int))) (x_place : Int) : R (List (Option Int)) := do
  let l4 ← repR ([none] : (List (Option Int))) (x_near.length : Int)
  let l7 ← setI l4 x_place (some (0 : Int))
  let g11 ← whileR (fun (g11 : Int × (List Int) × (List (Option Int))) => do
      R.ok (decide (g11.1 < (g11.2.1.length : Int)))) (fun (g11 : Int × (List Int) × (List (Option Int))) => do
      let t13 ← getI g11.2.1 g11.1
      let t14 ← getI x_near t13
      let g12 ← foldR (fun (g12 : (List Int) × (List (Option Int))) (b12 : Int) => do
          let t17 ← getI g12.2 b12
          if t17.isNone = true then do
            let t20 ← getI g12.1 g11.1
            let t21 ← getI g12.2 t20
            let t23 ← ofO t21
            let l24 ← setI g12.2 b12 (some (t23 + (1 : Int)))
            let l26 ← app g12.1 b12
            R.ok (l26, l24)
          else do
            R.ok (g12.1, g12.2)) (g11.2.1, g11.2.2) t14
      R.ok ((g11.1 + (1 : Int)), g12.1, g12.2)) (fu 1000) ((0 : Int), ([x_place] : (List Int)), l7)
  R.ok g11.2.2
/-! place_asked -/
def place_asked (x_web : (Int × (Tup (Int × Int)))) (x_place : Int) : R Unit := do
  if (!((decide ((0 : Int) ≤ x_place)) && (decide (x_place < x_web.1)))) = true then do
    R.bad
  else do
    R.ok ()
/-! neighbours_of -/
def neighbours_of (x_web : (Int × (Tup (Int × Int)))) (x_place : Int) : R (List Int) := do
  let y3 ← place_asked x_web x_place
  let y4 ← near_lists x_web
  let t6 ← getI y4 x_place
  R.ok t6
/-! fars_from -/
def fars_from (x_web : (Int × (Tup (Int × Int)))) (x_place : Int) : R (List Int) := do
  let y3 ← place_asked x_web x_place
  let y4 ← near_lists x_web
  let y6 ← fars_by y4 x_place
  let l8 ← allS y6
  R.ok l8
/-! table_of -/
def table_of (x_web : (Int × (Tup (Int × Int)))) : R (List (List Int)) := do
  let l3 ← rngI 0 x_web.1
  let l4 ← mapG (fun (b4 : Int) => do
      let y6 ← fars_from x_web b4
      R.ok y6) l3
  R.ok l4
/-! things_of -/
def things_of (x_web : (Int × (Tup (Int × Int)))) (x_kind : Str) : R (List Thing) := do
  let l3 ← listRng 0 x_web.1
  if (decide (x_kind = ("places" : Str))) = true then do
    R.ok (mkpl l3)
  else do
    if (decide (x_kind = ("ties" : Str))) = true then do
      R.ok (mkti x_web.2.l)
    else do
      let l16 ← extend (mkpl l3) (mkti x_web.2.l)
      R.ok l16
/-! looks_asked -/
def looks_asked (x_web : (Int × (Tup (Int × Int)))) (x_looks : (List Int)) : R Unit := do
  let g4 ← foldR (fun (g4 : Unit) (b4 : (Int × Int)) => do
      let j6 ← (do
        if (!((decide ((0 : Int) ≤ b4.2)) && (decide (b4.2 < x_web.1)))) = true then do
          R.ok true
        else do
          let j13 ← (do
            if (decide ((0 : Int) < b4.1)) = true then do
              let t15 ← getI x_looks (b4.1 - (1 : Int))
              R.ok (decide (b4.2 ≤ t15))
            else do
              R.ok false : R (Bool))
          R.ok j13 : R (Bool))
      if j6 = true then do
        R.bad
      else do
        R.ok ()) () (enum x_looks)
  R.ok ()
/-! far_by_codes -/
def far_by (x_table : (List (List Int))) (x_look : Int) (x_thing : Thing) : R Int := do
  if x_thing.isPl = true then do
    let t5 ← asPl x_thing
    let t6 ← getI x_table x_look
    let t8 ← getI t6 t5
    R.ok t8
  else do
    let t9 ← asTi x_thing
    let t11 ← getI x_table x_look
    let t13 ← getI t11 t9.1
    let t14 ← getI x_table x_look
    let t16 ← getI t14 t9.2
    R.ok (min2 t13 t16)
/-! by_code -/
def by_code (x_web : (Int × (Tup (Int × Int)))) (x_looks : (List Int)) (x_kind : Str) : R ((List ((Tup Int) × Ix)) × (List (List Thing))) := do
  let y5 ← table_of x_web
  let y9 ← things_of x_web x_kind
  let g8 ← foldR (fun (g8 : (List ((Tup Int) × Ix)) × (List (List Thing))) (b8 : Thing) => do
      let l14 ← mapG (fun (b14 : Int) => do
          let y17 ← far_by y5 b14 b8
          R.ok y17) x_looks
      let g22 ← (do
        if (!mhas g8.1 (Tup.mk l14)) = true then do
          let r26 ← newS g8.2 ([] : (List Thing))
          let l27 ← mputR g8.1 (Tup.mk l14) r26.1
          R.ok (l27, r26.2)
        else do
          R.ok (g8.1, g8.2) : R ((List ((Tup Int) × Ix)) × (List (List Thing))))
      let t29 ← mgetR g22.1 (Tup.mk l14)
      let x31 ← getS g22.2 t29
      let l32 ← app x31 b8
      let r32 ← setS g22.2 t29 l32
      R.ok (g22.1, r32)) (([] : (List ((Tup Int) × Ix))), ([] : List (List Thing))) y9
  R.ok (g8.1, g8.2)
/-! likes_by -/
def likes_by (x_web : (Int × (Tup (Int × Int)))) (x_looks : (List Int)) (x_kind : Str) : R (List (List Thing)) := do
  let y4 ← looks_asked x_web x_looks
  let y5 ← by_code x_web x_looks x_kind
  let l10 ← filStG (fun (g10 : (List (List Thing))) (b10 : Ix) => do
      let x14 ← getS g10 b10
      if (decide ((1 : Int) < (x14.length : Int))) = true then do
        R.ok ((some b10), g10)
      else
        R.ok (none, g10)) y5.2 (y5.1.map (·.2))
  let l17 ← deref l10.2 l10.1
  R.ok l17
/-! is_known -/
def is_known (x_web : (Int × (Tup (Int × Int)))) (x_looks : (List Int)) (x_kind : Str) : R Bool := do
  let y4 ← likes_by x_web x_looks x_kind
  R.ok (decide (y4 = ([] : (List (List Thing)))))
/-! fars_of -/
def fars_of (x_web : (Int × (Tup (Int × Int)))) : R (List (List Int)) := do
  let l3 ← rngI 0 x_web.1
  let l4 ← mapG (fun (b4 : Int) => do
      let y6 ← fars_from x_web b4
      R.ok y6) l3
  R.ok l4
/-! far_in -/
def far_in (x_fars : (List Int)) (x_thing : Thing) : R Int := do
  if x_thing.isPl = true then do
    let t5 ← asPl x_thing
    let t6 ← getI x_fars t5
    R.ok t6
  else do
    let t7 ← asTi x_thing
    let t9 ← getI x_fars t7.1
    let t10 ← getI x_fars t7.2
    R.ok (min2 t9 t10)
/-! parters_in -/
def parters_in (x_table : (List (List Int))) (x_one : Thing) (x_other : Thing) : R (List Int) := do
  let l4 ← filG (fun (b4 : (Int × (List Int))) => do
      let y8 ← far_in b4.2 x_one
      let y9 ← far_in b4.2 x_other
      if (!decide (y8 = y9)) = true then do
        R.ok (some b4.1)
      else
        R.ok none) (enum x_table)
  R.ok l4
/-! pairs_of -/
def pairs_of (x_web : (Int × (Tup (Int × Int)))) (x_kind : Str) : R (List (Nt (Thing × Thing × (List Int) × Unit))) := do
  let y3 ← things_of x_web x_kind
  let y6 ← fars_of x_web
  let g10 ← foldR (fun (g10 : (List (Nt (Thing × Thing × (List Int) × Unit)))) (b10 : (Int × Thing)) => do
      let g13 ← foldR (fun (g13 : (List (Nt (Thing × Thing × (List Int) × Unit)))) (b13 : Thing) => do
          let y19 ← parters_in y6 b10.2 b13
          let l23 ← app g13 (Nt.mk (b10.2, b13, y19, ()) : (Nt (Thing × Thing × (List Int) × Unit)))
          R.ok l23) g10 (cutL y3 (some (b10.1 + (1 : Int))) none)
      R.ok g13) ([] : (List (Nt (Thing × Thing × (List Int) × Unit)))) (enum y3)
  R.ok g10
/-! leanest_pairs -/
def leanest_pairs (x_pairs : (List (Nt (Thing × Thing × (List Int) × Unit)))) : R (List (Nt (Thing × Thing × (List Int) × Unit))) := do
  let g3 ← foldR (fun (g3 : (List ((Tup Int) × (Nt (Thing × Thing × (List Int) × Unit))))) (b3 : (Nt (Thing × Thing × (List Int) × Unit))) => do
      let l11 ← msetdR g3 (Tup.mk b3.v.2.2.1) b3
      R.ok l11) ([] : (List ((Tup Int) × (Nt (Thing × Thing × (List Int) × Unit))))) x_pairs
  let g15 ← foldR (fun (g15 : (List (Nt (Thing × Thing × (List Int) × Unit)))) (b15 : ((Tup Int) × (Nt (Thing × Thing × (List Int) × Unit)))) => do
      let l25 ← filG (fun (b25 : (Tup Int)) => do
          let j29 ← (do
            if (decide ((b25.l.length : Int) < (b15.1.l.length : Int))) = true then do
              let l31 ← mapG (fun (b31 : Int) => do
                  R.ok (inB b31 b15.1.l)) b25.l
              R.ok (l31.all id)
            else do
              R.ok false : R (Bool))
          if j29 = true then do
            R.ok (some b25)
          else
            R.ok none) (g3.map (·.1))
      if (decide (l25 = ([] : (List (Tup Int))))) = true then do
        let l45 ← app g15 b15.2
        R.ok l45
      else do
        R.ok g15) ([] : (List (Nt (Thing × Thing × (List Int) × Unit)))) g3
  R.ok g15
/-! too_seldom -/
def too_seldom (x_pairs : (List (Nt (Thing × Thing × (List Int) × Unit)))) (x_strength : Int) (x_within : (List Int)) : R (Option (Nt (Thing × Thing × (List Int) × Unit))) := do
  let g4 ← foldR (fun (g4 : (Option (Nt (Thing × Thing × (List Int) × Unit)))) (b4 : (Nt (Thing × Thing × (List Int) × Unit))) => do
      let l11 ← filG (fun (b11 : Int) => do
          if (inB b11 x_within) = true then do
            R.ok (some b11)
          else
            R.ok none) b4.v.2.2.1
      if (decide ((l11.length : Int) < x_strength)) = true then do
        let j18 ← (do
          if g4.isNone = true then do
            R.ok true
          else do
            let t21 ← ofO g4
            R.ok (decide ((b4.v.2.2.1.length : Int) < (t21.v.2.2.1.length : Int))) : R (Bool))
        if j18 = true then do
          R.ok (some (Nt.mk (b4.v.1, b4.v.2.1, b4.v.2.2.1, ()) : (Nt (Thing × Thing × (List Int) × Unit))))
        else do
          R.ok g4
      else do
        R.ok g4) none x_pairs
  R.ok g4
/-! Search.__init__ -/
def Search_init (x_pairs : (List (Nt (Thing × Thing × (List Int) × Unit)))) (x_strength : Int) (x_many : Int) : R SearchF := do
  R.ok (x_pairs, x_strength, x_many, none, ())
/-! Search.tree_of -/
def Search_tree_of_b (rc : SearchF → (List Int) → (List Int) → R (To × SearchF)) (x_self : SearchF) (x_within : (List Int)) (x_without : (List Int)) : R (To × SearchF) := do
  let y8 ← too_seldom x_self.1 x_self.2.1 x_within
  if y8.isNone = true then do
    R.ok (To.no, ((x_self.1, x_self.2.1, x_self.2.2.1, (some (sortI x_within)), ()) : SearchF))
  else do
    let t15 ← ofO y8
    let g25 ← (do
      if (decide ((x_within.length : Int) < x_self.2.2.1)) = true then do
        let g28 ← foldR (fun (g28 : (List Int) × (List To) × SearchF) (b28 : Int) => do
            if ((!inB b28 x_within) && ((!inB b28 x_without) && g28.2.2.2.2.2.1.isNone)) = true then do
              let l42 ← extend x_within ([b28] : (List Int))
              let y47 ← rc g28.2.2 l42 g28.1
              let l49 ← app g28.2.1 y47.1
              let l54 ← extend g28.1 ([b28] : (List Int))
              R.ok (l54, l49, y47.2)
            else do
              R.ok (g28.1, g28.2.1, g28.2.2)) (x_without, ([] : (List To)), x_self) t15.v.2.2.1
        R.ok (g28.2.1, g28.2.2)
      else do
        R.ok (([] : (List To)), x_self) : R ((List To) × SearchF))
    R.ok ((To.n t15.v.1 t15.v.2.1 g25.1), g25.2)
def Search_tree_of : Nat → SearchF → (List Int) → (List Int) → R (To × SearchF)
  | 0, _, _, _ => R.bad
  | d + 1, x_self, x_within, x_without => Search_tree_of_b (Search_tree_of d) x_self x_within x_without
/-! fewest_looks -/
def fewest_looks (x_web : (Int × (Tup (Int × Int)))) (x_kind : Str) (x_strength : Int) : R Fw := do
  if (decide ((8 : Int) < x_web.1)) = true then do
    R.bad
  else do
    let y4 ← pairs_of x_web x_kind
    let r6 ← foldX (fun (g6 : Unit) (b6 : (Nt (Thing × Thing × (List Int) × Unit))) => do
        if (decide ((b6.v.2.2.1.length : Int) < x_strength)) = true then do
          R.ok (.inl (Fw.never b6.v.1 b6.v.2.1))
        else do
          R.ok (.inr (true, ()))) () y4
    match r6 with
    | .inl z => R.ok z
    | .inr g6 => do
      let y15 ← leanest_pairs y4
      let l18 ← rngI 0 (x_web.1 + (1 : Int))
      let r17 ← foldX (fun (g17 : (Option Tr)) (b17 : Int) => do
          let y20 ← Search_init y15 x_strength b17
          let y32 ← Search_tree_of 20 y20 ([] : (List Int)) ([] : (List Int))
          if (!y32.2.2.2.2.1.isNone) = true then do
            let t39 ← ofO y32.2.2.2.2.1
            R.ok (.inl (Fw.looks t39 g17))
          else do
            let t44 ← asTr y32.1
            R.ok (.inr (true, t44))) none l18
      match r17 with
      | .inl z => R.ok z
      | .inr g17 => do
        let l48 ← listRng 0 x_web.1
        R.ok (Fw.looks l48 g17)
/-! near_lists_floors -/
def near_lists_floors (x_web : (Int × (Tup (Int × Int)))) : R (List (List Int)) := do
  let l3 ← rngI 0 x_web.1
  let l4 ← mapG (fun (b4 : Int) => do
      let y6 ← neighbours_of x_web b4
      R.ok y6) l3
  R.ok l4
/-! far_by_floors -/
def far_by_floors (x_fars : (List Int)) (x_thing : Thing) : R Int := do
  if x_thing.isPl = true then do
    let t5 ← asPl x_thing
    let t6 ← getI x_fars t5
    R.ok t6
  else do
    let t7 ← asTi x_thing
    let t9 ← getI x_fars t7.1
    let t10 ← getI x_fars t7.2
    R.ok (min2 t9 t10)
/-! are_twins -/
def are_twins (x_near : (List (List Int))) (x_one : Int) (x_other : Int) : R Bool := do
  let t2 ← getI x_near x_one
  let l4 ← filG (fun (b4 : Int) => do
      if (!decide (b4 = x_other)) = true then do
        R.ok (some b4)
      else
        R.ok none) t2
  let t9 ← getI x_near x_other
  let l11 ← filG (fun (b11 : Int) => do
      if (!decide (b11 = x_one)) = true then do
        R.ok (some b11)
      else
        R.ok none) t9
  R.ok (decide (l4 = l11))
/-! twins_of -/
def twins_of (x_web : (Int × (Tup (Int × Int)))) : R (List (List Thing)) := do
  let y3 ← near_lists_floors x_web
  let l10 ← rngI 0 x_web.1
  let g9 ← foldR (fun (g9 : (List (List Thing)) × (List Int)) (b9 : Int) => do
      if (!inB b9 g9.2) = true then do
        let l14 ← rngI (b9 + (1 : Int)) x_web.1
        let l15 ← filG (fun (b15 : Int) => do
            let y17 ← are_twins y3 b9 b15
            if y17 = true then do
              R.ok (some b15)
            else
              R.ok none) l14
        let l20 ← extend ([b9] : (List Int)) l15
        let l25 ← extend g9.2 l20
        if (decide ((1 : Int) < (l20.length : Int))) = true then do
          let l29 ← app g9.1 (mkpl l20)
          R.ok (l29, l25)
        else do
          R.ok (g9.1, l25)
      else do
        R.ok (g9.1, g9.2)) (([] : (List (List Thing))), ([] : (List Int))) l10
  R.ok g9.1
/-! is_lot -/
def is_lot (x_web : (Int × (Tup (Int × Int)))) (x_kind : Str) (x_lot : (List Thing)) : R Bool := do
  let y4 ← things_of x_web x_kind
  let j7 ← (do
    if (decide ((x_lot.length : Int) < (2 : Int))) = true then do
      R.ok true
    else do
      let t10 ← setLen x_lot
      if (decide (t10 < (x_lot.length : Int))) = true then do
        R.ok true
      else do
        let l13 ← mapG (fun (b13 : Thing) => do
            R.ok (inB b13 y4)) x_lot
        R.ok (!(l13.all id)) : R (Bool))
  if j7 = true then do
    R.ok false
  else do
    if (decide ((x_lot.length : Int) = (2 : Int))) = true then do
      R.ok true
    else do
      let l22 ← mapG (fun (b22 : Thing) => do
          R.ok b22.isPl) x_lot
      if (!(l22.all id)) = true then do
        R.ok false
      else do
        let y30 ← near_lists_floors x_web
        let l35 ← mapG (fun (b35 : Thing) => do
            let t39 ← getI x_lot (0 : Int)
            let t41 ← asPl t39
            let t42 ← asPl b35
            let y43 ← are_twins y30 t41 t42
            R.ok y43) (cutL x_lot (some (1 : Int)) none)
        R.ok (l35.all id)
/-! lot_parters -/
def lot_parters (x_table : (List (List Int))) (x_lot : (List Thing)) : R (List Int) := do
  let l3 ← filG (fun (b3 : (Int × (List Int))) => do
      let l7 ← mapG (fun (b7 : Thing) => do
          let y11 ← far_by_floors b3.2 b7
          R.ok y11) x_lot
      let t13 ← setLenI l7
      if (decide ((1 : Int) < t13)) = true then do
        R.ok (some b3.1)
      else
        R.ok none) (enum x_table)
  R.ok l3
/-! floor_height -/
def floor_height (x_web : (Int × (Tup (Int × Int)))) (x_kind : Str) (x_lots : (List (List Thing))) : R (Option Int) := do
  let l4 ← rngI 0 x_web.1
  let l5 ← mapG (fun (b5 : Int) => do
      let y7 ← fars_from x_web b5
      R.ok y7) l4
  let r14 ← foldX (fun (g14 : Int × (List Int)) (b14 : (List Thing)) => do
      let y17 ← is_lot x_web x_kind b14
      if (!y17) = true then do
        R.ok (.inl none)
      else do
        let y21 ← lot_parters l5 b14
        let r20 ← foldX (fun (g20 : (List Int)) (b20 : Int) => do
            if (inB b20 g20) = true then do
              R.ok (.inl none)
            else do
              let l26 ← app g20 b20
              R.ok (.inr (true, l26))) g14.2 y21
        match r20 with
        | .inl z => R.ok (.inl z)
        | .inr g20 => do
          R.ok (.inr (true, (((g14.1 + (b14.length : Int)) - (1 : Int)), g20)))) ((0 : Int), ([] : (List Int))) x_lots
  match r14 with
  | .inl z => R.ok z
  | .inr g14 => do
    R.ok (some g14.1)
/-! _law_purse -/
def law_purse (x__law_script : Scr) (x__law_k : Int) : R (List Int) := do
  let g2 ← (do
    if (decide (x__law_k < (x__law_script.l.length : Int))) = true then do
      let t4 ← getI x__law_script.l x__law_k
      R.ok t4
    else do
      if (!decide (x__law_script = (⟨([] : (List Int))⟩ : Scr))) = true then do
        let t9 ← modI x__law_k (x__law_script.l.length : Int)
        let t10 ← getI x__law_script.l t9
        R.ok ((t10 % (1000003 : Int)) + ((104729 : Int) * x__law_k))
      else do
        R.ok (0 : Int) : R (Int))
  if (decide (((10 : Int) ^ ((18 : Int) : Int).toNat) ≤ g2)) = true then do
    R.ok ([g2] : (List Int))
  else do
    let t20 ← sqR (((g2 % (((10 : Int) ^ ((30 : Int) : Int).toNat) + (57 : Int))) + ((7919 : Int) * x__law_k)) + (101 : Int))
    let t24 ← mulW (((t20 % (((10 : Int) ^ ((30 : Int) : Int).toNat) + (57 : Int))) + ((977 : Int) * x__law_k)) + (5 : Int)) (618033988749894848204586834365 : Int)
    R.ok ([(t24 % (((10 : Int) ^ ((30 : Int) : Int).toNat) + (57 : Int)))] : (List Int))
/-! _law_take -/
def law_take (x__law_purse_here : (List Int)) (x__law_many : Int) : R (Int × (List Int)) := do
  let t2 ← getI x__law_purse_here (0 : Int)
  let t3 ← modI t2 x__law_many
  let t4 ← getI x__law_purse_here (0 : Int)
  let t5 ← divI t4 x__law_many
  let l6 ← setI x__law_purse_here (0 : Int) t5
  R.ok (t3, l6)
/-! _law_order -/
def law_order (x__law_purse_here : (List Int)) (x__law_many : Int) : R ((List Int) × (List Int)) := do
  let l5 ← rngI 0 x__law_many
  let g4 ← foldR (fun (g4 : (List Int) × (List Int)) (b4 : Int) => do
      let y7 ← law_take g4.2 (b4 + (1 : Int))
      let l8 ← insR g4.1 y7.1 b4
      R.ok (l8, y7.2)) (([] : (List Int)), x__law_purse_here) l5
  R.ok (g4.1, g4.2)
/-! _law_pairs -/
def law_pairs (x__law_purse_here : (List Int)) (x__law_many : Int) (x__law_way : Int) : R ((List (Int × Int)) × (List Int)) := do
  let l5 ← rngI (1 : Int) x__law_many
  let g4 ← foldR (fun (g4 : (List (Int × Int)) × (List Int)) (b4 : Int) => do
      let y7 ← law_take g4.2 b4
      let t10 ← getI ([(b4 - (1 : Int)), (b4 - (1 : Int)), (0 : Int), y7.1] : (List Int)) (min2 x__law_way (3 : Int))
      let l12 ← app g4.1 (t10, b4)
      if (decide (x__law_way = (3 : Int))) = true then do
        let l16 ← rngI 0 b4
        let l17 ← mapG (fun (b17 : Int) => do
            R.ok (b17, b4)) l16
        let l21 ← extend l12 l17
        R.ok (l21, y7.2)
      else do
        R.ok (l12, y7.2)) (([] : (List (Int × Int))), x__law_purse_here) l5
  let g26 ← (do
    if ((decide (x__law_way = (1 : Int))) && (decide ((2 : Int) < x__law_many))) = true then do
      let l33 ← app g4.1 ((0 : Int), (x__law_many - (1 : Int)))
      R.ok l33
    else do
      R.ok g4.1 : R ((List (Int × Int))))
  let g35 ← (do
    if (decide ((4 : Int) < x__law_way)) = true then do
      let y39 ← law_take g4.2 (7 : Int)
      let l40 ← rngI 0 y39.1
      let g37 ← foldR (fun (g37 : (List Int) × (List (Int × Int))) (b37 : Int) => do
          let y41 ← law_take g37.1 x__law_many
          let y42 ← law_take y41.2 x__law_many
          let l46 ← repR ([(y41.1, y42.1)] : (List (Int × Int))) (b2i (!decide (y41.1 = y42.1)))
          let l48 ← extend g37.2 l46
          R.ok (y42.2, l48)) (y39.2, g26) l40
      R.ok (g37.2, g37.1)
    else do
      R.ok (g26, g4.2) : R ((List (Int × Int)) × (List Int)))
  R.ok (g35.1, g35.2)
/-! _law_web -/
def law_web (x__law_purse_here : (List Int)) (x__law_least : Int) (x__law_most : Int) : R ((Int × (Tup (Int × Int))) × (List Int)) := do
  let y2 ← law_take x__law_purse_here ((x__law_most + (1 : Int)) - x__law_least)
  let y6 ← law_take y2.2 (9 : Int)
  let y7 ← law_pairs y6.2 (x__law_least + y2.1) y6.1
  let y10 ← law_order y7.2 (x__law_least + y2.1)
  let g13 ← foldR (fun (g13 : (List (Int × Int))) (b13 : (Int × Int)) => do
      let t16 ← getI y10.1 b13.1
      let t17 ← getI y10.1 b13.2
      if (!inB ((min2 t16 t17), (max2 t16 t17)) g13) = true then do
        let l21 ← app g13 ((min2 t16 t17), (max2 t16 t17))
        R.ok l21
      else do
        R.ok g13) ([] : (List (Int × Int))) y7.1
  R.ok (((x__law_least + y2.1), (Tup.mk (sortP g13))), y10.2)
/-! _law_table -/
def law_table (x__law_web_here : (Int × (Tup (Int × Int)))) : R (List (List Int)) := do
  let l6 ← rngI 0 x__law_web_here.1
  let g5 ← foldR (fun (g5 : (List (List Int))) (b5 : Int) => do
      let l9 ← repR ([(-(1 : Int))] : (List Int)) x__law_web_here.1
      let l12 ← setI l9 b5 (0 : Int)
      let l15 ← rngI 0 x__law_web_here.1
      let g14 ← foldR (fun (g14 : (List Int)) (b14 : Int) => do
          let g16 ← foldR (fun (g16 : (List Int)) (b16 : (Int × Int)) => do
              let g19 ← (do
                let j20 ← (do
                  let t21 ← getI g16 b16.1
                  if (decide (t21 = b14)) = true then do
                    let t23 ← getI g16 b16.2
                    R.ok (decide (t23 < (0 : Int)))
                  else do
                    R.ok false : R (Bool))
                if j20 = true then do
                  let l27 ← setI g16 b16.2 (b14 + (1 : Int))
                  R.ok l27
                else do
                  R.ok g16 : R ((List Int)))
              let j29 ← (do
                let t30 ← getI g19 b16.2
                if (decide (t30 = b14)) = true then do
                  let t32 ← getI g19 b16.1
                  R.ok (decide (t32 < (0 : Int)))
                else do
                  R.ok false : R (Bool))
              if j29 = true then do
                let l36 ← setI g19 b16.1 (b14 + (1 : Int))
                R.ok l36
              else do
                R.ok g19) g14 x__law_web_here.2.l
          R.ok g16) l12 l15
      let l39 ← app g5 g14
      R.ok l39) ([] : (List (List Int))) l6
  R.ok g5
/-! _law_things -/
def law_things (x__law_web_here : (Int × (Tup (Int × Int)))) (x__law_kind : Str) : R (List Thing) := do
  let l3 ← listRng 0 x__law_web_here.1
  let l5 ← repR l3 (b2i (!decide (x__law_kind = ("ties" : Str))))
  let g9 ← (do
    if (!decide (x__law_kind = ("places" : Str))) = true then do
      let l12 ← extend (mkpl l5) (mkti x__law_web_here.2.l)
      R.ok l12
    else do
      R.ok (mkpl l5) : R ((List Thing)))
  R.ok g9
/-! _law_far -/
def law_far (x__law_fars : (List (List Int))) (x__law_look : Int) (x__law_thing : Thing) : R Int := do
  if x__law_thing.isPl = true then do
    let t5 ← asPl x__law_thing
    let t6 ← getI x__law_fars x__law_look
    let t8 ← getI t6 t5
    R.ok t8
  else do
    let t9 ← asTi x__law_thing
    let l12 ← mapG (fun (b12 : Int) => do
        let t15 ← getI x__law_fars x__law_look
        let t17 ← getI t15 b12
        R.ok t17) ([t9.1, t9.2] : List Int)
    let t19 ← minL l12
    R.ok t19
/-! _law_parters -/
def law_parters (x__law_fars : (List (List Int))) (x__law_one : Thing) (x__law_other : Thing) : R (List Int) := do
  let l4 ← rngI 0 (x__law_fars.length : Int)
  let l5 ← filG (fun (b5 : Int) => do
      let y7 ← law_far x__law_fars b5 x__law_one
      let y8 ← law_far x__law_fars b5 x__law_other
      if (!decide (y7 = y8)) = true then do
        R.ok (some b5)
      else
        R.ok none) l4
  R.ok l5
/-! _law_parted -/
def law_parted (x__law_web_here : (Int × (Tup (Int × Int)))) (x__law_kind : Str) : R (List (Nt (Thing × Thing × (List Int) × Unit))) := do
  let y3 ← law_table x__law_web_here
  let y5 ← law_things x__law_web_here x__law_kind
  let l11 ← rngI 0 (y5.length : Int)
  let g10 ← foldR (fun (g10 : (List (Nt (Thing × Thing × (List Int) × Unit)))) (b10 : Int) => do
      let g12 ← foldR (fun (g12 : (List (Nt (Thing × Thing × (List Int) × Unit)))) (b12 : Thing) => do
          let t18 ← getI y5 b10
          let t20 ← getI y5 b10
          let y22 ← law_parters y3 t20 b12
          let l26 ← app g12 (Nt.mk (t18, b12, y22, ()) : (Nt (Thing × Thing × (List Int) × Unit)))
          R.ok l26) g10 (cutL y5 (some (b10 + (1 : Int))) none)
      R.ok g12) ([] : (List (Nt (Thing × Thing × (List Int) × Unit)))) l11
  R.ok g10
/-! _law_floor -/
def law_floor (x__law_web_here : (Int × (Tup (Int × Int)))) (x__law_kind : Str) (x__law_lots : (List (List Thing))) (x__law_purse_here : (List Int)) : R ((List (List Thing)) × (List Int)) := do
  let y8 ← law_parted x__law_web_here x__law_kind
  let l11 ← rngI 0 (min2 (12 : Int) (y8.length : Int))
  let g10 ← foldR (fun (g10 : (List (List Thing)) × (List (Nt (Thing × Thing × (List Int) × Unit))) × (List Int)) (b10 : Int) => do
      let y15 ← law_take g10.2.2 (g10.2.1.length : Int)
      let l13 ← popB g10.2.1 y15.1
      let l26 ← extend g10.1 ([([l13.1.v.1, l13.1.v.2.1] : (List Thing))] : (List (List Thing)))
      let y30 ← floor_height x__law_web_here x__law_kind l26
      if (!y30.isNone) = true then do
        R.ok (l26, l13.2, y15.2)
      else do
        R.ok (g10.1, l13.2, y15.2)) (x__law_lots, y8, x__law_purse_here) l11
  R.ok (g10.1, g10.2.2)
/-! law -/
def law (x__law_script : Scr) : R Bool := do
  let y2 ← law_purse x__law_script (0 : Int)
  let y7 ← law_take y2 (3 : Int)
  let t8 ← getI ([("places" : Str), ("ties" : Str), ("all" : Str)] : (List Str)) y7.1
  let y10 ← law_purse x__law_script (1 : Int)
  let y12 ← law_web y10 (1 : Int) (7 : Int)
  let y16 ← twins_of y12.1
  if (!decide (t8 = ("ties" : Str))) = true then do
    let y22 ← floor_height y12.1 t8 y16
    let l24 ← mapG (fun (b24 : (List Thing)) => do
        R.ok ((b24.length : Int) - (1 : Int))) y16
    if (!decide (y22 = (some (l24.sum)))) = true then do
      R.ok false
    else do
      let y32 ← law_floor y12.1 t8 y16 y7.2
      let y34 ← floor_height y12.1 t8 y32.1
      let y36 ← fewest_looks y12.1 t8 (1 : Int)
      let j38 ← (do
        if (!decide (y36.w = ("looks" : Str))) = true then do
          R.ok true
        else do
          if y34.isNone = true then do
            R.ok true
          else do
            let t43 ← asLk y36
            let t46 ← ofO y34
            R.ok (decide ((t43.1.length : Int) < t46)) : R (Bool))
      if j38 = true then do
        R.ok false
      else do
        let l51 ← rngI (2 : Int) (5 : Int)
        let r50 ← foldX (fun (g50 : Unit) (b50 : Int) => do
            let y52 ← law_purse x__law_script b50
            let l54 ← rngI 0 y12.1.1
            let l55 ← filStG (fun (g55 : (List Int)) (b55 : Int) => do
                let y58 ← law_take g55 (3 : Int)
                if (decide ((0 : Int) < y58.1)) = true then do
                  R.ok ((some b55), y58.2)
                else
                  R.ok (none, y58.2)) y52 l54
            let j68 ← (do
              let y69 ← is_known y12.1 l55.1 t8
              if y69 = true then do
                let t71 ← asLk y36
                R.ok (decide ((l55.1.length : Int) < (t71.1.length : Int)))
              else do
                R.ok false : R (Bool))
            if j68 = true then do
              R.ok (.inl false)
            else do
              R.ok (.inr (true, ()))) () l51
        match r50 with
        | .inl z => R.ok z
        | .inr g50 => do
          let t80 ← mulI y12.1.1 (y12.1.1 - (1 : Int))
          if ((decide (t8 = ("places" : Str))) && ((decide ((y12.1.2.l.length : Int) = (t80 / (2 : Int)))) && (decide ((1 : Int) < y12.1.1)))) = true then do
            let j89 ← (do
              let t90 ← ofO y34
              let t91 ← asLk y36
              if (decide (t90 = (t91.1.length : Int))) = true then do
                R.ok (decide ((t91.1.length : Int) = (y12.1.1 - (1 : Int))))
              else do
                R.ok false : R (Bool))
            R.ok j89
          else do
            R.ok true
  else do
    let y99 ← law_floor y12.1 t8 ([] : (List (List Thing))) y7.2
    let y101 ← floor_height y12.1 t8 y99.1
    let y103 ← fewest_looks y12.1 t8 (1 : Int)
    let j105 ← (do
      if (!decide (y103.w = ("looks" : Str))) = true then do
        R.ok true
      else do
        if y101.isNone = true then do
          R.ok true
        else do
          let t110 ← asLk y103
          let t113 ← ofO y101
          R.ok (decide ((t110.1.length : Int) < t113)) : R (Bool))
    if j105 = true then do
      R.ok false
    else do
      let l118 ← rngI (2 : Int) (5 : Int)
      let r117 ← foldX (fun (g117 : Unit) (b117 : Int) => do
          let y119 ← law_purse x__law_script b117
          let l121 ← rngI 0 y12.1.1
          let l122 ← filStG (fun (g122 : (List Int)) (b122 : Int) => do
              let y125 ← law_take g122 (3 : Int)
              if (decide ((0 : Int) < y125.1)) = true then do
                R.ok ((some b122), y125.2)
              else
                R.ok (none, y125.2)) y119 l121
          let j135 ← (do
            let y136 ← is_known y12.1 l122.1 t8
            if y136 = true then do
              let t138 ← asLk y103
              R.ok (decide ((l122.1.length : Int) < (t138.1.length : Int)))
            else do
              R.ok false : R (Bool))
          if j135 = true then do
            R.ok (.inl false)
          else do
            R.ok (.inr (true, ()))) () l118
      match r117 with
      | .inl z => R.ok z
      | .inr g117 => do
        let t147 ← mulI y12.1.1 (y12.1.1 - (1 : Int))
        if ((decide (t8 = ("places" : Str))) && ((decide ((y12.1.2.l.length : Int) = (t147 / (2 : Int)))) && (decide ((1 : Int) < y12.1.1)))) = true then do
          let j156 ← (do
            let t157 ← ofO y101
            let t158 ← asLk y103
            if (decide (t157 = (t158.1.length : Int))) = true then do
              R.ok (decide ((t158.1.length : Int) = (y12.1.1 - (1 : Int))))
            else do
              R.ok false : R (Bool))
          R.ok j156
        else do
          R.ok true
/-! ### what the top has written -/
structure Dn (K : Fg) (mg : Str → Option Value) (x y : Str) (st : Stmt) (ps : List Str) (f : Addr) (fd : FuncData) : Prop where
  fn : Fun K y y st f fd
  mg : mg x = some (.ref f)
  b : Binds K fd ps []
structure Dm (K : Fg) (C : Addr) (x y : Str) (st : Stmt) (ps : List Str) (f : Addr) (fd : FuncData) : Prop where
  fn : Fun K x y st f fd
  mt : Meth K C x f
  b : Binds K fd ps []
structure Tx (K : Fg) (mg : Str → Option Value) (A : Nat → Addr) (FD : Nat → FuncData) : Prop where
  d6 : Dn K mg "near_lists_webs" "near_lists" s_near_lists ["web"] (A 6) (FD 6)
  d8 : Dn K mg "fars_by" "fars_by" s_fars_by ["near", "place"] (A 8) (FD 8)
  d9 : Dn K mg "place_asked" "place_asked" s_place_asked ["web", "place"] (A 9) (FD 9)
  d10 : Dn K mg "neighbours_of" "neighbours_of" s_neighbours_of ["web", "place"] (A 10) (FD 10)
  d11 : Dn K mg "fars_from" "fars_from" s_fars_from ["web", "place"] (A 11) (FD 11)
  d13 : Dn K mg "table_of" "table_of" s_table_of ["web"] (A 13) (FD 13)
  d14 : Dn K mg "things_of" "things_of" s_things_of ["web", "kind"] (A 14) (FD 14)
  d15 : Dn K mg "looks_asked" "looks_asked" s_looks_asked ["web", "looks"] (A 15) (FD 15)
  d16 : Dn K mg "far_by_codes" "far_by" s_far_by ["table", "look", "thing"] (A 16) (FD 16)
  d18 : Dn K mg "by_code" "by_code" s_by_code ["web", "looks", "kind"] (A 18) (FD 18)
  d19 : Dn K mg "likes_by" "likes_by" s_likes_by ["web", "looks", "kind"] (A 19) (FD 19)
  d20 : Dn K mg "is_known" "is_known" s_is_known ["web", "looks", "kind"] (A 20) (FD 20)
  d23 : Dn K mg "fars_of" "fars_of" s_fars_of ["web"] (A 23) (FD 23)
  d24 : Dn K mg "far_in" "far_in" s_far_in ["fars", "thing"] (A 24) (FD 24)
  d25 : Dn K mg "parters_in" "parters_in" s_parters_in ["table", "one", "other"] (A 25) (FD 25)
  d26 : Dn K mg "pairs_of" "pairs_of" s_pairs_of ["web", "kind"] (A 26) (FD 26)
  d27 : Dn K mg "leanest_pairs" "leanest_pairs" s_leanest_pairs ["pairs"] (A 27) (FD 27)
  d28 : Dn K mg "too_seldom" "too_seldom" s_too_seldom ["pairs", "strength", "within"] (A 28) (FD 28)
  d30 : Dn K mg "fewest_looks" "fewest_looks" s_fewest_looks ["web", "kind", "strength"] (A 30) (FD 30)
  d32 : Dn K mg "near_lists_floors" "near_lists" s_near_lists_floors ["web"] (A 32) (FD 32)
  d34 : Dn K mg "far_by_floors" "far_by" s_far_by_floors ["fars", "thing"] (A 34) (FD 34)
  d36 : Dn K mg "are_twins" "are_twins" s_are_twins ["near", "one", "other"] (A 36) (FD 36)
  d37 : Dn K mg "twins_of" "twins_of" s_twins_of ["web"] (A 37) (FD 37)
  d38 : Dn K mg "is_lot" "is_lot" s_is_lot ["web", "kind", "lot"] (A 38) (FD 38)
  d39 : Dn K mg "lot_parters" "lot_parters" s_lot_parters ["table", "lot"] (A 39) (FD 39)
  d40 : Dn K mg "floor_height" "floor_height" s_floor_height ["web", "kind", "lots"] (A 40) (FD 40)
  d42 : Dn K mg "_law_purse" "_law_purse" s_law_purse ["_law_script", "_law_k"] (A 42) (FD 42)
  d43 : Dn K mg "_law_take" "_law_take" s_law_take ["_law_purse_here", "_law_many"] (A 43) (FD 43)
  d44 : Dn K mg "_law_order" "_law_order" s_law_order ["_law_purse_here", "_law_many"] (A 44) (FD 44)
  d45 : Dn K mg "_law_pairs" "_law_pairs" s_law_pairs ["_law_purse_here", "_law_many", "_law_way"] (A 45) (FD 45)
  d46 : Dn K mg "_law_web" "_law_web" s_law_web ["_law_purse_here", "_law_least", "_law_most"] (A 46) (FD 46)
  d47 : Dn K mg "_law_table" "_law_table" s_law_table ["_law_web_here"] (A 47) (FD 47)
  d48 : Dn K mg "_law_things" "_law_things" s_law_things ["_law_web_here", "_law_kind"] (A 48) (FD 48)
  d49 : Dn K mg "_law_far" "_law_far" s_law_far ["_law_fars", "_law_look", "_law_thing"] (A 49) (FD 49)
  d50 : Dn K mg "_law_parters" "_law_parters" s_law_parters ["_law_fars", "_law_one", "_law_other"] (A 50) (FD 50)
  d51 : Dn K mg "_law_parted" "_law_parted" s_law_parted ["_law_web_here", "_law_kind"] (A 51) (FD 51)
  d52 : Dn K mg "_law_floor" "_law_floor" s_law_floor ["_law_web_here", "_law_kind", "_law_lots", "_law_purse_here"] (A 52) (FD 52)
  d53 : Dn K mg "law" "law" s_law ["_law_script"] (A 53) (FD 53)
  d30000 : Dm K (A 29) "__init__" "Search.__init__" s_Search_init ["self", "pairs", "strength", "many"] (A 30000) (FD 30000)
  d30001 : Dm K (A 29) "tree_of" "Search.tree_of" s_Search_tree_of ["self", "within", "without"] (A 30001) (FD 30001)
  n_all : mg "all" = none
  n_enumerate : mg "enumerate" = none
  n_int : mg "int" = none
  n_isinstance : mg "isinstance" = none
  n_len : mg "len" = none
  n_list : mg "list" = none
  n_max : mg "max" = none
  n_min : mg "min" = none
  n_range : mg "range" = none
  n_set : mg "set" = none
  n_sorted : mg "sorted" = none
  n_sum : mg "sum" = none
  n_tuple : mg "tuple" = none
  c_MOST_SEARCHED : ∃ t, mg "MOST_SEARCHED" = some (.int 8 t)
  cl_Search : Cls K (A 29)
  nm_Search : Nm K "Search" (A 29)
  mg_Search : mg "Search" = some (.ref (A 29))
  mk_Search : Mk K (A 29) (A 30000)
  na_Search_pairs : NoAttr K (A 29) "pairs"
  na_Search_strength : NoAttr K (A 29) "strength"
  na_Search_many : NoAttr K (A 29) "many"
  na_Search_looks : NoAttr K (A 29) "looks"
section
variable {P : Program} {w : World} {K : PySem.W.Frag} {mg : Str → Option Value} {base : Heap} {A : Nat → Addr} {FD : Nat → FuncData}
def sp_near_lists (K : Fg) : Sp := fun vs H Q E => ∃ (F : Hp) (os : List (Addr × HO)) (v_web : V) (x_web : (Int × (Tup (Int × Int)))), vs = [v_web] ∧ W F H (os) ∧ rep K F v_web x_web ∧ Post (near_lists x_web) (Ret K F os Q) noX
theorem sc_near_lists : FnScope ["web", "found", "one", "other", "place", "row"] ["web"] (defScope s_near_lists) := ⟨rfl, rfl, rfl, by decide +kernel, rfl, by decide +kernel, by decide +kernel⟩
theorem ok_near_lists (T : Tx K mg A FD) : FnOk P w K mg base CX0 1 (A 6) (FD 6) ["web"] (sp_near_lists K) := by
  refine T.d6.fn.ok sc_near_lists (fun vs H Q E h => ?_) (fun cdv Ar outer s H vs Q E hr h => ?_)
  · obtain ⟨F, os, v_web, x_web, rfl, _⟩ := h
    rfl
  · obtain ⟨F0, os, v_web, x_web, rfl, w0, r_web, hm⟩ := h
    have sF : Same F0 F0 := Same.refl _
    obtain ⟨a1, u1, z1, rfl, q1, r1a, r1b⟩ := r_web
    obtain rfl : u1 = V.int x_web.1 := r1a
    obtain ⟨a2, vs2, rfl, q2, h2⟩ := r1b
    have hr_g : Sto K F0 [] [] ([] : List (List Int)) := Sto.nil
    replace w0 : W F0 _ ((nz [] [] ++ os)) := w0
    refine ⟨_, (pss_cons (ps_setLc (i := 1) (own := [("place", 4)]) (g := gName 4) (by rfl) sc_near_lists.nd rfl rfl (sw_true rfl rfl rfl (by decide +kernel)) (pi_range1 (by rfl) T.n_range (pa_cons (pe_ix (ix_tupK (K := K) rfl) (pv 0) pe_int (fun _ _ => rfl)) pa_nil)) (blkOk_by (own := [("place", 4)]) (N := ["web", "found", "one", "other", "place", "row"]) (sc := defScope s_near_lists) (by decide +kernel)) (fun _ _ _ _ _ => (pg_name (i := 4) sc_near_lists.nd rfl (Or.inl rfl))) (fun _ _ _ _ _ => pts_nil) (fun _ _ _ _ _ => (pe_lst pa_nil))) (pss_cons (ps_for PassesOwn.never rfl (pi_tupK (K := K) rfl (pe_ix (ix_tupK (K := K) rfl) (pv 0) pe_int (fun _ _ => rfl))) (pg_k (K := K) (t := fun K => gTup K 2 _) rfl (pg_tup (n := 2) rfl (pgs_cons (pg_name (i := 2) sc_near_lists.nd rfl (Or.inl rfl)) (pgs_cons (pg_name (i := 3) sc_near_lists.nd rfl (Or.inl rfl)) pgs_nil)))) (pss_cons (ps_expr (pe_bm PySem.F.plainAttrs_list PySem.F.slot_list_append PySem.F.type_list_append mt_append (pe_ix (ix_listK (K := K) rfl) (pv 1) (pv 2) (fun _ _ => rfl)) (pa_cons (pv 3) pa_nil))) (pss_one (ps_expr (pe_bm PySem.F.plainAttrs_list PySem.F.slot_list_append PySem.F.type_list_append mt_append (pe_ix (ix_listK (K := K) rfl) (pv 1) (pv 3) (fun _ _ => rfl)) (pa_cons (pv 2) pa_nil)))))) (pss_one (ps_ret (pe_lc (own := [("row", 5)]) (g := gName 5) (by rfl) sc_near_lists.nd (pi_listK (K := K) rfl (pv 1)) (blkOk_by (own := [("row", 5)]) (N := ["web", "found", "one", "other", "place", "row"]) (sc := defScope s_near_lists) (by decide +kernel)) (fun _ _ _ _ _ => (pg_name (i := 5) sc_near_lists.nd rfl (Or.inl rfl))) (fun _ _ _ _ _ => pts_nil) (fun _ _ _ _ _ => (pe_callB (cr_sortI (K := K) rfl) (by rfl) T.n_sorted (by decide +kernel) (pa_cons (pv 5) pa_nil)))))))), ?_⟩
    obtain ⟨c4, hm⟩ := pb_rng hm
    refine ⟨_, rfl, _, _, _, _, rfl, rfl, SqT.of (w0.same _ _ q1), rfl, _, rfl, c4.2.2.1, c4.2.2.2, fun D5 nD5 => ?_⟩
    refine lcGM (tw_rng0 (j := x_web.1)) hm (fun (g5 : (List (List Int))) F' os' us ys => ∃ (as5_0 : List Addr) (vs5_0 : List (List V)), os' = (nz as5_0 vs5_0 ++ os) ∧ [] <+: as5_0 ∧ Sto K F' as5_0 vs5_0 g5 ∧ A2 (RX as5_0) us ys) w0 ⟨_, _, rfl, pfx_refl, hr_g, .nil⟩ nD5 (fun _ _ _ _ _ o => by obtain ⟨_, _, rfl, _, _, h⟩ := o; exact h.length) (fun g F' H' os' acc ys s w o => by obtain ⟨_, _, rfl, _, _, _⟩ := o; exact trivial) ?_ ?_
    · -- one turn
      intro b5 g5 x5 F5 H5 H5' os5 acc5 ya5 N5 P5 s5 w5 o5 y5 hN5 hm
      obtain ⟨as5_0, vs5_0, rfl, p5_0, h5_0, ha5⟩ := o5
      replace q1 := s5 _ _ q1
      replace q2 := s5 _ _ q2
      replace h2 := A2.mono s5 h2
      replace sF := sF.trans s5
      obtain ⟨rfl, rfl⟩ := y5
      have h7 : A2 (rep K F5) [] ([] : (List Int)) := .nil
      refine ⟨rfl, (by show 0 ≤ sizeLine; decide), fun p8 n8 => ?_⟩
      have w8 : W F5 _ ((p8, .lst []) :: (D5, .lst acc5) :: (nz as5_0 vs5_0 ++ os)) := w5.new n8
      obtain ⟨j9, st9, ej9, es9, hm⟩ := pn_newS hm
      have w9 : W F5 _ ((D5, .lst acc5) :: (nz (as5_0 ++ [p8]) (vs5_0 ++ [[]]) ++ os)) := w8.nadd (pre := [_]) h5_0.len
      have q9 : (as5_0 ++ [p8])[j9]? = some p8 := IQ.new (h5_0.len2.trans ej9.symm)
      have h9 : Sto K F5 (as5_0 ++ [p8]) (vs5_0 ++ [[]]) st9 := es9 ▸ Sto.snoc (p := p8) h5_0 h7
      replace ha5 := A2.imp (fun _ _ => RX.mono (pfx_snoc (p := p8))) ha5
      exact hN5 _ _ (post_ok hm) _ _ _ _ w9 (Same.refl _) ⟨_, _, rfl, (pfx_trans p5_0 (pfx_snoc (p := p8))), h9, A2.snoc ha5 ⟨_, rfl, q9⟩⟩
    intro g5 us5 F5 H5 os5 ys5 s5 w5 o5 hm
    obtain ⟨as5_0, vs5_0, rfl, p5_0, h5_0, gg5⟩ := o5
    replace q1 := s5 _ _ q1
    replace q2 := s5 _ _ q2
    replace h2 := A2.mono s5 h2
    replace sF := sF.trans s5
    refine ⟨_, rfl, _, _, _, _, rfl, rfl, SqT.of (w5.same _ _ q1), rfl, _, rfl, ⟨_, SqT.of (w5.same _ _ q2)⟩, ?_⟩
    refine forS (tw_tup (a := a2) h2) hm (fun (g11 : (List (List Int))) σ H' => ∃ (F' : Hp) (as11_0 : List Addr) (vs11_0 : List (List V)) (o11_2 : Option V) (o11_3 : Option V), σ = [some (.ref a1), some (.ref D5), o11_2, o11_3, none, none] ∧ Same F5 F' ∧ W F' H' ((D5, .lst us5) :: (nz as11_0 vs11_0 ++ os)) ∧ as5_0 <+: as11_0 ∧ Sto K F' as11_0 vs11_0 g11) ⟨_, _, _, _, _, rfl, Same.refl _, w5, pfx_refl, h5_0⟩ (fun g σ H' hI => by obtain ⟨F', _, _, _, _, _, s, w, _⟩ := hI; exact SqT.of (w.same _ _ (s _ _ q2))) ?_ ?_
    · -- a turn
      intro b11 g11 x11 σ11 H11 H11' N11 P11 hI hy hN11 hm
      obtain ⟨F11, as11_0, vs11_0, o11_2, o11_3, rfl, s11, w11, p11_0, h11_0⟩ := hI
      replace q1 := s11 _ _ q1
      replace h2 := A2.mono s11 h2
      replace q2 := s11 _ _ q2
      replace sF := sF.trans s11
      replace gg5 := A2.imp (fun _ _ => RX.mono p11_0) gg5
      obtain ⟨rfl, r12⟩ := hy
      replace r12 := Rep.mono s11 r12
      obtain ⟨a13, u13, z13, rfl, q13, r13a, r13b⟩ := r12
      obtain rfl : u13 = V.int b11.1 := r13a
      obtain rfl : z13 = V.int b11.2 := r13b
      obtain ⟨t14, e14, hm⟩ := pb_get hm
      obtain ⟨u14, f14, r14⟩ := A2.at gg5 e14
      obtain ⟨a15, rfl, q15⟩ := r14
      obtain ⟨x16, e16, hm⟩ := pb_getS hm
      obtain ⟨vs16, i16, h16⟩ := Sto.getq h11_0 e16 q15
      obtain ⟨l17, z17, e17, hm⟩ := pn_app hm
      obtain ⟨st17, es17, hm⟩ := pn_setS hm
      refine ⟨_, _, rfl, SqT.of (w11.same _ _ q13), rfl, _, _, rfl, _, _, rfl, rfl, _, rfl, _, rfl, _, _, _, _, rfl, rfl, SqL.of (w11.get (pre := [])), f14, .inl ⟨rfl, _, SqL.of (W.nget (pre := [_]) w11 q15 i16)⟩, _, rfl, _, _, _, rfl, rfl, (W.nget (pre := [_]) w11 q15 i16), (A2.lt h16 z17), ?_⟩
      have h17 : Sto K F11 as11_0 (vs11_0.set t14 (vs16 ++ [(.int b11.2)])) st17 := es17 ▸ Sto.set h11_0 (e17 ▸ A2.snoc h16 rep_i)
      have w17 : W F11 _ ((D5, .lst us5) :: (nz as11_0 (vs11_0.set t14 (vs16 ++ [(.int b11.2)])) ++ os)) := w11.nset (pre := [_]) (vs16 ++ [(.int b11.2)]) q15 i16
      obtain ⟨t18, e18, hm⟩ := pb_get hm
      obtain ⟨u18, f18, r18⟩ := A2.at gg5 e18
      obtain ⟨a19, rfl, q19⟩ := r18
      obtain ⟨x20, e20, hm⟩ := pb_getS hm
      obtain ⟨vs20, i20, h20⟩ := Sto.getq h17 e20 q19
      obtain ⟨l21, z21, e21, hm⟩ := pn_app hm
      obtain ⟨st21, es21, hm⟩ := pn_setS hm
      refine ⟨_, rfl, _, rfl, _, _, _, _, rfl, rfl, SqL.of (w17.get (pre := [])), f18, .inl ⟨rfl, _, SqL.of (W.nget (pre := [_]) w17 q19 i20)⟩, _, rfl, _, _, _, rfl, rfl, (W.nget (pre := [_]) w17 q19 i20), (A2.lt h20 z21), ?_⟩
      have h21 : Sto K F11 as11_0 ((vs11_0.set t14 (vs16 ++ [(.int b11.2)])).set t18 (vs20 ++ [(.int b11.1)])) st21 := es21 ▸ Sto.set h17 (e21 ▸ A2.snoc h20 rep_i)
      have w21 : W F11 _ ((D5, .lst us5) :: (nz as11_0 ((vs11_0.set t14 (vs16 ++ [(.int b11.2)])).set t18 (vs20 ++ [(.int b11.1)])) ++ os)) := w17.nset (pre := [_]) (vs20 ++ [(.int b11.1)]) q19 i20
      exact hN11 _ (post_ok hm) _ _ ⟨_, _, _, _, _, rfl, s11, w21, p11_0, h21⟩
    intro g11 σ11 H11 hI hm
    obtain ⟨F11, as11_0, vs11_0, o11_2, o11_3, rfl, s11, w11, p11_0, h11_0⟩ := hI
    replace q1 := s11 _ _ q1
    replace h2 := A2.mono s11 h2
    replace q2 := s11 _ _ q2
    replace sF := sF.trans s11
    replace gg5 := A2.imp (fun _ _ => RX.mono p11_0) gg5
    refine ⟨_, rfl, _, rfl, ⟨_, SqL.of (w11.get (pre := []))⟩, fun D22 nD22 => ?_⟩
    refine lcM (K := K) (tw_listR (a := D5) gg5) hm w11 nD22 (fun F' H' acc s w => SqL.of (w.get (pre := [_]))) ?_ ?_
    · -- one turn
      intro b22 x22 F22 H22 H22' acc22 N22 P22 s22 w22 y22 hN22 hm
      replace q1 := s22 _ _ q1
      replace h2 := A2.mono s22 h2
      replace q2 := s22 _ _ q2
      replace h11_0 := Sto.mono s22 h11_0
      replace sF := sF.trans s22
      obtain ⟨rfl, r24⟩ := y22
      obtain ⟨a25, rfl, q25⟩ := r24
      obtain ⟨x26, e26, hm⟩ := pb_getS hm
      obtain ⟨vs26, i26, h26⟩ := Sto.getq h11_0 e26 q25
      have h27 : A2 (rep K F22) ((sortI x26).map V.int) (sortI x26) := A2.of_ints
      refine ⟨rfl, _, rfl, _, _, rfl, ints_q (SqL.of (W.nget (pre := [_, _]) w22 q25 i26)) h26, fun p28 n28 => ?_⟩
      have w28 : W F22 _ ((p28, .lst ((sortI x26).map V.int)) :: (D22, .lst acc22) :: (D5, .lst us5) :: (nz as11_0 vs11_0 ++ os)) := w22.new n28
      obtain ⟨F29, s29, w29, q29⟩ : ∃ F', Same F22 F' ∧ W F' _ ((D22, .lst acc22) :: (D5, .lst us5) :: (nz as11_0 vs11_0 ++ os)) ∧ F' p28 = some (.lst ((sortI x26).map V.int)) := w28.freezeE (pre := [])
      replace q1 := s29 _ _ q1
      replace h2 := A2.mono s29 h2
      replace q2 := s29 _ _ q2
      replace h11_0 := Sto.mono s29 h11_0
      replace h26 := A2.mono s29 h26
      replace h27 := A2.mono s29 h27
      replace sF := sF.trans s29
      exact hN22 _ (post_ok hm) _ _ _ w29 s29 (rep_lst q29 h27)
    intro us22 F22 H22 ys22 s22 w22 gg22 hm
    replace q1 := s22 _ _ q1
    replace h2 := A2.mono s22 h2
    replace q2 := s22 _ _ q2
    replace h11_0 := Sto.mono s22 h11_0
    replace sF := sF.trans s22
    obtain ⟨F31, s31, w31, q31⟩ : ∃ F', Same F22 F' ∧ W F' _ ((D5, .lst us5) :: (nz as11_0 vs11_0 ++ os)) ∧ F' D22 = some (.lst us22) := w22.freezeE (pre := [])
    replace q1 := s31 _ _ q1
    replace h2 := A2.mono s31 h2
    replace q2 := s31 _ _ q2
    replace h11_0 := Sto.mono s31 h11_0
    replace gg22 := A2.mono s31 gg22
    replace sF := sF.trans s31
    have w32 : W F31 _ ((nz as11_0 vs11_0 ++ os)) := w31.drop (pre := [])
    have w33 : W F31 _ (os) := w32.dropL (pre := [])
    exact (post_ok hm) _ _ _ w33 sF (rep_lst q31 gg22)
def sp_fars_by (K : Fg) : Sp := fun vs H Q E => ∃ (F : Hp) (os : List (Addr × HO)) (v_near : V) (x_near : (List (List Int))) (x_place : Int), vs = [v_near, .int x_place] ∧ W F H (os) ∧ rep K F v_near x_near ∧ Post (fars_by x_near x_place) (RetL K F os Q) noX
theorem sc_fars_by : FnScope ["near", "place", "found", "line", "at", "other"] ["near", "place"] (defScope s_fars_by) := ⟨rfl, rfl, rfl, by decide +kernel, rfl, by decide +kernel, by decide +kernel⟩
theorem ok_fars_by (T : Tx K mg A FD) : FnOk P w K mg base CX0 1 (A 8) (FD 8) ["near", "place"] (sp_fars_by K) := by
  refine T.d8.fn.ok sc_fars_by (fun vs H Q E h => ?_) (fun cdv Ar outer s H vs Q E hr h => ?_)
  · obtain ⟨F, os, v_near, x_near, x_place, rfl, _⟩ := h
    rfl
  · obtain ⟨F0, os, v_near, x_near, x_place, rfl, w0, r_near, hm⟩ := h
    have sF : Same F0 F0 := Same.refl _
    obtain ⟨a1, vs1, rfl, q1, h1⟩ := r_near
    refine ⟨_, (pss_cons (ps_set (i := 2) sc_fars_by.nd rfl (Or.inl rfl) (pe_op op_rep (pe_lst (pa_cons pe_non pa_nil)) (pe_callB (call_lenN (K := K) rfl) (by rfl) T.n_len (by decide +kernel) (pa_cons (pv 0) pa_nil)))) (pss_cons (ps_asg pe_int (pg_sub (pv 2) (pv 1) set_list)) (pss_cons (ps_set (i := 3) sc_fars_by.nd rfl (Or.inl rfl) (pe_lst (pa_cons (pv 1) pa_nil))) (pss_cons (ps_set (i := 4) sc_fars_by.nd rfl (Or.inl rfl) pe_int1) (pss_cons (ps_while PassesOwn.never (pt_cmp (pc_lt (pv 4) (pe_callB (call_lenN (K := K) rfl) (by rfl) T.n_len (by decide +kernel) (pa_cons (pv 3) pa_nil)))) (pss_cons (ps_for PassesOwn.never rfl (pi_listK (K := K) rfl (pe_ix (ix_listK (K := K) rfl) (pv 0) (pe_ix (ix_listK (K := K) rfl) (pv 3) (pv 4) (fun _ _ => rfl)) (fun _ _ => rfl))) (pg_name (i := 5) sc_fars_by.nd rfl (Or.inl rfl)) (pss_one (ps_if (pt_cmpR op_isN2 (pe_ix (ix_listK (K := K) rfl) (pv 2) (pv 5) (fun _ _ => rfl)) pe_non (nomark _)) (pss_cons (ps_asg (pe_op op_add (pe_ix (ix_listK (K := K) rfl) (pv 2) (pe_ix (ix_listK (K := K) rfl) (pv 3) (pv 4) (fun _ _ => rfl)) (fun _ _ => rfl)) pe_int) (pg_sub (pv 2) (pv 5) set_list)) (pss_one (ps_expr (pe_bm PySem.F.plainAttrs_list PySem.F.slot_list_append PySem.F.type_list_append mt_append (pv 3) (pa_cons (pv 5) pa_nil))))) pss_nil))) (pss_one (ps_set (i := 4) sc_fars_by.nd rfl (Or.inl rfl) (pe_op op_add (pv 4) pe_int))))) (pss_one (ps_ret (pv 2)))))))), ?_⟩
    have h2 : A2 (rep K F0) [.non] ([none] : (List (Option Int))) := .cons rep_none (.nil)
    refine ⟨(by show 1 ≤ sizeLine; decide), fun p3 n3 => ?_⟩
    have w3 : W F0 _ ((p3, .lst [.non]) :: os) := w0.new n3
    obtain ⟨l4, z4, e4, hm⟩ := pb_rep hm
    have h4 : A2 (rep K F0) (List.replicate (x_near.length : Int).toNat [.non]).flatten l4 := e4 ▸ A2.flat h2 _
    refine ⟨_, rfl, _, _, _, rfl, .inl (SqL.of (w3.same _ _ q1)), h1.length, _, _, _, rfl, rfl, (w3.get (pre := [])), z4.1, z4.2.1, (by rw [h2.length]; exact z4.2.2), fun p5 n5 => ?_⟩
    have w5 : W F0 _ ((p5, .lst (List.replicate (x_near.length : Int).toNat [.non]).flatten) :: (p3, .lst [.non]) :: os) := w3.new n5
    have w6 : W F0 _ ((p5, .lst (List.replicate (x_near.length : Int).toNat [.non]).flatten) :: os) := w5.drop (pre := [_])
    obtain ⟨j7, l7, z7, e7, hm⟩ := pn_set hm
    refine ⟨_, rfl, _, rfl, _, _, _, _, rfl, rfl, (w6.get (pre := [])), (A2.ix h4 z7), ?_⟩
    have h7 : A2 (rep K F0) ((List.replicate (x_near.length : Int).toNat [.non]).flatten.set j7 (V.int 0)) l7 := e7 ▸ A2.set (rep_some rep_i) j7 h4
    have w8 : W F0 _ ((p5, .lst ((List.replicate (x_near.length : Int).toNat [.non]).flatten.set j7 (V.int 0))) :: os) := w6.set (pre := [])
    have h9 : A2 (rep K F0) [(.int x_place)] ([x_place] : (List Int)) := .cons rep_i (.nil)
    refine ⟨_, rfl, (by show 1 ≤ sizeLine; decide), fun p10 n10 => ?_⟩
    have w10 : W F0 _ ((p10, .lst [(.int x_place)]) :: (p5, .lst ((List.replicate (x_near.length : Int).toNat [.non]).flatten.set j7 (V.int 0))) :: os) := w8.new n10
    refine ⟨trivial, ?_⟩
    refine stepN ?_
    try dsimp only
    refine stepSeq (whileS hm (fun (g11 : Int × (List Int) × (List (Option Int))) σ H' => ∃ (F' : Hp) (vs11_0 : List V) (vs11_1 : List V) (o11_5 : Option V), σ = [some (.ref a1), some (.int x_place), some (.ref p5), some (.ref p10), some (.int g11.1), o11_5] ∧ Same F0 F' ∧ W F' H' ((p10, .lst vs11_0) :: (p5, .lst vs11_1) :: os) ∧ A2 (rep K F') vs11_0 g11.2.1 ∧ A2 (rep K F') vs11_1 g11.2.2) ⟨_, _, _, _, rfl, Same.refl _, w10, h9, h7⟩ ?_ ?_ ?_)
    · intro g11 σ11 H11 N11 P11 hI hN11 hm
      obtain ⟨F11, vs11_0, vs11_1, o11_5, rfl, s11, w11, h11_0, h11_1⟩ := hI
      replace h1 := A2.mono s11 h1
      replace q1 := s11 _ _ q1
      replace sF := sF.trans s11
      exact ⟨_, rfl, _, rfl, _, _, _, rfl, .inl (SqL.of (w11.get (pre := []))), h11_0.length, _, _, rfl, rfl, _, rfl, hN11 _ (post_ok hm) _ ⟨_, _, _, _, rfl, s11, w11, h11_0, h11_1⟩⟩
    · intro g11 σ11 H11 N11 P11 hI hN11 hm
      obtain ⟨F11, vs11_0, vs11_1, o11_5, rfl, s11, w11, h11_0, h11_1⟩ := hI
      replace h1 := A2.mono s11 h1
      replace q1 := s11 _ _ q1
      replace sF := sF.trans s11
      obtain ⟨t13, e13, hm⟩ := pb_get hm
      obtain ⟨u13, f13, r13⟩ := A2.at h11_0 e13
      obtain rfl : u13 = V.int t13 := r13
      obtain ⟨t14, e14, hm⟩ := pb_get hm
      obtain ⟨u14, f14, r14⟩ := A2.at h1 e14
      obtain ⟨a15, vs15, rfl, q15, h15⟩ := r14
      refine ⟨_, rfl, _, rfl, _, rfl, _, _, _, _, rfl, rfl, SqL.of (w11.get (pre := [])), f13, _, _, _, _, rfl, rfl, SqL.of (w11.same _ _ q1), f14, _, rfl, ⟨_, SqL.of (w11.same _ _ q15)⟩, ?_⟩
      refine forS (tw_list (a := a15) h15) hm (fun (g12 : (List Int) × (List (Option Int))) σ H' => ∃ (F' : Hp) (vs12_0 : List V) (vs12_1 : List V) (o12_5 : Option V), σ = [some (.ref a1), some (.int x_place), some (.ref p5), some (.ref p10), some (.int g11.1), o12_5] ∧ Same F11 F' ∧ W F' H' ((p10, .lst vs12_0) :: (p5, .lst vs12_1) :: os) ∧ A2 (rep K F') vs12_0 g12.1 ∧ A2 (rep K F') vs12_1 g12.2) ⟨_, _, _, _, rfl, Same.refl _, w11, h11_0, h11_1⟩ (fun g σ H' hI => by obtain ⟨F', _, _, _, _, s, w, _⟩ := hI; exact SqL.of (w.same _ _ (s _ _ q15))) ?_ ?_
      · -- a turn
        intro b12 g12 x12 σ12 H12 H12' N12 P12 hI hy hN12 hm
        obtain ⟨F12, vs12_0, vs12_1, o12_5, rfl, s12, w12, h12_0, h12_1⟩ := hI
        replace h1 := A2.mono s12 h1
        replace q1 := s12 _ _ q1
        replace q15 := s12 _ _ q15
        replace h15 := A2.mono s12 h15
        replace sF := sF.trans s12
        obtain ⟨rfl, r16⟩ := hy
        obtain rfl : x12 = V.int b12 := r16
        obtain ⟨t17, e17, hm⟩ := pb_get hm
        obtain ⟨u17, f17, r17⟩ := A2.at h12_1 e17
        refine ⟨_, rfl, _, rfl, _, _, _, _, rfl, rfl, SqL.of (w12.get (pre := [_])), f17, rfl, _, isN_eq r17, _, rfl, ?_⟩
        refine post_ite hm (fun k19 hm => ?_) (fun k19 hm => ?_)
        · skip
          obtain ⟨t20, e20, hm⟩ := pb_get hm
          obtain ⟨u20, f20, r20⟩ := A2.at h12_0 e20
          obtain rfl : u20 = V.int t20 := r20
          obtain ⟨t21, e21, hm⟩ := pb_get hm
          obtain ⟨u21, f21, r21⟩ := A2.at h12_1 e21
          obtain ⟨t23, e23, hm⟩ := pb_ofO hm
          have r23 : rep K F12 u21 (some t23) := e23 ▸ r21
          replace r23 : u21 = V.int t23 := r23
          subst r23
          obtain ⟨j24, l24, z24, e24, hm⟩ := pn_set hm
          refine ⟨_, rfl, _, rfl, _, rfl, _, _, _, _, rfl, rfl, SqL.of (w12.get (pre := [])), f20, _, _, _, _, rfl, rfl, SqL.of (w12.get (pre := [_])), f21, _, _, rfl, rfl, _, rfl, _, rfl, _, _, _, _, rfl, rfl, (w12.get (pre := [_])), (A2.ix h12_1 z24), ?_⟩
          have h24 : A2 (rep K F12) (vs12_1.set j24 (V.int (t23 + (1 : Int)))) l24 := e24 ▸ A2.set (rep_some rep_i) j24 h12_1
          have w25 : W F12 _ ((p10, .lst vs12_0) :: (p5, .lst (vs12_1.set j24 (V.int (t23 + (1 : Int))))) :: os) := w12.set (pre := [_])
          obtain ⟨l26, z26, e26, hm⟩ := pn_app hm
          refine ⟨_, rfl, .inl ⟨rfl, _, SqL.of (w25.get (pre := []))⟩, _, rfl, _, _, _, rfl, rfl, (w25.get (pre := [])), (A2.lt h12_0 z26), ?_⟩
          have h26 : A2 (rep K F12) (vs12_0 ++ [(V.int b12)]) l26 := e26 ▸ A2.snoc h12_0 rep_i
          have w27 : W F12 _ ((p10, .lst (vs12_0 ++ [(V.int b12)])) :: (p5, .lst (vs12_1.set j24 (V.int (t23 + (1 : Int))))) :: os) := w25.set (pre := [])
          exact hN12 _ (post_ok hm) _ _ ⟨_, _, _, _, rfl, s12, w27, h26, h24⟩
        · skip
          exact hN12 _ (post_ok hm) _ _ ⟨_, _, _, _, rfl, s12, w12, h12_0, h12_1⟩
      intro g12 σ12 H12 hI hm
      obtain ⟨F12, vs12_0, vs12_1, o12_5, rfl, s12, w12, h12_0, h12_1⟩ := hI
      replace h1 := A2.mono s12 h1
      replace q1 := s12 _ _ q1
      replace q15 := s12 _ _ q15
      replace h15 := A2.mono s12 h15
      replace sF := sF.trans s12
      exact ⟨_, rfl, _, _, rfl, rfl, hN11 _ (post_ok hm) _ _ ⟨_, _, _, _, rfl, (s11.trans s12), w12, h12_0, h12_1⟩⟩
    intro g11 σ11 H11 hI hm
    obtain ⟨F11, vs11_0, vs11_1, o11_5, rfl, s11, w11, h11_0, h11_1⟩ := hI
    replace h1 := A2.mono s11 h1
    replace q1 := s11 _ _ q1
    replace sF := sF.trans s11
    have w28 : W F11 _ ((p5, .lst vs11_1) :: os) := w11.drop (pre := [])
    exact ⟨_, rfl, (post_ok hm) _ _ _ _ w28 sF h11_1⟩
def sp_place_asked (K : Fg) : Sp := fun vs H Q E => ∃ (F : Hp) (os : List (Addr × HO)) (v_web : V) (x_web : (Int × (Tup (Int × Int)))) (x_place : Int), vs = [v_web, .int x_place] ∧ W F H (os) ∧ rep K F v_web x_web ∧ Post (place_asked x_web x_place) (Ret K F os Q) noX
theorem sc_place_asked : FnScope ["web", "place"] ["web", "place"] (defScope s_place_asked) := ⟨rfl, rfl, rfl, by decide +kernel, rfl, by decide +kernel, by decide +kernel⟩
theorem ok_place_asked (T : Tx K mg A FD) : FnOk P w K mg base CX0 1 (A 9) (FD 9) ["web", "place"] (sp_place_asked K) := by
  refine T.d9.fn.ok sc_place_asked (fun vs H Q E h => ?_) (fun cdv Ar outer s H vs Q E hr h => ?_)
  · obtain ⟨F, os, v_web, x_web, x_place, rfl, _⟩ := h
    rfl
  · obtain ⟨F0, os, v_web, x_web, x_place, rfl, w0, r_web, hm⟩ := h
    have sF : Same F0 F0 := Same.refl _
    obtain ⟨a1, u1, z1, rfl, q1, r1a, r1b⟩ := r_web
    obtain rfl : u1 = V.int x_web.1 := r1a
    obtain ⟨a2, vs2, rfl, q2, h2⟩ := r1b
    refine ⟨_, (pss_one (ps_if (pt_not (pt_chain op_le op_lt pe_int (pv 1) (pe_ix (ix_tupK (K := K) rfl) (pv 0) pe_int (fun _ _ => rfl)))) (pss_one ps_absurd) pss_nil)), ?_⟩
    try dsimp only
    refine stepIf ?_
    refine stepNot ?_
    refine cutT (fun c H' => c = ((decide ((0 : Int) ≤ x_place)) && (decide (x_place < x_web.1))) ∧ ∃ F', Same F0 F' ∧ W F' H' (os)) (fun Q3 q3 => ?_) (fun c3 H3 hc3 => ?_)
    · -- the ways
      refine ⟨_, rfl, _, _, rfl, rfl, _, rfl, ?_⟩
      refine ifB (fun k4 => ?_) (fun k4 => ?_)
      · skip
        exact ⟨_, rfl, _, _, _, _, rfl, rfl, SqT.of (w0.same _ _ q1), rfl, _, _, rfl, rfl, _, rfl, q3 _ _ ⟨(by first | rfl | exact absurd k4 (by decide) | (simp [k4]; done) | ((try simp only [Bool.not_eq_true] at k4); simp only [k4, Bool.true_or, Bool.false_or, Bool.or_false, Bool.or_true, Bool.true_and, Bool.false_and, Bool.and_true, Bool.and_false])), _, Same.refl _, w0⟩⟩
      · skip
        exact ⟨_, rfl, q3 _ _ ⟨(by first | rfl | exact absurd k4 (by decide) | (simp [k4]; done) | ((try simp only [Bool.not_eq_true] at k4); simp only [k4, Bool.true_or, Bool.false_or, Bool.or_false, Bool.or_true, Bool.true_and, Bool.false_and, Bool.and_true, Bool.and_false])), _, Same.refl _, w0⟩⟩
    obtain ⟨rfl, F3, s3, w3⟩ := hc3
    replace q1 := s3 _ _ q1
    replace q2 := s3 _ _ q2
    replace h2 := A2.mono s3 h2
    replace sF := sF.trans s3
    refine post_ite hm (fun k7 hm => ?_) (fun k7 hm => ?_)
    · skip
      try dsimp only
      exact hm
    · skip
      exact (post_ok hm) _ _ _ w3 sF rep_n
def sp_neighbours_of (K : Fg) : Sp := fun vs H Q E => ∃ (F : Hp) (os : List (Addr × HO)) (v_web : V) (x_web : (Int × (Tup (Int × Int)))) (x_place : Int), vs = [v_web, .int x_place] ∧ W F H (os) ∧ rep K F v_web x_web ∧ Post (neighbours_of x_web x_place) (Ret K F os Q) noX
theorem sc_neighbours_of : FnScope ["web", "place"] ["web", "place"] (defScope s_neighbours_of) := ⟨rfl, rfl, rfl, by decide +kernel, rfl, by decide +kernel, by decide +kernel⟩
theorem ok_neighbours_of (T : Tx K mg A FD) : FnOk P w K mg base CX0 2 (A 10) (FD 10) ["web", "place"] (sp_neighbours_of K) := by
  refine T.d10.fn.ok sc_neighbours_of (fun vs H Q E h => ?_) (fun cdv Ar outer s H vs Q E hr h => ?_)
  · obtain ⟨F, os, v_web, x_web, x_place, rfl, _⟩ := h
    rfl
  · obtain ⟨F0, os, v_web, x_web, x_place, rfl, w0, r_web, hm⟩ := h
    have sF : Same F0 F0 := Same.refl _
    obtain ⟨a1, u1, z1, rfl, q1, r1a, r1b⟩ := r_web
    obtain rfl : u1 = V.int x_web.1 := r1a
    obtain ⟨a2, vs2, rfl, q2, h2⟩ := r1b
    refine ⟨_, (pss_cons (ps_expr (pe_call (ok_place_asked T) (hr.mono (by decide)) (by rfl) T.d9.mg T.d9.fn.kp T.d9.b .nil pass0 (pa_cons (pv 0) (pa_cons (pv 1) pa_nil)))) (pss_one (ps_ret (pe_ix (ix_listK (K := K) rfl) (pe_call (ok_near_lists T) (hr.mono (by decide)) (by rfl) T.d6.mg T.d6.fn.kp T.d6.b .nil pass0 (pa_cons (pv 0) pa_nil)) (pv 1) (fun _ _ => rfl))))), ?_⟩
    refine ⟨_, rfl, _, rfl, _, _, _, (x_web : (Int × (Tup (Int × Int)))), _, rfl, w0, (rep_pair q1 rep_i (rep_tup q2 h2)), ?_⟩
    refine (post_bind hm).mono (fun y3 hm v3 F3 H3 w3 s3 r3 => ?_) (fun _ z => z)
    replace q1 := s3 _ _ q1
    replace q2 := s3 _ _ q2
    replace h2 := A2.mono s3 h2
    replace sF := sF.trans s3
    obtain rfl : v3 = V.non := r3
    refine ⟨_, rfl, _, _, _, (x_web : (Int × (Tup (Int × Int)))), rfl, w3, (rep_pair q1 rep_i (rep_tup q2 h2)), ?_⟩
    refine (post_bind hm).mono (fun y4 hm v4 F4 H4 w4 s4 r4 => ?_) (fun _ z => z)
    replace q1 := s4 _ _ q1
    replace h2 := A2.mono s4 h2
    replace q2 := s4 _ _ q2
    replace sF := sF.trans s4
    obtain ⟨a5, vs5, rfl, q5, h5⟩ := r4
    obtain ⟨t6, e6, hm⟩ := pb_get hm
    obtain ⟨u6, f6, r6⟩ := A2.at h5 e6
    obtain ⟨a7, vs7, rfl, q7, h7⟩ := r6
    exact ⟨_, rfl, _, _, _, _, rfl, rfl, SqL.of (w4.same _ _ q5), f6, (post_ok hm) _ _ _ w4 sF (rep_lst q7 h7)⟩
def sp_fars_from (K : Fg) : Sp := fun vs H Q E => ∃ (F : Hp) (os : List (Addr × HO)) (v_web : V) (x_web : (Int × (Tup (Int × Int)))) (x_place : Int), vs = [v_web, .int x_place] ∧ W F H (os) ∧ rep K F v_web x_web ∧ Post (fars_from x_web x_place) (RetL K F os Q) noX
theorem sc_fars_from : FnScope ["web", "place"] ["web", "place"] (defScope s_fars_from) := ⟨rfl, rfl, rfl, by decide +kernel, rfl, by decide +kernel, by decide +kernel⟩
theorem ok_fars_from (T : Tx K mg A FD) : FnOk P w K mg base CX0 2 (A 11) (FD 11) ["web", "place"] (sp_fars_from K) := by
  refine T.d11.fn.ok sc_fars_from (fun vs H Q E h => ?_) (fun cdv Ar outer s H vs Q E hr h => ?_)
  · obtain ⟨F, os, v_web, x_web, x_place, rfl, _⟩ := h
    rfl
  · obtain ⟨F0, os, v_web, x_web, x_place, rfl, w0, r_web, hm⟩ := h
    have sF : Same F0 F0 := Same.refl _
    obtain ⟨a1, u1, z1, rfl, q1, r1a, r1b⟩ := r_web
    obtain rfl : u1 = V.int x_web.1 := r1a
    obtain ⟨a2, vs2, rfl, q2, h2⟩ := r1b
    refine ⟨_, (pss_cons (ps_expr (pe_call (ok_place_asked T) (hr.mono (by decide)) (by rfl) T.d9.mg T.d9.fn.kp T.d9.b .nil pass0 (pa_cons (pv 0) (pa_cons (pv 1) pa_nil)))) (pss_one (ps_ret (pe_call (ok_fars_by T) (hr.mono (by decide)) (by rfl) T.d8.mg T.d8.fn.kp T.d8.b .nil pass0 (pa_cons (pe_call (ok_near_lists T) (hr.mono (by decide)) (by rfl) T.d6.mg T.d6.fn.kp T.d6.b .nil pass0 (pa_cons (pv 0) pa_nil)) (pa_cons (pv 1) pa_nil)))))), ?_⟩
    refine ⟨_, rfl, _, rfl, _, _, _, (x_web : (Int × (Tup (Int × Int)))), _, rfl, w0, (rep_pair q1 rep_i (rep_tup q2 h2)), ?_⟩
    refine (post_bind hm).mono (fun y3 hm v3 F3 H3 w3 s3 r3 => ?_) (fun _ z => z)
    replace q1 := s3 _ _ q1
    replace q2 := s3 _ _ q2
    replace h2 := A2.mono s3 h2
    replace sF := sF.trans s3
    obtain rfl : v3 = V.non := r3
    refine ⟨_, rfl, _, _, _, (x_web : (Int × (Tup (Int × Int)))), rfl, w3, (rep_pair q1 rep_i (rep_tup q2 h2)), ?_⟩
    refine (post_bind hm).mono (fun y4 hm v4 F4 H4 w4 s4 r4 => ?_) (fun _ z => z)
    replace q1 := s4 _ _ q1
    replace h2 := A2.mono s4 h2
    replace q2 := s4 _ _ q2
    replace sF := sF.trans s4
    obtain ⟨a5, vs5, rfl, q5, h5⟩ := r4
    refine ⟨_, rfl, _, _, _, (y4 : (List (List Int))), _, rfl, w4, (rep_lst q5 h5), ?_⟩
    refine (post_bind hm).mono (fun y6 hm p6 us6 F6 H6 w6 s6 g6 => ?_) (fun _ z => z)
    replace q1 := s6 _ _ q1
    replace h2 := A2.mono s6 h2
    replace q2 := s6 _ _ q2
    replace q5 := s6 _ _ q5
    replace h5 := A2.mono s6 h5
    replace sF := sF.trans s6
    obtain ⟨l8, e8, hm⟩ := pb_allS hm
    have h8 : A2 (rep K F6) us6 l8 := A2.unsome (e8 ▸ g6)
    exact (post_ok hm) _ _ _ _ w6 sF h8
def sp_table_of (K : Fg) : Sp := fun vs H Q E => ∃ (F : Hp) (os : List (Addr × HO)) (v_web : V) (x_web : (Int × (Tup (Int × Int)))), vs = [v_web] ∧ W F H (os) ∧ rep K F v_web x_web ∧ Post (table_of x_web) (Ret K F os Q) noX
theorem sc_table_of : FnScope ["web", "place"] ["web"] (defScope s_table_of) := ⟨rfl, rfl, rfl, by decide +kernel, rfl, by decide +kernel, by decide +kernel⟩
theorem ok_table_of (T : Tx K mg A FD) : FnOk P w K mg base CX0 3 (A 13) (FD 13) ["web"] (sp_table_of K) := by
  refine T.d13.fn.ok sc_table_of (fun vs H Q E h => ?_) (fun cdv Ar outer s H vs Q E hr h => ?_)
  · obtain ⟨F, os, v_web, x_web, rfl, _⟩ := h
    rfl
  · obtain ⟨F0, os, v_web, x_web, rfl, w0, r_web, hm⟩ := h
    have sF : Same F0 F0 := Same.refl _
    obtain ⟨a1, u1, z1, rfl, q1, r1a, r1b⟩ := r_web
    obtain rfl : u1 = V.int x_web.1 := r1a
    obtain ⟨a2, vs2, rfl, q2, h2⟩ := r1b
    refine ⟨_, (pss_one (ps_ret (pe_lc (own := [("place", 1)]) (g := gName 1) (by rfl) sc_table_of.nd (pi_range1 (by rfl) T.n_range (pa_cons (pe_ix (ix_tupK (K := K) rfl) (pv 0) pe_int (fun _ _ => rfl)) pa_nil)) (blkOk_by (own := [("place", 1)]) (N := ["web", "place"]) (sc := defScope s_table_of) (by decide +kernel)) (fun _ _ _ _ _ => (pg_name (i := 1) sc_table_of.nd rfl (Or.inl rfl))) (fun _ _ _ _ _ => pts_nil) (fun _ _ _ _ _ => (pe_call (ok_fars_from T) (hr.mono (by decide)) (by rfl) T.d11.mg T.d11.fn.kp T.d11.b .nil pass0 (pa_cons (pv 0) (pa_cons (pv 1) pa_nil))))))), ?_⟩
    obtain ⟨c3, hm⟩ := pb_rng hm
    refine ⟨_, rfl, _, _, _, _, rfl, rfl, SqT.of (w0.same _ _ q1), rfl, _, rfl, c3.2.2.1, c3.2.2.2, fun D4 nD4 => ?_⟩
    refine lcM (K := K) (tw_rng0 (j := x_web.1)) hm w0 nD4 (fun F' H' acc s w => trivial) ?_ ?_
    · -- one turn
      intro b4 x4 F4 H4 H4' acc4 N4 P4 s4 w4 y4 hN4 hm
      replace q1 := s4 _ _ q1
      replace q2 := s4 _ _ q2
      replace h2 := A2.mono s4 h2
      replace sF := sF.trans s4
      obtain ⟨rfl, rfl⟩ := y4
      refine ⟨rfl, _, rfl, _, rfl, _, _, _, (x_web : (Int × (Tup (Int × Int)))), _, rfl, w4, (rep_pair q1 rep_i (rep_tup q2 h2)), ?_⟩
      refine (post_bind hm).mono (fun y6 hm p6 us6 F6 H6 w6 s6 g6 => ?_) (fun _ z => z)
      replace q1 := s6 _ _ q1
      replace q2 := s6 _ _ q2
      replace h2 := A2.mono s6 h2
      replace sF := sF.trans s6
      obtain ⟨F8, s8, w8, q8⟩ : ∃ F', Same F6 F' ∧ W F' _ ((D4, .lst acc4) :: os) ∧ F' p6 = some (.lst us6) := w6.freezeE (pre := [])
      replace q1 := s8 _ _ q1
      replace q2 := s8 _ _ q2
      replace h2 := A2.mono s8 h2
      replace g6 := A2.mono s8 g6
      replace sF := sF.trans s8
      exact hN4 _ (post_ok hm) _ _ _ w8 (s6.trans s8) (rep_lst q8 g6)
    intro us4 F4 H4 ys4 s4 w4 gg4 hm
    replace q1 := s4 _ _ q1
    replace q2 := s4 _ _ q2
    replace h2 := A2.mono s4 h2
    replace sF := sF.trans s4
    obtain ⟨F10, s10, w10, q10⟩ : ∃ F', Same F4 F' ∧ W F' _ (os) ∧ F' D4 = some (.lst us4) := w4.freezeE (pre := [])
    replace q1 := s10 _ _ q1
    replace q2 := s10 _ _ q2
    replace h2 := A2.mono s10 h2
    replace gg4 := A2.mono s10 gg4
    replace sF := sF.trans s10
    exact (post_ok hm) _ _ _ w10 sF (rep_lst q10 gg4)
def sp_things_of (K : Fg) : Sp := fun vs H Q E => ∃ (F : Hp) (os : List (Addr × HO)) (v_web : V) (x_web : (Int × (Tup (Int × Int)))) (x_kind : Str), vs = [v_web, .str x_kind] ∧ W F H (os) ∧ rep K F v_web x_web ∧ Post (things_of x_web x_kind) (RetL K F os Q) noX
theorem sc_things_of : FnScope ["web", "kind", "places"] ["web", "kind"] (defScope s_things_of) := ⟨rfl, rfl, rfl, by decide +kernel, rfl, by decide +kernel, by decide +kernel⟩
theorem ok_things_of (T : Tx K mg A FD) : FnOk P w K mg base CX0 1 (A 14) (FD 14) ["web", "kind"] (sp_things_of K) := by
  refine T.d14.fn.ok sc_things_of (fun vs H Q E h => ?_) (fun cdv Ar outer s H vs Q E hr h => ?_)
  · obtain ⟨F, os, v_web, x_web, x_kind, rfl, _⟩ := h
    rfl
  · obtain ⟨F0, os, v_web, x_web, x_kind, rfl, w0, r_web, hm⟩ := h
    have sF : Same F0 F0 := Same.refl _
    obtain ⟨a1, u1, z1, rfl, q1, r1a, r1b⟩ := r_web
    obtain rfl : u1 = V.int x_web.1 := r1a
    obtain ⟨a2, vs2, rfl, q2, h2⟩ := r1b
    refine ⟨_, (pss_cons (ps_set (i := 2) sc_things_of.nd rfl (Or.inl rfl) (pe_listRg rfl (by rfl) T.n_list (prg_1 (by rfl) T.n_range (pe_ix (ix_tupK (K := K) rfl) (pv 0) pe_int (fun _ _ => rfl))))) (pss_cons (ps_if (pt_cmpR op_eqS (pv 1) pe_str (nomark _)) (pss_one (ps_ret (pv 2))) pss_nil) (pss_cons (ps_if (pt_cmpR op_eqS (pv 1) pe_str (nomark _)) (pss_one (ps_ret (pe_callTy (call_list_ofK (K := K) rfl) (by rfl) T.n_list (by decide +kernel) (pa_cons (pe_ix (ix_tupK (K := K) rfl) (pv 0) pe_int (fun _ _ => rfl)) pa_nil)))) pss_nil) (pss_one (ps_ret (pe_op op_cat (pv 2) (pe_callTy (call_list_ofK (K := K) rfl) (by rfl) T.n_list (by decide +kernel) (pa_cons (pe_ix (ix_tupK (K := K) rfl) (pv 0) pe_int (fun _ _ => rfl)) pa_nil)))))))), ?_⟩
    obtain ⟨l3, z3, e3, hm⟩ := pb_lrng hm
    have h3 : A2 (rep K F0) (rgV 0 x_web.1) l3 := by rw [e3, rgV_eq]; exact A2.of_ints
    refine ⟨_, rfl, _, _, _, _, rfl, rfl, SqT.of (w0.same _ _ q1), rfl, _, rfl, z3, fun p4 n4 => ?_⟩
    have w4 : W F0 _ ((p4, .lst (rgV 0 x_web.1)) :: os) := w0.new n4
    refine ⟨_, rfl, _, _, rfl, rfl, _, rfl, ?_⟩
    refine post_ite hm (fun k5 hm => ?_) (fun k5 hm => ?_)
    · skip
      have h6 : A2 (rep K F0) (rgV 0 x_web.1) (mkpl l3) := A2.pl h3
      exact ⟨_, rfl, (post_ok hm) _ _ _ _ w4 sF h6⟩
    · skip
      refine ⟨_, rfl, _, _, rfl, rfl, _, rfl, ?_⟩
      refine post_ite hm (fun k7 hm => ?_) (fun k7 hm => ?_)
      · skip
        have h8 : A2 (rep K F0) vs2 x_web.2.l := h2
        refine ⟨_, rfl, _, _, _, _, rfl, rfl, SqT.of (w4.same _ _ q1), rfl, _, _, rfl, .inr (SqT.of (w4.same _ _ q2)), fun p9 n9 => ?_⟩
        have w9 : W F0 _ ((p9, .lst vs2) :: (p4, .lst (rgV 0 x_web.1)) :: os) := w4.new n9
        have h10 : A2 (rep K F0) vs2 (mkti x_web.2.l) := A2.ti h8
        have w11 : W F0 _ ((p9, .lst vs2) :: os) := w9.drop (pre := [_])
        exact (post_ok hm) _ _ _ _ w11 sF h10
      · skip
        have h12 : A2 (rep K F0) vs2 x_web.2.l := h2
        refine ⟨_, rfl, _, rfl, _, _, _, _, rfl, rfl, SqT.of (w4.same _ _ q1), rfl, _, _, rfl, .inr (SqT.of (w4.same _ _ q2)), fun p13 n13 => ?_⟩
        have w13 : W F0 _ ((p13, .lst vs2) :: (p4, .lst (rgV 0 x_web.1)) :: os) := w4.new n13
        have h14 : A2 (rep K F0) (rgV 0 x_web.1) (mkpl l3) := A2.pl h3
        have h15 : A2 (rep K F0) vs2 (mkti x_web.2.l) := A2.ti h12
        obtain ⟨l16, z16, e16, hm⟩ := pn_extend hm
        have h16 : A2 (rep K F0) ((rgV 0 x_web.1) ++ vs2) l16 := e16 ▸ A2.append h14 h15
        refine ⟨_, _, _, _, rfl, rfl, (w13.get (pre := [_])), (w13.get (pre := [])), (A2.le2 h14 h15 z16), fun p17 n17 => ?_⟩
        have w17 : W F0 _ ((p17, .lst ((rgV 0 x_web.1) ++ vs2)) :: (p13, .lst vs2) :: (p4, .lst (rgV 0 x_web.1)) :: os) := w13.new n17
        have w18 : W F0 _ ((p17, .lst ((rgV 0 x_web.1) ++ vs2)) :: (p4, .lst (rgV 0 x_web.1)) :: os) := w17.drop (pre := [_])
        have w19 : W F0 _ ((p17, .lst ((rgV 0 x_web.1) ++ vs2)) :: os) := w18.drop (pre := [_])
        exact (post_ok hm) _ _ _ _ w19 sF h16
def sp_looks_asked (K : Fg) : Sp := fun vs H Q E => ∃ (F : Hp) (os : List (Addr × HO)) (v_web : V) (x_web : (Int × (Tup (Int × Int)))) (v_looks : V) (x_looks : (List Int)), vs = [v_web, v_looks] ∧ W F H (os) ∧ rep K F v_web x_web ∧ rep K F v_looks x_looks ∧ Post (looks_asked x_web x_looks) (Ret K F os Q) noX
theorem sc_looks_asked : FnScope ["web", "looks", "at", "look"] ["web", "looks"] (defScope s_looks_asked) := ⟨rfl, rfl, rfl, by decide +kernel, rfl, by decide +kernel, by decide +kernel⟩
theorem ok_looks_asked (T : Tx K mg A FD) : FnOk P w K mg base CX0 1 (A 15) (FD 15) ["web", "looks"] (sp_looks_asked K) := by
  refine T.d15.fn.ok sc_looks_asked (fun vs H Q E h => ?_) (fun cdv Ar outer s H vs Q E hr h => ?_)
  · obtain ⟨F, os, v_web, x_web, v_looks, x_looks, rfl, _⟩ := h
    rfl
  · obtain ⟨F0, os, v_web, x_web, v_looks, x_looks, rfl, w0, r_web, r_looks, hm⟩ := h
    have sF : Same F0 F0 := Same.refl _
    obtain ⟨a1, u1, z1, rfl, q1, r1a, r1b⟩ := r_web
    obtain rfl : u1 = V.int x_web.1 := r1a
    obtain ⟨a2, vs2, rfl, q2, h2⟩ := r1b
    obtain ⟨a3, vs3, rfl, q3, h3⟩ := r_looks
    refine ⟨_, (pss_one (ps_for PassesOwn.never rfl (pi_k (K := K) (wi := fun K => iEnum K _) rfl (pi_enum (by rfl) T.n_enumerate (pa_cons (pv 1) pa_nil))) (pg_k (K := K) (t := fun K => gTup K 2 _) rfl (pg_tup (n := 2) rfl (pgs_cons (pg_name (i := 2) sc_looks_asked.nd rfl (Or.inl rfl)) (pgs_cons (pg_name (i := 3) sc_looks_asked.nd rfl (Or.inl rfl)) pgs_nil)))) (pss_one (ps_if (PW.pt (pw_or (pt_not (pt_chain op_le op_lt pe_int (pv 3) (pe_ix (ix_tupK (K := K) rfl) (pv 0) pe_int (fun _ _ => rfl)))) (pw_or1 (PW.pt (pw_and (pt_cmp (pc_gt (pv 2) pe_int)) (pw_and1 (pt_cmp (pc_le (pv 3) (pe_ix (ix_listK (K := K) rfl) (pv 1) (pe_op op_sub (pv 2) pe_int) (fun _ _ => rfl)))))))))) (pss_one ps_absurd) pss_nil)))), ?_⟩
    refine ⟨_, rfl, _, _, rfl, SqL.of (w0.same _ _ q3), ?_⟩
    refine forS (tw_enum (a := a3) h3) hm (fun (g4 : Unit) σ H' => ∃ (F' : Hp) (o4_2 : Option V) (o4_3 : Option V), σ = [some (.ref a1), some (.ref a3), o4_2, o4_3] ∧ Same F0 F' ∧ W F' H' (os)) ⟨_, _, _, rfl, Same.refl _, w0⟩ (fun g σ H' hI => by obtain ⟨F', _, _, _, s, w⟩ := hI; exact SqL.of (w.same _ _ (s _ _ q3))) ?_ ?_
    · -- a turn
      intro b4 g4 x4 σ4 H4 H4' N4 P4 hI hy hN4 hm
      obtain ⟨F4, o4_2, o4_3, rfl, s4, w4⟩ := hI
      replace q1 := s4 _ _ q1
      replace q2 := s4 _ _ q2
      replace h2 := A2.mono s4 h2
      replace q3 := s4 _ _ q3
      replace h3 := A2.mono s4 h3
      replace sF := sF.trans s4
      obtain ⟨T5, u5, rfl, n5, rfl, r5⟩ := hy
      obtain ⟨F5, s5, w5, q5⟩ := w4.frzE (o := .tup [.int b4.1, u5]) n5
      replace r5 := Rep.mono s4 r5
      replace q1 := s5 _ _ q1
      replace q2 := s5 _ _ q2
      replace h2 := A2.mono s5 h2
      replace q3 := s5 _ _ q3
      replace h3 := A2.mono s5 h3
      replace sF := sF.trans s5
      replace r5 := Rep.mono s5 r5
      obtain rfl : u5 = V.int b4.2 := r5
      refine ⟨_, _, rfl, SqT.of (w5.same _ _ q5), rfl, _, _, rfl, _, _, rfl, rfl, ?_⟩
      try dsimp only
      refine stepIf ?_
      refine joinT hm (fun (j6 : Bool) c H' => c = j6 ∧ ∃ (F' : Hp), Same F5 F' ∧ W F' H' (os)) ?_ ?_
      · intro Q6 P6 q6 hm
        refine stepOr ?_
        refine stepNot ?_
        refine cutT (fun c H' => c = ((decide ((0 : Int) ≤ b4.2)) && (decide (b4.2 < x_web.1))) ∧ ∃ F', Same F5 F' ∧ W F' H' (os)) (fun Q7 q7 => ?_) (fun c7 H7 hc7 => ?_)
        · -- the ways
          refine ⟨_, rfl, _, _, rfl, rfl, _, rfl, ?_⟩
          refine ifB (fun k8 => ?_) (fun k8 => ?_)
          · skip
            exact ⟨_, rfl, _, _, _, _, rfl, rfl, SqT.of (w5.same _ _ q1), rfl, _, _, rfl, rfl, _, rfl, q7 _ _ ⟨(by first | rfl | exact absurd k8 (by decide) | (simp [k8]; done) | ((try simp only [Bool.not_eq_true] at k8); simp only [k8, Bool.true_or, Bool.false_or, Bool.or_false, Bool.or_true, Bool.true_and, Bool.false_and, Bool.and_true, Bool.and_false])), _, Same.refl _, w5⟩⟩
          · skip
            exact ⟨_, rfl, q7 _ _ ⟨(by first | rfl | exact absurd k8 (by decide) | (simp [k8]; done) | ((try simp only [Bool.not_eq_true] at k8); simp only [k8, Bool.true_or, Bool.false_or, Bool.or_false, Bool.or_true, Bool.true_and, Bool.false_and, Bool.and_true, Bool.and_false])), _, Same.refl _, w5⟩⟩
        obtain ⟨rfl, F7, s7, w7⟩ := hc7
        replace q1 := s7 _ _ q1
        replace h2 := A2.mono s7 h2
        replace q2 := s7 _ _ q2
        replace h3 := A2.mono s7 h3
        replace q3 := s7 _ _ q3
        replace sF := sF.trans s7
        refine post_ite hm (fun k11 hm => ?_) (fun k11 hm => ?_)
        · skip
          exact q6 _ (post_ok hm) _ _ ⟨rfl, _, s7, w7⟩
        · skip
          refine joinT hm (fun (j13 : Bool) c H' => c = j13 ∧ ∃ (F' : Hp), Same F7 F' ∧ W F' H' (os)) ?_ ?_
          · intro Q13 P13 q13 hm
            refine ⟨_, rfl, _, _, rfl, rfl, _, rfl, ?_⟩
            refine post_ite hm (fun k14 hm => ?_) (fun k14 hm => ?_)
            · skip
              obtain ⟨t15, e15, hm⟩ := pb_get hm
              obtain ⟨u15, f15, r15⟩ := A2.at h3 e15
              obtain rfl : u15 = V.int t15 := r15
              exact ⟨_, rfl, _, rfl, _, rfl, _, _, rfl, rfl, _, _, _, _, rfl, rfl, SqL.of (w7.same _ _ q3), f15, _, _, rfl, rfl, _, rfl, q13 _ (post_ok hm) _ _ ⟨rfl, _, Same.refl _, w7⟩⟩
            · skip
              exact q13 _ (post_ok hm) _ _ ⟨rfl, _, Same.refl _, w7⟩
          intro j13 c13 H13 hc13 hm
          obtain ⟨rfl, F13, s13, w13⟩ := hc13
          replace q1 := s13 _ _ q1
          replace h2 := A2.mono s13 h2
          replace q2 := s13 _ _ q2
          replace h3 := A2.mono s13 h3
          replace q3 := s13 _ _ q3
          replace sF := sF.trans s13
          exact q6 _ (post_ok hm) _ _ ⟨rfl, _, (s7.trans s13), w13⟩
      intro j6 c6 H6 hc6 hm
      obtain ⟨rfl, F6, s6, w6⟩ := hc6
      replace q1 := s6 _ _ q1
      replace h2 := A2.mono s6 h2
      replace q2 := s6 _ _ q2
      replace h3 := A2.mono s6 h3
      replace q3 := s6 _ _ q3
      replace sF := sF.trans s6
      refine post_ite hm (fun k19 hm => ?_) (fun k19 hm => ?_)
      · skip
        try dsimp only
        exact hm
      · skip
        exact hN4 _ (post_ok hm) _ _ ⟨_, _, _, rfl, (s4.trans (s5.trans s6)), w6⟩
    intro g4 σ4 H4 hI hm
    obtain ⟨F4, o4_2, o4_3, rfl, s4, w4⟩ := hI
    replace q1 := s4 _ _ q1
    replace q2 := s4 _ _ q2
    replace h2 := A2.mono s4 h2
    replace q3 := s4 _ _ q3
    replace h3 := A2.mono s4 h3
    replace sF := sF.trans s4
    exact (post_ok hm) _ _ _ w4 sF rep_n
def sp_far_by (K : Fg) : Sp := fun vs H Q E => ∃ (F : Hp) (os : List (Addr × HO)) (v_table : V) (x_table : (List (List Int))) (x_look : Int) (v_thing : V) (x_thing : Thing), vs = [v_table, .int x_look, v_thing] ∧ W F H (os) ∧ rep K F v_table x_table ∧ rep K F v_thing x_thing ∧ Post (far_by x_table x_look x_thing) (Ret K F os Q) noX
theorem sc_far_by : FnScope ["table", "look", "thing"] ["table", "look", "thing"] (defScope s_far_by) := ⟨rfl, rfl, rfl, by decide +kernel, rfl, by decide +kernel, by decide +kernel⟩
theorem ok_far_by (T : Tx K mg A FD) : FnOk P w K mg base CX0 1 (A 16) (FD 16) ["table", "look", "thing"] (sp_far_by K) := by
  refine T.d16.fn.ok sc_far_by (fun vs H Q E h => ?_) (fun cdv Ar outer s H vs Q E hr h => ?_)
  · obtain ⟨F, os, v_table, x_table, x_look, v_thing, x_thing, rfl, _⟩ := h
    rfl
  · obtain ⟨F0, os, v_table, x_table, x_look, v_thing, x_thing, rfl, w0, r_table, r_thing, hm⟩ := h
    have sF : Same F0 F0 := Same.refl _
    obtain ⟨a1, vs1, rfl, q1, h1⟩ := r_table
    refine ⟨_, (pss_cons (ps_if (pt_val (pe_callB (call_isB (K := K) rfl) (by rfl) T.n_isinstance (by decide +kernel) (pa_cons (pv 2) (pa_cons (pe_bltn (v := .ty "int") (by rfl) T.n_int (by decide +kernel) rfl) pa_nil)))) (pss_one (ps_ret (pe_ix (ix_listK (K := K) rfl) (pe_ix (ix_listK (K := K) rfl) (pv 0) (pv 1) (fun _ _ => rfl)) (pv 2) (fun _ _ => rfl)))) pss_nil) (pss_one (ps_ret (pe_callB (call_min2 rfl) (by rfl) T.n_min (by decide +kernel) (pa_cons (pe_ix (ix_listK (K := K) rfl) (pe_ix (ix_listK (K := K) rfl) (pv 0) (pv 1) (fun _ _ => rfl)) (pe_ix (ix_tupK (K := K) rfl) (pv 2) pe_int (fun _ _ => rfl)) (fun _ _ => rfl)) (pa_cons (pe_ix (ix_listK (K := K) rfl) (pe_ix (ix_listK (K := K) rfl) (pv 0) (pv 1) (fun _ _ => rfl)) (pe_ix (ix_tupK (K := K) rfl) (pv 2) pe_int (fun _ _ => rfl)) (fun _ _ => rfl)) pa_nil)))))), ?_⟩
    obtain ⟨a3, y3, k3⟩ := th_int w0.same r_thing
    refine ⟨_, rfl, _, _, _, x_thing.isPl, rfl, y3, k3, _, rfl, ?_⟩
    refine post_ite hm (fun k4 hm => ?_) (fun k4 hm => ?_)
    · skip
      obtain ⟨t5, e5, hm⟩ := pb_asPl hm
      have r5 : v_thing = V.int t5 := (show rep K F0 v_thing (Thing.pl t5) from e5 ▸ r_thing)
      subst r5
      obtain ⟨t6, e6, hm⟩ := pb_get hm
      obtain ⟨u6, f6, r6⟩ := A2.at h1 e6
      obtain ⟨a7, vs7, rfl, q7, h7⟩ := r6
      obtain ⟨t8, e8, hm⟩ := pb_get hm
      obtain ⟨u8, f8, r8⟩ := A2.at h7 e8
      obtain rfl : u8 = V.int t8 := r8
      exact ⟨_, rfl, _, rfl, _, _, _, _, rfl, rfl, SqL.of (w0.same _ _ q1), f6, _, rfl, _, _, _, _, rfl, rfl, SqL.of (w0.same _ _ q7), f8, (post_ok hm) _ _ _ w0 sF rep_i⟩
    · skip
      obtain ⟨t9, e9, hm⟩ := pb_asTi hm
      have r9 : rep K F0 v_thing (t9 : Int × Int) := (show rep K F0 v_thing (Thing.ti t9.1 t9.2) from e9 ▸ r_thing)
      obtain ⟨a10, u10, z10, rfl, q10, r10a, r10b⟩ := r9
      obtain rfl : u10 = V.int t9.1 := r10a
      obtain rfl : z10 = V.int t9.2 := r10b
      obtain ⟨t11, e11, hm⟩ := pb_get hm
      obtain ⟨u11, f11, r11⟩ := A2.at h1 e11
      obtain ⟨a12, vs12, rfl, q12, h12⟩ := r11
      obtain ⟨t13, e13, hm⟩ := pb_get hm
      obtain ⟨u13, f13, r13⟩ := A2.at h12 e13
      obtain rfl : u13 = V.int t13 := r13
      obtain ⟨t14, e14, hm⟩ := pb_get hm
      obtain ⟨u14, f14, r14⟩ := A2.at h1 e14
      obtain ⟨a15, vs15, rfl, q15, h15⟩ := r14
      obtain ⟨t16, e16, hm⟩ := pb_get hm
      obtain ⟨u16, f16, r16⟩ := A2.at h15 e16
      obtain rfl : u16 = V.int t16 := r16
      exact ⟨_, rfl, _, rfl, _, _, _, _, rfl, rfl, SqL.of (w0.same _ _ q1), f11, _, rfl, _, _, _, _, rfl, rfl, SqT.of (w0.same _ _ q10), rfl, _, _, _, _, rfl, rfl, SqL.of (w0.same _ _ q12), f13, _, rfl, _, rfl, _, _, _, _, rfl, rfl, SqL.of (w0.same _ _ q1), f14, _, rfl, _, _, _, _, rfl, rfl, SqT.of (w0.same _ _ q10), rfl, _, _, _, _, rfl, rfl, SqL.of (w0.same _ _ q15), f16, _, _, rfl, (post_ok hm) _ _ _ w0 sF rep_i⟩
def sp_by_code (K : Fg) : Sp := fun vs H Q E => ∃ (F : Hp) (os : List (Addr × HO)) (v_web : V) (x_web : (Int × (Tup (Int × Int)))) (v_looks : V) (x_looks : (List Int)) (x_kind : Str), vs = [v_web, v_looks, .str x_kind] ∧ W F H (os) ∧ rep K F v_web x_web ∧ rep K F v_looks x_looks ∧ Post (by_code x_web x_looks x_kind) (fun (y : ((List ((Tup Int) × Ix)) × (List (List Thing)))) => ∀ (p : Addr) (us : List (List Key × V)) (as : List Addr) (vss : List (List V)) (F' H' : Hp), W F' H' ((p, .dT us) :: (nz as vss ++ (os))) → Same F F' → AD kT (RX as) us y.1 → Sto K F' as vss y.2 → Q (.ref p) H') noX
theorem sc_by_code : FnScope ["web", "looks", "kind", "table", "found", "thing", "code", "look"] ["web", "looks", "kind"] (defScope s_by_code) := ⟨rfl, rfl, rfl, by decide +kernel, rfl, by decide +kernel, by decide +kernel⟩
theorem ok_by_code (T : Tx K mg A FD) : FnOk P w K mg base CX0 4 (A 18) (FD 18) ["web", "looks", "kind"] (sp_by_code K) := by
  refine T.d18.fn.ok sc_by_code (fun vs H Q E h => ?_) (fun cdv Ar outer s H vs Q E hr h => ?_)
  · obtain ⟨F, os, v_web, x_web, v_looks, x_looks, x_kind, rfl, _⟩ := h
    rfl
  · obtain ⟨F0, os, v_web, x_web, v_looks, x_looks, x_kind, rfl, w0, r_web, r_looks, hm⟩ := h
    have sF : Same F0 F0 := Same.refl _
    obtain ⟨a1, u1, z1, rfl, q1, r1a, r1b⟩ := r_web
    obtain rfl : u1 = V.int x_web.1 := r1a
    obtain ⟨a2, vs2, rfl, q2, h2⟩ := r1b
    obtain ⟨a3, vs3, rfl, q3, h3⟩ := r_looks
    have hr_g : Sto K F0 [] [] ([] : List (List Thing)) := Sto.nil
    replace w0 : W F0 _ ((nz [] [] ++ os)) := w0
    refine ⟨_, (pss_cons (ps_set (i := 3) sc_by_code.nd rfl (Or.inr rfl) (pe_call (ok_table_of T) (hr.mono (by decide)) (by rfl) T.d13.mg T.d13.fn.kp T.d13.b .nil pass0 (pa_cons (pv 0) pa_nil))) (pss_cons (ps_set (i := 4) sc_by_code.nd rfl (Or.inl rfl) pe_dnewT) (pss_cons (ps_for PassesOwn.never rfl (pi_listK (K := K) rfl (pe_call (ok_things_of T) (hr.mono (by decide)) (by rfl) T.d14.mg T.d14.fn.kp T.d14.b .nil pass0 (pa_cons (pv 0) (pa_cons (pv 2) pa_nil)))) (pg_name (i := 5) sc_by_code.nd rfl (Or.inr rfl)) (pss_cons (ps_set (i := 6) sc_by_code.nd rfl (Or.inl rfl) (pe_callTy (call_tuple_ofK (K := K) rfl) (by rfl) T.n_tuple (by decide +kernel) (pa_cons (pe_lc (own := [("look", 7)]) (g := gName 7) (by rfl) sc_by_code.nd (pi_listK (K := K) rfl (pv 1)) (blkOk_by (own := [("look", 7)]) (N := ["web", "looks", "kind", "table", "found", "thing", "code", "look"]) (sc := defScope s_by_code) (by decide +kernel)) (fun _ _ _ _ _ => (pg_name (i := 7) sc_by_code.nd rfl (Or.inl rfl))) (fun _ _ _ _ _ => pts_nil) (fun _ _ _ _ _ => (pe_call (ok_far_by T) (hr.mono (by decide)) (by rfl) T.d16.mg T.d16.fn.kp T.d16.b .nil pass0 (pa_cons (pv 3) (pa_cons (pv 7) (pa_cons (pv 5) pa_nil)))))) pa_nil))) (pss_cons (ps_if (pt_cmp (pc_dnotinH (Room.units1 hr) (pv 6) (pv 4))) (pss_one (ps_dput (Room.units1 hr) (pv 4) (pv 6) (pe_lst pa_nil) (by rfl))) pss_nil) (pss_one (ps_expr (pe_bm PySem.F.plainAttrs_list PySem.F.slot_list_append PySem.F.type_list_append mt_append (pe_dget (Room.units1 hr) (pv 4) (pv 6) (fun _ _ => rfl)) (pa_cons (pv 5) pa_nil))))))) (pss_one (ps_ret (pv 4)))))), ?_⟩
    refine ⟨_, rfl, _, _, _, (x_web : (Int × (Tup (Int × Int)))), rfl, w0, (rep_pair q1 rep_i (rep_tup q2 h2)), ?_⟩
    refine (post_bind hm).mono (fun y5 hm v5 F5 H5 w5 s5 r5 => ?_) (fun _ z => z)
    replace q1 := s5 _ _ q1
    replace q2 := s5 _ _ q2
    replace h2 := A2.mono s5 h2
    replace q3 := s5 _ _ q3
    replace h3 := A2.mono s5 h3
    replace hr_g := Sto.mono s5 hr_g
    replace sF := sF.trans s5
    obtain ⟨a6, vs6, rfl, q6, h6⟩ := r5
    refine fun p7 n7 => ?_
    have w7 : W F5 _ ((p7, .dT []) :: (nz [] [] ++ os)) := w5.new n7
    have h7 : AD kT (RX []) [] ([] : (List ((Tup Int) × Ix))) := .nil
    refine ⟨_, rfl, _, rfl, _, _, _, (x_web : (Int × (Tup (Int × Int)))), _, rfl, w7, (rep_pair q1 rep_i (rep_tup q2 h2)), ?_⟩
    refine (post_bind hm).mono (fun y9 hm p9 us9 F9 H9 w9 s9 g9 => ?_) (fun _ z => z)
    replace q1 := s9 _ _ q1
    replace h2 := A2.mono s9 h2
    replace q2 := s9 _ _ q2
    replace h3 := A2.mono s9 h3
    replace q3 := s9 _ _ q3
    replace h6 := A2.mono s9 h6
    replace q6 := s9 _ _ q6
    replace hr_g := Sto.mono s9 hr_g
    replace sF := sF.trans s9
    obtain ⟨F11, s11, w11, q11⟩ : ∃ F', Same F9 F' ∧ W F' _ ((p7, .dT []) :: (nz [] [] ++ os)) ∧ F' p9 = some (.lst us9) := w9.freezeE (pre := [])
    replace q1 := s11 _ _ q1
    replace h2 := A2.mono s11 h2
    replace q2 := s11 _ _ q2
    replace h3 := A2.mono s11 h3
    replace q3 := s11 _ _ q3
    replace h6 := A2.mono s11 h6
    replace q6 := s11 _ _ q6
    replace hr_g := Sto.mono s11 hr_g
    replace g9 := A2.mono s11 g9
    replace sF := sF.trans s11
    refine ⟨_, rfl, ⟨_, SqL.of (w11.same _ _ q11)⟩, ?_⟩
    refine forS (tw_list (a := p9) g9) hm (fun (g8 : (List ((Tup Int) × Ix)) × (List (List Thing))) σ H' => ∃ (F' : Hp) (vs8_0 : List (List Key × V)) (as8_1 : List Addr) (vs8_1 : List (List V)) (o8_6 : Option V) (o8_5 : Option V), σ = [some (.ref a1), some (.ref a3), some (.str x_kind), some (.ref a6), some (.ref p7), o8_5, o8_6, none] ∧ Same F11 F' ∧ W F' H' ((p7, .dT vs8_0) :: (nz as8_1 vs8_1 ++ os)) ∧ AD kT (RX as8_1) vs8_0 g8.1 ∧ [] <+: as8_1 ∧ Sto K F' as8_1 vs8_1 g8.2) ⟨_, _, _, _, _, _, rfl, Same.refl _, w11, h7, pfx_refl, hr_g⟩ (fun g σ H' hI => by obtain ⟨F', _, _, _, _, _, _, s, w, _⟩ := hI; exact SqL.of (w.same _ _ (s _ _ q11))) ?_ ?_
    · -- a turn
      intro b8 g8 x8 σ8 H8 H8' N8 P8 hI hy hN8 hm
      obtain ⟨F8, vs8_0, as8_1, vs8_1, o8_6, o8_5, rfl, s8, w8, h8_0, p8_1, h8_1⟩ := hI
      replace q1 := s8 _ _ q1
      replace h2 := A2.mono s8 h2
      replace q2 := s8 _ _ q2
      replace h3 := A2.mono s8 h3
      replace q3 := s8 _ _ q3
      replace h6 := A2.mono s8 h6
      replace q6 := s8 _ _ q6
      replace g9 := A2.mono s8 g9
      replace q11 := s8 _ _ q11
      replace sF := sF.trans s8
      obtain ⟨rfl, r12⟩ := hy
      replace r12 := Rep.mono s8 r12
      refine ⟨_, rfl, _, rfl, ⟨_, SqL.of (w8.same _ _ q3)⟩, fun D14 nD14 => ?_⟩
      refine lcM (K := K) (tw_list (a := a3) h3) hm w8 nD14 (fun F' H' acc s w => SqL.of (w.same _ _ (s _ _ q3))) ?_ ?_
      · -- one turn
        intro b14 x14 F14 H14 H14' acc14 N14 P14 s14 w14 y14 hN14 hm
        replace q1 := s14 _ _ q1
        replace h2 := A2.mono s14 h2
        replace q2 := s14 _ _ q2
        replace h3 := A2.mono s14 h3
        replace q3 := s14 _ _ q3
        replace h6 := A2.mono s14 h6
        replace q6 := s14 _ _ q6
        replace r12 := Rep.mono s14 r12
        replace h8_1 := Sto.mono s14 h8_1
        replace sF := sF.trans s14
        obtain ⟨rfl, r16⟩ := y14
        obtain rfl : x14 = V.int b14 := r16
        refine ⟨rfl, _, rfl, _, rfl, _, rfl, _, _, _, (y5 : (List (List Int))), _, _, (b8 : Thing), rfl, w14, (rep_lst q6 h6), r12, ?_⟩
        refine (post_bind hm).mono (fun y17 hm v17 F17 H17 w17 s17 r17 => ?_) (fun _ z => z)
        replace q1 := s17 _ _ q1
        replace h2 := A2.mono s17 h2
        replace q2 := s17 _ _ q2
        replace h3 := A2.mono s17 h3
        replace q3 := s17 _ _ q3
        replace h6 := A2.mono s17 h6
        replace q6 := s17 _ _ q6
        replace r12 := Rep.mono s17 r12
        replace h8_1 := Sto.mono s17 h8_1
        replace sF := sF.trans s17
        obtain rfl : v17 = V.int y17 := r17
        exact hN14 _ (post_ok hm) _ _ _ w17 s17 rep_i
      intro us14 F14 H14 ys14 s14 w14 gg14 hm
      replace q1 := s14 _ _ q1
      replace h2 := A2.mono s14 h2
      replace q2 := s14 _ _ q2
      replace h3 := A2.mono s14 h3
      replace q3 := s14 _ _ q3
      replace h6 := A2.mono s14 h6
      replace q6 := s14 _ _ q6
      replace r12 := Rep.mono s14 r12
      replace h8_1 := Sto.mono s14 h8_1
      replace sF := sF.trans s14
      have h19 : A2 (rep K F14) us14 ys14 := gg14
      refine ⟨_, _, rfl, .inl ⟨SqL.of (w14.get (pre := [])), fun p20 n20 => ?_⟩⟩
      obtain ⟨F20, s20, w20, q20⟩ := w14.frzE (o := .tup us14) n20
      replace q1 := s20 _ _ q1
      replace h2 := A2.mono s20 h2
      replace q2 := s20 _ _ q2
      replace h3 := A2.mono s20 h3
      replace q3 := s20 _ _ q3
      replace h6 := A2.mono s20 h6
      replace q6 := s20 _ _ q6
      replace r12 := Rep.mono s20 r12
      replace h8_1 := Sto.mono s20 h8_1
      replace gg14 := A2.mono s20 gg14
      replace h19 := A2.mono s20 h19
      replace sF := sF.trans s20
      have w21 : W F20 _ ((p7, .dT vs8_0) :: (nz as8_1 vs8_1 ++ os)) := w20.drop (pre := [])
      refine stepN ?_
      try dsimp only
      refine joinS hm (fun (g22 : (List ((Tup Int) × Ix)) × (List (List Thing))) σ H' => ∃ (F' : Hp) (vs22_0 : List (List Key × V)) (as22_1 : List Addr) (vs22_1 : List (List V)), σ = [some (.ref a1), some (.ref a3), some (.str x_kind), some (.ref a6), some (.ref p7), some x8, some (.ref p20), none] ∧ Same F20 F' ∧ W F' H' ((p7, .dT vs22_0) :: (nz as22_1 vs22_1 ++ os)) ∧ AD kT (RX as22_1) vs22_0 g22.1 ∧ as8_1 <+: as22_1 ∧ Sto K F' as22_1 vs22_1 g22.2) ?_ ?_
      · intro N22 P22 hN22 hm
        refine ⟨_, rfl, _, rfl, _, _, _, rfl, dgetA (t := (Tup.mk ys14)) (w21.get (pre := [])) (key_tup w21.same q20 h19), AD.no kT_inj h8_0, _, rfl, ?_⟩
        refine post_ite hm (fun k23 hm => ?_) (fun k23 hm => ?_)
        · skip
          have h24 : A2 (rep K F20) [] ([] : (List Thing)) := .nil
          refine ⟨(by show 0 ≤ sizeLine; decide), fun p25 n25 => ?_⟩
          have w25 : W F20 _ ((p25, .lst []) :: (p7, .dT vs8_0) :: (nz as8_1 vs8_1 ++ os)) := w21.new n25
          obtain ⟨j26, st26, ej26, es26, hm⟩ := pn_newS hm
          have w26 : W F20 _ ((p7, .dT vs8_0) :: (nz (as8_1 ++ [p25]) (vs8_1 ++ [[]]) ++ os)) := w25.nadd (pre := [_]) h8_1.len
          have q26 : (as8_1 ++ [p25])[j26]? = some p25 := IQ.new (h8_1.len2.trans ej26.symm)
          have h26 : Sto K F20 (as8_1 ++ [p25]) (vs8_1 ++ [[]]) st26 := es26 ▸ Sto.snoc (p := p25) h8_1 h24
          replace h8_0 := AD.imp (fun _ _ => RX.mono (pfx_snoc (p := p25))) h8_0
          obtain ⟨l27, z27, e27, hm⟩ := pn_mput hm
          refine ⟨_, rfl, _, rfl, _, _, rfl, dputA (t := (Tup.mk ys14)) (v := (.ref p25)) (w26.get (pre := [])) (key_tup w26.same q20 h19) h8_0 z27, ?_⟩
          have h27 : AD kT (RX (as8_1 ++ [p25])) (putK vs8_0 (kT (Tup.mk ys14)) (.ref p25)) l27 := e27 ▸ AD.put kT_inj h8_0 ⟨_, rfl, q26⟩
          have w28 : W F20 _ ((p7, .dT (putK vs8_0 (kT (Tup.mk ys14)) (.ref p25))) :: (nz (as8_1 ++ [p25]) (vs8_1 ++ [[]]) ++ os)) := w26.set (pre := [])
          exact hN22 _ (post_ok hm) _ _ ⟨_, _, _, _, rfl, Same.refl _, w28, h27, (pfx_snoc (p := p25)), h26⟩
        · skip
          exact hN22 _ (post_ok hm) _ _ ⟨_, _, _, _, rfl, Same.refl _, w21, h8_0, pfx_refl, h8_1⟩
      intro g22 σ22 H22 hI hm
      obtain ⟨F22, vs22_0, as22_1, vs22_1, rfl, s22, w22, h22_0, p22_1, h22_1⟩ := hI
      replace q1 := s22 _ _ q1
      replace h2 := A2.mono s22 h2
      replace q2 := s22 _ _ q2
      replace h3 := A2.mono s22 h3
      replace q3 := s22 _ _ q3
      replace h6 := A2.mono s22 h6
      replace q6 := s22 _ _ q6
      replace h19 := A2.mono s22 h19
      replace q20 := s22 _ _ q20
      replace r12 := Rep.mono s22 r12
      replace sF := sF.trans s22
      obtain ⟨t29, e29, hm⟩ := pb_mget hm
      obtain ⟨u29, f29, r29⟩ := AD.get kT_inj h22_0 e29
      obtain ⟨a30, rfl, q30⟩ := r29
      obtain ⟨x31, e31, hm⟩ := pb_getS hm
      obtain ⟨vs31, i31, h31⟩ := Sto.getq h22_1 e31 q30
      obtain ⟨l32, z32, e32, hm⟩ := pn_app hm
      obtain ⟨st32, es32, hm⟩ := pn_setS hm
      refine ⟨_, rfl, _, rfl, _, _, rfl, dgetsA (w22.get (pre := [])) (key_tup (t := (Tup.mk ys14)) w22.same q20 h19) f29, .inl ⟨rfl, _, SqL.of (W.nget (pre := [_]) w22 q30 i31)⟩, _, rfl, _, _, _, rfl, rfl, (W.nget (pre := [_]) w22 q30 i31), (A2.lt h31 z32), ?_⟩
      have h32 : Sto K F22 as22_1 (vs22_1.set t29 (vs31 ++ [x8])) st32 := es32 ▸ Sto.set h22_1 (e32 ▸ A2.snoc h31 r12)
      have w32 : W F22 _ ((p7, .dT vs22_0) :: (nz as22_1 (vs22_1.set t29 (vs31 ++ [x8])) ++ os)) := w22.nset (pre := [_]) (vs31 ++ [x8]) q30 i31
      exact hN8 _ (post_ok hm) _ _ ⟨_, _, _, _, _, _, rfl, (s8.trans (s14.trans (s20.trans s22))), w32, h22_0, (pfx_trans p8_1 p22_1), h32⟩
    intro g8 σ8 H8 hI hm
    obtain ⟨F8, vs8_0, as8_1, vs8_1, o8_6, o8_5, rfl, s8, w8, h8_0, p8_1, h8_1⟩ := hI
    replace q1 := s8 _ _ q1
    replace h2 := A2.mono s8 h2
    replace q2 := s8 _ _ q2
    replace h3 := A2.mono s8 h3
    replace q3 := s8 _ _ q3
    replace h6 := A2.mono s8 h6
    replace q6 := s8 _ _ q6
    replace g9 := A2.mono s8 g9
    replace q11 := s8 _ _ q11
    replace sF := sF.trans s8
    exact ⟨_, rfl, (post_ok hm) _ _ _ _ _ _ w8 sF h8_0 h8_1⟩
def sp_likes_by (K : Fg) : Sp := fun vs H Q E => ∃ (F : Hp) (os : List (Addr × HO)) (v_web : V) (x_web : (Int × (Tup (Int × Int)))) (v_looks : V) (x_looks : (List Int)) (x_kind : Str), vs = [v_web, v_looks, .str x_kind] ∧ W F H (os) ∧ rep K F v_web x_web ∧ rep K F v_looks x_looks ∧ Post (likes_by x_web x_looks x_kind) (Ret K F os Q) noX
theorem sc_likes_by : FnScope ["web", "looks", "kind", "things"] ["web", "looks", "kind"] (defScope s_likes_by) := ⟨rfl, rfl, rfl, by decide +kernel, rfl, by decide +kernel, by decide +kernel⟩
theorem ok_likes_by (T : Tx K mg A FD) : FnOk P w K mg base CX0 5 (A 19) (FD 19) ["web", "looks", "kind"] (sp_likes_by K) := by
  refine T.d19.fn.ok sc_likes_by (fun vs H Q E h => ?_) (fun cdv Ar outer s H vs Q E hr h => ?_)
  · obtain ⟨F, os, v_web, x_web, v_looks, x_looks, x_kind, rfl, _⟩ := h
    rfl
  · obtain ⟨F0, os, v_web, x_web, v_looks, x_looks, x_kind, rfl, w0, r_web, r_looks, hm⟩ := h
    have sF : Same F0 F0 := Same.refl _
    obtain ⟨a1, u1, z1, rfl, q1, r1a, r1b⟩ := r_web
    obtain rfl : u1 = V.int x_web.1 := r1a
    obtain ⟨a2, vs2, rfl, q2, h2⟩ := r1b
    obtain ⟨a3, vs3, rfl, q3, h3⟩ := r_looks
    refine ⟨_, (pss_cons (ps_expr (pe_call (ok_looks_asked T) (hr.mono (by decide)) (by rfl) T.d15.mg T.d15.fn.kp T.d15.b .nil pass0 (pa_cons (pv 0) (pa_cons (pv 1) pa_nil)))) (pss_one (ps_ret (pe_lc (own := [("things", 3)]) (g := gName 3) (by rfl) sc_likes_by.nd (pi_valuesT (pe_call (ok_by_code T) (hr.mono (by decide)) (by rfl) T.d18.mg T.d18.fn.kp T.d18.b .nil pass0 (pa_cons (pv 0) (pa_cons (pv 1) (pa_cons (pv 2) pa_nil))))) (blkOk_by (own := [("things", 3)]) (N := ["web", "looks", "kind", "things"]) (sc := defScope s_likes_by) (by decide +kernel)) (fun _ _ _ _ _ => (pg_name (i := 3) sc_likes_by.nd rfl (Or.inl rfl))) (fun _ _ _ _ _ => (pts_one (pt_cmp (pc_gt (pe_callB (call_lenN (K := K) rfl) (by rfl) T.n_len (by decide +kernel) (pa_cons (pv 3) pa_nil)) pe_int)))) (fun _ _ _ _ _ => (pv 3)))))), ?_⟩
    refine ⟨_, rfl, _, rfl, _, _, _, (x_web : (Int × (Tup (Int × Int)))), _, (x_looks : (List Int)), rfl, w0, (rep_pair q1 rep_i (rep_tup q2 h2)), (rep_lst q3 h3), ?_⟩
    refine (post_bind hm).mono (fun y4 hm v4 F4 H4 w4 s4 r4 => ?_) (fun _ z => z)
    replace q1 := s4 _ _ q1
    replace q2 := s4 _ _ q2
    replace h2 := A2.mono s4 h2
    replace q3 := s4 _ _ q3
    replace h3 := A2.mono s4 h3
    replace sF := sF.trans s4
    obtain rfl : v4 = V.non := r4
    refine ⟨_, rfl, _, rfl, _, rfl, _, _, _, (x_web : (Int × (Tup (Int × Int)))), _, (x_looks : (List Int)), _, rfl, w4, (rep_pair q1 rep_i (rep_tup q2 h2)), (rep_lst q3 h3), ?_⟩
    refine (post_bind hm).mono (fun y5 hm p5 us5 as5 vss5 F5 H5 w5 s5 g5 gs5 => ?_) (fun _ z => z)
    replace q1 := s5 _ _ q1
    replace h2 := A2.mono s5 h2
    replace q2 := s5 _ _ q2
    replace h3 := A2.mono s5 h3
    replace q3 := s5 _ _ q3
    replace sF := sF.trans s5
    have w8 : W F5 _ ((p5, .dT us5) :: (nz as5 vss5 ++ os)) := w5.nback (pre := [])
    refine ⟨_, _, rfl, (w8.get (pre := [])), fun od9 => ?_⟩
    have w9 : W F5 _ ((p5, (.frz od9 (.dT us5))) :: (nz as5 vss5 ++ os)) := w8.set (pre := [])
    refine fun D10 nD10 => ?_
    refine lcG (tw_valsT (d := p5) (o := od9) g5) hm (fun (g10 : (List (List Thing))) F' os' us ys => ∃ (as10_0 : List Addr) (vs10_0 : List (List V)), os' = (p5, (.frz od9 (.dT us5))) :: (nz as10_0 vs10_0 ++ os) ∧ as5 <+: as10_0 ∧ Sto K F' as10_0 vs10_0 g10 ∧ A2 (RX as10_0) us ys) w9 ⟨_, _, rfl, pfx_refl, gs5, .nil⟩ nD10 (fun _ _ _ _ _ o => by obtain ⟨_, _, rfl, _, _, h⟩ := o; exact h.length) (fun g F' H' os' acc ys s w o => by obtain ⟨_, _, rfl, _, _, _⟩ := o; exact w.get (pre := [_])) ?_ ?_
    · -- one turn
      intro b10 g10 x10 F10 H10 H10' os10 acc10 ya10 N10 M10 P10 s10 w10 o10 y10 hN10 hM10 hm
      obtain ⟨as10_0, vs10_0, rfl, p10_0, h10_0, ha10⟩ := o10
      replace q1 := s10 _ _ q1
      replace h2 := A2.mono s10 h2
      replace q2 := s10 _ _ q2
      replace h3 := A2.mono s10 h3
      replace q3 := s10 _ _ q3
      replace sF := sF.trans s10
      replace g5 := AD.imp (fun _ _ => RX.mono p10_0) g5
      obtain ⟨rfl, r12⟩ := y10
      replace r12 := RX.mono p10_0 r12
      obtain ⟨a13, rfl, q13⟩ := r12
      obtain ⟨x14, e14, hm⟩ := pb_getS hm
      obtain ⟨vs14, i14, h14⟩ := Sto.getq h10_0 e14 q13
      refine ⟨rfl, _, rfl, _, _, _, rfl, .inl (SqL.of (W.nget (pre := [_, _]) w10 q13 i14)), h14.length, _, _, rfl, rfl, _, rfl, ?_⟩
      refine post_ite hm (fun k15 hm => ?_) (fun k15 hm => ?_)
      · skip
        exact ⟨_, rfl, hN10 _ _ (post_ok hm) _ _ _ _ w10 (Same.refl _) ⟨_, _, rfl, p10_0, h10_0, A2.snoc ha10 ⟨_, rfl, q13⟩⟩⟩
      · skip
        exact hM10 _ (post_ok hm) _ _ _ w10 (Same.refl _) ⟨_, _, rfl, p10_0, h10_0, ha10⟩
    intro g10 us10 F10 H10 os10 ys10 s10 w10 o10 hm
    obtain ⟨as10_0, vs10_0, rfl, p10_0, h10_0, gg10⟩ := o10
    replace q1 := s10 _ _ q1
    replace h2 := A2.mono s10 h2
    replace q2 := s10 _ _ q2
    replace h3 := A2.mono s10 h3
    replace q3 := s10 _ _ q3
    replace sF := sF.trans s10
    replace g5 := AD.imp (fun _ _ => RX.mono p10_0) g5
    obtain ⟨xss17, e17, hm⟩ := pb_deref hm
    obtain ⟨F17a, s17a, w17a, q17⟩ : ∃ F', Same F10 F' ∧ W F' _ ((p5, (.frz od9 (.dT us5))) :: (nz as10_0 vs10_0 ++ os)) ∧ F' D10 = some (.lst us10) := w10.freezeE (pre := [])
    obtain ⟨F17, s17b, w17, f17⟩ : ∃ F', Same F17a F' ∧ W F' _ ((p5, (.frz od9 (.dT us5))) :: os) ∧ ∀ (j : Nat) (a : Addr) (vs : List V), as10_0[j]? = some a → vs10_0[j]? = some vs → F' a = some (.lst vs) := W.nfreeze (pre := [_]) w17a
    replace q17 := s17b _ _ q17
    have s17 : Same F10 F17 := s17a.trans s17b
    have h17 : A2 (rep K F17) us10 xss17 := deref_rep h10_0 f17 s17 gg10 e17
    replace q1 := s17 _ _ q1
    replace h2 := A2.mono s17 h2
    replace q2 := s17 _ _ q2
    replace h3 := A2.mono s17 h3
    replace q3 := s17 _ _ q3
    replace sF := sF.trans s17
    have w18 : W F17 _ (os) := w17.drop (pre := [])
    exact (post_ok hm) _ _ _ w18 sF (rep_lst q17 h17)
def sp_is_known (K : Fg) : Sp := fun vs H Q E => ∃ (F : Hp) (os : List (Addr × HO)) (v_web : V) (x_web : (Int × (Tup (Int × Int)))) (v_looks : V) (x_looks : (List Int)) (x_kind : Str), vs = [v_web, v_looks, .str x_kind] ∧ W F H (os) ∧ rep K F v_web x_web ∧ rep K F v_looks x_looks ∧ Post (is_known x_web x_looks x_kind) (Ret K F os Q) noX
theorem sc_is_known : FnScope ["web", "looks", "kind"] ["web", "looks", "kind"] (defScope s_is_known) := ⟨rfl, rfl, rfl, by decide +kernel, rfl, by decide +kernel, by decide +kernel⟩
theorem ok_is_known (T : Tx K mg A FD) : FnOk P w K mg base CX0 6 (A 20) (FD 20) ["web", "looks", "kind"] (sp_is_known K) := by
  refine T.d20.fn.ok sc_is_known (fun vs H Q E h => ?_) (fun cdv Ar outer s H vs Q E hr h => ?_)
  · obtain ⟨F, os, v_web, x_web, v_looks, x_looks, x_kind, rfl, _⟩ := h
    rfl
  · obtain ⟨F0, os, v_web, x_web, v_looks, x_looks, x_kind, rfl, w0, r_web, r_looks, hm⟩ := h
    have sF : Same F0 F0 := Same.refl _
    obtain ⟨a1, u1, z1, rfl, q1, r1a, r1b⟩ := r_web
    obtain rfl : u1 = V.int x_web.1 := r1a
    obtain ⟨a2, vs2, rfl, q2, h2⟩ := r1b
    obtain ⟨a3, vs3, rfl, q3, h3⟩ := r_looks
    refine ⟨_, (pss_one (ps_ret (pe_cmpR (op_eqDt (K := K) rfl (List (List Thing)) (by decide) hr.units) (pe_call (ok_likes_by T) (hr.mono (by decide)) (by rfl) T.d19.mg T.d19.fn.kp T.d19.b .nil pass0 (pa_cons (pv 0) (pa_cons (pv 1) (pa_cons (pv 2) pa_nil)))) (pe_lst pa_nil) (nomark _)))), ?_⟩
    refine ⟨_, rfl, _, rfl, _, rfl, _, _, _, (x_web : (Int × (Tup (Int × Int)))), _, (x_looks : (List Int)), _, rfl, w0, (rep_pair q1 rep_i (rep_tup q2 h2)), (rep_lst q3 h3), ?_⟩
    refine (post_bind hm).mono (fun y4 hm v4 F4 H4 w4 s4 r4 => ?_) (fun _ z => z)
    replace q1 := s4 _ _ q1
    replace q2 := s4 _ _ q2
    replace h2 := A2.mono s4 h2
    replace q3 := s4 _ _ q3
    replace h3 := A2.mono s4 h3
    replace sF := sF.trans s4
    obtain ⟨a5, vs5, rfl, q5, h5⟩ := r4
    have h6 : A2 (rep K F4) [] ([] : (List (List Thing))) := .nil
    refine ⟨(by show 0 ≤ sizeLine; decide), fun p7 n7 => ?_⟩
    have w7 : W F4 _ ((p7, .lst []) :: os) := w4.new n7
    have w8 : W F4 _ (os) := w7.drop (pre := [])
    exact ⟨(y4 : (List (List Thing))), (([] : (List (List Thing))) : (List (List Thing))), (Rep.mono w7.same (rep_lst q5 h5)), (rep_own (pre := []) w7 h6), (post_ok hm) _ _ _ w8 sF rep_b⟩
def sp_fars_of (K : Fg) : Sp := fun vs H Q E => ∃ (F : Hp) (os : List (Addr × HO)) (v_web : V) (x_web : (Int × (Tup (Int × Int)))), vs = [v_web] ∧ W F H (os) ∧ rep K F v_web x_web ∧ Post (fars_of x_web) (Ret K F os Q) noX
theorem sc_fars_of : FnScope ["web", "place"] ["web"] (defScope s_fars_of) := ⟨rfl, rfl, rfl, by decide +kernel, rfl, by decide +kernel, by decide +kernel⟩
theorem ok_fars_of (T : Tx K mg A FD) : FnOk P w K mg base CX0 3 (A 23) (FD 23) ["web"] (sp_fars_of K) := by
  refine T.d23.fn.ok sc_fars_of (fun vs H Q E h => ?_) (fun cdv Ar outer s H vs Q E hr h => ?_)
  · obtain ⟨F, os, v_web, x_web, rfl, _⟩ := h
    rfl
  · obtain ⟨F0, os, v_web, x_web, rfl, w0, r_web, hm⟩ := h
    have sF : Same F0 F0 := Same.refl _
    obtain ⟨a1, u1, z1, rfl, q1, r1a, r1b⟩ := r_web
    obtain rfl : u1 = V.int x_web.1 := r1a
    obtain ⟨a2, vs2, rfl, q2, h2⟩ := r1b
    refine ⟨_, (pss_one (ps_ret (pe_lc (own := [("place", 1)]) (g := gName 1) (by rfl) sc_fars_of.nd (pi_range1 (by rfl) T.n_range (pa_cons (pe_ix (ix_tupK (K := K) rfl) (pv 0) pe_int (fun _ _ => rfl)) pa_nil)) (blkOk_by (own := [("place", 1)]) (N := ["web", "place"]) (sc := defScope s_fars_of) (by decide +kernel)) (fun _ _ _ _ _ => (pg_name (i := 1) sc_fars_of.nd rfl (Or.inl rfl))) (fun _ _ _ _ _ => pts_nil) (fun _ _ _ _ _ => (pe_call (ok_fars_from T) (hr.mono (by decide)) (by rfl) T.d11.mg T.d11.fn.kp T.d11.b .nil pass0 (pa_cons (pv 0) (pa_cons (pv 1) pa_nil))))))), ?_⟩
    obtain ⟨c3, hm⟩ := pb_rng hm
    refine ⟨_, rfl, _, _, _, _, rfl, rfl, SqT.of (w0.same _ _ q1), rfl, _, rfl, c3.2.2.1, c3.2.2.2, fun D4 nD4 => ?_⟩
    refine lcM (K := K) (tw_rng0 (j := x_web.1)) hm w0 nD4 (fun F' H' acc s w => trivial) ?_ ?_
    · -- one turn
      intro b4 x4 F4 H4 H4' acc4 N4 P4 s4 w4 y4 hN4 hm
      replace q1 := s4 _ _ q1
      replace q2 := s4 _ _ q2
      replace h2 := A2.mono s4 h2
      replace sF := sF.trans s4
      obtain ⟨rfl, rfl⟩ := y4
      refine ⟨rfl, _, rfl, _, rfl, _, _, _, (x_web : (Int × (Tup (Int × Int)))), _, rfl, w4, (rep_pair q1 rep_i (rep_tup q2 h2)), ?_⟩
      refine (post_bind hm).mono (fun y6 hm p6 us6 F6 H6 w6 s6 g6 => ?_) (fun _ z => z)
      replace q1 := s6 _ _ q1
      replace q2 := s6 _ _ q2
      replace h2 := A2.mono s6 h2
      replace sF := sF.trans s6
      obtain ⟨F8, s8, w8, q8⟩ : ∃ F', Same F6 F' ∧ W F' _ ((D4, .lst acc4) :: os) ∧ F' p6 = some (.lst us6) := w6.freezeE (pre := [])
      replace q1 := s8 _ _ q1
      replace q2 := s8 _ _ q2
      replace h2 := A2.mono s8 h2
      replace g6 := A2.mono s8 g6
      replace sF := sF.trans s8
      exact hN4 _ (post_ok hm) _ _ _ w8 (s6.trans s8) (rep_lst q8 g6)
    intro us4 F4 H4 ys4 s4 w4 gg4 hm
    replace q1 := s4 _ _ q1
    replace q2 := s4 _ _ q2
    replace h2 := A2.mono s4 h2
    replace sF := sF.trans s4
    obtain ⟨F10, s10, w10, q10⟩ : ∃ F', Same F4 F' ∧ W F' _ (os) ∧ F' D4 = some (.lst us4) := w4.freezeE (pre := [])
    replace q1 := s10 _ _ q1
    replace q2 := s10 _ _ q2
    replace h2 := A2.mono s10 h2
    replace gg4 := A2.mono s10 gg4
    replace sF := sF.trans s10
    exact (post_ok hm) _ _ _ w10 sF (rep_lst q10 gg4)
def sp_far_in (K : Fg) : Sp := fun vs H Q E => ∃ (F : Hp) (os : List (Addr × HO)) (v_fars : V) (x_fars : (List Int)) (v_thing : V) (x_thing : Thing), vs = [v_fars, v_thing] ∧ W F H (os) ∧ rep K F v_fars x_fars ∧ rep K F v_thing x_thing ∧ Post (far_in x_fars x_thing) (Ret K F os Q) noX
theorem sc_far_in : FnScope ["fars", "thing"] ["fars", "thing"] (defScope s_far_in) := ⟨rfl, rfl, rfl, by decide +kernel, rfl, by decide +kernel, by decide +kernel⟩
theorem ok_far_in (T : Tx K mg A FD) : FnOk P w K mg base CX0 1 (A 24) (FD 24) ["fars", "thing"] (sp_far_in K) := by
  refine T.d24.fn.ok sc_far_in (fun vs H Q E h => ?_) (fun cdv Ar outer s H vs Q E hr h => ?_)
  · obtain ⟨F, os, v_fars, x_fars, v_thing, x_thing, rfl, _⟩ := h
    rfl
  · obtain ⟨F0, os, v_fars, x_fars, v_thing, x_thing, rfl, w0, r_fars, r_thing, hm⟩ := h
    have sF : Same F0 F0 := Same.refl _
    obtain ⟨a1, vs1, rfl, q1, h1⟩ := r_fars
    refine ⟨_, (pss_cons (ps_if (pt_val (pe_callB (call_isB (K := K) rfl) (by rfl) T.n_isinstance (by decide +kernel) (pa_cons (pv 1) (pa_cons (pe_bltn (v := .ty "int") (by rfl) T.n_int (by decide +kernel) rfl) pa_nil)))) (pss_one (ps_ret (pe_ix (ix_listK (K := K) rfl) (pv 0) (pv 1) (fun _ _ => rfl)))) pss_nil) (pss_one (ps_ret (pe_callB (call_min2 rfl) (by rfl) T.n_min (by decide +kernel) (pa_cons (pe_ix (ix_listK (K := K) rfl) (pv 0) (pe_ix (ix_tupK (K := K) rfl) (pv 1) pe_int (fun _ _ => rfl)) (fun _ _ => rfl)) (pa_cons (pe_ix (ix_listK (K := K) rfl) (pv 0) (pe_ix (ix_tupK (K := K) rfl) (pv 1) pe_int (fun _ _ => rfl)) (fun _ _ => rfl)) pa_nil)))))), ?_⟩
    obtain ⟨a3, y3, k3⟩ := th_int w0.same r_thing
    refine ⟨_, rfl, _, _, _, x_thing.isPl, rfl, y3, k3, _, rfl, ?_⟩
    refine post_ite hm (fun k4 hm => ?_) (fun k4 hm => ?_)
    · skip
      obtain ⟨t5, e5, hm⟩ := pb_asPl hm
      have r5 : v_thing = V.int t5 := (show rep K F0 v_thing (Thing.pl t5) from e5 ▸ r_thing)
      subst r5
      obtain ⟨t6, e6, hm⟩ := pb_get hm
      obtain ⟨u6, f6, r6⟩ := A2.at h1 e6
      obtain rfl : u6 = V.int t6 := r6
      exact ⟨_, rfl, _, rfl, _, _, _, _, rfl, rfl, SqL.of (w0.same _ _ q1), f6, (post_ok hm) _ _ _ w0 sF rep_i⟩
    · skip
      obtain ⟨t7, e7, hm⟩ := pb_asTi hm
      have r7 : rep K F0 v_thing (t7 : Int × Int) := (show rep K F0 v_thing (Thing.ti t7.1 t7.2) from e7 ▸ r_thing)
      obtain ⟨a8, u8, z8, rfl, q8, r8a, r8b⟩ := r7
      obtain rfl : u8 = V.int t7.1 := r8a
      obtain rfl : z8 = V.int t7.2 := r8b
      obtain ⟨t9, e9, hm⟩ := pb_get hm
      obtain ⟨u9, f9, r9⟩ := A2.at h1 e9
      obtain rfl : u9 = V.int t9 := r9
      obtain ⟨t10, e10, hm⟩ := pb_get hm
      obtain ⟨u10, f10, r10⟩ := A2.at h1 e10
      obtain rfl : u10 = V.int t10 := r10
      exact ⟨_, rfl, _, rfl, _, _, _, _, rfl, rfl, SqT.of (w0.same _ _ q8), rfl, _, _, _, _, rfl, rfl, SqL.of (w0.same _ _ q1), f9, _, rfl, _, rfl, _, _, _, _, rfl, rfl, SqT.of (w0.same _ _ q8), rfl, _, _, _, _, rfl, rfl, SqL.of (w0.same _ _ q1), f10, _, _, rfl, (post_ok hm) _ _ _ w0 sF rep_i⟩
def sp_parters_in (K : Fg) : Sp := fun vs H Q E => ∃ (F : Hp) (os : List (Addr × HO)) (v_table : V) (x_table : (List (List Int))) (v_one : V) (x_one : Thing) (v_other : V) (x_other : Thing), vs = [v_table, v_one, v_other] ∧ W F H (os) ∧ rep K F v_table x_table ∧ rep K F v_one x_one ∧ rep K F v_other x_other ∧ Post (parters_in x_table x_one x_other) (RetL K F os Q) noX
theorem sc_parters_in : FnScope ["table", "one", "other", "place", "fars"] ["table", "one", "other"] (defScope s_parters_in) := ⟨rfl, rfl, rfl, by decide +kernel, rfl, by decide +kernel, by decide +kernel⟩
theorem ok_parters_in (T : Tx K mg A FD) : FnOk P w K mg base CX0 2 (A 25) (FD 25) ["table", "one", "other"] (sp_parters_in K) := by
  refine T.d25.fn.ok sc_parters_in (fun vs H Q E h => ?_) (fun cdv Ar outer s H vs Q E hr h => ?_)
  · obtain ⟨F, os, v_table, x_table, v_one, x_one, v_other, x_other, rfl, _⟩ := h
    rfl
  · obtain ⟨F0, os, v_table, x_table, v_one, x_one, v_other, x_other, rfl, w0, r_table, r_one, r_other, hm⟩ := h
    have sF : Same F0 F0 := Same.refl _
    obtain ⟨a1, vs1, rfl, q1, h1⟩ := r_table
    refine ⟨_, (pss_one (ps_ret (pe_lc (own := [("place", 3), ("fars", 4)]) (g := _) (by rfl) sc_parters_in.nd (pi_k (K := K) (wi := fun K => iEnum K _) rfl (pi_enum (by rfl) T.n_enumerate (pa_cons (pv 0) pa_nil))) (blkOk_by (own := [("place", 3), ("fars", 4)]) (N := ["table", "one", "other", "place", "fars"]) (sc := defScope s_parters_in) (by decide +kernel)) (fun _ _ _ _ _ => (pg_k (K := K) (t := fun K => gTup K 2 _) rfl (pg_tup (n := 2) rfl (pgs_cons (pg_name (i := 3) sc_parters_in.nd rfl (Or.inl rfl)) (pgs_cons (pg_name (i := 4) sc_parters_in.nd rfl (Or.inl rfl)) pgs_nil))))) (fun _ _ _ _ _ => (pts_one (pt_cmp (pc_neI (pe_call (ok_far_in T) (hr.mono (by decide)) (by rfl) T.d24.mg T.d24.fn.kp T.d24.b .nil pass0 (pa_cons (pv 4) (pa_cons (pv 1) pa_nil))) (pe_call (ok_far_in T) (hr.mono (by decide)) (by rfl) T.d24.mg T.d24.fn.kp T.d24.b .nil pass0 (pa_cons (pv 4) (pa_cons (pv 2) pa_nil))))))) (fun _ _ _ _ _ => (pv 3))))), ?_⟩
    refine ⟨_, rfl, _, _, rfl, SqL.of (w0.same _ _ q1), fun D4 nD4 => ?_⟩
    refine lcF (K := K) (tw_enum (a := a1) h1) hm w0 nD4 (fun F' H' acc s w => SqL.of (w.same _ _ (s _ _ q1))) ?_ ?_
    · -- one turn
      intro b4 x4 F4 H4 H4' acc4 N4 M4 P4 s4 w4 y4 hN4 hM4 hm
      replace q1 := s4 _ _ q1
      replace h1 := A2.mono s4 h1
      replace r_one := Rep.mono s4 r_one
      replace r_other := Rep.mono s4 r_other
      replace sF := sF.trans s4
      obtain ⟨T6, u6, rfl, n6, rfl, r6⟩ := y4
      obtain ⟨F6, s6, w6, q6⟩ := w4.frzE (o := .tup [.int b4.1, u6]) n6
      replace r6 := Rep.mono s4 r6
      replace q1 := s6 _ _ q1
      replace h1 := A2.mono s6 h1
      replace r_one := Rep.mono s6 r_one
      replace r_other := Rep.mono s6 r_other
      replace sF := sF.trans s6
      replace r6 := Rep.mono s6 r6
      obtain ⟨a7, vs7, rfl, q7, h7⟩ := r6
      refine ⟨_, _, rfl, SqT.of (w6.same _ _ q6), rfl, _, _, rfl, _, _, rfl, rfl, rfl, _, rfl, _, rfl, _, _, _, (b4.2 : (List Int)), _, (x_one : Thing), rfl, w6, (rep_lst q7 h7), r_one, ?_⟩
      refine (post_bind hm).mono (fun y8 hm v8 F8 H8 w8 s8 r8 => ?_) (fun _ z => z)
      replace q1 := s8 _ _ q1
      replace h1 := A2.mono s8 h1
      replace r_one := Rep.mono s8 r_one
      replace r_other := Rep.mono s8 r_other
      replace q6 := s8 _ _ q6
      replace q7 := s8 _ _ q7
      replace h7 := A2.mono s8 h7
      replace sF := sF.trans s8
      obtain rfl : v8 = V.int y8 := r8
      refine ⟨_, rfl, _, rfl, _, _, _, (b4.2 : (List Int)), _, (x_other : Thing), rfl, w8, (rep_lst q7 h7), r_other, ?_⟩
      refine (post_bind hm).mono (fun y9 hm v9 F9 H9 w9 s9 r9 => ?_) (fun _ z => z)
      replace q1 := s9 _ _ q1
      replace h1 := A2.mono s9 h1
      replace r_one := Rep.mono s9 r_one
      replace r_other := Rep.mono s9 r_other
      replace q6 := s9 _ _ q6
      replace q7 := s9 _ _ q7
      replace h7 := A2.mono s9 h7
      replace sF := sF.trans s9
      obtain rfl : v9 = V.int y9 := r9
      refine ⟨_, _, rfl, rfl, _, rfl, ?_⟩
      refine post_ite hm (fun k10 hm => ?_) (fun k10 hm => ?_)
      · skip
        exact ⟨_, rfl, hN4 _ (post_ok hm) _ _ _ w9 (s6.trans (s8.trans s9)) rep_i⟩
      · skip
        exact hM4 (post_ok hm) _ _ w9 (s6.trans (s8.trans s9))
    intro us4 F4 H4 ys4 s4 w4 gg4 hm
    replace q1 := s4 _ _ q1
    replace h1 := A2.mono s4 h1
    replace r_one := Rep.mono s4 r_one
    replace r_other := Rep.mono s4 r_other
    replace sF := sF.trans s4
    exact (post_ok hm) _ _ _ _ w4 sF gg4
def sp_pairs_of (K : Fg) : Sp := fun vs H Q E => ∃ (F : Hp) (os : List (Addr × HO)) (v_web : V) (x_web : (Int × (Tup (Int × Int)))) (x_kind : Str), vs = [v_web, .str x_kind] ∧ W F H (os) ∧ rep K F v_web x_web ∧ Post (pairs_of x_web x_kind) (Ret K F os Q) noX
theorem sc_pairs_of : FnScope ["web", "kind", "things", "table", "found", "at", "one", "other"] ["web", "kind"] (defScope s_pairs_of) := ⟨rfl, rfl, rfl, by decide +kernel, rfl, by decide +kernel, by decide +kernel⟩
theorem ok_pairs_of (T : Tx K mg A FD) : FnOk P w K mg base CX0 4 (A 26) (FD 26) ["web", "kind"] (sp_pairs_of K) := by
  refine T.d26.fn.ok sc_pairs_of (fun vs H Q E h => ?_) (fun cdv Ar outer s H vs Q E hr h => ?_)
  · obtain ⟨F, os, v_web, x_web, x_kind, rfl, _⟩ := h
    rfl
  · obtain ⟨F0, os, v_web, x_web, x_kind, rfl, w0, r_web, hm⟩ := h
    have sF : Same F0 F0 := Same.refl _
    obtain ⟨a1, u1, z1, rfl, q1, r1a, r1b⟩ := r_web
    obtain rfl : u1 = V.int x_web.1 := r1a
    obtain ⟨a2, vs2, rfl, q2, h2⟩ := r1b
    refine ⟨_, (pss_cons (ps_set (i := 2) sc_pairs_of.nd rfl (Or.inl rfl) (pe_call (ok_things_of T) (hr.mono (by decide)) (by rfl) T.d14.mg T.d14.fn.kp T.d14.b .nil pass0 (pa_cons (pv 0) (pa_cons (pv 1) pa_nil)))) (pss_cons (ps_set (i := 3) sc_pairs_of.nd rfl (Or.inl rfl) (pe_call (ok_fars_of T) (hr.mono (by decide)) (by rfl) T.d23.mg T.d23.fn.kp T.d23.b .nil pass0 (pa_cons (pv 0) pa_nil))) (pss_cons (ps_set (i := 4) sc_pairs_of.nd rfl (Or.inl rfl) (pe_lst pa_nil)) (pss_cons (ps_for PassesOwn.never rfl (pi_k (K := K) (wi := fun K => iEnum K _) rfl (pi_enum (by rfl) T.n_enumerate (pa_cons (pv 2) pa_nil))) (pg_k (K := K) (t := fun K => gTup K 2 _) rfl (pg_tup (n := 2) rfl (pgs_cons (pg_name (i := 5) sc_pairs_of.nd rfl (Or.inl rfl)) (pgs_cons (pg_name (i := 6) sc_pairs_of.nd rfl (Or.inl rfl)) pgs_nil)))) (pss_one (ps_for PassesOwn.never rfl (pi_listK (K := K) rfl (pe_slice (sl_listK (K := K) rfl) (pv 2) (po_some (pe_op op_add (pv 5) pe_int)) po_none)) (pg_name (i := 7) sc_pairs_of.nd rfl (Or.inl rfl)) (pss_one (ps_expr (pe_bm PySem.F.plainAttrs_list PySem.F.slot_list_append PySem.F.type_list_append mt_append (pv 4) (pa_cons (pe_tup (pa_cons (pv 6) (pa_cons (pv 7) (pa_cons (pe_call (ok_parters_in T) (hr.mono (by decide)) (by rfl) T.d25.mg T.d25.fn.kp T.d25.b .nil pass0 (pa_cons (pv 3) (pa_cons (pv 6) (pa_cons (pv 7) pa_nil)))) pa_nil)))) pa_nil))))))) (pss_one (ps_ret (pv 4))))))), ?_⟩
    refine ⟨_, rfl, _, rfl, _, _, _, (x_web : (Int × (Tup (Int × Int)))), _, rfl, w0, (rep_pair q1 rep_i (rep_tup q2 h2)), ?_⟩
    refine (post_bind hm).mono (fun y3 hm p3 us3 F3 H3 w3 s3 g3 => ?_) (fun _ z => z)
    replace q1 := s3 _ _ q1
    replace q2 := s3 _ _ q2
    replace h2 := A2.mono s3 h2
    replace sF := sF.trans s3
    obtain ⟨F5, s5, w5, q5⟩ : ∃ F', Same F3 F' ∧ W F' _ (os) ∧ F' p3 = some (.lst us3) := w3.freezeE (pre := [])
    replace q1 := s5 _ _ q1
    replace q2 := s5 _ _ q2
    replace h2 := A2.mono s5 h2
    replace g3 := A2.mono s5 g3
    replace sF := sF.trans s5
    refine ⟨_, rfl, _, _, _, (x_web : (Int × (Tup (Int × Int)))), rfl, w5, (rep_pair q1 rep_i (rep_tup q2 h2)), ?_⟩
    refine (post_bind hm).mono (fun y6 hm v6 F6 H6 w6 s6 r6 => ?_) (fun _ z => z)
    replace q1 := s6 _ _ q1
    replace h2 := A2.mono s6 h2
    replace q2 := s6 _ _ q2
    replace g3 := A2.mono s6 g3
    replace q5 := s6 _ _ q5
    replace sF := sF.trans s6
    obtain ⟨a7, vs7, rfl, q7, h7⟩ := r6
    have h8 : A2 (rep K F6) [] ([] : (List (Nt (Thing × Thing × (List Int) × Unit)))) := .nil
    refine ⟨(by show 0 ≤ sizeLine; decide), fun p9 n9 => ?_⟩
    have w9 : W F6 _ ((p9, .lst []) :: os) := w6.new n9
    refine ⟨_, rfl, _, _, rfl, SqL.of (w9.same _ _ q5), ?_⟩
    refine forS (tw_enum (a := p3) g3) hm (fun (g10 : (List (Nt (Thing × Thing × (List Int) × Unit)))) σ H' => ∃ (F' : Hp) (vs10_0 : List V) (o10_7 : Option V) (o10_5 : Option V) (o10_6 : Option V), σ = [some (.ref a1), some (.str x_kind), some (.ref p3), some (.ref a7), some (.ref p9), o10_5, o10_6, o10_7] ∧ Same F6 F' ∧ W F' H' ((p9, .lst vs10_0) :: os) ∧ A2 (rep K F') vs10_0 g10) ⟨_, _, _, _, _, rfl, Same.refl _, w9, h8⟩ (fun g σ H' hI => by obtain ⟨F', _, _, _, _, _, s, w, _⟩ := hI; exact SqL.of (w.same _ _ (s _ _ q5))) ?_ ?_
    · -- a turn
      intro b10 g10 x10 σ10 H10 H10' N10 P10 hI hy hN10 hm
      obtain ⟨F10, vs10_0, o10_7, o10_5, o10_6, rfl, s10, w10, h10_0⟩ := hI
      replace q1 := s10 _ _ q1
      replace h2 := A2.mono s10 h2
      replace q2 := s10 _ _ q2
      replace g3 := A2.mono s10 g3
      replace q5 := s10 _ _ q5
      replace h7 := A2.mono s10 h7
      replace q7 := s10 _ _ q7
      replace sF := sF.trans s10
      obtain ⟨T11, u11, rfl, n11, rfl, r11⟩ := hy
      obtain ⟨F11, s11, w11, q11⟩ := w10.frzE (o := .tup [.int b10.1, u11]) n11
      replace r11 := Rep.mono s10 r11
      replace q1 := s11 _ _ q1
      replace h2 := A2.mono s11 h2
      replace q2 := s11 _ _ q2
      replace g3 := A2.mono s11 g3
      replace q5 := s11 _ _ q5
      replace h7 := A2.mono s11 h7
      replace q7 := s11 _ _ q7
      replace h10_0 := A2.mono s11 h10_0
      replace sF := sF.trans s11
      replace r11 := Rep.mono s11 r11
      have h14 : A2 (rep K F11) (cutV us3 (some (b10.1 + (1 : Int))) none) (cutL y3 (some (b10.1 + (1 : Int))) none) := sl_cut g3 _ _
      refine ⟨_, _, rfl, SqT.of (w11.same _ _ q11), rfl, _, _, rfl, _, _, rfl, rfl, _, rfl, _, rfl, _, _, rfl, rfl, _, rfl, _, _, rfl, SqL.of (w11.same _ _ q5), fun p15 n15 => ?_⟩
      have w15 : W F11 _ ((p15, .lst (cutV us3 (some (b10.1 + (1 : Int))) none)) :: (p9, .lst vs10_0) :: os) := w11.new n15
      obtain ⟨F16, s16, w16, q16⟩ : ∃ F', Same F11 F' ∧ W F' _ ((p9, .lst vs10_0) :: os) ∧ F' p15 = some (.lst (cutV us3 (some (b10.1 + (1 : Int))) none)) := w15.freezeE (pre := [])
      replace q1 := s16 _ _ q1
      replace h2 := A2.mono s16 h2
      replace q2 := s16 _ _ q2
      replace g3 := A2.mono s16 g3
      replace q5 := s16 _ _ q5
      replace h7 := A2.mono s16 h7
      replace q7 := s16 _ _ q7
      replace r11 := Rep.mono s16 r11
      replace h10_0 := A2.mono s16 h10_0
      replace h14 := A2.mono s16 h14
      replace sF := sF.trans s16
      refine ⟨_, rfl, ⟨_, SqL.of (w16.same _ _ q16)⟩, ?_⟩
      refine forS (tw_list (a := p15) h14) hm (fun (g13 : (List (Nt (Thing × Thing × (List Int) × Unit)))) σ H' => ∃ (F' : Hp) (vs13_0 : List V) (o13_7 : Option V), σ = [some (.ref a1), some (.str x_kind), some (.ref p3), some (.ref a7), some (.ref p9), some (.int b10.1), some u11, o13_7] ∧ Same F16 F' ∧ W F' H' ((p9, .lst vs13_0) :: os) ∧ A2 (rep K F') vs13_0 g13) ⟨_, _, _, rfl, Same.refl _, w16, h10_0⟩ (fun g σ H' hI => by obtain ⟨F', _, _, _, s, w, _⟩ := hI; exact SqL.of (w.same _ _ (s _ _ q16))) ?_ ?_
      · -- a turn
        intro b13 g13 x13 σ13 H13 H13' N13 P13 hI hy hN13 hm
        obtain ⟨F13, vs13_0, o13_7, rfl, s13, w13, h13_0⟩ := hI
        replace q1 := s13 _ _ q1
        replace h2 := A2.mono s13 h2
        replace q2 := s13 _ _ q2
        replace g3 := A2.mono s13 g3
        replace q5 := s13 _ _ q5
        replace h7 := A2.mono s13 h7
        replace q7 := s13 _ _ q7
        replace r11 := Rep.mono s13 r11
        replace h14 := A2.mono s13 h14
        replace q16 := s13 _ _ q16
        replace sF := sF.trans s13
        obtain ⟨rfl, r17⟩ := hy
        replace r17 := Rep.mono s13 r17
        refine ⟨_, rfl, .inl ⟨rfl, _, SqL.of (w13.get (pre := []))⟩, _, rfl, _, rfl, _, rfl, _, rfl, _, rfl, _, _, _, (y6 : (List (List Int))), _, (b10.2 : Thing), _, (b13 : Thing), rfl, w13, (rep_lst q7 h7), r11, r17, ?_⟩
        refine (post_bind hm).mono (fun y19 hm p19 us19 F19 H19 w19 s19 g19 => ?_) (fun _ z => z)
        replace q1 := s19 _ _ q1
        replace h2 := A2.mono s19 h2
        replace q2 := s19 _ _ q2
        replace g3 := A2.mono s19 g3
        replace q5 := s19 _ _ q5
        replace h7 := A2.mono s19 h7
        replace q7 := s19 _ _ q7
        replace r17 := Rep.mono s19 r17
        replace r11 := Rep.mono s19 r11
        replace h13_0 := A2.mono s19 h13_0
        replace sF := sF.trans s19
        obtain ⟨F21, s21, w21, q21⟩ : ∃ F', Same F19 F' ∧ W F' _ ((p9, .lst vs13_0) :: os) ∧ F' p19 = some (.lst us19) := w19.freezeE (pre := [])
        replace q1 := s21 _ _ q1
        replace h2 := A2.mono s21 h2
        replace q2 := s21 _ _ q2
        replace g3 := A2.mono s21 g3
        replace q5 := s21 _ _ q5
        replace h7 := A2.mono s21 h7
        replace q7 := s21 _ _ q7
        replace r17 := Rep.mono s21 r17
        replace r11 := Rep.mono s21 r11
        replace h13_0 := A2.mono s21 h13_0
        replace g19 := A2.mono s21 g19
        replace sF := sF.trans s21
        refine ⟨(by show 3 ≤ sizeLine; decide), fun p22 n22 => ?_⟩
        obtain ⟨F22, s22, w22, q22⟩ := w21.frzE (o := .tup [u11, x13, (.ref p19)]) n22
        replace q1 := s22 _ _ q1
        replace h2 := A2.mono s22 h2
        replace q2 := s22 _ _ q2
        replace g3 := A2.mono s22 g3
        replace q5 := s22 _ _ q5
        replace h7 := A2.mono s22 h7
        replace q7 := s22 _ _ q7
        replace r17 := Rep.mono s22 r17
        replace r11 := Rep.mono s22 r11
        replace h13_0 := A2.mono s22 h13_0
        replace g19 := A2.mono s22 g19
        replace q21 := s22 _ _ q21
        replace sF := sF.trans s22
        obtain ⟨l23, z23, e23, hm⟩ := pn_app hm
        refine ⟨_, _, _, rfl, rfl, (w22.get (pre := [])), (A2.lt h13_0 z23), ?_⟩
        have h23 : A2 (rep K F22) (vs13_0 ++ [(V.ref p22)]) l23 := e23 ▸ A2.snoc h13_0 (rep_nt3 q22 r11 r17 (rep_lst q21 g19))
        have w24 : W F22 _ ((p9, .lst (vs13_0 ++ [(V.ref p22)])) :: os) := w22.set (pre := [])
        exact hN13 _ (post_ok hm) _ _ ⟨_, _, _, rfl, (s13.trans (s19.trans (s21.trans s22))), w24, h23⟩
      intro g13 σ13 H13 hI hm
      obtain ⟨F13, vs13_0, o13_7, rfl, s13, w13, h13_0⟩ := hI
      replace q1 := s13 _ _ q1
      replace h2 := A2.mono s13 h2
      replace q2 := s13 _ _ q2
      replace g3 := A2.mono s13 g3
      replace q5 := s13 _ _ q5
      replace h7 := A2.mono s13 h7
      replace q7 := s13 _ _ q7
      replace r11 := Rep.mono s13 r11
      replace h14 := A2.mono s13 h14
      replace q16 := s13 _ _ q16
      replace sF := sF.trans s13
      exact hN10 _ (post_ok hm) _ _ ⟨_, _, _, _, _, rfl, (s10.trans (s11.trans (s16.trans s13))), w13, h13_0⟩
    intro g10 σ10 H10 hI hm
    obtain ⟨F10, vs10_0, o10_7, o10_5, o10_6, rfl, s10, w10, h10_0⟩ := hI
    replace q1 := s10 _ _ q1
    replace h2 := A2.mono s10 h2
    replace q2 := s10 _ _ q2
    replace g3 := A2.mono s10 g3
    replace q5 := s10 _ _ q5
    replace h7 := A2.mono s10 h7
    replace q7 := s10 _ _ q7
    replace sF := sF.trans s10
    obtain ⟨F25, s25, w25, q25⟩ : ∃ F', Same F10 F' ∧ W F' _ (os) ∧ F' p9 = some (.lst vs10_0) := w10.freezeE (pre := [])
    replace q1 := s25 _ _ q1
    replace h2 := A2.mono s25 h2
    replace q2 := s25 _ _ q2
    replace g3 := A2.mono s25 g3
    replace q5 := s25 _ _ q5
    replace h7 := A2.mono s25 h7
    replace q7 := s25 _ _ q7
    replace h10_0 := A2.mono s25 h10_0
    replace sF := sF.trans s25
    exact ⟨_, rfl, (post_ok hm) _ _ _ w25 sF (rep_lst q25 h10_0)⟩
def sp_leanest_pairs (K : Fg) : Sp := fun vs H Q E => ∃ (F : Hp) (os : List (Addr × HO)) (v_pairs : V) (x_pairs : (List (Nt (Thing × Thing × (List Int) × Unit)))), vs = [v_pairs] ∧ W F H (os) ∧ rep K F v_pairs x_pairs ∧ Post (leanest_pairs x_pairs) (Ret K F os Q) noX
theorem sc_leanest_pairs : FnScope ["pairs", "unlike", "pair", "found", "parters", "lesser", "one", "place"] ["pairs"] (defScope s_leanest_pairs) := ⟨rfl, rfl, rfl, by decide +kernel, rfl, by decide +kernel, by decide +kernel⟩
theorem ok_leanest_pairs (T : Tx K mg A FD) : FnOk P w K mg base CX0 1 (A 27) (FD 27) ["pairs"] (sp_leanest_pairs K) := by
  refine T.d27.fn.ok sc_leanest_pairs (fun vs H Q E h => ?_) (fun cdv Ar outer s H vs Q E hr h => ?_)
  · obtain ⟨F, os, v_pairs, x_pairs, rfl, _⟩ := h
    rfl
  · obtain ⟨F0, os, v_pairs, x_pairs, rfl, w0, r_pairs, hm⟩ := h
    have sF : Same F0 F0 := Same.refl _
    obtain ⟨a1, vs1, rfl, q1, h1⟩ := r_pairs
    refine ⟨_, (pss_cons (ps_set (i := 1) sc_leanest_pairs.nd rfl (Or.inl rfl) pe_dnewT) (pss_cons (ps_for PassesOwn.never rfl (pi_listK (K := K) rfl (pv 0)) (pg_name (i := 2) sc_leanest_pairs.nd rfl (Or.inl rfl)) (pss_one (ps_expr (pe_dsetdU (Room.units1 hr) (pv 1) (pe_callTy (call_tuple_ofK (K := K) rfl) (by rfl) T.n_tuple (by decide +kernel) (pa_cons (pe_ix (ix_tupK (K := K) rfl) (pv 2) pe_int (fun _ _ => rfl)) pa_nil)) (pv 2) ⟨rfl, rfl, rfl, rfl⟩)))) (pss_cons (ps_set (i := 3) sc_leanest_pairs.nd rfl (Or.inl rfl) (pe_lst pa_nil)) (pss_cons (ps_for PassesOwn.never rfl (pi_itemsT (pv 1)) (pg_k (K := K) (t := fun K => gTup K 2 _) rfl (pg_tup (n := 2) rfl (pgs_cons (pg_name (i := 4) sc_leanest_pairs.nd rfl (Or.inr rfl)) (pgs_cons (pg_name (i := 2) sc_leanest_pairs.nd rfl (Or.inl rfl)) pgs_nil)))) (pss_cons (ps_setLc (i := 5) (own := [("one", 6)]) (g := gName 6) (by rfl) sc_leanest_pairs.nd rfl rfl (sw_true rfl rfl rfl (by decide +kernel)) (pi_keys (pv 1)) (blkOk_by (own := [("one", 6)]) (N := ["pairs", "unlike", "pair", "found", "parters", "lesser", "one", "place"]) (sc := defScope s_leanest_pairs) (by decide +kernel)) (fun _ _ _ _ _ => (pg_name (i := 6) sc_leanest_pairs.nd rfl (Or.inl rfl))) (fun _ _ _ _ _ => (pts_one (PW.pt (pw_and (pt_cmp (pc_lt (pe_callB (call_lenN (K := K) rfl) (by rfl) T.n_len (by decide +kernel) (pa_cons (pv 6) pa_nil)) (pe_callB (call_lenN (K := K) rfl) (by rfl) T.n_len (by decide +kernel) (pa_cons (pv 4) pa_nil)))) (pw_and1 (pt_val (pe_callB (cr_allK (K := K) rfl rfl) (by rfl) T.n_all (by decide +kernel) (pa_cons (pe_lc (own := [("place", 7)]) (g := gName 7) (by rfl) sc_leanest_pairs.nd (pi_tupK (K := K) rfl (pv 6)) (blkOk_by (own := [("place", 7)]) (N := ["pairs", "unlike", "pair", "found", "parters", "lesser", "one", "place"]) (sc := _) (by kernel_rfl)) (fun _ _ _ _ _ => (pg_name (i := 7) sc_leanest_pairs.nd rfl (Or.inl rfl))) (fun _ _ _ _ _ => pts_nil) (fun _ _ _ _ _ => (pe_cmpR (op_inT (K := K) rfl Int (by decide) (Room.units65 hr)) (pv 7) (pv 4) (by rfl)))) pa_nil)))))))) (fun _ _ _ _ _ => (pv 6))) (pss_one (ps_if (pt_cmpR (op_eqDt (K := K) rfl (List (Tup Int)) (by decide) hr.units) (pv 5) (pe_lst pa_nil) (nomark _)) (pss_one (ps_expr (pe_bm PySem.F.plainAttrs_list PySem.F.slot_list_append PySem.F.type_list_append mt_append (pv 3) (pa_cons (pv 2) pa_nil)))) pss_nil)))) (pss_one (ps_ret (pv 3))))))), ?_⟩
    refine fun p2 n2 => ?_
    have w2 : W F0 _ ((p2, .dT []) :: os) := w0.new n2
    have h2 : AD kT (rep K F0) [] ([] : (List ((Tup Int) × (Nt (Thing × Thing × (List Int) × Unit))))) := .nil
    refine ⟨_, rfl, _, rfl, ⟨_, SqL.of (w2.same _ _ q1)⟩, ?_⟩
    refine forS (tw_list (a := a1) h1) hm (fun (g3 : (List ((Tup Int) × (Nt (Thing × Thing × (List Int) × Unit))))) σ H' => ∃ (F' : Hp) (vs3_0 : List (List Key × V)) (o3_2 : Option V), σ = [some (.ref a1), some (.ref p2), o3_2, none, none, none, none, none] ∧ Same F0 F' ∧ W F' H' ((p2, .dT vs3_0) :: os) ∧ AD kT (rep K F') vs3_0 g3) ⟨_, _, _, rfl, Same.refl _, w2, h2⟩ (fun g σ H' hI => by obtain ⟨F', _, _, _, s, w, _⟩ := hI; exact SqL.of (w.same _ _ (s _ _ q1))) ?_ ?_
    · -- a turn
      intro b3 g3 x3 σ3 H3 H3' N3 P3 hI hy hN3 hm
      obtain ⟨F3, vs3_0, o3_2, rfl, s3, w3, h3_0⟩ := hI
      replace h1 := A2.mono s3 h1
      replace q1 := s3 _ _ q1
      replace sF := sF.trans s3
      obtain ⟨rfl, r4⟩ := hy
      replace r4 := Rep.mono s3 r4
      obtain ⟨a5, u5_0, u5_1, u5_2, rfl, q5, r5_0, r5_1, r5_2⟩ := nt3 r4
      replace r5_0 : rep K F3 u5_0 (b3.v.1 : Thing) := r5_0
      replace r5_1 : rep K F3 u5_1 (b3.v.2.1 : Thing) := r5_1
      replace r5_2 : rep K F3 u5_2 (b3.v.2.2.1 : (List Int)) := r5_2
      obtain ⟨a8, vs8, rfl, q8, h8⟩ := r5_2
      have h9 : A2 (rep K F3) vs8 b3.v.2.2.1 := h8
      refine ⟨_, rfl, _, rfl, isD_t (w3.get (pre := [])), _, rfl, _, _, _, _, rfl, rfl, SqT.of (w3.same _ _ q5), rfl, _, _, rfl, .inl ⟨SqL.of (w3.same _ _ q8), fun p10 n10 => ?_⟩⟩
      obtain ⟨F10, s10, w10, q10⟩ := w3.frzE (o := .tup vs8) n10
      replace h1 := A2.mono s10 h1
      replace q1 := s10 _ _ q1
      replace q5 := s10 _ _ q5
      replace r5_0 := Rep.mono s10 r5_0
      replace r5_1 := Rep.mono s10 r5_1
      replace h8 := A2.mono s10 h8
      replace q8 := s10 _ _ q8
      replace h3_0 := AD.imp (fun _ _ => Rep.mono s10) h3_0
      replace h9 := A2.mono s10 h9
      replace sF := sF.trans s10
      obtain ⟨l11, z11, e11, hm⟩ := pn_msetd hm
      refine ⟨_, rfl, _, _, _, (w10.get (pre := [])), rfl, key_tup (t := (Tup.mk b3.v.2.2.1)) w10.same q10 h9, (by rw [AD.length h3_0]; exact z11), fun _ => ?_⟩
      have h11 : AD kT (rep K F10) (setdK vs3_0 (kT (Tup.mk b3.v.2.2.1)) (.ref a5)) l11 := e11 ▸ AD.setd h3_0 (rep_nt3 q5 r5_0 r5_1 (rep_lst q8 h8))
      have w12 : W F10 _ ((p2, .dT (setdK vs3_0 (kT (Tup.mk b3.v.2.2.1)) (.ref a5))) :: os) := w10.set (pre := [])
      exact hN3 _ (post_ok hm) _ _ ⟨_, _, _, rfl, (s3.trans s10), w12, h11⟩
    intro g3 σ3 H3 hI hm
    obtain ⟨F3, vs3_0, o3_2, rfl, s3, w3, h3_0⟩ := hI
    replace h1 := A2.mono s3 h1
    replace q1 := s3 _ _ q1
    replace sF := sF.trans s3
    have h13 : A2 (rep K F3) [] ([] : (List (Nt (Thing × Thing × (List Int) × Unit)))) := .nil
    refine ⟨(by show 0 ≤ sizeLine; decide), fun p14 n14 => ?_⟩
    have w14 : W F3 _ ((p14, .lst []) :: (p2, .dT vs3_0) :: os) := w3.new n14
    refine ⟨_, rfl, _, _, rfl, (w14.get (pre := [_])), fun od16 => ?_⟩
    have w16 : W F3 _ ((p14, .lst []) :: (p2, (.frz od16 (.dT vs3_0))) :: os) := w14.set (pre := [_])
    refine forS (tw_itemsT (d := p2) (o := od16) h3_0) hm (fun (g15 : (List (Nt (Thing × Thing × (List Int) × Unit)))) σ H' => ∃ (F' : Hp) (vs15_0 : List V) (o15_5 : Option V) (o15_4 : Option V) (o15_2 : Option V), σ = [some (.ref a1), some (.ref p2), o15_2, some (.ref p14), o15_4, o15_5, none, none] ∧ Same F3 F' ∧ W F' H' ((p14, .lst vs15_0) :: (p2, (.frz od16 (.dT vs3_0))) :: os) ∧ A2 (rep K F') vs15_0 g15) ⟨_, _, _, _, _, rfl, Same.refl _, w16, h13⟩ (fun g σ H' hI => by obtain ⟨F', _, _, _, _, _, s, w, _⟩ := hI; exact w.get (pre := [_])) ?_ ?_
    · -- a turn
      intro b15 g15 x15 σ15 H15 H15' N15 P15 hI hy hN15 hm
      obtain ⟨F15, vs15_0, o15_5, o15_4, o15_2, rfl, s15, w15, h15_0⟩ := hI
      replace h1 := A2.mono s15 h1
      replace q1 := s15 _ _ q1
      replace h3_0 := AD.imp (fun _ _ => Rep.mono s15) h3_0
      replace sF := sF.trans s15
      obtain ⟨T17, k17, u17, rfl, n17, hk17, rfl, r17⟩ := hy
      replace r17 := Rep.mono s15 r17
      obtain ⟨F18, s18, w18, f18⟩ := w15.tups
      have q18 := f18 _ _ hk17
      replace r17 := Rep.mono s18 r17
      replace h1 := A2.mono s18 h1
      replace q1 := s18 _ _ q1
      replace h3_0 := AD.imp (fun _ _ => Rep.mono s18) h3_0
      replace h15_0 := A2.mono s18 h15_0
      replace sF := sF.trans s18
      have h18 : A2 (rep K F18) (b15.1.l.map V.int) b15.1.l := A2.of_ints
      obtain ⟨F19, s19, w19, q19⟩ := w18.frzE (o := .tup [.ref k17, u17]) n17
      replace r17 := Rep.mono s19 r17
      replace h1 := A2.mono s19 h1
      replace q1 := s19 _ _ q1
      replace h3_0 := AD.imp (fun _ _ => Rep.mono s19) h3_0
      replace h15_0 := A2.mono s19 h15_0
      replace q18 := s19 _ _ q18
      replace h18 := A2.mono s19 h18
      replace sF := sF.trans s19
      obtain ⟨a20, u20_0, u20_1, u20_2, rfl, q20, r20_0, r20_1, r20_2⟩ := nt3 r17
      replace r20_0 : rep K F19 u20_0 (b15.2.v.1 : Thing) := r20_0
      replace r20_1 : rep K F19 u20_1 (b15.2.v.2.1 : Thing) := r20_1
      replace r20_2 : rep K F19 u20_2 (b15.2.v.2.2.1 : (List Int)) := r20_2
      obtain ⟨a23, vs23, rfl, q23, h23⟩ := r20_2
      refine ⟨_, _, rfl, SqT.of (w19.same _ _ q19), rfl, _, _, rfl, _, _, rfl, rfl, _, rfl, _, _, rfl, .inr ⟨_, (w19.get (pre := [_])), ?_⟩⟩
      refine fun D25 nD25 => ?_
      refine lcF (K := K) (tw_keysT (d := p2) (o := od16) h3_0) hm w19 nD25 (fun F' H' acc s w => w.get (pre := [_, _])) ?_ ?_
      · -- one turn
        intro b25 x25 F25 H25 H25' acc25 N25 M25 P25 s25 w25 y25 hN25 hM25 hm
        replace h1 := A2.mono s25 h1
        replace q1 := s25 _ _ q1
        replace q20 := s25 _ _ q20
        replace r20_0 := Rep.mono s25 r20_0
        replace r20_1 := Rep.mono s25 r20_1
        replace h23 := A2.mono s25 h23
        replace q23 := s25 _ _ q23
        replace h18 := A2.mono s25 h18
        replace q18 := s25 _ _ q18
        replace h15_0 := A2.mono s25 h15_0
        replace h3_0 := AD.imp (fun _ _ => Rep.mono s25) h3_0
        replace sF := sF.trans s25
        obtain ⟨rfl, k27, rfl, hk27⟩ := y25
        obtain ⟨F28, s28, w28, f28⟩ := w25.tups
        have q28 := f28 _ _ hk27
        replace h1 := A2.mono s28 h1
        replace q1 := s28 _ _ q1
        replace q20 := s28 _ _ q20
        replace r20_0 := Rep.mono s28 r20_0
        replace r20_1 := Rep.mono s28 r20_1
        replace h23 := A2.mono s28 h23
        replace q23 := s28 _ _ q23
        replace h18 := A2.mono s28 h18
        replace q18 := s28 _ _ q18
        replace h15_0 := A2.mono s28 h15_0
        replace h3_0 := AD.imp (fun _ _ => Rep.mono s28) h3_0
        replace sF := sF.trans s28
        have h28 : A2 (rep K F28) (b25.l.map V.int) b25.l := A2.of_ints
        refine ⟨rfl, ?_⟩
        refine joinT hm (fun (j29 : Bool) c H' => c = j29 ∧ ∃ (F' : Hp), Same F28 F' ∧ W F' H' ((D25, .lst acc25) :: (p14, .lst vs15_0) :: (p2, (.frz od16 (.dT vs3_0))) :: os)) ?_ ?_
        · intro Q29 P29 q29 hm
          refine ⟨_, rfl, _, _, _, rfl, .inr (SqT.of (w28.same _ _ q28)), h28.length, _, rfl, _, _, _, rfl, .inr (SqT.of (w28.same _ _ q18)), h18.length, _, _, rfl, rfl, _, rfl, ?_⟩
          refine post_ite hm (fun k30 hm => ?_) (fun k30 hm => ?_)
          · skip
            refine ⟨_, rfl, _, rfl, ⟨_, SqT.of (w28.same _ _ q28)⟩, fun D31 nD31 => ?_⟩
            refine lcM (K := K) (tw_tup (a := k27) h28) hm w28 nD31 (fun F' H' acc s w => SqT.of (w.same _ _ (s _ _ q28))) ?_ ?_
            · -- one turn
              intro b31 x31 F31 H31 H31' acc31 N31 P31 s31 w31 y31 hN31 hm
              replace h1 := A2.mono s31 h1
              replace q1 := s31 _ _ q1
              replace q20 := s31 _ _ q20
              replace r20_0 := Rep.mono s31 r20_0
              replace r20_1 := Rep.mono s31 r20_1
              replace h23 := A2.mono s31 h23
              replace q23 := s31 _ _ q23
              replace h18 := A2.mono s31 h18
              replace q18 := s31 _ _ q18
              replace h15_0 := A2.mono s31 h15_0
              replace h3_0 := AD.imp (fun _ _ => Rep.mono s31) h3_0
              replace q28 := s31 _ _ q28
              replace h28 := A2.mono s31 h28
              replace sF := sF.trans s31
              obtain ⟨rfl, r33⟩ := y31
              obtain rfl : x31 = V.int b31 := r33
              exact ⟨rfl, _, rfl, _, rfl, (b31 : Int), _, rep_i, (Rep.mono w31.same (rep_tup q18 h18)), hN31 _ (post_ok hm) _ _ _ w31 (Same.refl _) rep_b⟩
            intro us31 F31 H31 ys31 s31 w31 gg31 hm
            replace h1 := A2.mono s31 h1
            replace q1 := s31 _ _ q1
            replace q20 := s31 _ _ q20
            replace r20_0 := Rep.mono s31 r20_0
            replace r20_1 := Rep.mono s31 r20_1
            replace h23 := A2.mono s31 h23
            replace q23 := s31 _ _ q23
            replace h18 := A2.mono s31 h18
            replace q18 := s31 _ _ q18
            replace h15_0 := A2.mono s31 h15_0
            replace h3_0 := AD.imp (fun _ _ => Rep.mono s31) h3_0
            replace q28 := s31 _ _ q28
            replace h28 := A2.mono s31 h28
            replace sF := sF.trans s31
            have w36 : W F31 _ ((D25, .lst acc25) :: (p14, .lst vs15_0) :: (p2, (.frz od16 (.dT vs3_0))) :: os) := w31.drop (pre := [])
            exact ⟨_, _, rfl, bools_q (SqL.of (w31.get (pre := []))) gg31, _, rfl, q29 _ (post_ok hm) _ _ ⟨rfl, _, s31, w36⟩⟩
          · skip
            exact q29 _ (post_ok hm) _ _ ⟨rfl, _, Same.refl _, w28⟩
        intro j29 c29 H29 hc29 hm
        obtain ⟨rfl, F29, s29, w29⟩ := hc29
        replace h1 := A2.mono s29 h1
        replace q1 := s29 _ _ q1
        replace q20 := s29 _ _ q20
        replace r20_0 := Rep.mono s29 r20_0
        replace r20_1 := Rep.mono s29 r20_1
        replace h23 := A2.mono s29 h23
        replace q23 := s29 _ _ q23
        replace h18 := A2.mono s29 h18
        replace q18 := s29 _ _ q18
        replace h15_0 := A2.mono s29 h15_0
        replace h3_0 := AD.imp (fun _ _ => Rep.mono s29) h3_0
        replace q28 := s29 _ _ q28
        replace h28 := A2.mono s29 h28
        replace sF := sF.trans s29
        refine post_ite hm (fun k38 hm => ?_) (fun k38 hm => ?_)
        · skip
          exact ⟨_, rfl, hN25 _ (post_ok hm) _ _ _ w29 (s28.trans s29) (rep_tup q28 h28)⟩
        · skip
          exact hM25 (post_ok hm) _ _ w29 (s28.trans s29)
      intro us25 F25 H25 ys25 s25 w25 gg25 hm
      replace h1 := A2.mono s25 h1
      replace q1 := s25 _ _ q1
      replace q20 := s25 _ _ q20
      replace r20_0 := Rep.mono s25 r20_0
      replace r20_1 := Rep.mono s25 r20_1
      replace h23 := A2.mono s25 h23
      replace q23 := s25 _ _ q23
      replace h18 := A2.mono s25 h18
      replace q18 := s25 _ _ q18
      replace h15_0 := A2.mono s25 h15_0
      replace h3_0 := AD.imp (fun _ _ => Rep.mono s25) h3_0
      replace sF := sF.trans s25
      obtain ⟨F40, s40, w40, q40⟩ : ∃ F', Same F25 F' ∧ W F' _ ((p14, .lst vs15_0) :: (p2, (.frz od16 (.dT vs3_0))) :: os) ∧ F' D25 = some (.lst us25) := w25.freezeE (pre := [])
      replace h1 := A2.mono s40 h1
      replace q1 := s40 _ _ q1
      replace q20 := s40 _ _ q20
      replace r20_0 := Rep.mono s40 r20_0
      replace r20_1 := Rep.mono s40 r20_1
      replace h23 := A2.mono s40 h23
      replace q23 := s40 _ _ q23
      replace h18 := A2.mono s40 h18
      replace q18 := s40 _ _ q18
      replace h15_0 := A2.mono s40 h15_0
      replace h3_0 := AD.imp (fun _ _ => Rep.mono s40) h3_0
      replace gg25 := A2.mono s40 gg25
      replace sF := sF.trans s40
      have h41 : A2 (rep K F40) [] ([] : (List (Tup Int))) := .nil
      refine ⟨_, rfl, (by show 0 ≤ sizeLine; decide), fun p42 n42 => ?_⟩
      have w42 : W F40 _ ((p42, .lst []) :: (p14, .lst vs15_0) :: (p2, (.frz od16 (.dT vs3_0))) :: os) := w40.new n42
      refine ⟨(ys25 : (List (Tup Int))), (([] : (List (Tup Int))) : (List (Tup Int))), (Rep.mono w42.same (rep_lst q40 gg25)), (rep_own (pre := []) w42 h41), _, rfl, ?_⟩
      have w43 : W F40 _ ((p14, .lst vs15_0) :: (p2, (.frz od16 (.dT vs3_0))) :: os) := w42.drop (pre := [])
      refine post_ite hm (fun k44 hm => ?_) (fun k44 hm => ?_)
      · skip
        obtain ⟨l45, z45, e45, hm⟩ := pn_app hm
        refine ⟨_, rfl, .inl ⟨rfl, _, SqL.of (w43.get (pre := []))⟩, _, rfl, _, _, _, rfl, rfl, (w43.get (pre := [])), (A2.lt h15_0 z45), ?_⟩
        have h45 : A2 (rep K F40) (vs15_0 ++ [(V.ref a20)]) l45 := e45 ▸ A2.snoc h15_0 (rep_nt3 q20 r20_0 r20_1 (rep_lst q23 h23))
        have w46 : W F40 _ ((p14, .lst (vs15_0 ++ [(V.ref a20)])) :: (p2, (.frz od16 (.dT vs3_0))) :: os) := w43.set (pre := [])
        exact hN15 _ (post_ok hm) _ _ ⟨_, _, _, _, _, rfl, (s15.trans (s18.trans (s19.trans (s25.trans s40)))), w46, h45⟩
      · skip
        exact hN15 _ (post_ok hm) _ _ ⟨_, _, _, _, _, rfl, (s15.trans (s18.trans (s19.trans (s25.trans s40)))), w43, h15_0⟩
    intro g15 σ15 H15 hI hm
    obtain ⟨F15, vs15_0, o15_5, o15_4, o15_2, rfl, s15, w15, h15_0⟩ := hI
    replace h1 := A2.mono s15 h1
    replace q1 := s15 _ _ q1
    replace h3_0 := AD.imp (fun _ _ => Rep.mono s15) h3_0
    replace sF := sF.trans s15
    obtain ⟨F47, s47, w47, q47⟩ : ∃ F', Same F15 F' ∧ W F' _ ((p2, (.frz od16 (.dT vs3_0))) :: os) ∧ F' p14 = some (.lst vs15_0) := w15.freezeE (pre := [])
    replace h1 := A2.mono s47 h1
    replace q1 := s47 _ _ q1
    replace h15_0 := A2.mono s47 h15_0
    replace h3_0 := AD.imp (fun _ _ => Rep.mono s47) h3_0
    replace sF := sF.trans s47
    have w48 : W F47 _ (os) := w47.drop (pre := [])
    exact ⟨_, rfl, (post_ok hm) _ _ _ w48 sF (rep_lst q47 h15_0)⟩
def sp_too_seldom (K : Fg) : Sp := fun vs H Q E => ∃ (F : Hp) (os : List (Addr × HO)) (v_pairs : V) (x_pairs : (List (Nt (Thing × Thing × (List Int) × Unit)))) (x_strength : Int) (v_within : V) (x_within : (List Int)), vs = [v_pairs, .int x_strength, v_within] ∧ W F H (os) ∧ rep K F v_pairs x_pairs ∧ rep K F v_within x_within ∧ Post (too_seldom x_pairs x_strength x_within) (Ret K F os Q) noX
theorem sc_too_seldom : FnScope ["pairs", "strength", "within", "best", "one", "other", "parters", "place"] ["pairs", "strength", "within"] (defScope s_too_seldom) := ⟨rfl, rfl, rfl, by decide +kernel, rfl, by decide +kernel, by decide +kernel⟩
theorem ok_too_seldom (T : Tx K mg A FD) : FnOk P w K mg base CX0 1 (A 28) (FD 28) ["pairs", "strength", "within"] (sp_too_seldom K) := by
  refine T.d28.fn.ok sc_too_seldom (fun vs H Q E h => ?_) (fun cdv Ar outer s H vs Q E hr h => ?_)
  · obtain ⟨F, os, v_pairs, x_pairs, x_strength, v_within, x_within, rfl, _⟩ := h
    rfl
  · obtain ⟨F0, os, v_pairs, x_pairs, x_strength, v_within, x_within, rfl, w0, r_pairs, r_within, hm⟩ := h
    have sF : Same F0 F0 := Same.refl _
    obtain ⟨a1, vs1, rfl, q1, h1⟩ := r_pairs
    obtain ⟨a2, vs2, rfl, q2, h2⟩ := r_within
    refine ⟨_, (pss_cons (ps_set (i := 3) sc_too_seldom.nd rfl (Or.inl rfl) pe_non1) (pss_cons (ps_for PassesOwn.never rfl (pi_listK (K := K) rfl (pv 0)) (pg_k (K := K) (t := fun K => gTup K 3 _) rfl (pg_tup (n := 3) rfl (pgs_cons (pg_name (i := 4) sc_too_seldom.nd rfl (Or.inl rfl)) (pgs_cons (pg_name (i := 5) sc_too_seldom.nd rfl (Or.inl rfl)) (pgs_cons (pg_name (i := 6) sc_too_seldom.nd rfl (Or.inl rfl)) pgs_nil))))) (pss_one (ps_if (pt_cmp (pc_lt (pe_callB (call_lenN (K := K) rfl) (by rfl) T.n_len (by decide +kernel) (pa_cons (pe_lc (own := [("place", 7)]) (g := gName 7) (by rfl) sc_too_seldom.nd (pi_listK (K := K) rfl (pv 6)) (blkOk_by (own := [("place", 7)]) (N := ["pairs", "strength", "within", "best", "one", "other", "parters", "place"]) (sc := defScope s_too_seldom) (by decide +kernel)) (fun _ _ _ _ _ => (pg_name (i := 7) sc_too_seldom.nd rfl (Or.inl rfl))) (fun _ _ _ _ _ => (pts_one (pt_cmpR (op_inL (K := K) rfl Int (by decide) (Room.units65 hr)) (pv 7) (pv 2) (by rfl)))) (fun _ _ _ _ _ => (pv 7))) pa_nil)) (pv 1))) (pss_one (ps_if (PW.pt (pw_or (pt_cmpR op_isN2 (pv 3) pe_non (nomark _)) (pw_or1 (pt_cmp (pc_lt (pe_callB (call_lenN (K := K) rfl) (by rfl) T.n_len (by decide +kernel) (pa_cons (pv 6) pa_nil)) (pe_callB (call_lenN (K := K) rfl) (by rfl) T.n_len (by decide +kernel) (pa_cons (pe_ix (ix_tupK (K := K) rfl) (pv 3) pe_int (fun _ _ => rfl)) pa_nil))))))) (pss_one (ps_set (i := 3) sc_too_seldom.nd rfl (Or.inl rfl) (pe_tup (pa_cons (pv 4) (pa_cons (pv 5) (pa_cons (pv 6) pa_nil)))))) pss_nil)) pss_nil))) (pss_one (ps_ret (pv 3))))), ?_⟩
    have r3 : rep K F0 .non (none : (Option (Nt (Thing × Thing × (List Int) × Unit)))) := rep_none
    refine ⟨trivial, _, rfl, _, rfl, ⟨_, SqL.of (w0.same _ _ q1)⟩, ?_⟩
    refine forS (tw_list (a := a1) h1) hm (fun (g4 : (Option (Nt (Thing × Thing × (List Int) × Unit)))) σ H' => ∃ (F' : Hp) (v4_3 : V) (o4_4 : Option V) (o4_5 : Option V) (o4_6 : Option V), σ = [some (.ref a1), some (.int x_strength), some (.ref a2), some v4_3, o4_4, o4_5, o4_6, none] ∧ Same F0 F' ∧ W F' H' (os) ∧ rep K F' v4_3 (g4 : (Option (Nt (Thing × Thing × (List Int) × Unit))))) ⟨_, _, _, _, _, rfl, Same.refl _, w0, r3⟩ (fun g σ H' hI => by obtain ⟨F', _, _, _, _, _, s, w, _⟩ := hI; exact SqL.of (w.same _ _ (s _ _ q1))) ?_ ?_
    · -- a turn
      intro b4 g4 x4 σ4 H4 H4' N4 P4 hI hy hN4 hm
      obtain ⟨F4, v4_3, o4_4, o4_5, o4_6, rfl, s4, w4, r4_3⟩ := hI
      replace h1 := A2.mono s4 h1
      replace q1 := s4 _ _ q1
      replace h2 := A2.mono s4 h2
      replace q2 := s4 _ _ q2
      replace r3 := Rep.mono s4 r3
      replace sF := sF.trans s4
      obtain ⟨rfl, r6⟩ := hy
      replace r6 := Rep.mono s4 r6
      obtain ⟨a7, u7_0, u7_1, u7_2, rfl, q7, r7_0, r7_1, r7_2⟩ := nt3 r6
      replace r7_0 : rep K F4 u7_0 (b4.v.1 : Thing) := r7_0
      replace r7_1 : rep K F4 u7_1 (b4.v.2.1 : Thing) := r7_1
      replace r7_2 : rep K F4 u7_2 (b4.v.2.2.1 : (List Int)) := r7_2
      obtain ⟨a10, vs10, rfl, q10, h10⟩ := r7_2
      refine ⟨_, _, rfl, SqT.of (w4.same _ _ q7), rfl, _, _, rfl, _, _, rfl, _, _, rfl, rfl, _, rfl, _, rfl, ⟨_, SqL.of (w4.same _ _ q10)⟩, fun D11 nD11 => ?_⟩
      refine lcF (K := K) (tw_list (a := a10) h10) hm w4 nD11 (fun F' H' acc s w => SqL.of (w.same _ _ (s _ _ q10))) ?_ ?_
      · -- one turn
        intro b11 x11 F11 H11 H11' acc11 N11 M11 P11 s11 w11 y11 hN11 hM11 hm
        replace h1 := A2.mono s11 h1
        replace q1 := s11 _ _ q1
        replace h2 := A2.mono s11 h2
        replace q2 := s11 _ _ q2
        replace r4_3 := Rep.mono s11 r4_3
        replace r7_0 := Rep.mono s11 r7_0
        replace r7_1 := Rep.mono s11 r7_1
        replace h10 := A2.mono s11 h10
        replace q10 := s11 _ _ q10
        replace sF := sF.trans s11
        obtain ⟨rfl, r13⟩ := y11
        obtain rfl : x11 = V.int b11 := r13
        refine ⟨rfl, _, rfl, _, rfl, (b11 : Int), _, rep_i, (Rep.mono w11.same (rep_lst q2 h2)), _, rfl, ?_⟩
        refine post_ite hm (fun k14 hm => ?_) (fun k14 hm => ?_)
        · skip
          exact ⟨_, rfl, hN11 _ (post_ok hm) _ _ _ w11 (Same.refl _) rep_i⟩
        · skip
          exact hM11 (post_ok hm) _ _ w11 (Same.refl _)
      intro us11 F11 H11 ys11 s11 w11 gg11 hm
      replace h1 := A2.mono s11 h1
      replace q1 := s11 _ _ q1
      replace h2 := A2.mono s11 h2
      replace q2 := s11 _ _ q2
      replace r4_3 := Rep.mono s11 r4_3
      replace r7_0 := Rep.mono s11 r7_0
      replace r7_1 := Rep.mono s11 r7_1
      replace h10 := A2.mono s11 h10
      replace q10 := s11 _ _ q10
      replace sF := sF.trans s11
      refine ⟨_, _, _, rfl, .inl (SqL.of (w11.get (pre := []))), gg11.length, _, rfl, _, _, rfl, rfl, _, rfl, ?_⟩
      have w16 : W F11 _ (os) := w11.drop (pre := [])
      refine post_ite hm (fun k17 hm => ?_) (fun k17 hm => ?_)
      · skip
        try dsimp only
        refine stepIf ?_
        refine joinT hm (fun (j18 : Bool) c H' => c = j18 ∧ ∃ (F' : Hp), Same F11 F' ∧ W F' H' (os)) ?_ ?_
        · intro Q18 P18 q18 hm
          refine ⟨_, rfl, rfl, _, isN_eq r4_3, _, rfl, ?_⟩
          refine post_ite hm (fun k19 hm => ?_) (fun k19 hm => ?_)
          · skip
            exact q18 _ (post_ok hm) _ _ ⟨rfl, _, Same.refl _, w16⟩
          · skip
            obtain ⟨t21, e21, hm⟩ := pb_ofO hm
            have r21 : rep K F11 v4_3 t21 := (show rep K F11 v4_3 (some t21) from e21 ▸ r4_3)
            obtain ⟨a22, u22_0, u22_1, u22_2, rfl, q22, r22_0, r22_1, r22_2⟩ := nt3 r21
            replace r22_0 : rep K F11 u22_0 (t21.v.1 : Thing) := r22_0
            replace r22_1 : rep K F11 u22_1 (t21.v.2.1 : Thing) := r22_1
            replace r22_2 : rep K F11 u22_2 (t21.v.2.2.1 : (List Int)) := r22_2
            obtain ⟨a25, vs25, rfl, q25, h25⟩ := r22_2
            exact ⟨_, rfl, _, _, _, rfl, .inl (SqL.of (w16.same _ _ q10)), h10.length, _, rfl, _, _, _, _, rfl, rfl, SqT.of (w16.same _ _ q22), rfl, _, _, _, rfl, .inl (SqL.of (w16.same _ _ q25)), h25.length, _, _, rfl, rfl, _, rfl, q18 _ (post_ok hm) _ _ ⟨rfl, _, Same.refl _, w16⟩⟩
        intro j18 c18 H18 hc18 hm
        obtain ⟨rfl, F18, s18, w18⟩ := hc18
        replace h1 := A2.mono s18 h1
        replace q1 := s18 _ _ q1
        replace h2 := A2.mono s18 h2
        replace q2 := s18 _ _ q2
        replace r4_3 := Rep.mono s18 r4_3
        replace r7_0 := Rep.mono s18 r7_0
        replace r7_1 := Rep.mono s18 r7_1
        replace h10 := A2.mono s18 h10
        replace q10 := s18 _ _ q10
        replace sF := sF.trans s18
        refine post_ite hm (fun k27 hm => ?_) (fun k27 hm => ?_)
        · skip
          refine ⟨_, rfl, _, rfl, _, rfl, (by show 3 ≤ sizeLine; decide), fun p28 n28 => ?_⟩
          obtain ⟨F28, s28, w28, q28⟩ := w18.frzE (o := .tup [u7_0, u7_1, (.ref a10)]) n28
          replace h1 := A2.mono s28 h1
          replace q1 := s28 _ _ q1
          replace h2 := A2.mono s28 h2
          replace q2 := s28 _ _ q2
          replace r4_3 := Rep.mono s28 r4_3
          replace r7_0 := Rep.mono s28 r7_0
          replace r7_1 := Rep.mono s28 r7_1
          replace h10 := A2.mono s28 h10
          replace q10 := s28 _ _ q10
          replace sF := sF.trans s28
          have r29 : rep K F28 (.ref p28) ((some (Nt.mk (b4.v.1, b4.v.2.1, b4.v.2.2.1, ()) : (Nt (Thing × Thing × (List Int) × Unit)))) : (Option (Nt (Thing × Thing × (List Int) × Unit)))) := (rep_some (rep_nt3 q28 r7_0 r7_1 (rep_lst q10 h10)))
          exact hN4 _ (post_ok hm) _ _ ⟨_, _, _, _, _, rfl, (s4.trans (s11.trans (s18.trans s28))), w28, r29⟩
        · skip
          exact hN4 _ (post_ok hm) _ _ ⟨_, _, _, _, _, rfl, (s4.trans (s11.trans s18)), w18, r4_3⟩
      · skip
        exact hN4 _ (post_ok hm) _ _ ⟨_, _, _, _, _, rfl, (s4.trans s11), w16, r4_3⟩
    intro g4 σ4 H4 hI hm
    obtain ⟨F4, v4_3, o4_4, o4_5, o4_6, rfl, s4, w4, r4_3⟩ := hI
    replace h1 := A2.mono s4 h1
    replace q1 := s4 _ _ q1
    replace h2 := A2.mono s4 h2
    replace q2 := s4 _ _ q2
    replace r3 := Rep.mono s4 r3
    replace sF := sF.trans s4
    exact ⟨_, rfl, (post_ok hm) _ _ _ w4 sF r4_3⟩
def sp_Search_init (K : Fg) : Sp := fun vs H Q E => ∃ (F : Hp) (os : List (Addr × HO)) (a_self : Addr) (dx_self : Addr) (C_self : Addr) (v_pairs : V) (x_pairs : (List (Nt (Thing × Thing × (List Int) × Unit)))) (x_strength : Int) (x_many : Int), vs = [.ref a_self, v_pairs, .int x_strength, .int x_many] ∧ W F H ((a_self, .ins C_self dx_self []) :: (dx_self, .own a_self) :: os) ∧ Nm K "Search" C_self ∧ rep K F v_pairs x_pairs ∧ Post (Search_init x_pairs x_strength x_many) (fun (y : SearchF) => ∀ (us : List V) (F' H' : Hp), W F' H' ((a_self, .ins C_self dx_self (mkfs [("pairs" : Str), ("strength" : Str), ("many" : Str), ("looks" : Str)] us)) :: (dx_self, .own a_self) :: os) → Same F F' → repTs K F' us y → Q .non H') noX
theorem sc_Search_init : FnScope ["self", "pairs", "strength", "many"] ["self", "pairs", "strength", "many"] (defScope s_Search_init) := ⟨rfl, rfl, rfl, by decide +kernel, rfl, by decide +kernel, by decide +kernel⟩
theorem ok_Search_init (T : Tx K mg A FD) : FnOk P w K mg base CX0 1 (A 30000) (FD 30000) ["self", "pairs", "strength", "many"] (sp_Search_init K) := by
  refine T.d30000.fn.ok sc_Search_init (fun vs H Q E h => ?_) (fun cdv Ar outer s H vs Q E hr h => ?_)
  · obtain ⟨F, os, a_self, dx_self, C_self, v_pairs, x_pairs, x_strength, x_many, rfl, _⟩ := h
    rfl
  · obtain ⟨F0, os, a_self, dx_self, C_self, v_pairs, x_pairs, x_strength, x_many, rfl, w0, n_self, r_pairs, hm⟩ := h
    have sF : Same F0 F0 := Same.refl _
    obtain rfl := n_self.uniq T.nm_Search
    obtain ⟨a3, vs3, rfl, q3, h3⟩ := r_pairs
    refine ⟨_, (pss_cons (ps_fld (pv 0) (pv 1) (by rfl)) (pss_cons (ps_fld (pv 0) (pv 2) (by rfl)) (pss_cons (ps_fld (pv 0) (pv 3) (by rfl)) (pss_one (ps_fld (pv 0) pe_non (by rfl)))))), ?_⟩
    refine ⟨_, rfl, _, rfl, _, _, _, _, rfl, (w0.get (pre := [])), T.cl_Search, T.na_Search_pairs, (Nat.lt_of_le_of_lt (Nat.le_refl _) (by decide : 0 < 1000)), ?_⟩
    have w4 : W F0 _ ((a_self, (.ins (A 29) dx_self (putF ("pairs" : Str) (.ref a3) []))) :: (dx_self, (.own a_self)) :: os) := w0.set (pre := [])
    refine ⟨_, rfl, _, rfl, _, _, _, _, rfl, (w4.get (pre := [])), T.cl_Search, T.na_Search_strength, (Nat.lt_of_le_of_lt (Nat.le_trans (length_putF _ _ _) (Nat.succ_le_succ (Nat.le_refl _))) (by decide : 1 < 1000)), ?_⟩
    have w5 : W F0 _ ((a_self, (.ins (A 29) dx_self (putF ("strength" : Str) (.int x_strength) (putF ("pairs" : Str) (.ref a3) [])))) :: (dx_self, (.own a_self)) :: os) := w4.set (pre := [])
    refine ⟨_, rfl, _, rfl, _, _, _, _, rfl, (w5.get (pre := [])), T.cl_Search, T.na_Search_many, (Nat.lt_of_le_of_lt (Nat.le_trans (length_putF _ _ _) (Nat.succ_le_succ (Nat.le_trans (length_putF _ _ _) (Nat.succ_le_succ (Nat.le_refl _))))) (by decide : 2 < 1000)), ?_⟩
    have w6 : W F0 _ ((a_self, (.ins (A 29) dx_self (putF ("many" : Str) (.int x_many) (putF ("strength" : Str) (.int x_strength) (putF ("pairs" : Str) (.ref a3) []))))) :: (dx_self, (.own a_self)) :: os) := w5.set (pre := [])
    refine ⟨_, rfl, _, _, _, _, rfl, (w6.get (pre := [])), T.cl_Search, T.na_Search_looks, (Nat.lt_of_le_of_lt (Nat.le_trans (length_putF _ _ _) (Nat.succ_le_succ (Nat.le_trans (length_putF _ _ _) (Nat.succ_le_succ (Nat.le_trans (length_putF _ _ _) (Nat.succ_le_succ (Nat.le_refl _))))))) (by decide : 3 < 1000)), ?_⟩
    have w7 : W F0 _ ((a_self, (.ins (A 29) dx_self (putF ("looks" : Str) .non (putF ("many" : Str) (.int x_many) (putF ("strength" : Str) (.int x_strength) (putF ("pairs" : Str) (.ref a3) [])))))) :: (dx_self, (.own a_self)) :: os) := w6.set (pre := [])
    exact (post_ok hm) [(.ref a3), (.int x_strength), (.int x_many), .non] _ _ w7 sF ⟨_, _, rfl, (rep_lst q3 h3), _, _, rfl, rep_i, _, _, rfl, rep_i, _, _, rfl, rep_none, rfl⟩
def sp_Search_tree_of (d : Nat) (K : Fg) : Sp := fun vs H Q E => ∃ (F : Hp) (os : List (Addr × HO)) (a_self : Addr) (dx_self : Addr) (C_self : Addr) (vs_self : List V) (x_self : SearchF) (v_within : V) (x_within : (List Int)) (v_without : V) (x_without : (List Int)), vs = [.ref a_self, v_within, v_without] ∧ W F H ((a_self, .ins C_self dx_self (mkfs [("pairs" : Str), ("strength" : Str), ("many" : Str), ("looks" : Str)] vs_self)) :: (dx_self, .own a_self) :: os) ∧ Nm K "Search" C_self ∧ repTs K F vs_self x_self ∧ rep K F v_within x_within ∧ rep K F v_without x_without ∧ Post (Search_tree_of d x_self x_within x_without) (fun (y : (To × SearchF)) => ∀ (v : V) (zs_self : List V) (F' H' : Hp), W F' H' ((a_self, .ins C_self dx_self (mkfs [("pairs" : Str), ("strength" : Str), ("many" : Str), ("looks" : Str)] zs_self)) :: (dx_self, .own a_self) :: os) → Same F F' → rep K F' v (y.1 : To) → repTs K F' zs_self y.2 → Q v H') noX
theorem sc_Search_tree_of : FnScope ["self", "within", "without", "pair", "one", "other", "parters", "trees", "ahead", "place"] ["self", "within", "without"] (defScope s_Search_tree_of) := ⟨rfl, rfl, rfl, by decide +kernel, rfl, by decide +kernel, by decide +kernel⟩
set_option maxHeartbeats 40000000 in
theorem ok_Search_tree_of (T : Tx K mg A FD) (d : Nat) : FnOk P w K mg base CX0 (2 + d) (A 30001) (FD 30001) ["self", "within", "without"] (sp_Search_tree_of d K) := by
  induction d with
  | zero =>
    refine T.d30001.fn.ok (k := 1) sc_Search_tree_of (fun vs H Q E h => ?_) (fun cdv Ar outer s H vs Q E hr h => ?_)
    · obtain ⟨F, os, a_self, dx_self, C_self, vs_self, x_self, v_within, x_within, v_without, x_without, rfl, _⟩ := h
      rfl
    · obtain ⟨F0, os, a_self, dx_self, C_self, vs_self, x_self, v_within, x_within, v_without, x_without, rfl, w0, n_self, h_self, r_within, r_without, hm⟩ := h
      refine ⟨_, (pss_cons ps_absurd (pss_cons ps_absurd (pss_cons ps_absurd (pss_cons ps_absurd (pss_cons ps_absurd (pss_cons ps_absurd (pss_one ps_absurd))))))), ?_⟩
      exact hm
  | succ d ih =>
    refine T.d30001.fn.ok (k := 2 + d) sc_Search_tree_of (fun vs H Q E h => ?_) (fun cdv Ar outer s H vs Q E hr h => ?_)
    · obtain ⟨F, os, a_self, dx_self, C_self, vs_self, x_self, v_within, x_within, v_without, x_without, rfl, _⟩ := h
      rfl
    · obtain ⟨F0, os, a_self, dx_self, C_self, vs_self, x_self, v_within, x_within, v_without, x_without, rfl, w0, n_self, h_self, r_within, r_without, hm⟩ := h
      rw [Search_tree_of] at hm
      have sF : Same F0 F0 := Same.refl _
      obtain rfl := n_self.uniq T.nm_Search
      obtain ⟨a3, vs3, rfl, q3, h3⟩ := r_within
      obtain ⟨a4, vs4, rfl, q4, h4⟩ := r_without
      refine ⟨_, (pss_cons (ps_set (i := 3) sc_Search_tree_of.nd rfl (Or.inl rfl) (pe_call (ok_too_seldom T) (hr.mono (by first | decide | omega)) (by rfl) T.d28.mg T.d28.fn.kp T.d28.b .nil pass0 (pa_cons (pe_fld (pv 0) (by rfl)) (pa_cons (pe_fld (pv 0) (by rfl)) (pa_cons (pv 1) pa_nil))))) (pss_cons (ps_if (pt_cmpR op_isN2 (pv 3) pe_non (nomark _)) (pss_cons (ps_fld (pv 0) (pe_callB (cr_sortI (K := K) rfl) (by rfl) T.n_sorted (by decide +kernel) (pa_cons (pv 1) pa_nil)) (by rfl)) (pss_one (ps_ret pe_non))) pss_nil) (pss_cons (ps_asg (pv 3) (pg_k (K := K) (t := fun K => gTup K 3 _) rfl (pg_tup (n := 3) rfl (pgs_cons (pg_name (i := 4) sc_Search_tree_of.nd rfl (Or.inl rfl)) (pgs_cons (pg_name (i := 5) sc_Search_tree_of.nd rfl (Or.inl rfl)) (pgs_cons (pg_name (i := 6) sc_Search_tree_of.nd rfl (Or.inl rfl)) pgs_nil)))))) (pss_cons (ps_set (i := 7) sc_Search_tree_of.nd rfl (Or.inl rfl) (pe_lst pa_nil)) (pss_cons (ps_set (i := 8) sc_Search_tree_of.nd rfl (Or.inl rfl) (pe_callTy (call_list_ofK (K := K) rfl) (by rfl) T.n_list (by decide +kernel) (pa_cons (pv 2) pa_nil))) (pss_cons (ps_if (pt_cmp (pc_lt (pe_callB (call_lenN (K := K) rfl) (by rfl) T.n_len (by decide +kernel) (pa_cons (pv 1) pa_nil)) (pe_fld (pv 0) (by rfl)))) (pss_one (ps_for PassesOwn.never rfl (pi_listK (K := K) rfl (pv 6)) (pg_name (i := 9) sc_Search_tree_of.nd rfl (Or.inl rfl)) (pss_one (ps_if (PW.pt (pw_and (pt_cmpR (op_notInL (K := K) rfl Int (by decide) (Room.units65 hr)) (pv 9) (pv 1) (by rfl)) (pw_and (pt_cmpR (op_notInL (K := K) rfl Int (by decide) (Room.units65 hr)) (pv 9) (pv 2) (by rfl)) (pw_and1 (pt_cmpR op_isN2 (pe_fld (pv 0) (by rfl)) pe_non (nomark _)))))) (pss_cons (ps_expr (pe_bm PySem.F.plainAttrs_list PySem.F.slot_list_append PySem.F.type_list_append mt_append (pv 7) (pa_cons (pe_meth (pl := _) (pv 0) T.cl_Search T.d30001.mt ih (hr.mono (by first | decide | omega)) T.d30001.b .nil pass0 (pa_cons (pe_op op_cat (pv 1) (pe_lst (pa_cons (pv 9) pa_nil))) (pa_cons (pv 8) pa_nil))) pa_nil))) (pss_one (ps_set (i := 8) sc_Search_tree_of.nd rfl (Or.inl rfl) (pe_op op_cat (pv 8) (pe_lst (pa_cons (pv 9) pa_nil)))))) pss_nil)))) pss_nil) (pss_one (ps_ret (pe_tup (pa_cons (pv 4) (pa_cons (pv 5) (pa_cons (pe_callTy (call_tuple_ofK (K := K) rfl) (by rfl) T.n_tuple (by decide +kernel) (pa_cons (pv 7) pa_nil)) pa_nil)))))))))))), ?_⟩
      obtain ⟨u5, l5, r5⟩ := fr_Search_pairs h_self
      obtain ⟨a6, vs6, rfl, q6, h6⟩ := r5
      obtain ⟨u7, l7, r7⟩ := fr_Search_strength h_self
      obtain rfl : u7 = V.int x_self.2.1 := r7
      refine ⟨_, rfl, _, _, _, _, _, rfl, (w0.get (pre := [])), T.cl_Search, T.na_Search_pairs, l5, _, rfl, _, _, _, _, _, rfl, (w0.get (pre := [])), T.cl_Search, T.na_Search_strength, l7, _, rfl, _, _, _, (x_self.1 : (List (Nt (Thing × Thing × (List Int) × Unit)))), _, _, (x_within : (List Int)), rfl, w0, (rep_lst q6 h6), (rep_lst q3 h3), ?_⟩
      refine (post_bind hm).mono (fun y8 hm v8 F8 H8 w8 s8 r8 => ?_) (fun _ z => z)
      replace h_self := RepL.mono s8 h_self
      replace q3 := s8 _ _ q3
      replace h3 := A2.mono s8 h3
      replace q4 := s8 _ _ q4
      replace h4 := A2.mono s8 h4
      replace q6 := s8 _ _ q6
      replace h6 := A2.mono s8 h6
      replace sF := sF.trans s8
      refine ⟨_, rfl, rfl, _, isN_eq r8, _, rfl, ?_⟩
      refine post_ite hm (fun k10 hm => ?_) (fun k10 hm => ?_)
      · skip
        have h11 : A2 (rep K F8) ((sortI x_within).map V.int) (sortI x_within) := A2.of_ints
        refine ⟨_, rfl, _, _, rfl, ints_q (SqL.of (w8.same _ _ q3)) h3, fun p12 n12 => ?_⟩
        have w12 : W F8 _ ((p12, .lst ((sortI x_within).map V.int)) :: (a_self, (.ins (A 29) dx_self (mkfs [("pairs" : Str), ("strength" : Str), ("many" : Str), ("looks" : Str)] vs_self))) :: (dx_self, (.own a_self)) :: os) := w8.new n12
        obtain ⟨F13, s13, w13, q13⟩ : ∃ F', Same F8 F' ∧ W F' _ ((a_self, (.ins (A 29) dx_self (mkfs [("pairs" : Str), ("strength" : Str), ("many" : Str), ("looks" : Str)] vs_self))) :: (dx_self, (.own a_self)) :: os) ∧ F' p12 = some (.lst ((sortI x_within).map V.int)) := w12.freezeE (pre := [])
        replace h3 := A2.mono s13 h3
        replace q3 := s13 _ _ q3
        replace h4 := A2.mono s13 h4
        replace q4 := s13 _ _ q4
        replace r8 := Rep.mono s13 r8
        replace h_self := RepL.mono s13 h_self
        replace h11 := A2.mono s13 h11
        replace sF := sF.trans s13
        refine ⟨_, rfl, _, _, _, _, rfl, (w13.get (pre := [])), T.cl_Search, T.na_Search_looks, fz_Search h_self, ?_⟩
        obtain ⟨us14, e14, h14⟩ := fw_Search_looks h_self ((rep_some (rep_lst q13 h11)) : rep K F13 (V.ref p12) ((some (sortI x_within)) : (Option (List Int))))
        have w14a := w13.set (o' := .ins (A 29) dx_self (putF ("looks" : Str) (.ref p12) (mkfs [("pairs" : Str), ("strength" : Str), ("many" : Str), ("looks" : Str)] vs_self))) (pre := [])
        have w14 : W F13 _ ((a_self, (.ins (A 29) dx_self (mkfs [("pairs" : Str), ("strength" : Str), ("many" : Str), ("looks" : Str)] us14))) :: (dx_self, (.own a_self)) :: os) := w14a.reho (pre := []) (congrArg (HO.ins (A 29) dx_self) e14)
        exact (post_ok hm) _ _ _ _ w14 sF rep_toZ h14
      · skip
        obtain ⟨t15, e15, hm⟩ := pb_ofO hm
        have r15 : rep K F8 v8 t15 := (show rep K F8 v8 (some t15) from e15 ▸ r8)
        obtain ⟨a16, u16_0, u16_1, u16_2, rfl, q16, r16_0, r16_1, r16_2⟩ := nt3 r15
        replace r16_0 : rep K F8 u16_0 (t15.v.1 : Thing) := r16_0
        replace r16_1 : rep K F8 u16_1 (t15.v.2.1 : Thing) := r16_1
        replace r16_2 : rep K F8 u16_2 (t15.v.2.2.1 : (List Int)) := r16_2
        obtain ⟨a19, vs19, rfl, q19, h19⟩ := r16_2
        have h20 : A2 (rep K F8) [] ([] : (List To)) := .nil
        refine ⟨_, rfl, _, _, rfl, SqT.of (w8.same _ _ q16), rfl, _, _, rfl, _, _, rfl, _, _, rfl, rfl, (by show 0 ≤ sizeLine; decide), fun p21 n21 => ?_⟩
        have w21 : W F8 _ ((p21, .lst []) :: (a_self, (.ins (A 29) dx_self (mkfs [("pairs" : Str), ("strength" : Str), ("many" : Str), ("looks" : Str)] vs_self))) :: (dx_self, (.own a_self)) :: os) := w8.new n21
        have h22 : A2 (rep K F8) vs4 x_without := h4
        refine ⟨_, rfl, _, _, rfl, .inl (SqL.of (w21.same _ _ q4)), fun p23 n23 => ?_⟩
        have w23 : W F8 _ ((p23, .lst vs4) :: (p21, .lst []) :: (a_self, (.ins (A 29) dx_self (mkfs [("pairs" : Str), ("strength" : Str), ("many" : Str), ("looks" : Str)] vs_self))) :: (dx_self, (.own a_self)) :: os) := w21.new n23
        obtain ⟨F24, s24, w24, q24⟩ : ∃ F', Same F8 F' ∧ W F' _ ((p21, .lst []) :: (a_self, (.ins (A 29) dx_self (mkfs [("pairs" : Str), ("strength" : Str), ("many" : Str), ("looks" : Str)] vs_self))) :: (dx_self, (.own a_self)) :: os) ∧ F' p23 = some (.lst vs4) := w23.freezeE (pre := [])
        replace h3 := A2.mono s24 h3
        replace q3 := s24 _ _ q3
        replace h4 := A2.mono s24 h4
        replace q4 := s24 _ _ q4
        replace q16 := s24 _ _ q16
        replace r16_0 := Rep.mono s24 r16_0
        replace r16_1 := Rep.mono s24 r16_1
        replace h19 := A2.mono s24 h19
        replace q19 := s24 _ _ q19
        replace h20 := A2.mono s24 h20
        replace h_self := RepL.mono s24 h_self
        replace h22 := A2.mono s24 h22
        replace sF := sF.trans s24
        refine stepN ?_
        try dsimp only
        refine joinS hm (fun (g25 : (List To) × SearchF) σ H' => ∃ (F' : Hp) (vs25_0 : List V) (vs25_1 : List V) (o25_9 : Option V) (o25_8 : Option V), σ = [some (.ref a_self), some (.ref a3), some (.ref a4), some (.ref a16), some u16_0, some u16_1, some (.ref a19), some (.ref p21), o25_8, o25_9] ∧ Same F24 F' ∧ W F' H' ((p21, .lst vs25_0) :: (a_self, (.ins (A 29) dx_self (mkfs [("pairs" : Str), ("strength" : Str), ("many" : Str), ("looks" : Str)] vs25_1))) :: (dx_self, (.own a_self)) :: os) ∧ A2 (rep K F') vs25_0 g25.1 ∧ repTs K F' vs25_1 (g25.2 : SearchF)) ?_ ?_
        · intro N25 P25 hN25 hm
          obtain ⟨u26, l26, r26⟩ := fr_Search_many h_self
          obtain rfl : u26 = V.int x_self.2.2.1 := r26
          refine ⟨_, rfl, _, _, _, rfl, .inl (SqL.of (w24.same _ _ q3)), h3.length, _, rfl, _, _, _, _, _, rfl, (w24.get (pre := [_])), T.cl_Search, T.na_Search_many, l26, _, _, rfl, rfl, _, rfl, ?_⟩
          refine post_ite hm (fun k27 hm => ?_) (fun k27 hm => ?_)
          · skip
            refine ⟨_, rfl, _, rfl, ⟨_, SqL.of (w24.same _ _ q19)⟩, ?_⟩
            refine forS (tw_list (a := a19) h19) hm (fun (g28 : (List Int) × (List To) × SearchF) σ H' => ∃ (F' : Hp) (v28_8 : V) (vs28_0 : List V) (vs28_1 : List V) (o28_9 : Option V), σ = [some (.ref a_self), some (.ref a3), some (.ref a4), some (.ref a16), some u16_0, some u16_1, some (.ref a19), some (.ref p21), some v28_8, o28_9] ∧ Same F24 F' ∧ W F' H' ((p21, .lst vs28_0) :: (a_self, (.ins (A 29) dx_self (mkfs [("pairs" : Str), ("strength" : Str), ("many" : Str), ("looks" : Str)] vs28_1))) :: (dx_self, (.own a_self)) :: os) ∧ rep K F' v28_8 (g28.1 : (List Int)) ∧ A2 (rep K F') vs28_0 g28.2.1 ∧ repTs K F' vs28_1 (g28.2.2 : SearchF)) ⟨_, _, _, _, _, rfl, Same.refl _, w24, (rep_lst q24 h22), h20, h_self⟩ (fun g σ H' hI => by obtain ⟨F', _, _, _, _, _, s, w, _⟩ := hI; exact SqL.of (w.same _ _ (s _ _ q19))) ?_ ?_
            · -- a turn
              intro b28 g28 x28 σ28 H28 H28' N28 P28 hI hy hN28 hm
              obtain ⟨F28, v28_8, vs28_0, vs28_1, o28_9, rfl, s28, w28, r28_8, h28_0, h28_1⟩ := hI
              replace h3 := A2.mono s28 h3
              replace q3 := s28 _ _ q3
              replace h4 := A2.mono s28 h4
              replace q4 := s28 _ _ q4
              replace q16 := s28 _ _ q16
              replace r16_0 := Rep.mono s28 r16_0
              replace r16_1 := Rep.mono s28 r16_1
              replace h19 := A2.mono s28 h19
              replace q19 := s28 _ _ q19
              replace h22 := A2.mono s28 h22
              replace q24 := s28 _ _ q24
              replace sF := sF.trans s28
              obtain ⟨a29, vs29, rfl, q29, h29⟩ := r28_8
              obtain ⟨rfl, r30⟩ := hy
              obtain rfl : x28 = V.int b28 := r30
              refine stepN ?_
              try dsimp only
              refine stepIf ?_
              refine cutT (fun c H' => c = (((!inB b28 x_within) && ((!inB b28 x_without) && g28.2.2.2.2.2.1.isNone))) ∧ ∃ F', Same F28 F' ∧ W F' H' ((p21, .lst vs28_0) :: (a_self, (.ins (A 29) dx_self (mkfs [("pairs" : Str), ("strength" : Str), ("many" : Str), ("looks" : Str)] vs28_1))) :: (dx_self, (.own a_self)) :: os)) (fun Q31 q31 => ?_) (fun c31 H31 hc31 => ?_)
              · -- the ways
                refine ⟨_, rfl, _, rfl, (b28 : Int), _, rep_i, (Rep.mono w28.same (rep_lst q3 h3)), _, rfl, ?_⟩
                refine ifB (fun k32 => ?_) (fun k32 => ?_)
                · skip
                  refine ⟨_, rfl, _, rfl, (b28 : Int), _, rep_i, (Rep.mono w28.same (rep_lst q4 h4)), _, rfl, ?_⟩
                  refine ifB (fun k33 => ?_) (fun k33 => ?_)
                  · skip
                    obtain ⟨u34, l34, r34⟩ := fr_Search_looks h28_1
                    exact ⟨_, rfl, _, _, _, _, _, rfl, (w28.get (pre := [_])), T.cl_Search, T.na_Search_looks, l34, rfl, _, isN_eq r34, _, rfl, q31 _ _ ⟨(by first | rfl | exact absurd k32 (by decide) | exact absurd k33 (by decide) | (simp [k32, k33]; done) | ((try simp only [Bool.not_eq_true] at k32); (try simp only [Bool.not_eq_true] at k33); simp only [k32, k33, Bool.true_or, Bool.false_or, Bool.or_false, Bool.or_true, Bool.true_and, Bool.false_and, Bool.and_true, Bool.and_false])), _, Same.refl _, w28⟩⟩
                  · skip
                    exact q31 _ _ ⟨(by first | rfl | exact absurd k32 (by decide) | exact absurd k33 (by decide) | (simp [k32, k33]; done) | ((try simp only [Bool.not_eq_true] at k32); (try simp only [Bool.not_eq_true] at k33); simp only [k32, k33, Bool.true_or, Bool.false_or, Bool.or_false, Bool.or_true, Bool.true_and, Bool.false_and, Bool.and_true, Bool.and_false])), _, Same.refl _, w28⟩
                · skip
                  exact q31 _ _ ⟨(by first | rfl | exact absurd k32 (by decide) | (simp [k32]; done) | ((try simp only [Bool.not_eq_true] at k32); simp only [k32, Bool.true_or, Bool.false_or, Bool.or_false, Bool.or_true, Bool.true_and, Bool.false_and, Bool.and_true, Bool.and_false])), _, Same.refl _, w28⟩
              obtain ⟨rfl, F31, s31, w31⟩ := hc31
              replace h3 := A2.mono s31 h3
              replace q3 := s31 _ _ q3
              replace h4 := A2.mono s31 h4
              replace q4 := s31 _ _ q4
              replace q16 := s31 _ _ q16
              replace r16_0 := Rep.mono s31 r16_0
              replace r16_1 := Rep.mono s31 r16_1
              replace h19 := A2.mono s31 h19
              replace q19 := s31 _ _ q19
              replace h29 := A2.mono s31 h29
              replace q29 := s31 _ _ q29
              replace h28_0 := A2.mono s31 h28_0
              replace h28_1 := RepL.mono s31 h28_1
              replace sF := sF.trans s31
              refine post_ite hm (fun k39 hm => ?_) (fun k39 hm => ?_)
              · skip
                have h40 : A2 (rep K F31) [(.int b28)] ([b28] : (List Int)) := .cons rep_i (.nil)
                refine ⟨_, rfl, .inl ⟨rfl, _, SqL.of (w31.get (pre := []))⟩, _, rfl, _, _, _, rfl, (w31.get (pre := [_])), fm_Search_tree_of h28_1, _, rfl, _, rfl, (by show 1 ≤ sizeLine; decide), fun p41 n41 => ?_⟩
                have w41 : W F31 _ ((p41, .lst [(.int b28)]) :: (p21, .lst vs28_0) :: (a_self, (.ins (A 29) dx_self (mkfs [("pairs" : Str), ("strength" : Str), ("many" : Str), ("looks" : Str)] vs28_1))) :: (dx_self, (.own a_self)) :: os) := w31.new n41
                obtain ⟨l42, z42, e42, hm⟩ := pn_extend hm
                have h42 : A2 (rep K F31) (vs3 ++ [(.int b28)]) l42 := e42 ▸ A2.append h3 h40
                refine ⟨_, _, _, _, rfl, rfl, (w41.same _ _ q3), (w41.get (pre := [])), (A2.le2 h3 h40 z42), fun p43 n43 => ?_⟩
                have w43 : W F31 _ ((p43, .lst (vs3 ++ [(.int b28)])) :: (p41, .lst [(.int b28)]) :: (p21, .lst vs28_0) :: (a_self, (.ins (A 29) dx_self (mkfs [("pairs" : Str), ("strength" : Str), ("many" : Str), ("looks" : Str)] vs28_1))) :: (dx_self, (.own a_self)) :: os) := w41.new n43
                obtain ⟨F44, s44, w44, q44⟩ : ∃ F', Same F31 F' ∧ W F' _ ((p41, .lst [(.int b28)]) :: (p21, .lst vs28_0) :: (a_self, (.ins (A 29) dx_self (mkfs [("pairs" : Str), ("strength" : Str), ("many" : Str), ("looks" : Str)] vs28_1))) :: (dx_self, (.own a_self)) :: os) ∧ F' p43 = some (.lst (vs3 ++ [(.int b28)])) := w43.freezeE (pre := [])
                replace h3 := A2.mono s44 h3
                replace q3 := s44 _ _ q3
                replace h4 := A2.mono s44 h4
                replace q4 := s44 _ _ q4
                replace q16 := s44 _ _ q16
                replace r16_0 := Rep.mono s44 r16_0
                replace r16_1 := Rep.mono s44 r16_1
                replace h19 := A2.mono s44 h19
                replace q19 := s44 _ _ q19
                replace h29 := A2.mono s44 h29
                replace q29 := s44 _ _ q29
                replace h28_0 := A2.mono s44 h28_0
                replace h28_1 := RepL.mono s44 h28_1
                replace h40 := A2.mono s44 h40
                replace h42 := A2.mono s44 h42
                replace sF := sF.trans s44
                have w45 : W F44 _ ((dx_self, (.own a_self)) :: (p41, .lst [(.int b28)]) :: (p21, .lst vs28_0) :: (a_self, (.ins (A 29) dx_self (mkfs [("pairs" : Str), ("strength" : Str), ("many" : Str), ("looks" : Str)] vs28_1))) :: os) := w44.front (pre := [_, _, _])
                have w46 : W F44 _ ((a_self, (.ins (A 29) dx_self (mkfs [("pairs" : Str), ("strength" : Str), ("many" : Str), ("looks" : Str)] vs28_1))) :: (dx_self, (.own a_self)) :: (p41, .lst [(.int b28)]) :: (p21, .lst vs28_0) :: os) := w45.front (pre := [_, _, _])
                refine ⟨_, rfl, _, _, _, _, _, _, _, _, (l42 : (List Int)), _, (g28.1 : (List Int)), rfl, w46, T.nm_Search, h28_1, (rep_lst q44 h42), (rep_lst q29 h29), ?_⟩
                refine (post_bind hm).mono (fun y47 hm v47 vs47 F47 H47 w47 s47 r47 h47 => ?_) (fun _ z => z)
                replace h3 := A2.mono s47 h3
                replace q3 := s47 _ _ q3
                replace h4 := A2.mono s47 h4
                replace q4 := s47 _ _ q4
                replace q16 := s47 _ _ q16
                replace r16_0 := Rep.mono s47 r16_0
                replace r16_1 := Rep.mono s47 r16_1
                replace h19 := A2.mono s47 h19
                replace q19 := s47 _ _ q19
                replace h29 := A2.mono s47 h29
                replace q29 := s47 _ _ q29
                replace h28_0 := A2.mono s47 h28_0
                replace h40 := A2.mono s47 h40
                replace h42 := A2.mono s47 h42
                replace q44 := s47 _ _ q44
                replace sF := sF.trans s47
                obtain ⟨l49, z49, e49, hm⟩ := pn_app hm
                refine ⟨_, _, _, rfl, rfl, (w47.get (pre := [_, _, _])), (A2.lt h28_0 z49), ?_⟩
                have h49 : A2 (rep K F47) (vs28_0 ++ [v47]) l49 := e49 ▸ A2.snoc h28_0 r47
                have w50 : W F47 _ ((a_self, (.ins (A 29) dx_self (mkfs [("pairs" : Str), ("strength" : Str), ("many" : Str), ("looks" : Str)] vs47))) :: (dx_self, (.own a_self)) :: (p41, .lst [(.int b28)]) :: (p21, .lst (vs28_0 ++ [v47])) :: os) := w47.set (pre := [_, _, _])
                have w51 : W F47 _ ((a_self, (.ins (A 29) dx_self (mkfs [("pairs" : Str), ("strength" : Str), ("many" : Str), ("looks" : Str)] vs47))) :: (dx_self, (.own a_self)) :: (p21, .lst (vs28_0 ++ [v47])) :: os) := w50.drop (pre := [_, _])
                have h52 : A2 (rep K F47) [(.int b28)] ([b28] : (List Int)) := .cons rep_i (.nil)
                refine ⟨_, rfl, _, rfl, (by show 1 ≤ sizeLine; decide), fun p53 n53 => ?_⟩
                have w53 : W F47 _ ((p53, .lst [(.int b28)]) :: (a_self, (.ins (A 29) dx_self (mkfs [("pairs" : Str), ("strength" : Str), ("many" : Str), ("looks" : Str)] vs47))) :: (dx_self, (.own a_self)) :: (p21, .lst (vs28_0 ++ [v47])) :: os) := w51.new n53
                obtain ⟨l54, z54, e54, hm⟩ := pn_extend hm
                have h54 : A2 (rep K F47) (vs29 ++ [(.int b28)]) l54 := e54 ▸ A2.append h29 h52
                refine ⟨_, _, _, _, rfl, rfl, (w53.same _ _ q29), (w53.get (pre := [])), (A2.le2 h29 h52 z54), fun p55 n55 => ?_⟩
                have w55 : W F47 _ ((p55, .lst (vs29 ++ [(.int b28)])) :: (p53, .lst [(.int b28)]) :: (a_self, (.ins (A 29) dx_self (mkfs [("pairs" : Str), ("strength" : Str), ("many" : Str), ("looks" : Str)] vs47))) :: (dx_self, (.own a_self)) :: (p21, .lst (vs28_0 ++ [v47])) :: os) := w53.new n55
                obtain ⟨F56, s56, w56, q56⟩ : ∃ F', Same F47 F' ∧ W F' _ ((p53, .lst [(.int b28)]) :: (a_self, (.ins (A 29) dx_self (mkfs [("pairs" : Str), ("strength" : Str), ("many" : Str), ("looks" : Str)] vs47))) :: (dx_self, (.own a_self)) :: (p21, .lst (vs28_0 ++ [v47])) :: os) ∧ F' p55 = some (.lst (vs29 ++ [(.int b28)])) := w55.freezeE (pre := [])
                replace h3 := A2.mono s56 h3
                replace q3 := s56 _ _ q3
                replace h4 := A2.mono s56 h4
                replace q4 := s56 _ _ q4
                replace q16 := s56 _ _ q16
                replace r16_0 := Rep.mono s56 r16_0
                replace r16_1 := Rep.mono s56 r16_1
                replace h19 := A2.mono s56 h19
                replace q19 := s56 _ _ q19
                replace h29 := A2.mono s56 h29
                replace q29 := s56 _ _ q29
                replace h47 := RepL.mono s56 h47
                replace h49 := A2.mono s56 h49
                replace h52 := A2.mono s56 h52
                replace h54 := A2.mono s56 h54
                replace sF := sF.trans s56
                have w57 : W F56 _ ((a_self, (.ins (A 29) dx_self (mkfs [("pairs" : Str), ("strength" : Str), ("many" : Str), ("looks" : Str)] vs47))) :: (dx_self, (.own a_self)) :: (p21, .lst (vs28_0 ++ [v47])) :: os) := w56.drop (pre := [])
                have w58 : W F56 _ ((dx_self, (.own a_self)) :: (a_self, (.ins (A 29) dx_self (mkfs [("pairs" : Str), ("strength" : Str), ("many" : Str), ("looks" : Str)] vs47))) :: (p21, .lst (vs28_0 ++ [v47])) :: os) := w57.front (pre := [_])
                have w59 : W F56 _ ((a_self, (.ins (A 29) dx_self (mkfs [("pairs" : Str), ("strength" : Str), ("many" : Str), ("looks" : Str)] vs47))) :: (dx_self, (.own a_self)) :: (p21, .lst (vs28_0 ++ [v47])) :: os) := w58.front (pre := [_])
                have w60 : W F56 _ ((p21, .lst (vs28_0 ++ [v47])) :: (a_self, (.ins (A 29) dx_self (mkfs [("pairs" : Str), ("strength" : Str), ("many" : Str), ("looks" : Str)] vs47))) :: (dx_self, (.own a_self)) :: os) := w59.front (pre := [_, _])
                exact hN28 _ (post_ok hm) _ _ ⟨_, _, _, _, _, rfl, (s28.trans (s31.trans (s44.trans (s47.trans s56)))), w60, (rep_lst q56 h54), h49, h47⟩
              · skip
                exact hN28 _ (post_ok hm) _ _ ⟨_, _, _, _, _, rfl, (s28.trans s31), w31, (rep_lst q29 h29), h28_0, h28_1⟩
            intro g28 σ28 H28 hI hm
            obtain ⟨F28, v28_8, vs28_0, vs28_1, o28_9, rfl, s28, w28, r28_8, h28_0, h28_1⟩ := hI
            replace h3 := A2.mono s28 h3
            replace q3 := s28 _ _ q3
            replace h4 := A2.mono s28 h4
            replace q4 := s28 _ _ q4
            replace q16 := s28 _ _ q16
            replace r16_0 := Rep.mono s28 r16_0
            replace r16_1 := Rep.mono s28 r16_1
            replace h19 := A2.mono s28 h19
            replace q19 := s28 _ _ q19
            replace h22 := A2.mono s28 h22
            replace q24 := s28 _ _ q24
            replace sF := sF.trans s28
            obtain ⟨a61, vs61, rfl, q61, h61⟩ := r28_8
            exact hN25 _ (post_ok hm) _ _ ⟨_, _, _, _, _, rfl, s28, w28, h28_0, h28_1⟩
          · skip
            exact hN25 _ (post_ok hm) _ _ ⟨_, _, _, _, _, rfl, Same.refl _, w24, h20, h_self⟩
        intro g25 σ25 H25 hI hm
        obtain ⟨F25, vs25_0, vs25_1, o25_9, o25_8, rfl, s25, w25, h25_0, h25_1⟩ := hI
        replace h3 := A2.mono s25 h3
        replace q3 := s25 _ _ q3
        replace h4 := A2.mono s25 h4
        replace q4 := s25 _ _ q4
        replace q16 := s25 _ _ q16
        replace r16_0 := Rep.mono s25 r16_0
        replace r16_1 := Rep.mono s25 r16_1
        replace h19 := A2.mono s25 h19
        replace q19 := s25 _ _ q19
        replace h22 := A2.mono s25 h22
        replace q24 := s25 _ _ q24
        replace sF := sF.trans s25
        have h62 : A2 (rep K F25) vs25_0 g25.1 := h25_0
        refine ⟨_, rfl, _, rfl, _, rfl, _, _, rfl, .inl ⟨SqL.of (w25.get (pre := [])), fun p63 n63 => ?_⟩⟩
        obtain ⟨F63, s63, w63, q63⟩ := w25.frzE (o := .tup vs25_0) n63
        replace h3 := A2.mono s63 h3
        replace q3 := s63 _ _ q3
        replace h4 := A2.mono s63 h4
        replace q4 := s63 _ _ q4
        replace q16 := s63 _ _ q16
        replace r16_0 := Rep.mono s63 r16_0
        replace r16_1 := Rep.mono s63 r16_1
        replace h19 := A2.mono s63 h19
        replace q19 := s63 _ _ q19
        replace h25_0 := A2.mono s63 h25_0
        replace h25_1 := RepL.mono s63 h25_1
        replace h62 := A2.mono s63 h62
        replace sF := sF.trans s63
        refine ⟨(by show 3 ≤ sizeLine; decide), fun p64 n64 => ?_⟩
        obtain ⟨F64, s64, w64, q64⟩ := w63.frzE (o := .tup [u16_0, u16_1, (.ref p63)]) n64
        replace h3 := A2.mono s64 h3
        replace q3 := s64 _ _ q3
        replace h4 := A2.mono s64 h4
        replace q4 := s64 _ _ q4
        replace q16 := s64 _ _ q16
        replace r16_0 := Rep.mono s64 r16_0
        replace r16_1 := Rep.mono s64 r16_1
        replace h19 := A2.mono s64 h19
        replace q19 := s64 _ _ q19
        replace h25_0 := A2.mono s64 h25_0
        replace h25_1 := RepL.mono s64 h25_1
        replace h62 := A2.mono s64 h62
        replace q63 := s64 _ _ q63
        replace sF := sF.trans s64
        have r64 : rep K F64 (.ref p64) ((To.n t15.v.1 t15.v.2.1 g25.1) : To) := (rep_toN q64 r16_0 r16_1 q63 h62)
        have w65 : W F64 _ ((a_self, (.ins (A 29) dx_self (mkfs [("pairs" : Str), ("strength" : Str), ("many" : Str), ("looks" : Str)] vs25_1))) :: (dx_self, (.own a_self)) :: os) := w64.drop (pre := [])
        exact (post_ok hm) _ _ _ _ w65 sF r64 h25_1
def sp_fewest_looks (K : Fg) : Sp := fun vs H Q E => ∃ (F : Hp) (os : List (Addr × HO)) (v_web : V) (x_web : (Int × (Tup (Int × Int)))) (x_kind : Str) (x_strength : Int), vs = [v_web, .str x_kind, .int x_strength] ∧ W F H (os) ∧ rep K F v_web x_web ∧ Post (fewest_looks x_web x_kind x_strength) (Ret K F os Q) noX
theorem sc_fewest_looks : FnScope ["web", "kind", "strength", "pairs", "one", "other", "parters", "last", "leanest", "many", "search", "tree"] ["web", "kind", "strength"] (defScope s_fewest_looks) := ⟨rfl, rfl, rfl, by decide +kernel, rfl, by decide +kernel, by decide +kernel⟩
theorem ok_fewest_looks (T : Tx K mg A FD) : FnOk P w K mg base CX0 23 (A 30) (FD 30) ["web", "kind", "strength"] (sp_fewest_looks K) := by
  refine T.d30.fn.ok sc_fewest_looks (fun vs H Q E h => ?_) (fun cdv Ar outer s H vs Q E hr h => ?_)
  · obtain ⟨F, os, v_web, x_web, x_kind, x_strength, rfl, _⟩ := h
    rfl
  · obtain ⟨F0, os, v_web, x_web, x_kind, x_strength, rfl, w0, r_web, hm⟩ := h
    have sF : Same F0 F0 := Same.refl _
    obtain ⟨a1, u1, z1, rfl, q1, r1a, r1b⟩ := r_web
    obtain rfl : u1 = V.int x_web.1 := r1a
    obtain ⟨a2, vs2, rfl, q2, h2⟩ := r1b
    refine ⟨_, (pss_cons (ps_if (pt_cmp (pc_gt (pe_ix (ix_tupK (K := K) rfl) (pv 0) pe_int (fun _ _ => rfl)) (pe_globI (by rfl) T.c_MOST_SEARCHED))) (pss_one ps_absurd) pss_nil) (pss_cons (ps_set (i := 3) sc_fewest_looks.nd rfl (Or.inl rfl) (pe_call (ok_pairs_of T) (hr.mono (by decide)) (by rfl) T.d26.mg T.d26.fn.kp T.d26.b .nil pass0 (pa_cons (pv 0) (pa_cons (pv 1) pa_nil)))) (pss_cons (ps_for PassesOwn.never rfl (pi_listK (K := K) rfl (pv 3)) (pg_k (K := K) (t := fun K => gTup K 3 _) rfl (pg_tup (n := 3) rfl (pgs_cons (pg_name (i := 4) sc_fewest_looks.nd rfl (Or.inl rfl)) (pgs_cons (pg_name (i := 5) sc_fewest_looks.nd rfl (Or.inl rfl)) (pgs_cons (pg_name (i := 6) sc_fewest_looks.nd rfl (Or.inl rfl)) pgs_nil))))) (pss_one (ps_if (pt_cmp (pc_lt (pe_callB (call_lenN (K := K) rfl) (by rfl) T.n_len (by decide +kernel) (pa_cons (pv 6) pa_nil)) (pv 2))) (pss_one (ps_ret (pe_tup (pa_cons pe_str (pa_cons (pv 4) (pa_cons (pv 5) pa_nil)))))) pss_nil))) (pss_cons (ps_set (i := 7) sc_fewest_looks.nd rfl (Or.inl rfl) pe_non1) (pss_cons (ps_set (i := 8) sc_fewest_looks.nd rfl (Or.inl rfl) (pe_call (ok_leanest_pairs T) (hr.mono (by decide)) (by rfl) T.d27.mg T.d27.fn.kp T.d27.b .nil pass0 (pa_cons (pv 3) pa_nil))) (pss_cons (ps_for PassesOwn.never rfl (pi_range1 (by rfl) T.n_range (pa_cons (pe_op op_add (pe_ix (ix_tupK (K := K) rfl) (pv 0) pe_int (fun _ _ => rfl)) pe_int) pa_nil)) (pg_name (i := 9) sc_fewest_looks.nd rfl (Or.inl rfl)) (pss_cons (ps_set (i := 10) sc_fewest_looks.nd rfl (Or.inl rfl) (pe_make T.mk_Search (ok_Search_init T) (hr.mono (by first | decide | omega)) (by rfl) T.mg_Search T.d30000.b .nil pass0 (pa_cons (pv 8) (pa_cons (pv 2) (pa_cons (pv 9) pa_nil))))) (pss_cons (ps_set (i := 11) sc_fewest_looks.nd rfl (Or.inl rfl) (pe_meth (pl := _) (pv 10) T.cl_Search T.d30001.mt (ok_Search_tree_of T 20) (hr.mono (by first | decide | omega)) T.d30001.b .nil pass0 (pa_cons (pe_lst pa_nil) (pa_cons (pe_lst pa_nil) pa_nil)))) (pss_cons (ps_if (pt_cmpR op_notN2 (pe_fld (pv 10) (by rfl)) pe_non (nomark _)) (pss_one (ps_ret (pe_tup (pa_cons pe_str (pa_cons (pe_fld (pv 10) (by rfl)) (pa_cons (pv 7) pa_nil)))))) pss_nil) (pss_one (ps_set (i := 7) sc_fewest_looks.nd rfl (Or.inl rfl) (pv 11))))))) (pss_one (ps_ret (pe_tup (pa_cons pe_str (pa_cons (pe_listRg rfl (by rfl) T.n_list (prg_1 (by rfl) T.n_range (pe_ix (ix_tupK (K := K) rfl) (pv 0) pe_int (fun _ _ => rfl)))) (pa_cons (pv 7) pa_nil)))))))))))), ?_⟩
    refine ⟨_, rfl, _, _, _, _, rfl, rfl, SqT.of (w0.same _ _ q1), rfl, _, _, rfl, rfl, _, rfl, ?_⟩
    refine post_ite hm (fun k3 hm => ?_) (fun k3 hm => ?_)
    · skip
      try dsimp only
      exact hm
    · skip
      refine ⟨_, rfl, _, rfl, _, _, _, (x_web : (Int × (Tup (Int × Int)))), _, rfl, w0, (rep_pair q1 rep_i (rep_tup q2 h2)), ?_⟩
      refine (post_bind hm).mono (fun y4 hm v4 F4 H4 w4 s4 r4 => ?_) (fun _ z => z)
      replace q1 := s4 _ _ q1
      replace q2 := s4 _ _ q2
      replace h2 := A2.mono s4 h2
      replace sF := sF.trans s4
      obtain ⟨a5, vs5, rfl, q5, h5⟩ := r4
      refine ⟨_, rfl, _, rfl, ⟨_, SqL.of (w4.same _ _ q5)⟩, ?_⟩
      refine forX (tw_list (a := a5) h5) hm (fun (g6 : Unit) σ H' => ∃ (F' : Hp) (o6_4 : Option V) (o6_5 : Option V) (o6_6 : Option V), σ = [some (.ref a1), some (.str x_kind), some (.int x_strength), some (.ref a5), o6_4, o6_5, o6_6, none, none, none, none, none] ∧ Same F4 F' ∧ W F' H' (os)) ⟨_, _, _, _, rfl, Same.refl _, w4⟩ (fun g σ H' hI => by obtain ⟨F', _, _, _, _, s, w⟩ := hI; exact SqL.of (w.same _ _ (s _ _ q5))) ?_ ?_
      · -- a turn
        intro b6 g6 x6 σ6 H6 H6' N6 B6 P6 hI hy hN6 hB6 hZ6 hm
        obtain ⟨F6, o6_4, o6_5, o6_6, rfl, s6, w6⟩ := hI
        replace q1 := s6 _ _ q1
        replace h2 := A2.mono s6 h2
        replace q2 := s6 _ _ q2
        replace h5 := A2.mono s6 h5
        replace q5 := s6 _ _ q5
        replace sF := sF.trans s6
        obtain ⟨rfl, r7⟩ := hy
        replace r7 := Rep.mono s6 r7
        obtain ⟨a8, u8_0, u8_1, u8_2, rfl, q8, r8_0, r8_1, r8_2⟩ := nt3 r7
        replace r8_0 : rep K F6 u8_0 (b6.v.1 : Thing) := r8_0
        replace r8_1 : rep K F6 u8_1 (b6.v.2.1 : Thing) := r8_1
        replace r8_2 : rep K F6 u8_2 (b6.v.2.2.1 : (List Int)) := r8_2
        obtain ⟨a11, vs11, rfl, q11, h11⟩ := r8_2
        refine ⟨_, _, rfl, SqT.of (w6.same _ _ q8), rfl, _, _, rfl, _, _, rfl, _, _, rfl, rfl, _, rfl, _, _, _, rfl, .inl (SqL.of (w6.same _ _ q11)), h11.length, _, rfl, _, _, rfl, rfl, _, rfl, ?_⟩
        refine post_ite hm (fun k12 hm => ?_) (fun k12 hm => ?_)
        · skip
          refine ⟨_, rfl, _, rfl, (by show 3 ≤ sizeLine; decide), fun p13 n13 => ?_⟩
          obtain ⟨F13, s13, w13, q13⟩ := w6.frzE (o := .tup [(.str "never"), u8_0, u8_1]) n13
          replace q1 := s13 _ _ q1
          replace h2 := A2.mono s13 h2
          replace q2 := s13 _ _ q2
          replace h5 := A2.mono s13 h5
          replace q5 := s13 _ _ q5
          replace r8_0 := Rep.mono s13 r8_0
          replace r8_1 := Rep.mono s13 r8_1
          replace h11 := A2.mono s13 h11
          replace q11 := s13 _ _ q11
          replace sF := sF.trans s13
          have r13 : rep K F13 (.ref p13) ((Fw.never b6.v.1 b6.v.2.1) : Fw) := (rep_nv q13 r8_0 r8_1)
          have hm := hZ6 _ (post_ok hm)
          exact (post_ok hm) _ _ _ w13 sF r13
        · skip
          exact hN6 _ (post_ok hm) _ _ ⟨_, _, _, _, rfl, s6, w6⟩
      intro g6 σ6 H6 hI hm
      obtain ⟨F6, o6_4, o6_5, o6_6, rfl, s6, w6⟩ := hI
      replace q1 := s6 _ _ q1
      replace h2 := A2.mono s6 h2
      replace q2 := s6 _ _ q2
      replace h5 := A2.mono s6 h5
      replace q5 := s6 _ _ q5
      replace sF := sF.trans s6
      have r14 : rep K F6 .non (none : (Option Tr)) := rep_none
      refine ⟨trivial, _, rfl, _, _, _, (y4 : (List (Nt (Thing × Thing × (List Int) × Unit)))), rfl, w6, (rep_lst q5 h5), ?_⟩
      refine (post_bind hm).mono (fun y15 hm v15 F15 H15 w15 s15 r15 => ?_) (fun _ z => z)
      replace q1 := s15 _ _ q1
      replace h2 := A2.mono s15 h2
      replace q2 := s15 _ _ q2
      replace h5 := A2.mono s15 h5
      replace q5 := s15 _ _ q5
      replace r14 := Rep.mono s15 r14
      replace sF := sF.trans s15
      obtain ⟨a16, vs16, rfl, q16, h16⟩ := r15
      obtain ⟨c18, hm⟩ := pb_rng hm
      refine ⟨_, rfl, _, _, _, _, rfl, rfl, SqT.of (w15.same _ _ q1), rfl, _, _, rfl, rfl, _, rfl, c18.2.2.1, c18.2.2.2, ?_⟩
      refine forX (tw_rng0 (j := (x_web.1 + (1 : Int)))) hm (fun (g17 : (Option Tr)) σ H' => ∃ (F' : Hp) (v17_7 : V) (o17_10 : Option V) (o17_11 : Option V) (o17_9 : Option V), σ = [some (.ref a1), some (.str x_kind), some (.int x_strength), some (.ref a5), o6_4, o6_5, o6_6, some v17_7, some (.ref a16), o17_9, o17_10, o17_11] ∧ Same F15 F' ∧ W F' H' (os) ∧ rep K F' v17_7 (g17 : (Option Tr))) ⟨_, _, _, _, _, rfl, Same.refl _, w15, r14⟩ (fun _ _ _ _ => trivial) ?_ ?_
      · -- a turn
        intro b17 g17 x17 σ17 H17 H17' N17 B17 P17 hI hy hN17 hB17 hZ17 hm
        obtain ⟨F17, v17_7, o17_10, o17_11, o17_9, rfl, s17, w17, r17_7⟩ := hI
        replace q1 := s17 _ _ q1
        replace h2 := A2.mono s17 h2
        replace q2 := s17 _ _ q2
        replace h5 := A2.mono s17 h5
        replace q5 := s17 _ _ q5
        replace r14 := Rep.mono s17 r14
        replace h16 := A2.mono s17 h16
        replace q16 := s17 _ _ q16
        replace sF := sF.trans s17
        obtain ⟨rfl, rfl⟩ := hy
        refine ⟨_, rfl, _, rfl, _, rfl, fun a20 dx20 na20 nd20 ne20 => ?_⟩
        have wd20 : W F17 _ ((dx20, (.own a20)) :: os) := w17.new (o := .own a20) nd20
        have w20 : W F17 _ ((a20, (.ins (A 29) dx20 [])) :: (dx20, (.own a20)) :: os) := wd20.new (o := .ins (A 29) dx20 []) (by rw [upd_ne ne20.symm]; exact na20)
        refine ⟨_, _, _, _, _, _, (y15 : (List (Nt (Thing × Thing × (List Int) × Unit)))), _, _, rfl, w20, T.nm_Search, (rep_lst q16 h16), ?_⟩
        refine (post_bind hm).mono (fun y20 hm us20 F20 H20 w20i s20 h20 => ⟨rfl, ?_⟩) (fun _ z => z)
        replace q1 := s20 _ _ q1
        replace h2 := A2.mono s20 h2
        replace q2 := s20 _ _ q2
        replace h5 := A2.mono s20 h5
        replace q5 := s20 _ _ q5
        replace r17_7 := Rep.mono s20 r17_7
        replace h16 := A2.mono s20 h16
        replace q16 := s20 _ _ q16
        replace sF := sF.trans s20
        have h24 : A2 (rep K F20) [] ([] : (List Int)) := .nil
        refine ⟨_, rfl, _, _, _, rfl, (w20i.get (pre := [])), fm_Search_tree_of h20, (by show 0 ≤ sizeLine; decide), fun p25 n25 => ?_⟩
        have w25 : W F20 _ ((p25, .lst []) :: (a20, (.ins (A 29) dx20 (mkfs [("pairs" : Str), ("strength" : Str), ("many" : Str), ("looks" : Str)] us20))) :: (dx20, (.own a20)) :: os) := w20i.new n25
        have h26 : A2 (rep K F20) [] ([] : (List Int)) := .nil
        refine ⟨(by show 0 ≤ sizeLine; decide), fun p27 n27 => ?_⟩
        have w27 : W F20 _ ((p27, .lst []) :: (p25, .lst []) :: (a20, (.ins (A 29) dx20 (mkfs [("pairs" : Str), ("strength" : Str), ("many" : Str), ("looks" : Str)] us20))) :: (dx20, (.own a20)) :: os) := w25.new n27
        obtain ⟨F28, s28, w28, q28⟩ : ∃ F', Same F20 F' ∧ W F' _ ((p27, .lst []) :: (a20, (.ins (A 29) dx20 (mkfs [("pairs" : Str), ("strength" : Str), ("many" : Str), ("looks" : Str)] us20))) :: (dx20, (.own a20)) :: os) ∧ F' p25 = some (.lst []) := w27.freezeE (pre := [_])
        replace q1 := s28 _ _ q1
        replace h2 := A2.mono s28 h2
        replace q2 := s28 _ _ q2
        replace h5 := A2.mono s28 h5
        replace q5 := s28 _ _ q5
        replace r17_7 := Rep.mono s28 r17_7
        replace h16 := A2.mono s28 h16
        replace q16 := s28 _ _ q16
        replace h20 := RepL.mono s28 h20
        replace h24 := A2.mono s28 h24
        replace h26 := A2.mono s28 h26
        replace sF := sF.trans s28
        obtain ⟨F29, s29, w29, q29⟩ : ∃ F', Same F28 F' ∧ W F' _ ((a20, (.ins (A 29) dx20 (mkfs [("pairs" : Str), ("strength" : Str), ("many" : Str), ("looks" : Str)] us20))) :: (dx20, (.own a20)) :: os) ∧ F' p27 = some (.lst []) := w28.freezeE (pre := [])
        replace q1 := s29 _ _ q1
        replace h2 := A2.mono s29 h2
        replace q2 := s29 _ _ q2
        replace h5 := A2.mono s29 h5
        replace q5 := s29 _ _ q5
        replace r17_7 := Rep.mono s29 r17_7
        replace h16 := A2.mono s29 h16
        replace q16 := s29 _ _ q16
        replace h20 := RepL.mono s29 h20
        replace h24 := A2.mono s29 h24
        replace h26 := A2.mono s29 h26
        replace q28 := s29 _ _ q28
        replace sF := sF.trans s29
        have w30 : W F29 _ ((dx20, (.own a20)) :: (a20, (.ins (A 29) dx20 (mkfs [("pairs" : Str), ("strength" : Str), ("many" : Str), ("looks" : Str)] us20))) :: os) := w29.front (pre := [_])
        have w31 : W F29 _ ((a20, (.ins (A 29) dx20 (mkfs [("pairs" : Str), ("strength" : Str), ("many" : Str), ("looks" : Str)] us20))) :: (dx20, (.own a20)) :: os) := w30.front (pre := [_])
        refine ⟨_, _, _, _, _, _, _, _, (([] : (List Int)) : (List Int)), _, (([] : (List Int)) : (List Int)), rfl, w31, T.nm_Search, h20, (rep_lst q28 h24), (rep_lst q29 h26), ?_⟩
        refine (post_bind hm).mono (fun y32 hm v32 vs32 F32 H32 w32 s32 r32 h32 => ?_) (fun _ z => z)
        replace q1 := s32 _ _ q1
        replace h2 := A2.mono s32 h2
        replace q2 := s32 _ _ q2
        replace h5 := A2.mono s32 h5
        replace q5 := s32 _ _ q5
        replace r17_7 := Rep.mono s32 r17_7
        replace h16 := A2.mono s32 h16
        replace q16 := s32 _ _ q16
        replace h24 := A2.mono s32 h24
        replace h26 := A2.mono s32 h26
        replace q28 := s32 _ _ q28
        replace q29 := s32 _ _ q29
        replace sF := sF.trans s32
        obtain ⟨u34, l34, r34⟩ := fr_Search_looks h32
        refine ⟨_, rfl, _, _, _, _, _, rfl, (w32.get (pre := [])), T.cl_Search, T.na_Search_looks, l34, rfl, _, isN_eq r34, _, rfl, ?_⟩
        refine post_ite hm (fun k36 hm => ?_) (fun k36 hm => ?_)
        · skip
          obtain ⟨u37, l37, r37⟩ := fr_Search_looks h32
          obtain ⟨t39, e39, hm⟩ := pb_ofO hm
          have r39 : rep K F32 u37 t39 := (show rep K F32 u37 (some t39) from e39 ▸ r37)
          obtain ⟨a40, vs40, rfl, q40, h40⟩ := r39
          refine ⟨_, rfl, _, _, _, _, _, rfl, (w32.get (pre := [])), T.cl_Search, T.na_Search_looks, l37, _, rfl, (by show 3 ≤ sizeLine; decide), fun p41 n41 => ?_⟩
          obtain ⟨F41, s41, w41, q41⟩ := w32.frzE (o := .tup [(.str "looks"), (.ref a40), v17_7]) n41
          replace q1 := s41 _ _ q1
          replace h2 := A2.mono s41 h2
          replace q2 := s41 _ _ q2
          replace h5 := A2.mono s41 h5
          replace q5 := s41 _ _ q5
          replace r17_7 := Rep.mono s41 r17_7
          replace h16 := A2.mono s41 h16
          replace q16 := s41 _ _ q16
          replace r32 := Rep.mono s41 r32
          replace h32 := RepL.mono s41 h32
          replace r34 := Rep.mono s41 r34
          replace r37 := Rep.mono s41 r37
          replace q40 := s41 _ _ q40
          replace h40 := A2.mono s41 h40
          replace sF := sF.trans s41
          have r41 : rep K F41 (.ref p41) ((Fw.looks t39 g17) : Fw) := (rep_lk q41 (rep_lst q40 h40) r17_7)
          have hm := hZ17 _ (post_ok hm)
          have w42 : W F41 _ ((dx20, (.own a20)) :: os) := w41.drop (pre := [])
          have w43 : W F41 _ (os) := w42.drop (pre := [])
          exact (post_ok hm) _ _ _ w43 sF r41
        · skip
          obtain ⟨t44, e44, r44, hm⟩ := pb_asTr r32 hm
          have w45 : W F32 _ ((dx20, (.own a20)) :: os) := w32.drop (pre := [])
          have w46 : W F32 _ (os) := w45.drop (pre := [])
          exact ⟨_, rfl, hN17 _ (post_ok hm) _ _ ⟨_, _, _, _, _, rfl, (s17.trans (s20.trans (s28.trans (s29.trans s32)))), w46, r44⟩⟩
      intro g17 σ17 H17 hI hm
      obtain ⟨F17, v17_7, o17_10, o17_11, o17_9, rfl, s17, w17, r17_7⟩ := hI
      replace q1 := s17 _ _ q1
      replace h2 := A2.mono s17 h2
      replace q2 := s17 _ _ q2
      replace h5 := A2.mono s17 h5
      replace q5 := s17 _ _ q5
      replace r14 := Rep.mono s17 r14
      replace h16 := A2.mono s17 h16
      replace q16 := s17 _ _ q16
      replace sF := sF.trans s17
      obtain ⟨l48, z48, e48, hm⟩ := pb_lrng hm
      have h48 : A2 (rep K F17) (rgV 0 x_web.1) l48 := by rw [e48, rgV_eq]; exact A2.of_ints
      refine ⟨_, rfl, _, _, _, _, rfl, rfl, SqT.of (w17.same _ _ q1), rfl, _, rfl, z48, fun p49 n49 => ?_⟩
      have w49 : W F17 _ ((p49, .lst (rgV 0 x_web.1)) :: os) := w17.new n49
      obtain ⟨F50, s50, w50, q50⟩ : ∃ F', Same F17 F' ∧ W F' _ (os) ∧ F' p49 = some (.lst (rgV 0 x_web.1)) := w49.freezeE (pre := [])
      replace q1 := s50 _ _ q1
      replace h2 := A2.mono s50 h2
      replace q2 := s50 _ _ q2
      replace h5 := A2.mono s50 h5
      replace q5 := s50 _ _ q5
      replace r17_7 := Rep.mono s50 r17_7
      replace h16 := A2.mono s50 h16
      replace q16 := s50 _ _ q16
      replace h48 := A2.mono s50 h48
      replace sF := sF.trans s50
      refine ⟨_, rfl, (by show 3 ≤ sizeLine; decide), fun p51 n51 => ?_⟩
      obtain ⟨F51, s51, w51, q51⟩ := w50.frzE (o := .tup [(.str "looks"), (.ref p49), v17_7]) n51
      replace q1 := s51 _ _ q1
      replace h2 := A2.mono s51 h2
      replace q2 := s51 _ _ q2
      replace h5 := A2.mono s51 h5
      replace q5 := s51 _ _ q5
      replace r17_7 := Rep.mono s51 r17_7
      replace h16 := A2.mono s51 h16
      replace q16 := s51 _ _ q16
      replace h48 := A2.mono s51 h48
      replace q50 := s51 _ _ q50
      replace sF := sF.trans s51
      have r51 : rep K F51 (.ref p51) ((Fw.looks l48 g17) : Fw) := (rep_lk q51 (rep_lst q50 h48) r17_7)
      exact (post_ok hm) _ _ _ w51 sF r51
def sp_near_lists_floors (K : Fg) : Sp := fun vs H Q E => ∃ (F : Hp) (os : List (Addr × HO)) (v_web : V) (x_web : (Int × (Tup (Int × Int)))), vs = [v_web] ∧ W F H (os) ∧ rep K F v_web x_web ∧ Post (near_lists_floors x_web) (Ret K F os Q) noX
theorem sc_near_lists_floors : FnScope ["web", "place"] ["web"] (defScope s_near_lists_floors) := ⟨rfl, rfl, rfl, by decide +kernel, rfl, by decide +kernel, by decide +kernel⟩
theorem ok_near_lists_floors (T : Tx K mg A FD) : FnOk P w K mg base CX0 3 (A 32) (FD 32) ["web"] (sp_near_lists_floors K) := by
  refine T.d32.fn.ok sc_near_lists_floors (fun vs H Q E h => ?_) (fun cdv Ar outer s H vs Q E hr h => ?_)
  · obtain ⟨F, os, v_web, x_web, rfl, _⟩ := h
    rfl
  · obtain ⟨F0, os, v_web, x_web, rfl, w0, r_web, hm⟩ := h
    have sF : Same F0 F0 := Same.refl _
    obtain ⟨a1, u1, z1, rfl, q1, r1a, r1b⟩ := r_web
    obtain rfl : u1 = V.int x_web.1 := r1a
    obtain ⟨a2, vs2, rfl, q2, h2⟩ := r1b
    refine ⟨_, (pss_one (ps_ret (pe_lc (own := [("place", 1)]) (g := gName 1) (by rfl) sc_near_lists_floors.nd (pi_range1 (by rfl) T.n_range (pa_cons (pe_ix (ix_tupK (K := K) rfl) (pv 0) pe_int (fun _ _ => rfl)) pa_nil)) (blkOk_by (own := [("place", 1)]) (N := ["web", "place"]) (sc := defScope s_near_lists_floors) (by decide +kernel)) (fun _ _ _ _ _ => (pg_name (i := 1) sc_near_lists_floors.nd rfl (Or.inl rfl))) (fun _ _ _ _ _ => pts_nil) (fun _ _ _ _ _ => (pe_call (ok_neighbours_of T) (hr.mono (by decide)) (by rfl) T.d10.mg T.d10.fn.kp T.d10.b .nil pass0 (pa_cons (pv 0) (pa_cons (pv 1) pa_nil))))))), ?_⟩
    obtain ⟨c3, hm⟩ := pb_rng hm
    refine ⟨_, rfl, _, _, _, _, rfl, rfl, SqT.of (w0.same _ _ q1), rfl, _, rfl, c3.2.2.1, c3.2.2.2, fun D4 nD4 => ?_⟩
    refine lcM (K := K) (tw_rng0 (j := x_web.1)) hm w0 nD4 (fun F' H' acc s w => trivial) ?_ ?_
    · -- one turn
      intro b4 x4 F4 H4 H4' acc4 N4 P4 s4 w4 y4 hN4 hm
      replace q1 := s4 _ _ q1
      replace q2 := s4 _ _ q2
      replace h2 := A2.mono s4 h2
      replace sF := sF.trans s4
      obtain ⟨rfl, rfl⟩ := y4
      refine ⟨rfl, _, rfl, _, rfl, _, _, _, (x_web : (Int × (Tup (Int × Int)))), _, rfl, w4, (rep_pair q1 rep_i (rep_tup q2 h2)), ?_⟩
      refine (post_bind hm).mono (fun y6 hm v6 F6 H6 w6 s6 r6 => ?_) (fun _ z => z)
      replace q1 := s6 _ _ q1
      replace q2 := s6 _ _ q2
      replace h2 := A2.mono s6 h2
      replace sF := sF.trans s6
      obtain ⟨a7, vs7, rfl, q7, h7⟩ := r6
      exact hN4 _ (post_ok hm) _ _ _ w6 s6 (rep_lst q7 h7)
    intro us4 F4 H4 ys4 s4 w4 gg4 hm
    replace q1 := s4 _ _ q1
    replace q2 := s4 _ _ q2
    replace h2 := A2.mono s4 h2
    replace sF := sF.trans s4
    obtain ⟨F9, s9, w9, q9⟩ : ∃ F', Same F4 F' ∧ W F' _ (os) ∧ F' D4 = some (.lst us4) := w4.freezeE (pre := [])
    replace q1 := s9 _ _ q1
    replace q2 := s9 _ _ q2
    replace h2 := A2.mono s9 h2
    replace gg4 := A2.mono s9 gg4
    replace sF := sF.trans s9
    exact (post_ok hm) _ _ _ w9 sF (rep_lst q9 gg4)
def sp_far_by_floors (K : Fg) : Sp := fun vs H Q E => ∃ (F : Hp) (os : List (Addr × HO)) (v_fars : V) (x_fars : (List Int)) (v_thing : V) (x_thing : Thing), vs = [v_fars, v_thing] ∧ W F H (os) ∧ rep K F v_fars x_fars ∧ rep K F v_thing x_thing ∧ Post (far_by_floors x_fars x_thing) (Ret K F os Q) noX
theorem sc_far_by_floors : FnScope ["fars", "thing"] ["fars", "thing"] (defScope s_far_by_floors) := ⟨rfl, rfl, rfl, by decide +kernel, rfl, by decide +kernel, by decide +kernel⟩
theorem ok_far_by_floors (T : Tx K mg A FD) : FnOk P w K mg base CX0 1 (A 34) (FD 34) ["fars", "thing"] (sp_far_by_floors K) := by
  refine T.d34.fn.ok sc_far_by_floors (fun vs H Q E h => ?_) (fun cdv Ar outer s H vs Q E hr h => ?_)
  · obtain ⟨F, os, v_fars, x_fars, v_thing, x_thing, rfl, _⟩ := h
    rfl
  · obtain ⟨F0, os, v_fars, x_fars, v_thing, x_thing, rfl, w0, r_fars, r_thing, hm⟩ := h
    have sF : Same F0 F0 := Same.refl _
    obtain ⟨a1, vs1, rfl, q1, h1⟩ := r_fars
    refine ⟨_, (pss_cons (ps_if (pt_val (pe_callB (call_isB (K := K) rfl) (by rfl) T.n_isinstance (by decide +kernel) (pa_cons (pv 1) (pa_cons (pe_bltn (v := .ty "int") (by rfl) T.n_int (by decide +kernel) rfl) pa_nil)))) (pss_one (ps_ret (pe_ix (ix_listK (K := K) rfl) (pv 0) (pv 1) (fun _ _ => rfl)))) pss_nil) (pss_one (ps_ret (pe_callB (call_min2 rfl) (by rfl) T.n_min (by decide +kernel) (pa_cons (pe_ix (ix_listK (K := K) rfl) (pv 0) (pe_ix (ix_tupK (K := K) rfl) (pv 1) pe_int (fun _ _ => rfl)) (fun _ _ => rfl)) (pa_cons (pe_ix (ix_listK (K := K) rfl) (pv 0) (pe_ix (ix_tupK (K := K) rfl) (pv 1) pe_int (fun _ _ => rfl)) (fun _ _ => rfl)) pa_nil)))))), ?_⟩
    obtain ⟨a3, y3, k3⟩ := th_int w0.same r_thing
    refine ⟨_, rfl, _, _, _, x_thing.isPl, rfl, y3, k3, _, rfl, ?_⟩
    refine post_ite hm (fun k4 hm => ?_) (fun k4 hm => ?_)
    · skip
      obtain ⟨t5, e5, hm⟩ := pb_asPl hm
      have r5 : v_thing = V.int t5 := (show rep K F0 v_thing (Thing.pl t5) from e5 ▸ r_thing)
      subst r5
      obtain ⟨t6, e6, hm⟩ := pb_get hm
      obtain ⟨u6, f6, r6⟩ := A2.at h1 e6
      obtain rfl : u6 = V.int t6 := r6
      exact ⟨_, rfl, _, rfl, _, _, _, _, rfl, rfl, SqL.of (w0.same _ _ q1), f6, (post_ok hm) _ _ _ w0 sF rep_i⟩
    · skip
      obtain ⟨t7, e7, hm⟩ := pb_asTi hm
      have r7 : rep K F0 v_thing (t7 : Int × Int) := (show rep K F0 v_thing (Thing.ti t7.1 t7.2) from e7 ▸ r_thing)
      obtain ⟨a8, u8, z8, rfl, q8, r8a, r8b⟩ := r7
      obtain rfl : u8 = V.int t7.1 := r8a
      obtain rfl : z8 = V.int t7.2 := r8b
      obtain ⟨t9, e9, hm⟩ := pb_get hm
      obtain ⟨u9, f9, r9⟩ := A2.at h1 e9
      obtain rfl : u9 = V.int t9 := r9
      obtain ⟨t10, e10, hm⟩ := pb_get hm
      obtain ⟨u10, f10, r10⟩ := A2.at h1 e10
      obtain rfl : u10 = V.int t10 := r10
      exact ⟨_, rfl, _, rfl, _, _, _, _, rfl, rfl, SqT.of (w0.same _ _ q8), rfl, _, _, _, _, rfl, rfl, SqL.of (w0.same _ _ q1), f9, _, rfl, _, rfl, _, _, _, _, rfl, rfl, SqT.of (w0.same _ _ q8), rfl, _, _, _, _, rfl, rfl, SqL.of (w0.same _ _ q1), f10, _, _, rfl, (post_ok hm) _ _ _ w0 sF rep_i⟩
def sp_are_twins (K : Fg) : Sp := fun vs H Q E => ∃ (F : Hp) (os : List (Addr × HO)) (v_near : V) (x_near : (List (List Int))) (x_one : Int) (x_other : Int), vs = [v_near, .int x_one, .int x_other] ∧ W F H (os) ∧ rep K F v_near x_near ∧ Post (are_twins x_near x_one x_other) (Ret K F os Q) noX
theorem sc_are_twins : FnScope ["near", "one", "other", "place"] ["near", "one", "other"] (defScope s_are_twins) := ⟨rfl, rfl, rfl, by decide +kernel, rfl, by decide +kernel, by decide +kernel⟩
theorem ok_are_twins (T : Tx K mg A FD) : FnOk P w K mg base CX0 1 (A 36) (FD 36) ["near", "one", "other"] (sp_are_twins K) := by
  refine T.d36.fn.ok sc_are_twins (fun vs H Q E h => ?_) (fun cdv Ar outer s H vs Q E hr h => ?_)
  · obtain ⟨F, os, v_near, x_near, x_one, x_other, rfl, _⟩ := h
    rfl
  · obtain ⟨F0, os, v_near, x_near, x_one, x_other, rfl, w0, r_near, hm⟩ := h
    have sF : Same F0 F0 := Same.refl _
    obtain ⟨a1, vs1, rfl, q1, h1⟩ := r_near
    refine ⟨_, (pss_one (ps_ret (pe_cmpR (op_eqDt (K := K) rfl (List Int) (by decide) hr.units) (pe_lc (own := [("place", 3)]) (g := gName 3) (by rfl) sc_are_twins.nd (pi_listK (K := K) rfl (pe_ix (ix_listK (K := K) rfl) (pv 0) (pv 1) (fun _ _ => rfl))) (blkOk_by (own := [("place", 3)]) (N := ["near", "one", "other", "place"]) (sc := defScope s_are_twins) (by decide +kernel)) (fun _ _ _ _ _ => (pg_name (i := 3) sc_are_twins.nd rfl (Or.inl rfl))) (fun _ _ _ _ _ => (pts_one (pt_cmp (pc_neI (pv 3) (pv 2))))) (fun _ _ _ _ _ => (pv 3))) (pe_lc (own := [("place", 3)]) (g := gName 3) (by rfl) sc_are_twins.nd (pi_listK (K := K) rfl (pe_ix (ix_listK (K := K) rfl) (pv 0) (pv 2) (fun _ _ => rfl))) (blkOk_by (own := [("place", 3)]) (N := ["near", "one", "other", "place"]) (sc := defScope s_are_twins) (by decide +kernel)) (fun _ _ _ _ _ => (pg_name (i := 3) sc_are_twins.nd rfl (Or.inl rfl))) (fun _ _ _ _ _ => (pts_one (pt_cmp (pc_neI (pv 3) (pv 1))))) (fun _ _ _ _ _ => (pv 3))) (nomark _)))), ?_⟩
    obtain ⟨t2, e2, hm⟩ := pb_get hm
    obtain ⟨u2, f2, r2⟩ := A2.at h1 e2
    obtain ⟨a3, vs3, rfl, q3, h3⟩ := r2
    refine ⟨_, rfl, _, rfl, _, _, _, _, rfl, rfl, SqL.of (w0.same _ _ q1), f2, _, rfl, ⟨_, SqL.of (w0.same _ _ q3)⟩, fun D4 nD4 => ?_⟩
    refine lcF (K := K) (tw_list (a := a3) h3) hm w0 nD4 (fun F' H' acc s w => SqL.of (w.same _ _ (s _ _ q3))) ?_ ?_
    · -- one turn
      intro b4 x4 F4 H4 H4' acc4 N4 M4 P4 s4 w4 y4 hN4 hM4 hm
      replace q1 := s4 _ _ q1
      replace h1 := A2.mono s4 h1
      replace q3 := s4 _ _ q3
      replace h3 := A2.mono s4 h3
      replace sF := sF.trans s4
      obtain ⟨rfl, r6⟩ := y4
      obtain rfl : x4 = V.int b4 := r6
      refine ⟨rfl, _, rfl, _, rfl, _, _, rfl, rfl, _, rfl, ?_⟩
      refine post_ite hm (fun k7 hm => ?_) (fun k7 hm => ?_)
      · skip
        exact ⟨_, rfl, hN4 _ (post_ok hm) _ _ _ w4 (Same.refl _) rep_i⟩
      · skip
        exact hM4 (post_ok hm) _ _ w4 (Same.refl _)
    intro us4 F4 H4 ys4 s4 w4 gg4 hm
    replace q1 := s4 _ _ q1
    replace h1 := A2.mono s4 h1
    replace q3 := s4 _ _ q3
    replace h3 := A2.mono s4 h3
    replace sF := sF.trans s4
    obtain ⟨t9, e9, hm⟩ := pb_get hm
    obtain ⟨u9, f9, r9⟩ := A2.at h1 e9
    obtain ⟨a10, vs10, rfl, q10, h10⟩ := r9
    refine ⟨_, rfl, _, rfl, _, _, _, _, rfl, rfl, SqL.of (w4.same _ _ q1), f9, _, rfl, ⟨_, SqL.of (w4.same _ _ q10)⟩, fun D11 nD11 => ?_⟩
    refine lcF (K := K) (tw_list (a := a10) h10) hm w4 nD11 (fun F' H' acc s w => SqL.of (w.same _ _ (s _ _ q10))) ?_ ?_
    · -- one turn
      intro b11 x11 F11 H11 H11' acc11 N11 M11 P11 s11 w11 y11 hN11 hM11 hm
      replace q1 := s11 _ _ q1
      replace h1 := A2.mono s11 h1
      replace q3 := s11 _ _ q3
      replace h3 := A2.mono s11 h3
      replace gg4 := A2.mono s11 gg4
      replace q10 := s11 _ _ q10
      replace h10 := A2.mono s11 h10
      replace sF := sF.trans s11
      obtain ⟨rfl, r13⟩ := y11
      obtain rfl : x11 = V.int b11 := r13
      refine ⟨rfl, _, rfl, _, rfl, _, _, rfl, rfl, _, rfl, ?_⟩
      refine post_ite hm (fun k14 hm => ?_) (fun k14 hm => ?_)
      · skip
        exact ⟨_, rfl, hN11 _ (post_ok hm) _ _ _ w11 (Same.refl _) rep_i⟩
      · skip
        exact hM11 (post_ok hm) _ _ w11 (Same.refl _)
    intro us11 F11 H11 ys11 s11 w11 gg11 hm
    replace q1 := s11 _ _ q1
    replace h1 := A2.mono s11 h1
    replace q3 := s11 _ _ q3
    replace h3 := A2.mono s11 h3
    replace gg4 := A2.mono s11 gg4
    replace q10 := s11 _ _ q10
    replace h10 := A2.mono s11 h10
    replace sF := sF.trans s11
    have w16 : W F11 _ ((D4, .lst us4) :: os) := w11.drop (pre := [])
    have w17 : W F11 _ (os) := w16.drop (pre := [])
    exact ⟨(ys4 : (List Int)), (ys11 : (List Int)), (rep_own (pre := [_]) w11 gg4), (rep_own (pre := []) w11 gg11), (post_ok hm) _ _ _ w17 sF rep_b⟩
def sp_twins_of (K : Fg) : Sp := fun vs H Q E => ∃ (F : Hp) (os : List (Addr × HO)) (v_web : V) (x_web : (Int × (Tup (Int × Int)))), vs = [v_web] ∧ W F H (os) ∧ rep K F v_web x_web ∧ Post (twins_of x_web) (Ret K F os Q) noX
theorem sc_twins_of : FnScope ["web", "near", "met", "found", "place", "twins", "other"] ["web"] (defScope s_twins_of) := ⟨rfl, rfl, rfl, by decide +kernel, rfl, by decide +kernel, by decide +kernel⟩
theorem ok_twins_of (T : Tx K mg A FD) : FnOk P w K mg base CX0 4 (A 37) (FD 37) ["web"] (sp_twins_of K) := by
  refine T.d37.fn.ok sc_twins_of (fun vs H Q E h => ?_) (fun cdv Ar outer s H vs Q E hr h => ?_)
  · obtain ⟨F, os, v_web, x_web, rfl, _⟩ := h
    rfl
  · obtain ⟨F0, os, v_web, x_web, rfl, w0, r_web, hm⟩ := h
    have sF : Same F0 F0 := Same.refl _
    obtain ⟨a1, u1, z1, rfl, q1, r1a, r1b⟩ := r_web
    obtain rfl : u1 = V.int x_web.1 := r1a
    obtain ⟨a2, vs2, rfl, q2, h2⟩ := r1b
    refine ⟨_, (pss_cons (ps_set (i := 1) sc_twins_of.nd rfl (Or.inr rfl) (pe_call (ok_near_lists_floors T) (hr.mono (by decide)) (by rfl) T.d32.mg T.d32.fn.kp T.d32.b .nil pass0 (pa_cons (pv 0) pa_nil))) (pss_cons (ps_set (i := 2) sc_twins_of.nd rfl (Or.inl rfl) (pe_lst pa_nil)) (pss_cons (ps_set (i := 3) sc_twins_of.nd rfl (Or.inl rfl) (pe_lst pa_nil)) (pss_cons (ps_for PassesOwn.never rfl (pi_range1 (by rfl) T.n_range (pa_cons (pe_ix (ix_tupK (K := K) rfl) (pv 0) pe_int (fun _ _ => rfl)) pa_nil)) (pg_name (i := 4) sc_twins_of.nd rfl (Or.inr rfl)) (pss_one (ps_if (pt_cmpR (op_notInL (K := K) rfl Int (by decide) (Room.units65 hr)) (pv 4) (pv 2) (by rfl)) (pss_cons (ps_set (i := 5) sc_twins_of.nd rfl (Or.inl rfl) (pe_op op_cat (pe_lst (pa_cons (pv 4) pa_nil)) (pe_lc (own := [("other", 6)]) (g := gName 6) (by rfl) sc_twins_of.nd (pi_range2 (by rfl) T.n_range (pa_cons (pe_op op_add (pv 4) pe_int) (pa_cons (pe_ix (ix_tupK (K := K) rfl) (pv 0) pe_int (fun _ _ => rfl)) pa_nil))) (blkOk_by (own := [("other", 6)]) (N := ["web", "near", "met", "found", "place", "twins", "other"]) (sc := defScope s_twins_of) (by decide +kernel)) (fun _ _ _ _ _ => (pg_name (i := 6) sc_twins_of.nd rfl (Or.inl rfl))) (fun _ _ _ _ _ => (pts_one (pt_val (pe_call (ok_are_twins T) (hr.mono (by decide)) (by rfl) T.d36.mg T.d36.fn.kp T.d36.b .nil pass0 (pa_cons (pv 1) (pa_cons (pv 4) (pa_cons (pv 6) pa_nil))))))) (fun _ _ _ _ _ => (pv 6))))) (pss_cons (ps_expr (pe_bm PySem.F.plainAttrs_list PySem.F.slot_list_extend PySem.F.type_list_extend mt_extend (pv 2) (pa_cons (pv 5) pa_nil))) (pss_one (ps_if (pt_cmp (pc_gt (pe_callB (call_lenN (K := K) rfl) (by rfl) T.n_len (by decide +kernel) (pa_cons (pv 5) pa_nil)) pe_int)) (pss_one (ps_expr (pe_bm PySem.F.plainAttrs_list PySem.F.slot_list_append PySem.F.type_list_append mt_append (pv 3) (pa_cons (pv 5) pa_nil)))) pss_nil)))) pss_nil))) (pss_one (ps_ret (pv 3))))))), ?_⟩
    refine ⟨_, rfl, _, _, _, (x_web : (Int × (Tup (Int × Int)))), rfl, w0, (rep_pair q1 rep_i (rep_tup q2 h2)), ?_⟩
    refine (post_bind hm).mono (fun y3 hm v3 F3 H3 w3 s3 r3 => ?_) (fun _ z => z)
    replace q1 := s3 _ _ q1
    replace q2 := s3 _ _ q2
    replace h2 := A2.mono s3 h2
    replace sF := sF.trans s3
    obtain ⟨a4, vs4, rfl, q4, h4⟩ := r3
    have h5 : A2 (rep K F3) [] ([] : (List Int)) := .nil
    refine ⟨(by show 0 ≤ sizeLine; decide), fun p6 n6 => ?_⟩
    have w6 : W F3 _ ((p6, .lst []) :: os) := w3.new n6
    have h7 : A2 (rep K F3) [] ([] : (List (List Thing))) := .nil
    refine ⟨(by show 0 ≤ sizeLine; decide), fun p8 n8 => ?_⟩
    have w8 : W F3 _ ((p8, .lst []) :: (p6, .lst []) :: os) := w6.new n8
    obtain ⟨c10, hm⟩ := pb_rng hm
    refine ⟨_, rfl, _, _, _, _, rfl, rfl, SqT.of (w8.same _ _ q1), rfl, _, rfl, c10.2.2.1, c10.2.2.2, ?_⟩
    refine forS (tw_rng0 (j := x_web.1)) hm (fun (g9 : (List (List Thing)) × (List Int)) σ H' => ∃ (F' : Hp) (vs9_0 : List V) (vs9_1 : List V) (o9_5 : Option V) (o9_4 : Option V), σ = [some (.ref a1), some (.ref a4), some (.ref p6), some (.ref p8), o9_4, o9_5, none] ∧ Same F3 F' ∧ W F' H' ((p8, .lst vs9_0) :: (p6, .lst vs9_1) :: os) ∧ A2 (rep K F') vs9_0 g9.1 ∧ A2 (rep K F') vs9_1 g9.2) ⟨_, _, _, _, _, rfl, Same.refl _, w8, h7, h5⟩ (fun _ _ _ _ => trivial) ?_ ?_
    · -- a turn
      intro b9 g9 x9 σ9 H9 H9' N9 P9 hI hy hN9 hm
      obtain ⟨F9, vs9_0, vs9_1, o9_5, o9_4, rfl, s9, w9, h9_0, h9_1⟩ := hI
      replace q1 := s9 _ _ q1
      replace h2 := A2.mono s9 h2
      replace q2 := s9 _ _ q2
      replace h4 := A2.mono s9 h4
      replace q4 := s9 _ _ q4
      replace sF := sF.trans s9
      obtain ⟨rfl, rfl⟩ := hy
      refine ⟨_, rfl, _, rfl, (b9 : Int), _, rep_i, (rep_own (pre := [_]) w9 h9_1), _, rfl, ?_⟩
      refine post_ite hm (fun k11 hm => ?_) (fun k11 hm => ?_)
      · skip
        have h12 : A2 (rep K F9) [(.int b9)] ([b9] : (List Int)) := .cons rep_i (.nil)
        refine ⟨_, rfl, (by show 1 ≤ sizeLine; decide), fun p13 n13 => ?_⟩
        have w13 : W F9 _ ((p13, .lst [(.int b9)]) :: (p8, .lst vs9_0) :: (p6, .lst vs9_1) :: os) := w9.new n13
        obtain ⟨c14, hm⟩ := pb_rng hm
        refine ⟨_, rfl, _, _, rfl, rfl, _, rfl, _, _, _, _, rfl, rfl, SqT.of (w13.same _ _ q1), rfl, _, _, rfl, c14, fun D15 nD15 => ?_⟩
        refine lcF (K := K) (tw_rng (i := (b9 + (1 : Int))) (j := x_web.1)) hm w13 nD15 (fun F' H' acc s w => trivial) ?_ ?_
        · -- one turn
          intro b15 x15 F15 H15 H15' acc15 N15 M15 P15 s15 w15 y15 hN15 hM15 hm
          replace q1 := s15 _ _ q1
          replace h2 := A2.mono s15 h2
          replace q2 := s15 _ _ q2
          replace h4 := A2.mono s15 h4
          replace q4 := s15 _ _ q4
          replace h9_0 := A2.mono s15 h9_0
          replace h9_1 := A2.mono s15 h9_1
          replace h12 := A2.mono s15 h12
          replace sF := sF.trans s15
          obtain ⟨rfl, rfl⟩ := y15
          refine ⟨rfl, _, rfl, _, rfl, _, rfl, _, _, _, (y3 : (List (List Int))), _, _, rfl, w15, (rep_lst q4 h4), ?_⟩
          refine (post_bind hm).mono (fun y17 hm v17 F17 H17 w17 s17 r17 => ?_) (fun _ z => z)
          replace q1 := s17 _ _ q1
          replace h2 := A2.mono s17 h2
          replace q2 := s17 _ _ q2
          replace h4 := A2.mono s17 h4
          replace q4 := s17 _ _ q4
          replace h9_0 := A2.mono s17 h9_0
          replace h9_1 := A2.mono s17 h9_1
          replace h12 := A2.mono s17 h12
          replace sF := sF.trans s17
          obtain rfl : v17 = V.bl y17 := r17
          refine ⟨_, rfl, ?_⟩
          refine post_ite hm (fun k18 hm => ?_) (fun k18 hm => ?_)
          · skip
            exact ⟨_, rfl, hN15 _ (post_ok hm) _ _ _ w17 s17 rep_i⟩
          · skip
            exact hM15 (post_ok hm) _ _ w17 s17
        intro us15 F15 H15 ys15 s15 w15 gg15 hm
        replace q1 := s15 _ _ q1
        replace h2 := A2.mono s15 h2
        replace q2 := s15 _ _ q2
        replace h4 := A2.mono s15 h4
        replace q4 := s15 _ _ q4
        replace h9_0 := A2.mono s15 h9_0
        replace h9_1 := A2.mono s15 h9_1
        replace h12 := A2.mono s15 h12
        replace sF := sF.trans s15
        obtain ⟨l20, z20, e20, hm⟩ := pn_extend hm
        have h20 : A2 (rep K F15) ([(.int b9)] ++ us15) l20 := e20 ▸ A2.append h12 gg15
        refine ⟨_, _, _, _, rfl, rfl, (w15.get (pre := [_])), (w15.get (pre := [])), (A2.le2 h12 gg15 z20), fun p21 n21 => ?_⟩
        have w21 : W F15 _ ((p21, .lst ([(.int b9)] ++ us15)) :: (D15, .lst us15) :: (p13, .lst [(.int b9)]) :: (p8, .lst vs9_0) :: (p6, .lst vs9_1) :: os) := w15.new n21
        obtain ⟨F22, s22, w22, q22⟩ : ∃ F', Same F15 F' ∧ W F' _ ((D15, .lst us15) :: (p13, .lst [(.int b9)]) :: (p8, .lst vs9_0) :: (p6, .lst vs9_1) :: os) ∧ F' p21 = some (.lst ([(.int b9)] ++ us15)) := w21.freezeE (pre := [])
        replace q1 := s22 _ _ q1
        replace h2 := A2.mono s22 h2
        replace q2 := s22 _ _ q2
        replace h4 := A2.mono s22 h4
        replace q4 := s22 _ _ q4
        replace h9_0 := A2.mono s22 h9_0
        replace h9_1 := A2.mono s22 h9_1
        replace h12 := A2.mono s22 h12
        replace gg15 := A2.mono s22 gg15
        replace h20 := A2.mono s22 h20
        replace sF := sF.trans s22
        have w23 : W F22 _ ((p13, .lst [(.int b9)]) :: (p8, .lst vs9_0) :: (p6, .lst vs9_1) :: os) := w22.drop (pre := [])
        have w24 : W F22 _ ((p8, .lst vs9_0) :: (p6, .lst vs9_1) :: os) := w23.drop (pre := [])
        obtain ⟨l25, z25, e25, hm⟩ := pn_extend hm
        refine ⟨_, rfl, .inl ⟨rfl, _, SqL.of (w24.get (pre := [_]))⟩, _, rfl, _, _, _, _, rfl, rfl, (w24.get (pre := [_])), (w24.same _ _ q22), (A2.le2 h9_1 h20 z25), ?_⟩
        have h25 : A2 (rep K F22) (vs9_1 ++ ([(.int b9)] ++ us15)) l25 := e25 ▸ A2.append h9_1 h20
        have w26 : W F22 _ ((p8, .lst vs9_0) :: (p6, .lst (vs9_1 ++ ([(.int b9)] ++ us15))) :: os) := w24.set (pre := [_])
        refine ⟨_, rfl, _, _, _, rfl, .inl (SqL.of (w26.same _ _ q22)), h20.length, _, _, rfl, rfl, _, rfl, ?_⟩
        refine post_ite hm (fun k27 hm => ?_) (fun k27 hm => ?_)
        · skip
          have h28 : A2 (rep K F22) ([(.int b9)] ++ us15) (mkpl l20) := A2.pl h20
          obtain ⟨l29, z29, e29, hm⟩ := pn_app hm
          refine ⟨_, rfl, .inl ⟨rfl, _, SqL.of (w26.get (pre := []))⟩, _, rfl, _, _, _, rfl, rfl, (w26.get (pre := [])), (A2.lt h9_0 z29), ?_⟩
          have h29 : A2 (rep K F22) (vs9_0 ++ [(V.ref p21)]) l29 := e29 ▸ A2.snoc h9_0 (rep_lst q22 h28)
          have w30 : W F22 _ ((p8, .lst (vs9_0 ++ [(V.ref p21)])) :: (p6, .lst (vs9_1 ++ ([(.int b9)] ++ us15))) :: os) := w26.set (pre := [])
          exact hN9 _ (post_ok hm) _ _ ⟨_, _, _, _, _, rfl, (s9.trans (s15.trans s22)), w30, h29, h25⟩
        · skip
          exact hN9 _ (post_ok hm) _ _ ⟨_, _, _, _, _, rfl, (s9.trans (s15.trans s22)), w26, h9_0, h25⟩
      · skip
        exact hN9 _ (post_ok hm) _ _ ⟨_, _, _, _, _, rfl, s9, w9, h9_0, h9_1⟩
    intro g9 σ9 H9 hI hm
    obtain ⟨F9, vs9_0, vs9_1, o9_5, o9_4, rfl, s9, w9, h9_0, h9_1⟩ := hI
    replace q1 := s9 _ _ q1
    replace h2 := A2.mono s9 h2
    replace q2 := s9 _ _ q2
    replace h4 := A2.mono s9 h4
    replace q4 := s9 _ _ q4
    replace sF := sF.trans s9
    obtain ⟨F31, s31, w31, q31⟩ : ∃ F', Same F9 F' ∧ W F' _ ((p6, .lst vs9_1) :: os) ∧ F' p8 = some (.lst vs9_0) := w9.freezeE (pre := [])
    replace q1 := s31 _ _ q1
    replace h2 := A2.mono s31 h2
    replace q2 := s31 _ _ q2
    replace h4 := A2.mono s31 h4
    replace q4 := s31 _ _ q4
    replace h9_0 := A2.mono s31 h9_0
    replace h9_1 := A2.mono s31 h9_1
    replace sF := sF.trans s31
    have w32 : W F31 _ (os) := w31.drop (pre := [])
    exact ⟨_, rfl, (post_ok hm) _ _ _ w32 sF (rep_lst q31 h9_0)⟩
def sp_is_lot (K : Fg) : Sp := fun vs H Q E => ∃ (F : Hp) (os : List (Addr × HO)) (v_web : V) (x_web : (Int × (Tup (Int × Int)))) (x_kind : Str) (v_lot : V) (x_lot : (List Thing)), vs = [v_web, .str x_kind, v_lot] ∧ W F H (os) ∧ rep K F v_web x_web ∧ rep K F v_lot x_lot ∧ Post (is_lot x_web x_kind x_lot) (Ret K F os Q) noX
theorem sc_is_lot : FnScope ["web", "kind", "lot", "things", "near", "thing", "other"] ["web", "kind", "lot"] (defScope s_is_lot) := ⟨rfl, rfl, rfl, by decide +kernel, rfl, by decide +kernel, by decide +kernel⟩
theorem ok_is_lot (T : Tx K mg A FD) : FnOk P w K mg base CX0 4 (A 38) (FD 38) ["web", "kind", "lot"] (sp_is_lot K) := by
  refine T.d38.fn.ok sc_is_lot (fun vs H Q E h => ?_) (fun cdv Ar outer s H vs Q E hr h => ?_)
  · obtain ⟨F, os, v_web, x_web, x_kind, v_lot, x_lot, rfl, _⟩ := h
    rfl
  · obtain ⟨F0, os, v_web, x_web, x_kind, v_lot, x_lot, rfl, w0, r_web, r_lot, hm⟩ := h
    have sF : Same F0 F0 := Same.refl _
    obtain ⟨a1, u1, z1, rfl, q1, r1a, r1b⟩ := r_web
    obtain rfl : u1 = V.int x_web.1 := r1a
    obtain ⟨a2, vs2, rfl, q2, h2⟩ := r1b
    obtain ⟨a3, vs3, rfl, q3, h3⟩ := r_lot
    refine ⟨_, (pss_cons (ps_set (i := 3) sc_is_lot.nd rfl (Or.inr rfl) (pe_call (ok_things_of T) (hr.mono (by decide)) (by rfl) T.d14.mg T.d14.fn.kp T.d14.b .nil pass0 (pa_cons (pv 0) (pa_cons (pv 1) pa_nil)))) (pss_cons (ps_if (PW.pt (pw_or (pt_cmp (pc_lt (pe_callB (call_lenN (K := K) rfl) (by rfl) T.n_len (by decide +kernel) (pa_cons (pv 2) pa_nil)) pe_int)) (pw_or (pt_cmp (pc_lt (pe_callB call_lenSN (by rfl) T.n_len (by decide +kernel) (pa_cons (pe_callTy (cr_setN (K := K) rfl rfl hr.units) (by rfl) T.n_set (by decide +kernel) (pa_cons (pv 2) pa_nil)) pa_nil)) (pe_callB (call_lenN (K := K) rfl) (by rfl) T.n_len (by decide +kernel) (pa_cons (pv 2) pa_nil)))) (pw_or1 (pt_not (pt_val (pe_callB (cr_allK (K := K) rfl rfl) (by rfl) T.n_all (by decide +kernel) (pa_cons (pe_lc (own := [("thing", 5)]) (g := gName 5) (by rfl) sc_is_lot.nd (pi_listK (K := K) rfl (pv 2)) (blkOk_by (own := [("thing", 5)]) (N := ["web", "kind", "lot", "things", "near", "thing", "other"]) (sc := defScope s_is_lot) (by decide +kernel)) (fun _ _ _ _ _ => (pg_name (i := 5) sc_is_lot.nd rfl (Or.inl rfl))) (fun _ _ _ _ _ => pts_nil) (fun _ _ _ _ _ => (pe_cmpR (op_inL (K := K) rfl Thing (by decide) (Room.units65 hr)) (pv 5) (pv 3) (by rfl)))) pa_nil)))))))) (pss_one (ps_ret pe_bl)) pss_nil) (pss_cons (ps_if (pt_cmp (pc_eqI (pe_callB (call_lenN (K := K) rfl) (by rfl) T.n_len (by decide +kernel) (pa_cons (pv 2) pa_nil)) pe_int)) (pss_one (ps_ret pe_bl)) pss_nil) (pss_cons (ps_if (pt_not (pt_val (pe_callB (cr_allK (K := K) rfl rfl) (by rfl) T.n_all (by decide +kernel) (pa_cons (pe_lc (own := [("thing", 5)]) (g := gName 5) (by rfl) sc_is_lot.nd (pi_listK (K := K) rfl (pv 2)) (blkOk_by (own := [("thing", 5)]) (N := ["web", "kind", "lot", "things", "near", "thing", "other"]) (sc := defScope s_is_lot) (by decide +kernel)) (fun _ _ _ _ _ => (pg_name (i := 5) sc_is_lot.nd rfl (Or.inl rfl))) (fun _ _ _ _ _ => pts_nil) (fun _ _ _ _ _ => (pe_callB (call_isB (K := K) rfl) (by rfl) T.n_isinstance (by decide +kernel) (pa_cons (pv 5) (pa_cons (pe_bltn (v := .ty "int") (by rfl) T.n_int (by decide +kernel) rfl) pa_nil))))) pa_nil)))) (pss_one (ps_ret pe_bl)) pss_nil) (pss_cons (ps_set (i := 4) sc_is_lot.nd rfl (Or.inr rfl) (pe_call (ok_near_lists_floors T) (hr.mono (by decide)) (by rfl) T.d32.mg T.d32.fn.kp T.d32.b .nil pass0 (pa_cons (pv 0) pa_nil))) (pss_one (ps_ret (pe_callB (cr_allK (K := K) rfl rfl) (by rfl) T.n_all (by decide +kernel) (pa_cons (pe_lc (own := [("other", 6)]) (g := gName 6) (by rfl) sc_is_lot.nd (pi_listK (K := K) rfl (pe_slice (sl_listK (K := K) rfl) (pv 2) (po_some pe_int) po_none)) (blkOk_by (own := [("other", 6)]) (N := ["web", "kind", "lot", "things", "near", "thing", "other"]) (sc := defScope s_is_lot) (by decide +kernel)) (fun _ _ _ _ _ => (pg_name (i := 6) sc_is_lot.nd rfl (Or.inl rfl))) (fun _ _ _ _ _ => pts_nil) (fun _ _ _ _ _ => (pe_call (ok_are_twins T) (hr.mono (by decide)) (by rfl) T.d36.mg T.d36.fn.kp T.d36.b .nil pass0 (pa_cons (pv 4) (pa_cons (pe_ix (ix_listK (K := K) rfl) (pv 2) pe_int (fun _ _ => rfl)) (pa_cons (pv 6) pa_nil)))))) pa_nil))))))))), ?_⟩
    refine ⟨_, rfl, _, rfl, _, _, _, (x_web : (Int × (Tup (Int × Int)))), _, rfl, w0, (rep_pair q1 rep_i (rep_tup q2 h2)), ?_⟩
    refine (post_bind hm).mono (fun y4 hm p4 us4 F4 H4 w4 s4 g4 => ?_) (fun _ z => z)
    replace q1 := s4 _ _ q1
    replace q2 := s4 _ _ q2
    replace h2 := A2.mono s4 h2
    replace q3 := s4 _ _ q3
    replace h3 := A2.mono s4 h3
    replace sF := sF.trans s4
    obtain ⟨F6, s6, w6, q6⟩ : ∃ F', Same F4 F' ∧ W F' _ (os) ∧ F' p4 = some (.lst us4) := w4.freezeE (pre := [])
    replace q1 := s6 _ _ q1
    replace q2 := s6 _ _ q2
    replace h2 := A2.mono s6 h2
    replace q3 := s6 _ _ q3
    replace h3 := A2.mono s6 h3
    replace g4 := A2.mono s6 g4
    replace sF := sF.trans s6
    refine stepN ?_
    try dsimp only
    refine stepSeq (stepIf ?_)
    refine joinT hm (fun (j7 : Bool) c H' => c = j7 ∧ ∃ (F' : Hp), Same F6 F' ∧ W F' H' (os)) ?_ ?_
    · intro Q7 P7 q7 hm
      refine ⟨_, rfl, _, _, _, rfl, .inl (SqL.of (w6.same _ _ q3)), h3.length, _, _, rfl, rfl, _, rfl, ?_⟩
      refine post_ite hm (fun k8 hm => ?_) (fun k8 hm => ?_)
      · skip
        exact q7 _ (post_ok hm) _ _ ⟨rfl, _, Same.refl _, w6⟩
      · skip
        obtain ⟨c10, hm⟩ := pb_setLen hm
        refine ⟨_, rfl, _, _, _, _, rfl, SqL.of (w6.same _ _ q3), w6.same, h3, c10, fun p10 n10 => ?_⟩
        obtain ⟨F10, s10, w10, q10⟩ := w6.frzE (o := SetN p10 x_lot.length) n10
        replace q1 := s10 _ _ q1
        replace h2 := A2.mono s10 h2
        replace q2 := s10 _ _ q2
        replace h3 := A2.mono s10 h3
        replace q3 := s10 _ _ q3
        replace g4 := A2.mono s10 g4
        replace q6 := s10 _ _ q6
        replace sF := sF.trans s10
        refine ⟨_, _, rfl, w10.same _ _ q10, (okS_len c10), _, rfl, _, _, _, rfl, .inl (SqL.of (w10.same _ _ q3)), h3.length, _, _, rfl, rfl, _, rfl, ?_⟩
        refine post_ite hm (fun k11 hm => ?_) (fun k11 hm => ?_)
        · skip
          exact q7 _ (post_ok hm) _ _ ⟨rfl, _, s10, w10⟩
        · skip
          refine ⟨_, rfl, _, rfl, ⟨_, SqL.of (w10.same _ _ q3)⟩, fun D13 nD13 => ?_⟩
          refine lcM (K := K) (tw_list (a := a3) h3) hm w10 nD13 (fun F' H' acc s w => SqL.of (w.same _ _ (s _ _ q3))) ?_ ?_
          · -- one turn
            intro b13 x13 F13 H13 H13' acc13 N13 P13 s13 w13 y13 hN13 hm
            replace q1 := s13 _ _ q1
            replace h2 := A2.mono s13 h2
            replace q2 := s13 _ _ q2
            replace h3 := A2.mono s13 h3
            replace q3 := s13 _ _ q3
            replace g4 := A2.mono s13 g4
            replace q6 := s13 _ _ q6
            replace sF := sF.trans s13
            obtain ⟨rfl, r15⟩ := y13
            replace r15 := Rep.mono s13 r15
            exact ⟨rfl, _, rfl, _, rfl, (b13 : Thing), _, (Rep.mono w13.same r15), (Rep.mono w13.same (rep_lst q6 g4)), hN13 _ (post_ok hm) _ _ _ w13 (Same.refl _) rep_b⟩
          intro us13 F13 H13 ys13 s13 w13 gg13 hm
          replace q1 := s13 _ _ q1
          replace h2 := A2.mono s13 h2
          replace q2 := s13 _ _ q2
          replace h3 := A2.mono s13 h3
          replace q3 := s13 _ _ q3
          replace g4 := A2.mono s13 g4
          replace q6 := s13 _ _ q6
          replace sF := sF.trans s13
          have w19 : W F13 _ (os) := w13.drop (pre := [])
          exact ⟨_, _, rfl, bools_q (SqL.of (w13.get (pre := []))) gg13, _, rfl, q7 _ (post_ok hm) _ _ ⟨rfl, _, (s10.trans s13), w19⟩⟩
    intro j7 c7 H7 hc7 hm
    obtain ⟨rfl, F7, s7, w7⟩ := hc7
    replace q1 := s7 _ _ q1
    replace h2 := A2.mono s7 h2
    replace q2 := s7 _ _ q2
    replace h3 := A2.mono s7 h3
    replace q3 := s7 _ _ q3
    replace g4 := A2.mono s7 g4
    replace q6 := s7 _ _ q6
    replace sF := sF.trans s7
    refine post_ite hm (fun k20 hm => ?_) (fun k20 hm => ?_)
    · skip
      exact (post_ok hm) _ _ _ w7 sF rep_b
    · skip
      refine ⟨_, rfl, _, _, _, rfl, .inl (SqL.of (w7.same _ _ q3)), h3.length, _, _, rfl, rfl, _, rfl, ?_⟩
      refine post_ite hm (fun k21 hm => ?_) (fun k21 hm => ?_)
      · skip
        exact (post_ok hm) _ _ _ w7 sF rep_b
      · skip
        refine ⟨_, rfl, _, rfl, ⟨_, SqL.of (w7.same _ _ q3)⟩, fun D22 nD22 => ?_⟩
        refine lcM (K := K) (tw_list (a := a3) h3) hm w7 nD22 (fun F' H' acc s w => SqL.of (w.same _ _ (s _ _ q3))) ?_ ?_
        · -- one turn
          intro b22 x22 F22 H22 H22' acc22 N22 P22 s22 w22 y22 hN22 hm
          replace q1 := s22 _ _ q1
          replace h2 := A2.mono s22 h2
          replace q2 := s22 _ _ q2
          replace h3 := A2.mono s22 h3
          replace q3 := s22 _ _ q3
          replace g4 := A2.mono s22 g4
          replace q6 := s22 _ _ q6
          replace sF := sF.trans s22
          obtain ⟨rfl, r24⟩ := y22
          replace r24 := Rep.mono s22 r24
          obtain ⟨a26, y26, k26⟩ := th_int w22.same r24
          exact ⟨rfl, _, rfl, _, _, _, b22.isPl, rfl, y26, k26, hN22 _ (post_ok hm) _ _ _ w22 (Same.refl _) rep_b⟩
        intro us22 F22 H22 ys22 s22 w22 gg22 hm
        replace q1 := s22 _ _ q1
        replace h2 := A2.mono s22 h2
        replace q2 := s22 _ _ q2
        replace h3 := A2.mono s22 h3
        replace q3 := s22 _ _ q3
        replace g4 := A2.mono s22 g4
        replace q6 := s22 _ _ q6
        replace sF := sF.trans s22
        refine ⟨_, _, rfl, bools_q (SqL.of (w22.get (pre := []))) gg22, _, rfl, ?_⟩
        have w28 : W F22 _ (os) := w22.drop (pre := [])
        refine post_ite hm (fun k29 hm => ?_) (fun k29 hm => ?_)
        · skip
          exact (post_ok hm) _ _ _ w28 sF rep_b
        · skip
          refine ⟨_, rfl, _, _, _, (x_web : (Int × (Tup (Int × Int)))), rfl, w28, (rep_pair q1 rep_i (rep_tup q2 h2)), ?_⟩
          refine (post_bind hm).mono (fun y30 hm v30 F30 H30 w30 s30 r30 => ?_) (fun _ z => z)
          replace q1 := s30 _ _ q1
          replace h2 := A2.mono s30 h2
          replace q2 := s30 _ _ q2
          replace h3 := A2.mono s30 h3
          replace q3 := s30 _ _ q3
          replace g4 := A2.mono s30 g4
          replace q6 := s30 _ _ q6
          replace sF := sF.trans s30
          obtain ⟨a31, vs31, rfl, q31, h31⟩ := r30
          have h32 : A2 (rep K F30) (cutV vs3 (some (1 : Int)) none) (cutL x_lot (some (1 : Int)) none) := sl_cut h3 _ _
          refine ⟨_, rfl, _, rfl, _, _, rfl, SqL.of (w30.same _ _ q3), fun p33 n33 => ?_⟩
          have w33 : W F30 _ ((p33, .lst (cutV vs3 (some (1 : Int)) none)) :: os) := w30.new n33
          obtain ⟨F34, s34, w34, q34⟩ : ∃ F', Same F30 F' ∧ W F' _ (os) ∧ F' p33 = some (.lst (cutV vs3 (some (1 : Int)) none)) := w33.freezeE (pre := [])
          replace q1 := s34 _ _ q1
          replace h2 := A2.mono s34 h2
          replace q2 := s34 _ _ q2
          replace h3 := A2.mono s34 h3
          replace q3 := s34 _ _ q3
          replace g4 := A2.mono s34 g4
          replace q6 := s34 _ _ q6
          replace h31 := A2.mono s34 h31
          replace q31 := s34 _ _ q31
          replace h32 := A2.mono s34 h32
          replace sF := sF.trans s34
          refine ⟨_, rfl, ⟨_, SqL.of (w34.same _ _ q34)⟩, fun D35 nD35 => ?_⟩
          refine lcM (K := K) (tw_list (a := p33) h32) hm w34 nD35 (fun F' H' acc s w => SqL.of (w.same _ _ (s _ _ q34))) ?_ ?_
          · -- one turn
            intro b35 x35 F35 H35 H35' acc35 N35 P35 s35 w35 y35 hN35 hm
            replace q1 := s35 _ _ q1
            replace h2 := A2.mono s35 h2
            replace q2 := s35 _ _ q2
            replace h3 := A2.mono s35 h3
            replace q3 := s35 _ _ q3
            replace g4 := A2.mono s35 g4
            replace q6 := s35 _ _ q6
            replace h31 := A2.mono s35 h31
            replace q31 := s35 _ _ q31
            replace h32 := A2.mono s35 h32
            replace q34 := s35 _ _ q34
            replace sF := sF.trans s35
            obtain ⟨rfl, r37⟩ := y35
            replace r37 := Rep.mono s35 r37
            obtain ⟨t39, e39, hm⟩ := pb_get hm
            obtain ⟨u39, f39, r39⟩ := A2.at h3 e39
            obtain ⟨t41, e41, hm⟩ := pb_asPl hm
            have r41 : u39 = V.int t41 := (show rep K F35 u39 (Thing.pl t41) from e41 ▸ r39)
            subst r41
            obtain ⟨t42, e42, hm⟩ := pb_asPl hm
            have r42 : x35 = V.int t42 := (show rep K F35 x35 (Thing.pl t42) from e42 ▸ r37)
            subst r42
            refine ⟨rfl, _, rfl, _, rfl, _, _, _, _, rfl, rfl, SqL.of (w35.same _ _ q3), f39, _, rfl, _, _, _, (y30 : (List (List Int))), _, _, rfl, w35, (rep_lst q31 h31), ?_⟩
            refine (post_bind hm).mono (fun y43 hm v43 F43 H43 w43 s43 r43 => ?_) (fun _ z => z)
            replace q1 := s43 _ _ q1
            replace h2 := A2.mono s43 h2
            replace q2 := s43 _ _ q2
            replace h3 := A2.mono s43 h3
            replace q3 := s43 _ _ q3
            replace g4 := A2.mono s43 g4
            replace q6 := s43 _ _ q6
            replace h31 := A2.mono s43 h31
            replace q31 := s43 _ _ q31
            replace h32 := A2.mono s43 h32
            replace q34 := s43 _ _ q34
            replace r37 := Rep.mono s43 r37
            replace r39 := Rep.mono s43 r39
            replace sF := sF.trans s43
            obtain rfl : v43 = V.bl y43 := r43
            exact hN35 _ (post_ok hm) _ _ _ w43 s43 rep_b
          intro us35 F35 H35 ys35 s35 w35 gg35 hm
          replace q1 := s35 _ _ q1
          replace h2 := A2.mono s35 h2
          replace q2 := s35 _ _ q2
          replace h3 := A2.mono s35 h3
          replace q3 := s35 _ _ q3
          replace g4 := A2.mono s35 g4
          replace q6 := s35 _ _ q6
          replace h31 := A2.mono s35 h31
          replace q31 := s35 _ _ q31
          replace h32 := A2.mono s35 h32
          replace q34 := s35 _ _ q34
          replace sF := sF.trans s35
          have w45 : W F35 _ (os) := w35.drop (pre := [])
          exact ⟨_, _, rfl, bools_q (SqL.of (w35.get (pre := []))) gg35, (post_ok hm) _ _ _ w45 sF rep_b⟩
def sp_lot_parters (K : Fg) : Sp := fun vs H Q E => ∃ (F : Hp) (os : List (Addr × HO)) (v_table : V) (x_table : (List (List Int))) (v_lot : V) (x_lot : (List Thing)), vs = [v_table, v_lot] ∧ W F H (os) ∧ rep K F v_table x_table ∧ rep K F v_lot x_lot ∧ Post (lot_parters x_table x_lot) (Ret K F os Q) noX
theorem sc_lot_parters : FnScope ["table", "lot", "place", "fars", "thing"] ["table", "lot"] (defScope s_lot_parters) := ⟨rfl, rfl, rfl, by decide +kernel, rfl, by decide +kernel, by decide +kernel⟩
theorem ok_lot_parters (T : Tx K mg A FD) : FnOk P w K mg base CX0 2 (A 39) (FD 39) ["table", "lot"] (sp_lot_parters K) := by
  refine T.d39.fn.ok sc_lot_parters (fun vs H Q E h => ?_) (fun cdv Ar outer s H vs Q E hr h => ?_)
  · obtain ⟨F, os, v_table, x_table, v_lot, x_lot, rfl, _⟩ := h
    rfl
  · obtain ⟨F0, os, v_table, x_table, v_lot, x_lot, rfl, w0, r_table, r_lot, hm⟩ := h
    have sF : Same F0 F0 := Same.refl _
    obtain ⟨a1, vs1, rfl, q1, h1⟩ := r_table
    obtain ⟨a2, vs2, rfl, q2, h2⟩ := r_lot
    refine ⟨_, (pss_one (ps_ret (pe_lc (own := [("place", 2), ("fars", 3)]) (g := _) (by rfl) sc_lot_parters.nd (pi_k (K := K) (wi := fun K => iEnum K _) rfl (pi_enum (by rfl) T.n_enumerate (pa_cons (pv 0) pa_nil))) (blkOk_by (own := [("place", 2), ("fars", 3)]) (N := ["table", "lot", "place", "fars", "thing"]) (sc := defScope s_lot_parters) (by decide +kernel)) (fun _ _ _ _ _ => (pg_k (K := K) (t := fun K => gTup K 2 _) rfl (pg_tup (n := 2) rfl (pgs_cons (pg_name (i := 2) sc_lot_parters.nd rfl (Or.inl rfl)) (pgs_cons (pg_name (i := 3) sc_lot_parters.nd rfl (Or.inr rfl)) pgs_nil))))) (fun _ _ _ _ _ => (pts_one (pt_cmp (pc_gt (pe_callB (call_lenSO (w := w) rfl) (by rfl) T.n_len (by decide +kernel) (pa_cons (pe_callTy (cr_setLI (K := K) (w := w) rfl rfl rfl) (by rfl) T.n_set (by decide +kernel) (pa_cons (pe_lc (own := [("thing", 4)]) (g := gName 4) (by rfl) sc_lot_parters.nd (pi_listK (K := K) rfl (pv 1)) (blkOk_by (own := [("thing", 4)]) (N := ["table", "lot", "place", "fars", "thing"]) (sc := _) (by kernel_rfl)) (fun _ _ _ _ _ => (pg_name (i := 4) sc_lot_parters.nd rfl (Or.inl rfl))) (fun _ _ _ _ _ => pts_nil) (fun _ _ _ _ _ => (pe_call (ok_far_by_floors T) (hr.mono (by decide)) (by rfl) T.d34.mg T.d34.fn.kp T.d34.b .nil pass0 (pa_cons (pv 3) (pa_cons (pv 4) pa_nil))))) pa_nil)) pa_nil)) pe_int)))) (fun _ _ _ _ _ => (pv 2))))), ?_⟩
    refine ⟨_, rfl, _, _, rfl, SqL.of (w0.same _ _ q1), fun D3 nD3 => ?_⟩
    refine lcF (K := K) (tw_enum (a := a1) h1) hm w0 nD3 (fun F' H' acc s w => SqL.of (w.same _ _ (s _ _ q1))) ?_ ?_
    · -- one turn
      intro b3 x3 F3 H3 H3' acc3 N3 M3 P3 s3 w3 y3 hN3 hM3 hm
      replace q1 := s3 _ _ q1
      replace h1 := A2.mono s3 h1
      replace q2 := s3 _ _ q2
      replace h2 := A2.mono s3 h2
      replace sF := sF.trans s3
      obtain ⟨T5, u5, rfl, n5, rfl, r5⟩ := y3
      obtain ⟨F5, s5, w5, q5⟩ := w3.frzE (o := .tup [.int b3.1, u5]) n5
      replace r5 := Rep.mono s3 r5
      replace q1 := s5 _ _ q1
      replace h1 := A2.mono s5 h1
      replace q2 := s5 _ _ q2
      replace h2 := A2.mono s5 h2
      replace sF := sF.trans s5
      replace r5 := Rep.mono s5 r5
      obtain ⟨a6, vs6, rfl, q6, h6⟩ := r5
      refine ⟨_, _, rfl, SqT.of (w5.same _ _ q5), rfl, _, _, rfl, _, _, rfl, rfl, rfl, _, rfl, _, rfl, ⟨_, SqL.of (w5.same _ _ q2)⟩, fun D7 nD7 => ?_⟩
      refine lcM (K := K) (tw_list (a := a2) h2) hm w5 nD7 (fun F' H' acc s w => SqL.of (w.same _ _ (s _ _ q2))) ?_ ?_
      · -- one turn
        intro b7 x7 F7 H7 H7' acc7 N7 P7 s7 w7 y7 hN7 hm
        replace q1 := s7 _ _ q1
        replace h1 := A2.mono s7 h1
        replace q2 := s7 _ _ q2
        replace h2 := A2.mono s7 h2
        replace q5 := s7 _ _ q5
        replace q6 := s7 _ _ q6
        replace h6 := A2.mono s7 h6
        replace sF := sF.trans s7
        obtain ⟨rfl, r9⟩ := y7
        replace r9 := Rep.mono s7 r9
        refine ⟨rfl, _, rfl, _, rfl, _, _, _, (b3.2 : (List Int)), _, (b7 : Thing), rfl, w7, (rep_lst q6 h6), r9, ?_⟩
        refine (post_bind hm).mono (fun y11 hm v11 F11 H11 w11 s11 r11 => ?_) (fun _ z => z)
        replace q1 := s11 _ _ q1
        replace h1 := A2.mono s11 h1
        replace q2 := s11 _ _ q2
        replace h2 := A2.mono s11 h2
        replace q5 := s11 _ _ q5
        replace q6 := s11 _ _ q6
        replace h6 := A2.mono s11 h6
        replace r9 := Rep.mono s11 r9
        replace sF := sF.trans s11
        obtain rfl : v11 = V.int y11 := r11
        exact hN7 _ (post_ok hm) _ _ _ w11 s11 rep_i
      intro us7 F7 H7 ys7 s7 w7 gg7 hm
      replace q1 := s7 _ _ q1
      replace h1 := A2.mono s7 h1
      replace q2 := s7 _ _ q2
      replace h2 := A2.mono s7 h2
      replace q5 := s7 _ _ q5
      replace q6 := s7 _ _ q6
      replace h6 := A2.mono s7 h6
      replace sF := sF.trans s7
      obtain ⟨c13, d13, hm⟩ := pb_setLenI hm
      refine ⟨_, _, rfl, ints_q (SqL.of (w7.get (pre := []))) gg7, c13, fun p13 n13 => ?_⟩
      obtain ⟨F13, s13, w13, q13⟩ := w7.frzE (o := SetO w p13 (fun j => decide (j ∈ ys7)) (nub ys7).length) n13
      replace q1 := s13 _ _ q1
      replace h1 := A2.mono s13 h1
      replace q2 := s13 _ _ q2
      replace h2 := A2.mono s13 h2
      replace q5 := s13 _ _ q5
      replace q6 := s13 _ _ q6
      replace h6 := A2.mono s13 h6
      replace gg7 := A2.mono s13 gg7
      replace sF := sF.trans s13
      refine ⟨_, _, _, rfl, w13.same _ _ q13, d13, _, _, rfl, rfl, _, rfl, ?_⟩
      refine post_ite hm (fun k14 hm => ?_) (fun k14 hm => ?_)
      · skip
        have w15 : W F13 _ ((D3, .lst acc3) :: os) := w13.drop (pre := [])
        exact ⟨_, rfl, hN3 _ (post_ok hm) _ _ _ w15 (s5.trans (s7.trans s13)) rep_i⟩
      · skip
        have w16 : W F13 _ ((D3, .lst acc3) :: os) := w13.drop (pre := [])
        exact hM3 (post_ok hm) _ _ w16 (s5.trans (s7.trans s13))
    intro us3 F3 H3 ys3 s3 w3 gg3 hm
    replace q1 := s3 _ _ q1
    replace h1 := A2.mono s3 h1
    replace q2 := s3 _ _ q2
    replace h2 := A2.mono s3 h2
    replace sF := sF.trans s3
    obtain ⟨F18, s18, w18, q18⟩ : ∃ F', Same F3 F' ∧ W F' _ (os) ∧ F' D3 = some (.lst us3) := w3.freezeE (pre := [])
    replace q1 := s18 _ _ q1
    replace h1 := A2.mono s18 h1
    replace q2 := s18 _ _ q2
    replace h2 := A2.mono s18 h2
    replace gg3 := A2.mono s18 gg3
    replace sF := sF.trans s18
    exact (post_ok hm) _ _ _ w18 sF (rep_lst q18 gg3)
def sp_floor_height (K : Fg) : Sp := fun vs H Q E => ∃ (F : Hp) (os : List (Addr × HO)) (v_web : V) (x_web : (Int × (Tup (Int × Int)))) (x_kind : Str) (v_lots : V) (x_lots : (List (List Thing))), vs = [v_web, .str x_kind, v_lots] ∧ W F H (os) ∧ rep K F v_web x_web ∧ rep K F v_lots x_lots ∧ Post (floor_height x_web x_kind x_lots) (Ret K F os Q) noX
theorem sc_floor_height : FnScope ["web", "kind", "lots", "table", "met", "height", "lot", "place"] ["web", "kind", "lots"] (defScope s_floor_height) := ⟨rfl, rfl, rfl, by decide +kernel, rfl, by decide +kernel, by decide +kernel⟩
theorem ok_floor_height (T : Tx K mg A FD) : FnOk P w K mg base CX0 5 (A 40) (FD 40) ["web", "kind", "lots"] (sp_floor_height K) := by
  refine T.d40.fn.ok sc_floor_height (fun vs H Q E h => ?_) (fun cdv Ar outer s H vs Q E hr h => ?_)
  · obtain ⟨F, os, v_web, x_web, x_kind, v_lots, x_lots, rfl, _⟩ := h
    rfl
  · obtain ⟨F0, os, v_web, x_web, x_kind, v_lots, x_lots, rfl, w0, r_web, r_lots, hm⟩ := h
    have sF : Same F0 F0 := Same.refl _
    obtain ⟨a1, u1, z1, rfl, q1, r1a, r1b⟩ := r_web
    obtain rfl : u1 = V.int x_web.1 := r1a
    obtain ⟨a2, vs2, rfl, q2, h2⟩ := r1b
    obtain ⟨a3, vs3, rfl, q3, h3⟩ := r_lots
    refine ⟨_, (pss_cons (ps_setLc (i := 3) (own := [("place", 7)]) (g := gName 7) (by rfl) sc_floor_height.nd rfl rfl (sw_true rfl rfl rfl (by decide +kernel)) (pi_range1 (by rfl) T.n_range (pa_cons (pe_ix (ix_tupK (K := K) rfl) (pv 0) pe_int (fun _ _ => rfl)) pa_nil)) (blkOk_by (own := [("place", 7)]) (N := ["web", "kind", "lots", "table", "met", "height", "lot", "place"]) (sc := defScope s_floor_height) (by decide +kernel)) (fun _ _ _ _ _ => (pg_name (i := 7) sc_floor_height.nd rfl (Or.inl rfl))) (fun _ _ _ _ _ => pts_nil) (fun _ _ _ _ _ => (pe_call (ok_fars_from T) (hr.mono (by decide)) (by rfl) T.d11.mg T.d11.fn.kp T.d11.b .nil pass0 (pa_cons (pv 0) (pa_cons (pv 7) pa_nil))))) (pss_cons (ps_set (i := 4) sc_floor_height.nd rfl (Or.inl rfl) (pe_lst pa_nil)) (pss_cons (ps_set (i := 5) sc_floor_height.nd rfl (Or.inl rfl) pe_int1) (pss_cons (ps_for PassesOwn.never rfl (pi_listK (K := K) rfl (pv 2)) (pg_name (i := 6) sc_floor_height.nd rfl (Or.inl rfl)) (pss_cons (ps_if (pt_not (pt_val (pe_call (ok_is_lot T) (hr.mono (by decide)) (by rfl) T.d38.mg T.d38.fn.kp T.d38.b .nil pass0 (pa_cons (pv 0) (pa_cons (pv 1) (pa_cons (pv 6) pa_nil)))))) (pss_one (ps_ret pe_non)) pss_nil) (pss_cons (ps_for PassesOwn.never rfl (pi_listK (K := K) rfl (pe_call (ok_lot_parters T) (hr.mono (by decide)) (by rfl) T.d39.mg T.d39.fn.kp T.d39.b .nil pass0 (pa_cons (pv 3) (pa_cons (pv 6) pa_nil)))) (pg_name (i := 7) sc_floor_height.nd rfl (Or.inl rfl)) (pss_cons (ps_if (pt_cmpR (op_inL (K := K) rfl Int (by decide) (Room.units65 hr)) (pv 7) (pv 4) (by rfl)) (pss_one (ps_ret pe_non)) pss_nil) (pss_one (ps_expr (pe_bm PySem.F.plainAttrs_list PySem.F.slot_list_append PySem.F.type_list_append mt_append (pv 4) (pa_cons (pv 7) pa_nil)))))) (pss_one (ps_set (i := 5) sc_floor_height.nd rfl (Or.inl rfl) (pe_op op_sub (pe_op op_add (pv 5) (pe_callB (call_lenN (K := K) rfl) (by rfl) T.n_len (by decide +kernel) (pa_cons (pv 6) pa_nil))) pe_int)))))) (pss_one (ps_ret (pv 5))))))), ?_⟩
    obtain ⟨c4, hm⟩ := pb_rng hm
    refine ⟨_, rfl, _, _, _, _, rfl, rfl, SqT.of (w0.same _ _ q1), rfl, _, rfl, c4.2.2.1, c4.2.2.2, fun D5 nD5 => ?_⟩
    refine lcM (K := K) (tw_rng0 (j := x_web.1)) hm w0 nD5 (fun F' H' acc s w => trivial) ?_ ?_
    · -- one turn
      intro b5 x5 F5 H5 H5' acc5 N5 P5 s5 w5 y5 hN5 hm
      replace q1 := s5 _ _ q1
      replace q2 := s5 _ _ q2
      replace h2 := A2.mono s5 h2
      replace q3 := s5 _ _ q3
      replace h3 := A2.mono s5 h3
      replace sF := sF.trans s5
      obtain ⟨rfl, rfl⟩ := y5
      refine ⟨rfl, _, rfl, _, rfl, _, _, _, (x_web : (Int × (Tup (Int × Int)))), _, rfl, w5, (rep_pair q1 rep_i (rep_tup q2 h2)), ?_⟩
      refine (post_bind hm).mono (fun y7 hm p7 us7 F7 H7 w7 s7 g7 => ?_) (fun _ z => z)
      replace q1 := s7 _ _ q1
      replace q2 := s7 _ _ q2
      replace h2 := A2.mono s7 h2
      replace q3 := s7 _ _ q3
      replace h3 := A2.mono s7 h3
      replace sF := sF.trans s7
      obtain ⟨F9, s9, w9, q9⟩ : ∃ F', Same F7 F' ∧ W F' _ ((D5, .lst acc5) :: os) ∧ F' p7 = some (.lst us7) := w7.freezeE (pre := [])
      replace q1 := s9 _ _ q1
      replace q2 := s9 _ _ q2
      replace h2 := A2.mono s9 h2
      replace q3 := s9 _ _ q3
      replace h3 := A2.mono s9 h3
      replace g7 := A2.mono s9 g7
      replace sF := sF.trans s9
      exact hN5 _ (post_ok hm) _ _ _ w9 (s7.trans s9) (rep_lst q9 g7)
    intro us5 F5 H5 ys5 s5 w5 gg5 hm
    replace q1 := s5 _ _ q1
    replace q2 := s5 _ _ q2
    replace h2 := A2.mono s5 h2
    replace q3 := s5 _ _ q3
    replace h3 := A2.mono s5 h3
    replace sF := sF.trans s5
    obtain ⟨F11, s11, w11, q11⟩ : ∃ F', Same F5 F' ∧ W F' _ (os) ∧ F' D5 = some (.lst us5) := w5.freezeE (pre := [])
    replace q1 := s11 _ _ q1
    replace q2 := s11 _ _ q2
    replace h2 := A2.mono s11 h2
    replace q3 := s11 _ _ q3
    replace h3 := A2.mono s11 h3
    replace gg5 := A2.mono s11 gg5
    replace sF := sF.trans s11
    have h12 : A2 (rep K F11) [] ([] : (List Int)) := .nil
    refine ⟨(by show 0 ≤ sizeLine; decide), fun p13 n13 => ?_⟩
    have w13 : W F11 _ ((p13, .lst []) :: os) := w11.new n13
    refine ⟨trivial, _, rfl, _, rfl, ⟨_, SqL.of (w13.same _ _ q3)⟩, ?_⟩
    refine forX (tw_list (a := a3) h3) hm (fun (g14 : Int × (List Int)) σ H' => ∃ (F' : Hp) (vs14_0 : List V) (o14_7 : Option V) (o14_6 : Option V), σ = [some (.ref a1), some (.str x_kind), some (.ref a3), some (.ref D5), some (.ref p13), some (.int g14.1), o14_6, o14_7] ∧ Same F11 F' ∧ W F' H' ((p13, .lst vs14_0) :: os) ∧ A2 (rep K F') vs14_0 g14.2) ⟨_, _, _, _, rfl, Same.refl _, w13, h12⟩ (fun g σ H' hI => by obtain ⟨F', _, _, _, _, s, w, _⟩ := hI; exact SqL.of (w.same _ _ (s _ _ q3))) ?_ ?_
    · -- a turn
      intro b14 g14 x14 σ14 H14 H14' N14 B14 P14 hI hy hN14 hB14 hZ14 hm
      obtain ⟨F14, vs14_0, o14_7, o14_6, rfl, s14, w14, h14_0⟩ := hI
      replace q1 := s14 _ _ q1
      replace h2 := A2.mono s14 h2
      replace q2 := s14 _ _ q2
      replace h3 := A2.mono s14 h3
      replace q3 := s14 _ _ q3
      replace gg5 := A2.mono s14 gg5
      replace q11 := s14 _ _ q11
      replace sF := sF.trans s14
      obtain ⟨rfl, r15⟩ := hy
      replace r15 := Rep.mono s14 r15
      obtain ⟨a16, vs16, rfl, q16, h16⟩ := r15
      refine ⟨_, rfl, _, rfl, _, rfl, _, _, _, (x_web : (Int × (Tup (Int × Int)))), _, _, (b14 : (List Thing)), rfl, w14, (rep_pair q1 rep_i (rep_tup q2 h2)), (rep_lst q16 h16), ?_⟩
      refine (post_bind hm).mono (fun y17 hm v17 F17 H17 w17 s17 r17 => ?_) (fun _ z => z)
      replace q1 := s17 _ _ q1
      replace h2 := A2.mono s17 h2
      replace q2 := s17 _ _ q2
      replace h3 := A2.mono s17 h3
      replace q3 := s17 _ _ q3
      replace gg5 := A2.mono s17 gg5
      replace q11 := s17 _ _ q11
      replace h16 := A2.mono s17 h16
      replace q16 := s17 _ _ q16
      replace h14_0 := A2.mono s17 h14_0
      replace sF := sF.trans s17
      obtain rfl : v17 = V.bl y17 := r17
      refine ⟨_, rfl, ?_⟩
      refine post_ite hm (fun k18 hm => ?_) (fun k18 hm => ?_)
      · skip
        have hm := hZ14 _ (post_ok hm)
        have w19 : W F17 _ (os) := w17.drop (pre := [])
        exact (post_ok hm) _ _ _ w19 sF rep_none
      · skip
        refine ⟨_, rfl, _, rfl, _, _, _, (ys5 : (List (List Int))), _, (b14 : (List Thing)), rfl, w17, (rep_lst q11 gg5), (rep_lst q16 h16), ?_⟩
        refine (post_bind hm).mono (fun y21 hm v21 F21 H21 w21 s21 r21 => ?_) (fun _ z => z)
        replace q1 := s21 _ _ q1
        replace h2 := A2.mono s21 h2
        replace q2 := s21 _ _ q2
        replace h3 := A2.mono s21 h3
        replace q3 := s21 _ _ q3
        replace gg5 := A2.mono s21 gg5
        replace q11 := s21 _ _ q11
        replace h16 := A2.mono s21 h16
        replace q16 := s21 _ _ q16
        replace h14_0 := A2.mono s21 h14_0
        replace sF := sF.trans s21
        obtain ⟨a22, vs22, rfl, q22, h22⟩ := r21
        refine ⟨_, rfl, ⟨_, SqL.of (w21.same _ _ q22)⟩, ?_⟩
        refine forX (tw_list (a := a22) h22) hm (fun (g20 : (List Int)) σ H' => ∃ (F' : Hp) (vs20_0 : List V) (o20_7 : Option V), σ = [some (.ref a1), some (.str x_kind), some (.ref a3), some (.ref D5), some (.ref p13), some (.int g14.1), some (.ref a16), o20_7] ∧ Same F21 F' ∧ W F' H' ((p13, .lst vs20_0) :: os) ∧ A2 (rep K F') vs20_0 g20) ⟨_, _, _, rfl, Same.refl _, w21, h14_0⟩ (fun g σ H' hI => by obtain ⟨F', _, _, _, s, w, _⟩ := hI; exact SqL.of (w.same _ _ (s _ _ q22))) ?_ ?_
        · -- a turn
          intro b20 g20 x20 σ20 H20 H20' N20 B20 P20 hI hy hN20 hB20 hZ20 hm
          obtain ⟨F20, vs20_0, o20_7, rfl, s20, w20, h20_0⟩ := hI
          replace q1 := s20 _ _ q1
          replace h2 := A2.mono s20 h2
          replace q2 := s20 _ _ q2
          replace h3 := A2.mono s20 h3
          replace q3 := s20 _ _ q3
          replace gg5 := A2.mono s20 gg5
          replace q11 := s20 _ _ q11
          replace h16 := A2.mono s20 h16
          replace q16 := s20 _ _ q16
          replace q22 := s20 _ _ q22
          replace h22 := A2.mono s20 h22
          replace sF := sF.trans s20
          obtain ⟨rfl, r23⟩ := hy
          obtain rfl : x20 = V.int b20 := r23
          refine ⟨_, rfl, _, rfl, (b20 : Int), _, rep_i, (rep_own (pre := []) w20 h20_0), _, rfl, ?_⟩
          refine post_ite hm (fun k24 hm => ?_) (fun k24 hm => ?_)
          · skip
            have hm := hZ20 _ (post_ok hm)
            have hm := hZ14 _ (post_ok hm)
            have w25 : W F20 _ (os) := w20.drop (pre := [])
            exact (post_ok hm) _ _ _ w25 sF rep_none
          · skip
            obtain ⟨l26, z26, e26, hm⟩ := pn_app hm
            refine ⟨_, rfl, .inl ⟨rfl, _, SqL.of (w20.get (pre := []))⟩, _, rfl, _, _, _, rfl, rfl, (w20.get (pre := [])), (A2.lt h20_0 z26), ?_⟩
            have h26 : A2 (rep K F20) (vs20_0 ++ [(V.int b20)]) l26 := e26 ▸ A2.snoc h20_0 rep_i
            have w27 : W F20 _ ((p13, .lst (vs20_0 ++ [(V.int b20)])) :: os) := w20.set (pre := [])
            exact hN20 _ (post_ok hm) _ _ ⟨_, _, _, rfl, s20, w27, h26⟩
        intro g20 σ20 H20 hI hm
        obtain ⟨F20, vs20_0, o20_7, rfl, s20, w20, h20_0⟩ := hI
        replace q1 := s20 _ _ q1
        replace h2 := A2.mono s20 h2
        replace q2 := s20 _ _ q2
        replace h3 := A2.mono s20 h3
        replace q3 := s20 _ _ q3
        replace gg5 := A2.mono s20 gg5
        replace q11 := s20 _ _ q11
        replace h16 := A2.mono s20 h16
        replace q16 := s20 _ _ q16
        replace q22 := s20 _ _ q22
        replace h22 := A2.mono s20 h22
        replace sF := sF.trans s20
        exact ⟨_, rfl, _, rfl, _, _, _, rfl, .inl (SqL.of (w20.same _ _ q16)), h16.length, _, _, rfl, rfl, _, _, rfl, rfl, hN14 _ (post_ok hm) _ _ ⟨_, _, _, _, rfl, (s14.trans (s17.trans (s21.trans s20))), w20, h20_0⟩⟩
    intro g14 σ14 H14 hI hm
    obtain ⟨F14, vs14_0, o14_7, o14_6, rfl, s14, w14, h14_0⟩ := hI
    replace q1 := s14 _ _ q1
    replace h2 := A2.mono s14 h2
    replace q2 := s14 _ _ q2
    replace h3 := A2.mono s14 h3
    replace q3 := s14 _ _ q3
    replace gg5 := A2.mono s14 gg5
    replace q11 := s14 _ _ q11
    replace sF := sF.trans s14
    have w28 : W F14 _ (os) := w14.drop (pre := [])
    exact ⟨_, rfl, (post_ok hm) _ _ _ w28 sF (rep_some rep_i)⟩
def sp_law_purse (K : Fg) : Sp := fun vs H Q E => ∃ (F : Hp) (os : List (Addr × HO)) (v__law_script : V) (x__law_script : Scr) (x__law_k : Int), vs = [v__law_script, .int x__law_k] ∧ W F H (os) ∧ rep K F v__law_script x__law_script ∧ Post (law_purse x__law_script x__law_k) (RetL K F os Q) noX
theorem sc_law_purse : FnScope ["_law_script", "_law_k", "_law_cell", "_law_number"] ["_law_script", "_law_k"] (defScope s_law_purse) := ⟨rfl, rfl, rfl, by decide +kernel, rfl, by decide +kernel, by decide +kernel⟩
theorem ok_law_purse (T : Tx K mg A FD) : FnOk P w K mg base CX0 1 (A 42) (FD 42) ["_law_script", "_law_k"] (sp_law_purse K) := by
  refine T.d42.fn.ok sc_law_purse (fun vs H Q E h => ?_) (fun cdv Ar outer s H vs Q E hr h => ?_)
  · obtain ⟨F, os, v__law_script, x__law_script, x__law_k, rfl, _⟩ := h
    rfl
  · obtain ⟨F0, os, v__law_script, x__law_script, x__law_k, rfl, w0, r__law_script, hm⟩ := h
    have sF : Same F0 F0 := Same.refl _
    obtain ⟨a1, rfl, q1⟩ := r__law_script
    have h1 : A2 (rep K F0) (x__law_script.l.map V.int) x__law_script.l := A2.of_ints
    refine ⟨_, (pss_cons (ps_set (i := 2) sc_law_purse.nd rfl (Or.inl rfl) pe_int1) (pss_cons (ps_if (pt_cmp (pc_lt (pv 1) (pe_callB (call_lenN (K := K) rfl) (by rfl) T.n_len (by decide +kernel) (pa_cons (pv 0) pa_nil)))) (pss_one (ps_set (i := 2) sc_law_purse.nd rfl (Or.inl rfl) (pe_ix (ix_listK (K := K) rfl) (pv 0) (pv 1) (fun _ _ => rfl)))) (pss_one (ps_if (pt_cmpR (op_neDt (K := K) rfl Scr (by decide) hr.units) (pv 0) (pe_lst pa_nil) (nomark _)) (pss_one (ps_set (i := 2) sc_law_purse.nd rfl (Or.inl rfl) (pe_op op_add (pe_op op_mod (pe_ix (ix_listK (K := K) rfl) (pv 0) (pe_op op_mod (pv 1) (pe_callB (call_lenN (K := K) rfl) (by rfl) T.n_len (by decide +kernel) (pa_cons (pv 0) pa_nil))) (fun _ _ => rfl)) pe_int) (pe_op op_mul pe_int (pv 1))))) pss_nil))) (pss_cons (ps_if (pt_cmp (pc_ge (pv 2) (pe_op op_pow pe_int pe_int))) (pss_one (ps_ret (pe_lst (pa_cons (pv 2) pa_nil)))) pss_nil) (pss_cons (ps_set (i := 3) sc_law_purse.nd rfl (Or.inl rfl) (pe_op op_mod (pe_op op_sq (pe_op op_add (pe_op op_add (pe_op op_mod (pv 2) (pe_op op_add (pe_op op_pow pe_int pe_int) pe_int)) (pe_op op_mul pe_int (pv 1))) pe_int) pe_int) (pe_op op_add (pe_op op_pow pe_int pe_int) pe_int))) (pss_one (ps_ret (pe_lst (pa_cons (pe_op op_mod (pe_op op_mulW4 (pe_op op_add (pe_op op_add (pv 3) (pe_op op_mul pe_int (pv 1))) pe_int) pe_int) (pe_op op_add (pe_op op_pow pe_int pe_int) pe_int)) pa_nil)))))))), ?_⟩
    refine ⟨trivial, ?_⟩
    refine stepN ?_
    try dsimp only
    refine joinS hm (fun (g2 : Int) σ H' => ∃ (F' : Hp), σ = [some (.ref a1), some (.int x__law_k), some (.int g2), none] ∧ Same F0 F' ∧ W F' H' (os)) ?_ ?_
    · intro N2 P2 hN2 hm
      refine ⟨_, rfl, _, rfl, _, _, _, rfl, .inl (w0.same.seq q1), h1.length, _, _, rfl, rfl, _, rfl, ?_⟩
      refine post_ite hm (fun k3 hm => ?_) (fun k3 hm => ?_)
      · skip
        obtain ⟨t4, e4, hm⟩ := pb_get hm
        obtain ⟨u4, f4, r4⟩ := A2.at h1 e4
        obtain rfl : u4 = V.int t4 := r4
        exact ⟨_, rfl, _, rfl, _, _, _, _, rfl, rfl, w0.same.seq q1, f4, hN2 _ (post_ok hm) _ _ ⟨_, rfl, Same.refl _, w0⟩⟩
      · skip
        have h5 : A2 (rep K F0) [] ([] : (List Int)) := .nil
        refine ⟨_, rfl, (by show 0 ≤ sizeLine; decide), fun p6 n6 => ?_⟩
        have w6 : W F0 _ ((p6, .lst []) :: os) := w0.new n6
        refine ⟨(x__law_script : Scr), (⟨([] : (List Int))⟩ : Scr), (Rep.mono w6.same ⟨_, rfl, q1⟩), ⟨_, rfl, SqL.of (w6.get (pre := []))⟩, _, rfl, ?_⟩
        have w7 : W F0 _ (os) := w6.drop (pre := [])
        refine post_ite hm (fun k8 hm => ?_) (fun k8 hm => ?_)
        · skip
          obtain ⟨c9, hm⟩ := pb_mod hm
          obtain ⟨t10, e10, hm⟩ := pb_get hm
          obtain ⟨u10, f10, r10⟩ := A2.at h1 e10
          obtain rfl : u10 = V.int t10 := r10
          exact ⟨_, rfl, _, rfl, _, rfl, _, _, _, rfl, .inl (w7.same.seq q1), h1.length, _, _, rfl, rfl, c9, _, _, _, _, rfl, rfl, w7.same.seq q1, f10, _, _, rfl, rfl, (by show (0 : Int) < (1000003 : Int); decide), _, rfl, _, _, rfl, rfl, (.inl (by constructor <;> decide)), _, _, rfl, rfl, hN2 _ (post_ok hm) _ _ ⟨_, rfl, Same.refl _, w7⟩⟩
        · skip
          exact hN2 _ (post_ok hm) _ _ ⟨_, rfl, Same.refl _, w7⟩
    intro g2 σ2 H2 hI hm
    obtain ⟨F2, rfl, s2, w2⟩ := hI
    replace h1 := A2.mono s2 h1
    replace q1 := s2.seq q1
    replace sF := sF.trans s2
    refine ⟨_, rfl, _, _, rfl, rfl, (by refine ⟨?_, ?_, ?_⟩ <;> decide), _, _, rfl, rfl, _, rfl, ?_⟩
    refine post_ite hm (fun k14 hm => ?_) (fun k14 hm => ?_)
    · skip
      have h15 : A2 (rep K F2) [(.int g2)] ([g2] : (List Int)) := .cons rep_i (.nil)
      refine ⟨_, rfl, (by show 1 ≤ sizeLine; decide), fun p16 n16 => ?_⟩
      have w16 : W F2 _ ((p16, .lst [(.int g2)]) :: os) := w2.new n16
      exact (post_ok hm) _ _ _ _ w16 sF h15
    · skip
      obtain ⟨c20, hm⟩ := pb_sq hm
      obtain ⟨c24, hm⟩ := pb_mulW hm
      have h27 : A2 (rep K F2) [(.int (((((((((g2 % (((10 : Int) ^ ((30 : Int) : Int).toNat) + (57 : Int))) + ((7919 : Int) * x__law_k)) + (101 : Int)) ^ (2 : Int).toNat) % (((10 : Int) ^ ((30 : Int) : Int).toNat) + (57 : Int))) + ((977 : Int) * x__law_k)) + (5 : Int)) * (618033988749894848204586834365 : Int)) % (((10 : Int) ^ ((30 : Int) : Int).toNat) + (57 : Int))))] ([(((((((((g2 % (((10 : Int) ^ ((30 : Int) : Int).toNat) + (57 : Int))) + ((7919 : Int) * x__law_k)) + (101 : Int)) ^ (2 : Int).toNat) % (((10 : Int) ^ ((30 : Int) : Int).toNat) + (57 : Int))) + ((977 : Int) * x__law_k)) + (5 : Int)) * (618033988749894848204586834365 : Int)) % (((10 : Int) ^ ((30 : Int) : Int).toNat) + (57 : Int)))] : (List Int)) := .cons rep_i (.nil)
      refine ⟨_, rfl, _, _, rfl, rfl, (by refine ⟨?_, ?_, ?_⟩ <;> decide), _, _, rfl, rfl, _, _, rfl, rfl, (by show (0 : Int) < (((10 : Int) ^ ((30 : Int) : Int).toNat) + (57 : Int)); decide), _, rfl, _, _, rfl, rfl, (.inl (by constructor <;> decide)), _, _, rfl, rfl, _, _, rfl, rfl, _, _, rfl, rfl, ⟨rfl, c20⟩, _, _, rfl, rfl, (by refine ⟨?_, ?_, ?_⟩ <;> decide), _, _, rfl, rfl, _, _, rfl, rfl, (by show (0 : Int) < (((10 : Int) ^ ((30 : Int) : Int).toNat) + (57 : Int)); decide), _, rfl, _, rfl, _, _, rfl, rfl, (.inl (by constructor <;> decide)), _, _, rfl, rfl, _, _, rfl, rfl, _, _, rfl, rfl, c24, _, _, rfl, rfl, (by refine ⟨?_, ?_, ?_⟩ <;> decide), _, _, rfl, rfl, _, _, rfl, rfl, (by show (0 : Int) < (((10 : Int) ^ ((30 : Int) : Int).toNat) + (57 : Int)); decide), (by show 1 ≤ sizeLine; decide), fun p28 n28 => ?_⟩
      have w28 : W F2 _ ((p28, .lst [(.int (((((((((g2 % (((10 : Int) ^ ((30 : Int) : Int).toNat) + (57 : Int))) + ((7919 : Int) * x__law_k)) + (101 : Int)) ^ (2 : Int).toNat) % (((10 : Int) ^ ((30 : Int) : Int).toNat) + (57 : Int))) + ((977 : Int) * x__law_k)) + (5 : Int)) * (618033988749894848204586834365 : Int)) % (((10 : Int) ^ ((30 : Int) : Int).toNat) + (57 : Int))))]) :: os) := w2.new n28
      exact (post_ok hm) _ _ _ _ w28 sF h27
def sp_law_take (K : Fg) : Sp := fun vs H Q E => ∃ (F : Hp) (os : List (Addr × HO)) (a__law_purse_here : Addr) (vs__law_purse_here : List V) (x__law_purse_here : (List Int)) (x__law_many : Int), vs = [.ref a__law_purse_here, .int x__law_many] ∧ W F H ((a__law_purse_here, .lst vs__law_purse_here) :: os) ∧ A2 (rep K F) vs__law_purse_here x__law_purse_here ∧ Post (law_take x__law_purse_here x__law_many) (RetM K F a__law_purse_here os Q) noX
theorem sc_law_take : FnScope ["_law_purse_here", "_law_many", "_law_found"] ["_law_purse_here", "_law_many"] (defScope s_law_take) := ⟨rfl, rfl, rfl, by decide +kernel, rfl, by decide +kernel, by decide +kernel⟩
theorem ok_law_take (T : Tx K mg A FD) : FnOk P w K mg base CX0 1 (A 43) (FD 43) ["_law_purse_here", "_law_many"] (sp_law_take K) := by
  refine T.d43.fn.ok sc_law_take (fun vs H Q E h => ?_) (fun cdv Ar outer s H vs Q E hr h => ?_)
  · obtain ⟨F, os, a__law_purse_here, vs__law_purse_here, x__law_purse_here, x__law_many, rfl, _⟩ := h
    rfl
  · obtain ⟨F0, os, a__law_purse_here, vs__law_purse_here, x__law_purse_here, x__law_many, rfl, w0, h__law_purse_here, hm⟩ := h
    have sF : Same F0 F0 := Same.refl _
    refine ⟨_, (pss_cons (ps_set (i := 2) sc_law_take.nd rfl (Or.inl rfl) (pe_op op_mod (pe_ix (ix_listK (K := K) rfl) (pv 0) pe_int (fun _ _ => rfl)) (pv 1))) (pss_cons (ps_asg (pe_op op_fdivW (pe_ix (ix_listK (K := K) rfl) (pv 0) pe_int (fun _ _ => rfl)) (pv 1)) (pg_sub (pv 0) pe_int set_list)) (pss_one (ps_ret (pv 2))))), ?_⟩
    obtain ⟨t2, e2, hm⟩ := pb_get hm
    obtain ⟨u2, f2, r2⟩ := A2.at h__law_purse_here e2
    obtain rfl : u2 = V.int t2 := r2
    obtain ⟨c3, hm⟩ := pb_mod hm
    obtain ⟨t4, e4, hm⟩ := pb_get hm
    obtain ⟨u4, f4, r4⟩ := A2.at h__law_purse_here e4
    obtain rfl : u4 = V.int t4 := r4
    obtain ⟨c5, hm⟩ := pb_div hm
    obtain ⟨j6, l6, z6, e6, hm⟩ := pn_set hm
    refine ⟨_, rfl, _, _, _, _, rfl, rfl, SqL.of (w0.get (pre := [])), f2, _, rfl, _, _, rfl, rfl, c3, _, rfl, _, _, _, _, rfl, rfl, SqL.of (w0.get (pre := [])), f4, _, rfl, _, _, rfl, rfl, c5, _, rfl, _, _, _, _, rfl, rfl, (w0.get (pre := [])), (A2.ix h__law_purse_here z6), ?_⟩
    have h6 : A2 (rep K F0) (vs__law_purse_here.set j6 (V.int (t4 / x__law_many))) l6 := e6 ▸ A2.set rep_i j6 h__law_purse_here
    have w7 : W F0 _ ((a__law_purse_here, .lst (vs__law_purse_here.set j6 (V.int (t4 / x__law_many)))) :: os) := w0.set (pre := [])
    exact ⟨_, rfl, (post_ok hm) _ _ _ _ w7 sF rep_i h6⟩
def sp_law_order (K : Fg) : Sp := fun vs H Q E => ∃ (F : Hp) (os : List (Addr × HO)) (a__law_purse_here : Addr) (vs__law_purse_here : List V) (x__law_purse_here : (List Int)) (x__law_many : Int), vs = [.ref a__law_purse_here, .int x__law_many] ∧ W F H ((a__law_purse_here, .lst vs__law_purse_here) :: os) ∧ A2 (rep K F) vs__law_purse_here x__law_purse_here ∧ Post (law_order x__law_purse_here x__law_many) (RetLM K F a__law_purse_here os Q) noX
theorem sc_law_order : FnScope ["_law_purse_here", "_law_many", "_law_found", "_law_k"] ["_law_purse_here", "_law_many"] (defScope s_law_order) := ⟨rfl, rfl, rfl, by decide +kernel, rfl, by decide +kernel, by decide +kernel⟩
theorem ok_law_order (T : Tx K mg A FD) : FnOk P w K mg base CX0 2 (A 44) (FD 44) ["_law_purse_here", "_law_many"] (sp_law_order K) := by
  refine T.d44.fn.ok sc_law_order (fun vs H Q E h => ?_) (fun cdv Ar outer s H vs Q E hr h => ?_)
  · obtain ⟨F, os, a__law_purse_here, vs__law_purse_here, x__law_purse_here, x__law_many, rfl, _⟩ := h
    rfl
  · obtain ⟨F0, os, a__law_purse_here, vs__law_purse_here, x__law_purse_here, x__law_many, rfl, w0, h__law_purse_here, hm⟩ := h
    have sF : Same F0 F0 := Same.refl _
    refine ⟨_, (pss_cons (ps_set (i := 2) sc_law_order.nd rfl (Or.inl rfl) (pe_lst pa_nil)) (pss_cons (ps_for PassesOwn.never rfl (pi_range1 (by rfl) T.n_range (pa_cons (pv 1) pa_nil)) (pg_name (i := 3) sc_law_order.nd rfl (Or.inl rfl)) (pss_one (ps_expr (pe_bm PySem.F.plainAttrs_list PySem.F.slot_list_insert PySem.F.type_list_insert mt_insert (pv 2) (pa_cons (pe_call (ok_law_take T) (hr.mono (by decide)) (by rfl) T.d43.mg T.d43.fn.kp T.d43.b .nil pass0 (pa_cons (pv 0) (pa_cons (pe_op op_add (pv 3) pe_int) pa_nil))) (pa_cons (pv 3) pa_nil)))))) (pss_one (ps_ret (pv 2))))), ?_⟩
    have h2 : A2 (rep K F0) [] ([] : (List Int)) := .nil
    refine ⟨(by show 0 ≤ sizeLine; decide), fun p3 n3 => ?_⟩
    have w3 : W F0 _ ((p3, .lst []) :: (a__law_purse_here, .lst vs__law_purse_here) :: os) := w0.new n3
    obtain ⟨c5, hm⟩ := pb_rng hm
    refine ⟨_, rfl, _, rfl, c5.2.2.1, c5.2.2.2, ?_⟩
    refine forS (tw_rng0 (j := x__law_many)) hm (fun (g4 : (List Int) × (List Int)) σ H' => ∃ (F' : Hp) (vs4_0 : List V) (vs4_1 : List V) (o4_3 : Option V), σ = [some (.ref a__law_purse_here), some (.int x__law_many), some (.ref p3), o4_3] ∧ Same F0 F' ∧ W F' H' ((p3, .lst vs4_0) :: (a__law_purse_here, .lst vs4_1) :: os) ∧ A2 (rep K F') vs4_0 g4.1 ∧ A2 (rep K F') vs4_1 g4.2) ⟨_, _, _, _, rfl, Same.refl _, w3, h2, h__law_purse_here⟩ (fun _ _ _ _ => trivial) ?_ ?_
    · -- a turn
      intro b4 g4 x4 σ4 H4 H4' N4 P4 hI hy hN4 hm
      obtain ⟨F4, vs4_0, vs4_1, o4_3, rfl, s4, w4, h4_0, h4_1⟩ := hI
      replace sF := sF.trans s4
      obtain ⟨rfl, rfl⟩ := hy
      have w6 : W F4 _ ((a__law_purse_here, .lst vs4_1) :: (p3, .lst vs4_0) :: os) := w4.front (pre := [_])
      refine ⟨_, rfl, .inl ⟨rfl, _, SqL.of (w4.get (pre := []))⟩, _, rfl, _, rfl, _, _, rfl, rfl, _, _, _, _, _, _, rfl, w6, h4_1, ?_⟩
      refine (post_bind hm).mono (fun y7 hm v7 vs7 F7 H7 w7 s7 r7 h7 => ?_) (fun _ z => z)
      replace h4_0 := A2.mono s7 h4_0
      replace sF := sF.trans s7
      obtain rfl : v7 = V.int y7.1 := r7
      obtain ⟨l8, z8, e8, hm⟩ := pn_ins hm
      refine ⟨_, rfl, _, _, _, _, rfl, rfl, (w7.get (pre := [_])), (line_ins h4_0 z8.1), z8.2.1, (by have := z8.2.2; omega), ?_⟩
      have h8 : A2 (rep K F7) (vs4_0.take y7.1.toNat ++ [(.int b4)] ++ vs4_0.drop y7.1.toNat) l8 := e8 ▸ A2.ins _ h4_0 rep_i
      have w9 : W F7 _ ((a__law_purse_here, .lst vs7) :: (p3, .lst (vs4_0.take y7.1.toNat ++ [(.int b4)] ++ vs4_0.drop y7.1.toNat)) :: os) := w7.set (pre := [_])
      have w10 : W F7 _ ((p3, .lst (vs4_0.take y7.1.toNat ++ [(.int b4)] ++ vs4_0.drop y7.1.toNat)) :: (a__law_purse_here, .lst vs7) :: os) := w9.front (pre := [_])
      exact hN4 _ (post_ok hm) _ _ ⟨_, _, _, _, rfl, (s4.trans s7), w10, h8, h7⟩
    intro g4 σ4 H4 hI hm
    obtain ⟨F4, vs4_0, vs4_1, o4_3, rfl, s4, w4, h4_0, h4_1⟩ := hI
    replace sF := sF.trans s4
    exact ⟨_, rfl, (post_ok hm) _ _ _ _ _ w4 sF h4_0 h4_1⟩
def sp_law_pairs (K : Fg) : Sp := fun vs H Q E => ∃ (F : Hp) (os : List (Addr × HO)) (a__law_purse_here : Addr) (vs__law_purse_here : List V) (x__law_purse_here : (List Int)) (x__law_many : Int) (x__law_way : Int), vs = [.ref a__law_purse_here, .int x__law_many, .int x__law_way] ∧ W F H ((a__law_purse_here, .lst vs__law_purse_here) :: os) ∧ A2 (rep K F) vs__law_purse_here x__law_purse_here ∧ Post (law_pairs x__law_purse_here x__law_many x__law_way) (RetLM K F a__law_purse_here os Q) noX
theorem sc_law_pairs : FnScope ["_law_purse_here", "_law_many", "_law_way", "_law_found", "_law_k", "_law_near", "_law_one", "_law_other"] ["_law_purse_here", "_law_many", "_law_way"] (defScope s_law_pairs) := ⟨rfl, rfl, rfl, by decide +kernel, rfl, by decide +kernel, by decide +kernel⟩
theorem ok_law_pairs (T : Tx K mg A FD) : FnOk P w K mg base CX0 2 (A 45) (FD 45) ["_law_purse_here", "_law_many", "_law_way"] (sp_law_pairs K) := by
  refine T.d45.fn.ok sc_law_pairs (fun vs H Q E h => ?_) (fun cdv Ar outer s H vs Q E hr h => ?_)
  · obtain ⟨F, os, a__law_purse_here, vs__law_purse_here, x__law_purse_here, x__law_many, x__law_way, rfl, _⟩ := h
    rfl
  · obtain ⟨F0, os, a__law_purse_here, vs__law_purse_here, x__law_purse_here, x__law_many, x__law_way, rfl, w0, h__law_purse_here, hm⟩ := h
    have sF : Same F0 F0 := Same.refl _
    refine ⟨_, (pss_cons (ps_set (i := 3) sc_law_pairs.nd rfl (Or.inl rfl) (pe_lst pa_nil)) (pss_cons (ps_for PassesOwn.never rfl (pi_range2 (by rfl) T.n_range (pa_cons pe_int (pa_cons (pv 1) pa_nil))) (pg_name (i := 4) sc_law_pairs.nd rfl (Or.inr rfl)) (pss_cons (ps_set (i := 5) sc_law_pairs.nd rfl (Or.inl rfl) (pe_call (ok_law_take T) (hr.mono (by decide)) (by rfl) T.d43.mg T.d43.fn.kp T.d43.b .nil pass0 (pa_cons (pv 0) (pa_cons (pv 4) pa_nil)))) (pss_cons (ps_expr (pe_bm PySem.F.plainAttrs_list PySem.F.slot_list_append PySem.F.type_list_append mt_append (pv 3) (pa_cons (pe_tup (pa_cons (pe_ix (ix_listK (K := K) rfl) (pe_lst (pa_cons (pe_op op_sub (pv 4) pe_int) (pa_cons (pe_op op_sub (pv 4) pe_int) (pa_cons pe_int (pa_cons (pv 5) pa_nil))))) (pe_callB (call_min2 rfl) (by rfl) T.n_min (by decide +kernel) (pa_cons (pv 2) (pa_cons pe_int pa_nil))) (fun _ _ => rfl)) (pa_cons (pv 4) pa_nil))) pa_nil))) (pss_one (ps_if (pt_cmp (pc_eqI (pv 2) pe_int)) (pss_one (ps_expr (pe_bm PySem.F.plainAttrs_list PySem.F.slot_list_extend PySem.F.type_list_extend mt_extend (pv 3) (pa_cons (pe_lc (own := [("_law_one", 6)]) (g := gName 6) (by rfl) sc_law_pairs.nd (pi_range1 (by rfl) T.n_range (pa_cons (pv 4) pa_nil)) (blkOk_by (own := [("_law_one", 6)]) (N := ["_law_purse_here", "_law_many", "_law_way", "_law_found", "_law_k", "_law_near", "_law_one", "_law_other"]) (sc := defScope s_law_pairs) (by decide +kernel)) (fun _ _ _ _ _ => (pg_name (i := 6) sc_law_pairs.nd rfl (Or.inl rfl))) (fun _ _ _ _ _ => pts_nil) (fun _ _ _ _ _ => (pe_tup (pa_cons (pv 6) (pa_cons (pv 4) pa_nil))))) pa_nil)))) pss_nil))))) (pss_cons (ps_if (PW.pt (pw_and (pt_cmp (pc_eqI (pv 2) pe_int)) (pw_and1 (pt_cmp (pc_gt (pv 1) pe_int))))) (pss_one (ps_expr (pe_bm PySem.F.plainAttrs_list PySem.F.slot_list_append PySem.F.type_list_append mt_append (pv 3) (pa_cons (pe_tup (pa_cons pe_int (pa_cons (pe_op op_sub (pv 1) pe_int) pa_nil))) pa_nil)))) pss_nil) (pss_cons (ps_if (pt_cmp (pc_gt (pv 2) pe_int)) (pss_one (ps_for PassesOwn.never rfl (pi_range1 (by rfl) T.n_range (pa_cons (pe_call (ok_law_take T) (hr.mono (by decide)) (by rfl) T.d43.mg T.d43.fn.kp T.d43.b .nil pass0 (pa_cons (pv 0) (pa_cons pe_int pa_nil))) pa_nil)) (pg_name (i := 4) sc_law_pairs.nd rfl (Or.inr rfl)) (pss_cons (ps_set (i := 6) sc_law_pairs.nd rfl (Or.inl rfl) (pe_call (ok_law_take T) (hr.mono (by decide)) (by rfl) T.d43.mg T.d43.fn.kp T.d43.b .nil pass0 (pa_cons (pv 0) (pa_cons (pv 1) pa_nil)))) (pss_cons (ps_set (i := 7) sc_law_pairs.nd rfl (Or.inl rfl) (pe_call (ok_law_take T) (hr.mono (by decide)) (by rfl) T.d43.mg T.d43.fn.kp T.d43.b .nil pass0 (pa_cons (pv 0) (pa_cons (pv 1) pa_nil)))) (pss_one (ps_expr (pe_bm PySem.F.plainAttrs_list PySem.F.slot_list_extend PySem.F.type_list_extend mt_extend (pv 3) (pa_cons (pe_op op_rep (pe_lst (pa_cons (pe_tup (pa_cons (pv 6) (pa_cons (pv 7) pa_nil))) pa_nil)) (pe_callTy call_intB (by rfl) T.n_int (by decide +kernel) (pa_cons (pe_cmp (pc_neI (pv 6) (pv 7))) pa_nil))) pa_nil)))))))) pss_nil) (pss_one (ps_ret (pv 3))))))), ?_⟩
    have h2 : A2 (rep K F0) [] ([] : (List (Int × Int))) := .nil
    refine ⟨(by show 0 ≤ sizeLine; decide), fun p3 n3 => ?_⟩
    have w3 : W F0 _ ((p3, .lst []) :: (a__law_purse_here, .lst vs__law_purse_here) :: os) := w0.new n3
    obtain ⟨c5, hm⟩ := pb_rng hm
    refine ⟨_, rfl, _, _, rfl, c5, ?_⟩
    refine forS (tw_rng (i := (1 : Int)) (j := x__law_many)) hm (fun (g4 : (List (Int × Int)) × (List Int)) σ H' => ∃ (F' : Hp) (vs4_0 : List V) (vs4_1 : List V) (o4_5 : Option V) (o4_4 : Option V), σ = [some (.ref a__law_purse_here), some (.int x__law_many), some (.int x__law_way), some (.ref p3), o4_4, o4_5, none, none] ∧ Same F0 F' ∧ W F' H' ((p3, .lst vs4_0) :: (a__law_purse_here, .lst vs4_1) :: os) ∧ A2 (rep K F') vs4_0 g4.1 ∧ A2 (rep K F') vs4_1 g4.2) ⟨_, _, _, _, _, rfl, Same.refl _, w3, h2, h__law_purse_here⟩ (fun _ _ _ _ => trivial) ?_ ?_
    · -- a turn
      intro b4 g4 x4 σ4 H4 H4' N4 P4 hI hy hN4 hm
      obtain ⟨F4, vs4_0, vs4_1, o4_5, o4_4, rfl, s4, w4, h4_0, h4_1⟩ := hI
      replace sF := sF.trans s4
      obtain ⟨rfl, rfl⟩ := hy
      have w6 : W F4 _ ((a__law_purse_here, .lst vs4_1) :: (p3, .lst vs4_0) :: os) := w4.front (pre := [_])
      refine ⟨_, rfl, _, rfl, _, _, _, _, _, _, rfl, w6, h4_1, ?_⟩
      refine (post_bind hm).mono (fun y7 hm v7 vs7 F7 H7 w7 s7 r7 h7 => ?_) (fun _ z => z)
      replace h4_0 := A2.mono s7 h4_0
      replace sF := sF.trans s7
      obtain rfl : v7 = V.int y7.1 := r7
      have h8 : A2 (rep K F7) [(.int (b4 - (1 : Int))), (.int (b4 - (1 : Int))), (.int 0), (.int y7.1)] ([(b4 - (1 : Int)), (b4 - (1 : Int)), (0 : Int), y7.1] : (List Int)) := .cons rep_i (.cons rep_i (.cons rep_i (.cons rep_i (.nil))))
      refine ⟨_, rfl, .inl ⟨rfl, _, SqL.of (w7.get (pre := [_]))⟩, _, rfl, _, _, rfl, rfl, _, rfl, _, _, rfl, rfl, _, rfl, (by show 4 ≤ sizeLine; decide), fun p9 n9 => ?_⟩
      have w9 : W F7 _ ((p9, .lst [(.int (b4 - (1 : Int))), (.int (b4 - (1 : Int))), (.int 0), (.int y7.1)]) :: (a__law_purse_here, .lst vs7) :: (p3, .lst vs4_0) :: os) := w7.new n9
      obtain ⟨t10, e10, hm⟩ := pb_get hm
      obtain ⟨u10, f10, r10⟩ := A2.at h8 e10
      obtain rfl : u10 = V.int t10 := r10
      refine ⟨_, rfl, _, _, rfl, _, _, _, _, rfl, rfl, SqL.of (w9.get (pre := [])), f10, _, rfl, (by show 2 ≤ sizeLine; decide), fun p11 n11 => ?_⟩
      obtain ⟨F11, s11, w11, q11⟩ := w9.frzE (o := .tup [(.int t10), (.int b4)]) n11
      replace h7 := A2.mono s11 h7
      replace h4_0 := A2.mono s11 h4_0
      replace h8 := A2.mono s11 h8
      replace sF := sF.trans s11
      obtain ⟨l12, z12, e12, hm⟩ := pn_app hm
      refine ⟨_, _, _, rfl, rfl, (w11.get (pre := [_, _])), (A2.lt h4_0 z12), ?_⟩
      have h12 : A2 (rep K F11) (vs4_0 ++ [(V.ref p11)]) l12 := e12 ▸ A2.snoc h4_0 (rep_pair q11 rep_i rep_i)
      have w13 : W F11 _ ((p9, .lst [(.int (b4 - (1 : Int))), (.int (b4 - (1 : Int))), (.int 0), (.int y7.1)]) :: (a__law_purse_here, .lst vs7) :: (p3, .lst (vs4_0 ++ [(V.ref p11)])) :: os) := w11.set (pre := [_, _])
      have w14 : W F11 _ ((a__law_purse_here, .lst vs7) :: (p3, .lst (vs4_0 ++ [(V.ref p11)])) :: os) := w13.drop (pre := [])
      refine ⟨_, rfl, _, _, rfl, rfl, _, rfl, ?_⟩
      refine post_ite hm (fun k15 hm => ?_) (fun k15 hm => ?_)
      · skip
        obtain ⟨c16, hm⟩ := pb_rng hm
        refine ⟨_, rfl, .inl ⟨rfl, _, SqL.of (w14.get (pre := [_]))⟩, _, rfl, _, rfl, c16.2.2.1, c16.2.2.2, fun D17 nD17 => ?_⟩
        refine lcM (K := K) (tw_rng0 (j := b4)) hm w14 nD17 (fun F' H' acc s w => trivial) ?_ ?_
        · -- one turn
          intro b17 x17 F17 H17 H17' acc17 N17 P17 s17 w17 y17 hN17 hm
          replace h7 := A2.mono s17 h7
          replace h12 := A2.mono s17 h12
          replace sF := sF.trans s17
          obtain ⟨rfl, rfl⟩ := y17
          refine ⟨rfl, _, rfl, _, rfl, (by show 2 ≤ sizeLine; decide), fun p19 n19 => ?_⟩
          obtain ⟨F19, s19, w19, q19⟩ := w17.frzE (o := .tup [(.int b17), (.int b4)]) n19
          replace h7 := A2.mono s19 h7
          replace h12 := A2.mono s19 h12
          replace sF := sF.trans s19
          exact hN17 _ (post_ok hm) _ _ _ w19 s19 (rep_pair q19 rep_i rep_i)
        intro us17 F17 H17 ys17 s17 w17 gg17 hm
        replace h7 := A2.mono s17 h7
        replace h12 := A2.mono s17 h12
        replace sF := sF.trans s17
        obtain ⟨l21, z21, e21, hm⟩ := pn_extend hm
        refine ⟨_, _, _, _, rfl, rfl, (w17.get (pre := [_, _])), (w17.get (pre := [])), (A2.le2 h12 gg17 z21), ?_⟩
        have h21 : A2 (rep K F17) ((vs4_0 ++ [(V.ref p11)]) ++ us17) l21 := e21 ▸ A2.append h12 gg17
        have w22 : W F17 _ ((D17, .lst us17) :: (a__law_purse_here, .lst vs7) :: (p3, .lst ((vs4_0 ++ [(V.ref p11)]) ++ us17)) :: os) := w17.set (pre := [_, _])
        have w23 : W F17 _ ((a__law_purse_here, .lst vs7) :: (p3, .lst ((vs4_0 ++ [(V.ref p11)]) ++ us17)) :: os) := w22.drop (pre := [])
        have w24 : W F17 _ ((p3, .lst ((vs4_0 ++ [(V.ref p11)]) ++ us17)) :: (a__law_purse_here, .lst vs7) :: os) := w23.front (pre := [_])
        exact hN4 _ (post_ok hm) _ _ ⟨_, _, _, _, _, rfl, (s4.trans (s7.trans (s11.trans s17))), w24, h21, h7⟩
      · skip
        have w25 : W F11 _ ((p3, .lst (vs4_0 ++ [(V.ref p11)])) :: (a__law_purse_here, .lst vs7) :: os) := w14.front (pre := [_])
        exact hN4 _ (post_ok hm) _ _ ⟨_, _, _, _, _, rfl, (s4.trans (s7.trans s11)), w25, h12, h7⟩
    intro g4 σ4 H4 hI hm
    obtain ⟨F4, vs4_0, vs4_1, o4_5, o4_4, rfl, s4, w4, h4_0, h4_1⟩ := hI
    replace sF := sF.trans s4
    try dsimp only
    refine joinS hm (fun (g26 : (List (Int × Int))) σ H' => ∃ (F' : Hp) (vs26_0 : List V), σ = [some (.ref a__law_purse_here), some (.int x__law_many), some (.int x__law_way), some (.ref p3), o4_4, o4_5, none, none] ∧ Same F4 F' ∧ W F' H' ((p3, .lst vs26_0) :: (a__law_purse_here, .lst vs4_1) :: os) ∧ A2 (rep K F') vs26_0 g26) ?_ ?_
    · intro N26 P26 hN26 hm
      refine stepIf ?_
      refine cutT (fun c H' => c = (((decide (x__law_way = (1 : Int))) && (decide ((2 : Int) < x__law_many)))) ∧ ∃ F', Same F4 F' ∧ W F' H' ((p3, .lst vs4_0) :: (a__law_purse_here, .lst vs4_1) :: os)) (fun Q27 q27 => ?_) (fun c27 H27 hc27 => ?_)
      · -- the ways
        refine ⟨_, rfl, _, _, rfl, rfl, _, rfl, ?_⟩
        refine ifB (fun k28 => ?_) (fun k28 => ?_)
        · skip
          exact ⟨_, rfl, _, _, rfl, rfl, _, rfl, q27 _ _ ⟨(by first | rfl | exact absurd k28 (by decide) | (simp [k28]; done) | ((try simp only [Bool.not_eq_true] at k28); simp only [k28, Bool.true_or, Bool.false_or, Bool.or_false, Bool.or_true, Bool.true_and, Bool.false_and, Bool.and_true, Bool.and_false])), _, Same.refl _, w4⟩⟩
        · skip
          exact q27 _ _ ⟨(by first | rfl | exact absurd k28 (by decide) | (simp [k28]; done) | ((try simp only [Bool.not_eq_true] at k28); simp only [k28, Bool.true_or, Bool.false_or, Bool.or_false, Bool.or_true, Bool.true_and, Bool.false_and, Bool.and_true, Bool.and_false])), _, Same.refl _, w4⟩
      obtain ⟨rfl, F27, s27, w27⟩ := hc27
      replace h4_0 := A2.mono s27 h4_0
      replace h4_1 := A2.mono s27 h4_1
      replace sF := sF.trans s27
      refine post_ite hm (fun k31 hm => ?_) (fun k31 hm => ?_)
      · skip
        refine ⟨_, rfl, .inl ⟨rfl, _, SqL.of (w27.get (pre := []))⟩, _, rfl, _, _, rfl, rfl, (by show 2 ≤ sizeLine; decide), fun p32 n32 => ?_⟩
        obtain ⟨F32, s32, w32, q32⟩ := w27.frzE (o := .tup [(.int 0), (.int (x__law_many - (1 : Int)))]) n32
        replace h4_0 := A2.mono s32 h4_0
        replace h4_1 := A2.mono s32 h4_1
        replace sF := sF.trans s32
        obtain ⟨l33, z33, e33, hm⟩ := pn_app hm
        refine ⟨_, _, _, rfl, rfl, (w32.get (pre := [])), (A2.lt h4_0 z33), ?_⟩
        have h33 : A2 (rep K F32) (vs4_0 ++ [(V.ref p32)]) l33 := e33 ▸ A2.snoc h4_0 (rep_pair q32 rep_i rep_i)
        have w34 : W F32 _ ((p3, .lst (vs4_0 ++ [(V.ref p32)])) :: (a__law_purse_here, .lst vs4_1) :: os) := w32.set (pre := [])
        exact hN26 _ (post_ok hm) _ _ ⟨_, _, rfl, (s27.trans s32), w34, h33⟩
      · skip
        exact hN26 _ (post_ok hm) _ _ ⟨_, _, rfl, s27, w27, h4_0⟩
    intro g26 σ26 H26 hI hm
    obtain ⟨F26, vs26_0, rfl, s26, w26, h26_0⟩ := hI
    replace h4_1 := A2.mono s26 h4_1
    replace sF := sF.trans s26
    try dsimp only
    refine joinS hm (fun (g35 : (List (Int × Int)) × (List Int)) σ H' => ∃ (F' : Hp) (vs35_0 : List V) (vs35_1 : List V) (o35_4 : Option V) (o35_6 : Option V) (o35_7 : Option V), σ = [some (.ref a__law_purse_here), some (.int x__law_many), some (.int x__law_way), some (.ref p3), o35_4, o4_5, o35_6, o35_7] ∧ Same F26 F' ∧ W F' H' ((p3, .lst vs35_0) :: (a__law_purse_here, .lst vs35_1) :: os) ∧ A2 (rep K F') vs35_0 g35.1 ∧ A2 (rep K F') vs35_1 g35.2) ?_ ?_
    · intro N35 P35 hN35 hm
      refine ⟨_, rfl, _, _, rfl, rfl, _, rfl, ?_⟩
      refine post_ite hm (fun k36 hm => ?_) (fun k36 hm => ?_)
      · skip
        have w38 : W F26 _ ((a__law_purse_here, .lst vs4_1) :: (p3, .lst vs26_0) :: os) := w26.front (pre := [_])
        refine ⟨_, rfl, _, _, _, _, _, _, rfl, w38, h4_1, ?_⟩
        refine (post_bind hm).mono (fun y39 hm v39 vs39 F39 H39 w39 s39 r39 h39 => ?_) (fun _ z => z)
        replace h26_0 := A2.mono s39 h26_0
        replace sF := sF.trans s39
        obtain rfl : v39 = V.int y39.1 := r39
        obtain ⟨c40, hm⟩ := pb_rng hm
        refine ⟨_, rfl, c40.2.2.1, c40.2.2.2, ?_⟩
        refine forS (tw_rng0 (j := y39.1)) hm (fun (g37 : (List Int) × (List (Int × Int))) σ H' => ∃ (F' : Hp) (vs37_0 : List V) (vs37_1 : List V) (o37_6 : Option V) (o37_7 : Option V) (o37_4 : Option V), σ = [some (.ref a__law_purse_here), some (.int x__law_many), some (.int x__law_way), some (.ref p3), o37_4, o4_5, o37_6, o37_7] ∧ Same F39 F' ∧ W F' H' ((a__law_purse_here, .lst vs37_0) :: (p3, .lst vs37_1) :: os) ∧ A2 (rep K F') vs37_0 g37.1 ∧ A2 (rep K F') vs37_1 g37.2) ⟨_, _, _, _, _, _, rfl, Same.refl _, w39, h39, h26_0⟩ (fun _ _ _ _ => trivial) ?_ ?_
        · -- a turn
          intro b37 g37 x37 σ37 H37 H37' N37 P37 hI hy hN37 hm
          obtain ⟨F37, vs37_0, vs37_1, o37_6, o37_7, o37_4, rfl, s37, w37, h37_0, h37_1⟩ := hI
          replace sF := sF.trans s37
          obtain ⟨rfl, rfl⟩ := hy
          refine ⟨_, rfl, _, rfl, _, _, _, _, _, _, rfl, w37, h37_0, ?_⟩
          refine (post_bind hm).mono (fun y41 hm v41 vs41 F41 H41 w41 s41 r41 h41 => ?_) (fun _ z => z)
          replace h37_1 := A2.mono s41 h37_1
          replace sF := sF.trans s41
          obtain rfl : v41 = V.int y41.1 := r41
          refine ⟨_, rfl, _, rfl, _, _, _, _, _, _, rfl, w41, h41, ?_⟩
          refine (post_bind hm).mono (fun y42 hm v42 vs42 F42 H42 w42 s42 r42 h42 => ?_) (fun _ z => z)
          replace h37_1 := A2.mono s42 h37_1
          replace sF := sF.trans s42
          obtain rfl : v42 = V.int y42.1 := r42
          refine ⟨_, rfl, .inl ⟨rfl, _, SqL.of (w42.get (pre := [_]))⟩, _, rfl, _, rfl, (by show 2 ≤ sizeLine; decide), fun p43 n43 => ?_⟩
          obtain ⟨F43, s43, w43, q43⟩ := w42.frzE (o := .tup [(.int y41.1), (.int y42.1)]) n43
          replace h42 := A2.mono s43 h42
          replace h37_1 := A2.mono s43 h37_1
          replace sF := sF.trans s43
          have h44 : A2 (rep K F43) [(.ref p43)] ([(y41.1, y42.1)] : (List (Int × Int))) := .cons (rep_pair q43 rep_i rep_i) (.nil)
          refine ⟨(by show 1 ≤ sizeLine; decide), fun p45 n45 => ?_⟩
          have w45 : W F43 _ ((p45, .lst [(.ref p43)]) :: (a__law_purse_here, .lst vs42) :: (p3, .lst vs37_1) :: os) := w43.new n45
          obtain ⟨l46, z46, e46, hm⟩ := pb_rep hm
          have h46 : A2 (rep K F43) (List.replicate (b2i (!decide (y41.1 = y42.1))).toNat [(.ref p43)]).flatten l46 := e46 ▸ A2.flat h44 _
          refine ⟨_, rfl, _, rfl, _, _, rfl, rfl, _, rfl, _, _, _, rfl, rfl, (w45.get (pre := [])), z46.1, z46.2.1, (by rw [h44.length]; exact z46.2.2), fun p47 n47 => ?_⟩
          have w47 : W F43 _ ((p47, .lst (List.replicate (b2i (!decide (y41.1 = y42.1))).toNat [(.ref p43)]).flatten) :: (p45, .lst [(.ref p43)]) :: (a__law_purse_here, .lst vs42) :: (p3, .lst vs37_1) :: os) := w45.new n47
          obtain ⟨l48, z48, e48, hm⟩ := pn_extend hm
          refine ⟨_, _, _, _, rfl, rfl, (w47.get (pre := [_, _, _])), (w47.get (pre := [])), (A2.le2 h37_1 h46 z48), ?_⟩
          have h48 : A2 (rep K F43) (vs37_1 ++ (List.replicate (b2i (!decide (y41.1 = y42.1))).toNat [(.ref p43)]).flatten) l48 := e48 ▸ A2.append h37_1 h46
          have w49 : W F43 _ ((p47, .lst (List.replicate (b2i (!decide (y41.1 = y42.1))).toNat [(.ref p43)]).flatten) :: (p45, .lst [(.ref p43)]) :: (a__law_purse_here, .lst vs42) :: (p3, .lst (vs37_1 ++ (List.replicate (b2i (!decide (y41.1 = y42.1))).toNat [(.ref p43)]).flatten)) :: os) := w47.set (pre := [_, _, _])
          have w50 : W F43 _ ((p45, .lst [(.ref p43)]) :: (a__law_purse_here, .lst vs42) :: (p3, .lst (vs37_1 ++ (List.replicate (b2i (!decide (y41.1 = y42.1))).toNat [(.ref p43)]).flatten)) :: os) := w49.drop (pre := [])
          have w51 : W F43 _ ((a__law_purse_here, .lst vs42) :: (p3, .lst (vs37_1 ++ (List.replicate (b2i (!decide (y41.1 = y42.1))).toNat [(.ref p43)]).flatten)) :: os) := w50.drop (pre := [])
          exact hN37 _ (post_ok hm) _ _ ⟨_, _, _, _, _, _, rfl, (s37.trans (s41.trans (s42.trans s43))), w51, h42, h48⟩
        intro g37 σ37 H37 hI hm
        obtain ⟨F37, vs37_0, vs37_1, o37_6, o37_7, o37_4, rfl, s37, w37, h37_0, h37_1⟩ := hI
        replace sF := sF.trans s37
        have w52 : W F37 _ ((p3, .lst vs37_1) :: (a__law_purse_here, .lst vs37_0) :: os) := w37.front (pre := [_])
        exact hN35 _ (post_ok hm) _ _ ⟨_, _, _, _, _, _, rfl, (s39.trans s37), w52, h37_1, h37_0⟩
      · skip
        exact hN35 _ (post_ok hm) _ _ ⟨_, _, _, _, _, _, rfl, Same.refl _, w26, h26_0, h4_1⟩
    intro g35 σ35 H35 hI hm
    obtain ⟨F35, vs35_0, vs35_1, o35_4, o35_6, o35_7, rfl, s35, w35, h35_0, h35_1⟩ := hI
    replace sF := sF.trans s35
    exact ⟨_, rfl, (post_ok hm) _ _ _ _ _ w35 sF h35_0 h35_1⟩
def sp_law_web (K : Fg) : Sp := fun vs H Q E => ∃ (F : Hp) (os : List (Addr × HO)) (a__law_purse_here : Addr) (vs__law_purse_here : List V) (x__law_purse_here : (List Int)) (x__law_least : Int) (x__law_most : Int), vs = [.ref a__law_purse_here, .int x__law_least, .int x__law_most] ∧ W F H ((a__law_purse_here, .lst vs__law_purse_here) :: os) ∧ A2 (rep K F) vs__law_purse_here x__law_purse_here ∧ Post (law_web x__law_purse_here x__law_least x__law_most) (RetM K F a__law_purse_here os Q) noX
theorem sc_law_web : FnScope ["_law_purse_here", "_law_least", "_law_most", "_law_many", "_law_found", "_law_some", "_law_places", "_law_one", "_law_other", "_law_ends", "_law_tie"] ["_law_purse_here", "_law_least", "_law_most"] (defScope s_law_web) := ⟨rfl, rfl, rfl, by decide +kernel, rfl, by decide +kernel, by decide +kernel⟩
theorem ok_law_web (T : Tx K mg A FD) : FnOk P w K mg base CX0 3 (A 46) (FD 46) ["_law_purse_here", "_law_least", "_law_most"] (sp_law_web K) := by
  refine T.d46.fn.ok sc_law_web (fun vs H Q E h => ?_) (fun cdv Ar outer s H vs Q E hr h => ?_)
  · obtain ⟨F, os, a__law_purse_here, vs__law_purse_here, x__law_purse_here, x__law_least, x__law_most, rfl, _⟩ := h
    rfl
  · obtain ⟨F0, os, a__law_purse_here, vs__law_purse_here, x__law_purse_here, x__law_least, x__law_most, rfl, w0, h__law_purse_here, hm⟩ := h
    have sF : Same F0 F0 := Same.refl _
    refine ⟨_, (pss_cons (ps_set (i := 3) sc_law_web.nd rfl (Or.inl rfl) (pe_op op_add (pv 1) (pe_call (ok_law_take T) (hr.mono (by decide)) (by rfl) T.d43.mg T.d43.fn.kp T.d43.b .nil pass0 (pa_cons (pv 0) (pa_cons (pe_op op_sub (pe_op op_add (pv 2) pe_int) (pv 1)) pa_nil))))) (pss_cons (ps_set (i := 4) sc_law_web.nd rfl (Or.inl rfl) (pe_lst pa_nil)) (pss_cons (ps_set (i := 5) sc_law_web.nd rfl (Or.inl rfl) (pe_call (ok_law_pairs T) (hr.mono (by decide)) (by rfl) T.d45.mg T.d45.fn.kp T.d45.b .nil pass0 (pa_cons (pv 0) (pa_cons (pv 3) (pa_cons (pe_call (ok_law_take T) (hr.mono (by decide)) (by rfl) T.d43.mg T.d43.fn.kp T.d43.b .nil pass0 (pa_cons (pv 0) (pa_cons pe_int pa_nil))) pa_nil))))) (pss_cons (ps_set (i := 6) sc_law_web.nd rfl (Or.inl rfl) (pe_call (ok_law_order T) (hr.mono (by decide)) (by rfl) T.d44.mg T.d44.fn.kp T.d44.b .nil pass0 (pa_cons (pv 0) (pa_cons (pv 3) pa_nil)))) (pss_cons (ps_for PassesOwn.never rfl (pi_listK (K := K) rfl (pv 5)) (pg_k (K := K) (t := fun K => gTup K 2 _) rfl (pg_tup (n := 2) rfl (pgs_cons (pg_name (i := 7) sc_law_web.nd rfl (Or.inl rfl)) (pgs_cons (pg_name (i := 8) sc_law_web.nd rfl (Or.inl rfl)) pgs_nil)))) (pss_cons (ps_set (i := 9) sc_law_web.nd rfl (Or.inl rfl) (pe_tup (pa_cons (pe_ix (ix_listK (K := K) rfl) (pv 6) (pv 7) (fun _ _ => rfl)) (pa_cons (pe_ix (ix_listK (K := K) rfl) (pv 6) (pv 8) (fun _ _ => rfl)) pa_nil)))) (pss_cons (ps_set (i := 10) sc_law_web.nd rfl (Or.inl rfl) (pe_tup (pa_cons (pe_callB (cr_minT2 (K := K) rfl rfl) (by rfl) T.n_min (by decide +kernel) (pa_cons (pv 9) pa_nil)) (pa_cons (pe_callB (cr_maxT2 (K := K) rfl rfl) (by rfl) T.n_max (by decide +kernel) (pa_cons (pv 9) pa_nil)) pa_nil)))) (pss_one (ps_if (pt_cmpR (op_notInL (K := K) rfl (Int × Int) (by decide) (Room.units65 hr)) (pv 10) (pv 4) (by rfl)) (pss_one (ps_expr (pe_bm PySem.F.plainAttrs_list PySem.F.slot_list_append PySem.F.type_list_append mt_append (pv 4) (pa_cons (pv 10) pa_nil)))) pss_nil))))) (pss_one (ps_ret (pe_tup (pa_cons (pv 3) (pa_cons (pe_callTy (call_tuple_ofK (K := K) rfl) (by rfl) T.n_tuple (by decide +kernel) (pa_cons (pe_callB (cr_sortP (K := K) rfl) (by rfl) T.n_sorted (by decide +kernel) (pa_cons (pv 4) pa_nil)) pa_nil)) pa_nil)))))))))), ?_⟩
    refine ⟨_, rfl, _, rfl, _, rfl, _, _, rfl, rfl, _, rfl, _, _, rfl, rfl, _, _, _, _, _, _, rfl, w0, h__law_purse_here, ?_⟩
    refine (post_bind hm).mono (fun y2 hm v2 vs2 F2 H2 w2 s2 r2 h2 => ?_) (fun _ z => z)
    replace sF := sF.trans s2
    obtain rfl : v2 = V.int y2.1 := r2
    have h3 : A2 (rep K F2) [] ([] : (List (Int × Int))) := .nil
    refine ⟨_, _, rfl, rfl, (by show 0 ≤ sizeLine; decide), fun p4 n4 => ?_⟩
    have w4 : W F2 _ ((p4, .lst []) :: (a__law_purse_here, .lst vs2) :: os) := w2.new n4
    have w5 : W F2 _ ((a__law_purse_here, .lst vs2) :: (p4, .lst []) :: os) := w4.front (pre := [_])
    refine ⟨_, rfl, _, rfl, _, rfl, _, _, _, _, _, _, rfl, w5, h2, ?_⟩
    refine (post_bind hm).mono (fun y6 hm v6 vs6 F6 H6 w6 s6 r6 h6 => ?_) (fun _ z => z)
    replace h3 := A2.mono s6 h3
    replace sF := sF.trans s6
    obtain rfl : v6 = V.int y6.1 := r6
    refine ⟨_, _, _, _, _, _, _, rfl, w6, h6, ?_⟩
    refine (post_bind hm).mono (fun y7 hm p7 us7 vs7 F7 H7 w7 s7 g7 h7 => ?_) (fun _ z => z)
    replace h3 := A2.mono s7 h3
    replace sF := sF.trans s7
    obtain ⟨F9, s9, w9, q9⟩ : ∃ F', Same F7 F' ∧ W F' _ ((a__law_purse_here, .lst vs7) :: (p4, .lst []) :: os) ∧ F' p7 = some (.lst us7) := w7.freezeE (pre := [])
    replace h3 := A2.mono s9 h3
    replace h7 := A2.mono s9 h7
    replace g7 := A2.mono s9 g7
    replace sF := sF.trans s9
    refine ⟨_, rfl, _, rfl, _, _, _, _, _, _, rfl, w9, h7, ?_⟩
    refine (post_bind hm).mono (fun y10 hm p10 us10 vs10 F10 H10 w10 s10 g10 h10 => ?_) (fun _ z => z)
    replace g7 := A2.mono s10 g7
    replace q9 := s10 _ _ q9
    replace h3 := A2.mono s10 h3
    replace sF := sF.trans s10
    obtain ⟨F12, s12, w12, q12⟩ : ∃ F', Same F10 F' ∧ W F' _ ((a__law_purse_here, .lst vs10) :: (p4, .lst []) :: os) ∧ F' p10 = some (.lst us10) := w10.freezeE (pre := [])
    replace g7 := A2.mono s12 g7
    replace q9 := s12 _ _ q9
    replace h3 := A2.mono s12 h3
    replace h10 := A2.mono s12 h10
    replace g10 := A2.mono s12 g10
    replace sF := sF.trans s12
    refine ⟨_, rfl, _, rfl, ⟨_, SqL.of (w12.same _ _ q9)⟩, ?_⟩
    refine forS (tw_list (a := p7) g7) hm (fun (g13 : (List (Int × Int))) σ H' => ∃ (F' : Hp) (vs13_0 : List V) (o13_9 : Option V) (o13_10 : Option V) (o13_7 : Option V) (o13_8 : Option V), σ = [some (.ref a__law_purse_here), some (.int x__law_least), some (.int x__law_most), some (.int (x__law_least + y2.1)), some (.ref p4), some (.ref p7), some (.ref p10), o13_7, o13_8, o13_9, o13_10] ∧ Same F12 F' ∧ W F' H' ((a__law_purse_here, .lst vs10) :: (p4, .lst vs13_0) :: os) ∧ A2 (rep K F') vs13_0 g13) ⟨_, _, _, _, _, _, rfl, Same.refl _, w12, h3⟩ (fun g σ H' hI => by obtain ⟨F', _, _, _, _, _, _, s, w, _⟩ := hI; exact SqL.of (w.same _ _ (s _ _ q9))) ?_ ?_
    · -- a turn
      intro b13 g13 x13 σ13 H13 H13' N13 P13 hI hy hN13 hm
      obtain ⟨F13, vs13_0, o13_9, o13_10, o13_7, o13_8, rfl, s13, w13, h13_0⟩ := hI
      replace g7 := A2.mono s13 g7
      replace q9 := s13 _ _ q9
      replace g10 := A2.mono s13 g10
      replace q12 := s13 _ _ q12
      replace h10 := A2.mono s13 h10
      replace sF := sF.trans s13
      obtain ⟨rfl, r14⟩ := hy
      replace r14 := Rep.mono s13 r14
      obtain ⟨a15, u15, z15, rfl, q15, r15a, r15b⟩ := r14
      obtain rfl : u15 = V.int b13.1 := r15a
      obtain rfl : z15 = V.int b13.2 := r15b
      obtain ⟨t16, e16, hm⟩ := pb_get hm
      obtain ⟨u16, f16, r16⟩ := A2.at g10 e16
      obtain rfl : u16 = V.int t16 := r16
      obtain ⟨t17, e17, hm⟩ := pb_get hm
      obtain ⟨u17, f17, r17⟩ := A2.at g10 e17
      obtain rfl : u17 = V.int t17 := r17
      refine ⟨_, _, rfl, SqT.of (w13.same _ _ q15), rfl, _, _, rfl, _, _, rfl, rfl, _, rfl, _, rfl, _, _, _, _, rfl, rfl, SqL.of (w13.same _ _ q12), f16, _, rfl, _, rfl, _, _, _, _, rfl, rfl, SqL.of (w13.same _ _ q12), f17, (by show 2 ≤ sizeLine; decide), fun p18 n18 => ?_⟩
      obtain ⟨F18, s18, w18, q18⟩ := w13.frzE (o := .tup [(.int t16), (.int t17)]) n18
      replace g7 := A2.mono s18 g7
      replace q9 := s18 _ _ q9
      replace g10 := A2.mono s18 g10
      replace q12 := s18 _ _ q12
      replace h10 := A2.mono s18 h10
      replace h13_0 := A2.mono s18 h13_0
      replace sF := sF.trans s18
      refine ⟨_, rfl, _, _, _, rfl, SqT.of (w18.same _ _ q18), _, rfl, _, rfl, _, _, _, rfl, SqT.of (w18.same _ _ q18), _, rfl, (by show 2 ≤ sizeLine; decide), fun p19 n19 => ?_⟩
      obtain ⟨F19, s19, w19, q19⟩ := w18.frzE (o := .tup [(.int (min2 t16 t17)), (.int (max2 t16 t17))]) n19
      replace g7 := A2.mono s19 g7
      replace q9 := s19 _ _ q9
      replace g10 := A2.mono s19 g10
      replace q12 := s19 _ _ q12
      replace q18 := s19 _ _ q18
      replace h10 := A2.mono s19 h10
      replace h13_0 := A2.mono s19 h13_0
      replace sF := sF.trans s19
      refine ⟨_, rfl, _, rfl, (((min2 t16 t17), (max2 t16 t17)) : (Int × Int)), _, (Rep.mono w19.same (rep_pair q19 rep_i rep_i)), (rep_own (pre := [_]) w19 h13_0), _, rfl, ?_⟩
      refine post_ite hm (fun k20 hm => ?_) (fun k20 hm => ?_)
      · skip
        obtain ⟨l21, z21, e21, hm⟩ := pn_app hm
        refine ⟨_, rfl, .inl ⟨rfl, _, SqL.of (w19.get (pre := [_]))⟩, _, rfl, _, _, _, rfl, rfl, (w19.get (pre := [_])), (A2.lt h13_0 z21), ?_⟩
        have h21 : A2 (rep K F19) (vs13_0 ++ [(V.ref p19)]) l21 := e21 ▸ A2.snoc h13_0 (rep_pair q19 rep_i rep_i)
        have w22 : W F19 _ ((a__law_purse_here, .lst vs10) :: (p4, .lst (vs13_0 ++ [(V.ref p19)])) :: os) := w19.set (pre := [_])
        exact hN13 _ (post_ok hm) _ _ ⟨_, _, _, _, _, _, rfl, (s13.trans (s18.trans s19)), w22, h21⟩
      · skip
        exact hN13 _ (post_ok hm) _ _ ⟨_, _, _, _, _, _, rfl, (s13.trans (s18.trans s19)), w19, h13_0⟩
    intro g13 σ13 H13 hI hm
    obtain ⟨F13, vs13_0, o13_9, o13_10, o13_7, o13_8, rfl, s13, w13, h13_0⟩ := hI
    replace g7 := A2.mono s13 g7
    replace q9 := s13 _ _ q9
    replace g10 := A2.mono s13 g10
    replace q12 := s13 _ _ q12
    replace h10 := A2.mono s13 h10
    replace sF := sF.trans s13
    refine ⟨_, rfl, _, rfl, _, _, F13, g13, rfl, SqL.of (w13.get (pre := [_])), w13.same, h13_0, fun p23 us23 n23 h23 => ?_⟩
    have w23 : W F13 _ ((p23, .lst us23) :: (a__law_purse_here, .lst vs10) :: (p4, .lst vs13_0) :: os) := w13.new n23
    have h25 : A2 (rep K F13) us23 (sortP g13) := h23
    refine ⟨_, _, rfl, .inl ⟨SqL.of (w23.get (pre := [])), fun p26 n26 => ?_⟩⟩
    obtain ⟨F26, s26, w26, q26⟩ := w23.frzE (o := .tup us23) n26
    replace g7 := A2.mono s26 g7
    replace q9 := s26 _ _ q9
    replace g10 := A2.mono s26 g10
    replace q12 := s26 _ _ q12
    replace h10 := A2.mono s26 h10
    replace h13_0 := A2.mono s26 h13_0
    replace h23 := A2.mono s26 h23
    replace h25 := A2.mono s26 h25
    replace sF := sF.trans s26
    refine ⟨(by show 2 ≤ sizeLine; decide), fun p27 n27 => ?_⟩
    obtain ⟨F27, s27, w27, q27⟩ := w26.frzE (o := .tup [(.int (x__law_least + y2.1)), (.ref p26)]) n27
    replace g7 := A2.mono s27 g7
    replace q9 := s27 _ _ q9
    replace g10 := A2.mono s27 g10
    replace q12 := s27 _ _ q12
    replace h10 := A2.mono s27 h10
    replace h13_0 := A2.mono s27 h13_0
    replace h23 := A2.mono s27 h23
    replace h25 := A2.mono s27 h25
    replace q26 := s27 _ _ q26
    replace sF := sF.trans s27
    have w28 : W F27 _ ((a__law_purse_here, .lst vs10) :: (p4, .lst vs13_0) :: os) := w27.drop (pre := [])
    have w29 : W F27 _ ((a__law_purse_here, .lst vs10) :: os) := w28.drop (pre := [_])
    exact (post_ok hm) _ _ _ _ w29 sF (rep_pair q27 rep_i (rep_tup q26 h25)) h10
def sp_law_table (K : Fg) : Sp := fun vs H Q E => ∃ (F : Hp) (os : List (Addr × HO)) (v__law_web_here : V) (x__law_web_here : (Int × (Tup (Int × Int)))), vs = [v__law_web_here] ∧ W F H (os) ∧ rep K F v__law_web_here x__law_web_here ∧ Post (law_table x__law_web_here) (Ret K F os Q) noX
theorem sc_law_table : FnScope ["_law_web_here", "_law_found", "_law_place", "_law_row", "_law_step", "_law_one", "_law_other"] ["_law_web_here"] (defScope s_law_table) := ⟨rfl, rfl, rfl, by decide +kernel, rfl, by decide +kernel, by decide +kernel⟩
theorem ok_law_table (T : Tx K mg A FD) : FnOk P w K mg base CX0 1 (A 47) (FD 47) ["_law_web_here"] (sp_law_table K) := by
  refine T.d47.fn.ok sc_law_table (fun vs H Q E h => ?_) (fun cdv Ar outer s H vs Q E hr h => ?_)
  · obtain ⟨F, os, v__law_web_here, x__law_web_here, rfl, _⟩ := h
    rfl
  · obtain ⟨F0, os, v__law_web_here, x__law_web_here, rfl, w0, r__law_web_here, hm⟩ := h
    have sF : Same F0 F0 := Same.refl _
    obtain ⟨a1, u1, z1, rfl, q1, r1a, r1b⟩ := r__law_web_here
    obtain rfl : u1 = V.int x__law_web_here.1 := r1a
    obtain ⟨a2, vs2, rfl, q2, h2⟩ := r1b
    refine ⟨_, (pss_cons (ps_set (i := 1) sc_law_table.nd rfl (Or.inl rfl) (pe_lst pa_nil)) (pss_cons (ps_for PassesOwn.never rfl (pi_range1 (by rfl) T.n_range (pa_cons (pe_ix (ix_tupK (K := K) rfl) (pv 0) pe_int (fun _ _ => rfl)) pa_nil)) (pg_name (i := 2) sc_law_table.nd rfl (Or.inl rfl)) (pss_cons (ps_set (i := 3) sc_law_table.nd rfl (Or.inl rfl) (pe_op op_rep (pe_lst (pa_cons (pe_un un_neg pe_int) pa_nil)) (pe_ix (ix_tupK (K := K) rfl) (pv 0) pe_int (fun _ _ => rfl)))) (pss_cons (ps_asg pe_int (pg_sub (pv 3) (pv 2) set_list)) (pss_cons (ps_for PassesOwn.never rfl (pi_range1 (by rfl) T.n_range (pa_cons (pe_ix (ix_tupK (K := K) rfl) (pv 0) pe_int (fun _ _ => rfl)) pa_nil)) (pg_name (i := 4) sc_law_table.nd rfl (Or.inl rfl)) (pss_one (ps_for PassesOwn.never rfl (pi_tupK (K := K) rfl (pe_ix (ix_tupK (K := K) rfl) (pv 0) pe_int (fun _ _ => rfl))) (pg_k (K := K) (t := fun K => gTup K 2 _) rfl (pg_tup (n := 2) rfl (pgs_cons (pg_name (i := 5) sc_law_table.nd rfl (Or.inl rfl)) (pgs_cons (pg_name (i := 6) sc_law_table.nd rfl (Or.inl rfl)) pgs_nil)))) (pss_cons (ps_if (PW.pt (pw_and (pt_cmp (pc_eqI (pe_ix (ix_listK (K := K) rfl) (pv 3) (pv 5) (fun _ _ => rfl)) (pv 4))) (pw_and1 (pt_cmp (pc_lt (pe_ix (ix_listK (K := K) rfl) (pv 3) (pv 6) (fun _ _ => rfl)) pe_int))))) (pss_one (ps_asg (pe_op op_add (pv 4) pe_int) (pg_sub (pv 3) (pv 6) set_list))) pss_nil) (pss_one (ps_if (PW.pt (pw_and (pt_cmp (pc_eqI (pe_ix (ix_listK (K := K) rfl) (pv 3) (pv 6) (fun _ _ => rfl)) (pv 4))) (pw_and1 (pt_cmp (pc_lt (pe_ix (ix_listK (K := K) rfl) (pv 3) (pv 5) (fun _ _ => rfl)) pe_int))))) (pss_one (ps_asg (pe_op op_add (pv 4) pe_int) (pg_sub (pv 3) (pv 5) set_list))) pss_nil)))))) (pss_one (ps_expr (pe_bm PySem.F.plainAttrs_list PySem.F.slot_list_append PySem.F.type_list_append mt_append (pv 1) (pa_cons (pv 3) pa_nil)))))))) (pss_one (ps_ret (pv 1))))), ?_⟩
    have h3 : A2 (rep K F0) [] ([] : (List (List Int))) := .nil
    refine ⟨(by show 0 ≤ sizeLine; decide), fun p4 n4 => ?_⟩
    have w4 : W F0 _ ((p4, .lst []) :: os) := w0.new n4
    obtain ⟨c6, hm⟩ := pb_rng hm
    refine ⟨_, rfl, _, _, _, _, rfl, rfl, SqT.of (w4.same _ _ q1), rfl, _, rfl, c6.2.2.1, c6.2.2.2, ?_⟩
    refine forS (tw_rng0 (j := x__law_web_here.1)) hm (fun (g5 : (List (List Int))) σ H' => ∃ (F' : Hp) (vs5_0 : List V) (o5_3 : Option V) (o5_4 : Option V) (o5_5 : Option V) (o5_6 : Option V) (o5_2 : Option V), σ = [some (.ref a1), some (.ref p4), o5_2, o5_3, o5_4, o5_5, o5_6] ∧ Same F0 F' ∧ W F' H' ((p4, .lst vs5_0) :: os) ∧ A2 (rep K F') vs5_0 g5) ⟨_, _, _, _, _, _, _, rfl, Same.refl _, w4, h3⟩ (fun _ _ _ _ => trivial) ?_ ?_
    · -- a turn
      intro b5 g5 x5 σ5 H5 H5' N5 P5 hI hy hN5 hm
      obtain ⟨F5, vs5_0, o5_3, o5_4, o5_5, o5_6, o5_2, rfl, s5, w5, h5_0⟩ := hI
      replace q1 := s5 _ _ q1
      replace h2 := A2.mono s5 h2
      replace q2 := s5 _ _ q2
      replace sF := sF.trans s5
      obtain ⟨rfl, rfl⟩ := hy
      have h7 : A2 (rep K F5) [(.int (-(1 : Int)))] ([(-(1 : Int))] : (List Int)) := .cons rep_i (.nil)
      refine ⟨_, rfl, (by show 1 ≤ sizeLine; decide), fun p8 n8 => ?_⟩
      have w8 : W F5 _ ((p8, .lst [(.int (-(1 : Int)))]) :: (p4, .lst vs5_0) :: os) := w5.new n8
      obtain ⟨l9, z9, e9, hm⟩ := pb_rep hm
      have h9 : A2 (rep K F5) (List.replicate x__law_web_here.1.toNat [(.int (-(1 : Int)))]).flatten l9 := e9 ▸ A2.flat h7 _
      refine ⟨_, rfl, _, _, _, _, rfl, rfl, SqT.of (w8.same _ _ q1), rfl, _, _, _, rfl, rfl, (w8.get (pre := [])), z9.1, z9.2.1, (by rw [h7.length]; exact z9.2.2), fun p10 n10 => ?_⟩
      have w10 : W F5 _ ((p10, .lst (List.replicate x__law_web_here.1.toNat [(.int (-(1 : Int)))]).flatten) :: (p8, .lst [(.int (-(1 : Int)))]) :: (p4, .lst vs5_0) :: os) := w8.new n10
      have w11 : W F5 _ ((p10, .lst (List.replicate x__law_web_here.1.toNat [(.int (-(1 : Int)))]).flatten) :: (p4, .lst vs5_0) :: os) := w10.drop (pre := [_])
      obtain ⟨j12, l12, z12, e12, hm⟩ := pn_set hm
      refine ⟨_, rfl, _, rfl, _, _, _, _, rfl, rfl, (w11.get (pre := [])), (A2.ix h9 z12), ?_⟩
      have h12 : A2 (rep K F5) ((List.replicate x__law_web_here.1.toNat [(.int (-(1 : Int)))]).flatten.set j12 (V.int 0)) l12 := e12 ▸ A2.set rep_i j12 h9
      have w13 : W F5 _ ((p10, .lst ((List.replicate x__law_web_here.1.toNat [(.int (-(1 : Int)))]).flatten.set j12 (V.int 0))) :: (p4, .lst vs5_0) :: os) := w11.set (pre := [])
      obtain ⟨c15, hm⟩ := pb_rng hm
      refine ⟨_, rfl, _, _, _, _, rfl, rfl, SqT.of (w13.same _ _ q1), rfl, _, rfl, c15.2.2.1, c15.2.2.2, ?_⟩
      refine forS (tw_rng0 (j := x__law_web_here.1)) hm (fun (g14 : (List Int)) σ H' => ∃ (F' : Hp) (vs14_0 : List V) (o14_5 : Option V) (o14_6 : Option V) (o14_4 : Option V), σ = [some (.ref a1), some (.ref p4), some (.int b5), some (.ref p10), o14_4, o14_5, o14_6] ∧ Same F5 F' ∧ W F' H' ((p10, .lst vs14_0) :: (p4, .lst vs5_0) :: os) ∧ A2 (rep K F') vs14_0 g14) ⟨_, _, _, _, _, rfl, Same.refl _, w13, h12⟩ (fun _ _ _ _ => trivial) ?_ ?_
      · -- a turn
        intro b14 g14 x14 σ14 H14 H14' N14 P14 hI hy hN14 hm
        obtain ⟨F14, vs14_0, o14_5, o14_6, o14_4, rfl, s14, w14, h14_0⟩ := hI
        replace q1 := s14 _ _ q1
        replace h2 := A2.mono s14 h2
        replace q2 := s14 _ _ q2
        replace h5_0 := A2.mono s14 h5_0
        replace sF := sF.trans s14
        obtain ⟨rfl, rfl⟩ := hy
        refine ⟨_, rfl, _, _, _, _, rfl, rfl, SqT.of (w14.same _ _ q1), rfl, _, rfl, ⟨_, SqT.of (w14.same _ _ q2)⟩, ?_⟩
        refine forS (tw_tup (a := a2) h2) hm (fun (g16 : (List Int)) σ H' => ∃ (F' : Hp) (vs16_0 : List V) (o16_5 : Option V) (o16_6 : Option V), σ = [some (.ref a1), some (.ref p4), some (.int b5), some (.ref p10), some (.int b14), o16_5, o16_6] ∧ Same F14 F' ∧ W F' H' ((p10, .lst vs16_0) :: (p4, .lst vs5_0) :: os) ∧ A2 (rep K F') vs16_0 g16) ⟨_, _, _, _, rfl, Same.refl _, w14, h14_0⟩ (fun g σ H' hI => by obtain ⟨F', _, _, _, _, s, w, _⟩ := hI; exact SqT.of (w.same _ _ (s _ _ q2))) ?_ ?_
        · -- a turn
          intro b16 g16 x16 σ16 H16 H16' N16 P16 hI hy hN16 hm
          obtain ⟨F16, vs16_0, o16_5, o16_6, rfl, s16, w16, h16_0⟩ := hI
          replace q1 := s16 _ _ q1
          replace h2 := A2.mono s16 h2
          replace q2 := s16 _ _ q2
          replace h5_0 := A2.mono s16 h5_0
          replace sF := sF.trans s16
          obtain ⟨rfl, r17⟩ := hy
          replace r17 := Rep.mono s16 r17
          obtain ⟨a18, u18, z18, rfl, q18, r18a, r18b⟩ := r17
          obtain rfl : u18 = V.int b16.1 := r18a
          obtain rfl : z18 = V.int b16.2 := r18b
          refine ⟨_, _, rfl, SqT.of (w16.same _ _ q18), rfl, _, _, rfl, _, _, rfl, rfl, ?_⟩
          try dsimp only
          refine joinS hm (fun (g19 : (List Int)) σ H' => ∃ (F' : Hp) (vs19_0 : List V), σ = [some (.ref a1), some (.ref p4), some (.int b5), some (.ref p10), some (.int b14), some (.int b16.1), some (.int b16.2)] ∧ Same F16 F' ∧ W F' H' ((p10, .lst vs19_0) :: (p4, .lst vs5_0) :: os) ∧ A2 (rep K F') vs19_0 g19) ?_ ?_
          · intro N19 P19 hN19 hm
            refine stepIf ?_
            refine joinT hm (fun (j20 : Bool) c H' => c = j20 ∧ ∃ (F' : Hp), Same F16 F' ∧ W F' H' ((p10, .lst vs16_0) :: (p4, .lst vs5_0) :: os)) ?_ ?_
            · intro Q20 P20 q20 hm
              obtain ⟨t21, e21, hm⟩ := pb_get hm
              obtain ⟨u21, f21, r21⟩ := A2.at h16_0 e21
              obtain rfl : u21 = V.int t21 := r21
              refine ⟨_, rfl, _, rfl, _, _, _, _, rfl, rfl, SqL.of (w16.get (pre := [])), f21, _, rfl, _, _, rfl, rfl, _, rfl, ?_⟩
              refine post_ite hm (fun k22 hm => ?_) (fun k22 hm => ?_)
              · skip
                obtain ⟨t23, e23, hm⟩ := pb_get hm
                obtain ⟨u23, f23, r23⟩ := A2.at h16_0 e23
                obtain rfl : u23 = V.int t23 := r23
                exact ⟨_, rfl, _, rfl, _, _, _, _, rfl, rfl, SqL.of (w16.get (pre := [])), f23, _, _, rfl, rfl, _, rfl, q20 _ (post_ok hm) _ _ ⟨rfl, _, Same.refl _, w16⟩⟩
              · skip
                exact q20 _ (post_ok hm) _ _ ⟨rfl, _, Same.refl _, w16⟩
            intro j20 c20 H20 hc20 hm
            obtain ⟨rfl, F20, s20, w20⟩ := hc20
            replace q1 := s20 _ _ q1
            replace h2 := A2.mono s20 h2
            replace q2 := s20 _ _ q2
            replace h16_0 := A2.mono s20 h16_0
            replace h5_0 := A2.mono s20 h5_0
            replace sF := sF.trans s20
            refine post_ite hm (fun k26 hm => ?_) (fun k26 hm => ?_)
            · skip
              obtain ⟨j27, l27, z27, e27, hm⟩ := pn_set hm
              refine ⟨_, rfl, _, _, rfl, rfl, _, rfl, _, rfl, _, _, _, _, rfl, rfl, (w20.get (pre := [])), (A2.ix h16_0 z27), ?_⟩
              have h27 : A2 (rep K F20) (vs16_0.set j27 (V.int (b14 + (1 : Int)))) l27 := e27 ▸ A2.set rep_i j27 h16_0
              have w28 : W F20 _ ((p10, .lst (vs16_0.set j27 (V.int (b14 + (1 : Int))))) :: (p4, .lst vs5_0) :: os) := w20.set (pre := [])
              exact hN19 _ (post_ok hm) _ _ ⟨_, _, rfl, s20, w28, h27⟩
            · skip
              exact hN19 _ (post_ok hm) _ _ ⟨_, _, rfl, s20, w20, h16_0⟩
          intro g19 σ19 H19 hI hm
          obtain ⟨F19, vs19_0, rfl, s19, w19, h19_0⟩ := hI
          replace q1 := s19 _ _ q1
          replace h2 := A2.mono s19 h2
          replace q2 := s19 _ _ q2
          replace h5_0 := A2.mono s19 h5_0
          replace sF := sF.trans s19
          try dsimp only
          refine stepIf ?_
          refine joinT hm (fun (j29 : Bool) c H' => c = j29 ∧ ∃ (F' : Hp), Same F19 F' ∧ W F' H' ((p10, .lst vs19_0) :: (p4, .lst vs5_0) :: os)) ?_ ?_
          · intro Q29 P29 q29 hm
            obtain ⟨t30, e30, hm⟩ := pb_get hm
            obtain ⟨u30, f30, r30⟩ := A2.at h19_0 e30
            obtain rfl : u30 = V.int t30 := r30
            refine ⟨_, rfl, _, rfl, _, _, _, _, rfl, rfl, SqL.of (w19.get (pre := [])), f30, _, rfl, _, _, rfl, rfl, _, rfl, ?_⟩
            refine post_ite hm (fun k31 hm => ?_) (fun k31 hm => ?_)
            · skip
              obtain ⟨t32, e32, hm⟩ := pb_get hm
              obtain ⟨u32, f32, r32⟩ := A2.at h19_0 e32
              obtain rfl : u32 = V.int t32 := r32
              exact ⟨_, rfl, _, rfl, _, _, _, _, rfl, rfl, SqL.of (w19.get (pre := [])), f32, _, _, rfl, rfl, _, rfl, q29 _ (post_ok hm) _ _ ⟨rfl, _, Same.refl _, w19⟩⟩
            · skip
              exact q29 _ (post_ok hm) _ _ ⟨rfl, _, Same.refl _, w19⟩
          intro j29 c29 H29 hc29 hm
          obtain ⟨rfl, F29, s29, w29⟩ := hc29
          replace q1 := s29 _ _ q1
          replace h2 := A2.mono s29 h2
          replace q2 := s29 _ _ q2
          replace h19_0 := A2.mono s29 h19_0
          replace h5_0 := A2.mono s29 h5_0
          replace sF := sF.trans s29
          refine post_ite hm (fun k35 hm => ?_) (fun k35 hm => ?_)
          · skip
            obtain ⟨j36, l36, z36, e36, hm⟩ := pn_set hm
            refine ⟨_, rfl, _, _, rfl, rfl, _, rfl, _, rfl, _, _, _, _, rfl, rfl, (w29.get (pre := [])), (A2.ix h19_0 z36), ?_⟩
            have h36 : A2 (rep K F29) (vs19_0.set j36 (V.int (b14 + (1 : Int)))) l36 := e36 ▸ A2.set rep_i j36 h19_0
            have w37 : W F29 _ ((p10, .lst (vs19_0.set j36 (V.int (b14 + (1 : Int))))) :: (p4, .lst vs5_0) :: os) := w29.set (pre := [])
            exact hN16 _ (post_ok hm) _ _ ⟨_, _, _, _, rfl, (s16.trans (s19.trans s29)), w37, h36⟩
          · skip
            exact hN16 _ (post_ok hm) _ _ ⟨_, _, _, _, rfl, (s16.trans (s19.trans s29)), w29, h19_0⟩
        intro g16 σ16 H16 hI hm
        obtain ⟨F16, vs16_0, o16_5, o16_6, rfl, s16, w16, h16_0⟩ := hI
        replace q1 := s16 _ _ q1
        replace h2 := A2.mono s16 h2
        replace q2 := s16 _ _ q2
        replace h5_0 := A2.mono s16 h5_0
        replace sF := sF.trans s16
        exact hN14 _ (post_ok hm) _ _ ⟨_, _, _, _, _, rfl, (s14.trans s16), w16, h16_0⟩
      intro g14 σ14 H14 hI hm
      obtain ⟨F14, vs14_0, o14_5, o14_6, o14_4, rfl, s14, w14, h14_0⟩ := hI
      replace q1 := s14 _ _ q1
      replace h2 := A2.mono s14 h2
      replace q2 := s14 _ _ q2
      replace h5_0 := A2.mono s14 h5_0
      replace sF := sF.trans s14
      obtain ⟨F38, s38, w38, q38⟩ : ∃ F', Same F14 F' ∧ W F' _ ((p4, .lst vs5_0) :: os) ∧ F' p10 = some (.lst vs14_0) := w14.freezeE (pre := [])
      replace q1 := s38 _ _ q1
      replace h2 := A2.mono s38 h2
      replace q2 := s38 _ _ q2
      replace h14_0 := A2.mono s38 h14_0
      replace h5_0 := A2.mono s38 h5_0
      replace sF := sF.trans s38
      obtain ⟨l39, z39, e39, hm⟩ := pn_app hm
      refine ⟨_, rfl, .inl ⟨rfl, _, SqL.of (w14.get (pre := [_]))⟩, _, rfl, _, _, _, rfl, rfl, (w38.get (pre := [])), (A2.lt h5_0 z39), ?_⟩
      have h39 : A2 (rep K F38) (vs5_0 ++ [(V.ref p10)]) l39 := e39 ▸ A2.snoc h5_0 (rep_lst q38 h14_0)
      have w40 : W F38 _ ((p4, .lst (vs5_0 ++ [(V.ref p10)])) :: os) := w38.set (pre := [])
      exact hN5 _ (post_ok hm) _ _ ⟨_, _, _, _, _, _, _, rfl, (s5.trans (s14.trans s38)), w40, h39⟩
    intro g5 σ5 H5 hI hm
    obtain ⟨F5, vs5_0, o5_3, o5_4, o5_5, o5_6, o5_2, rfl, s5, w5, h5_0⟩ := hI
    replace q1 := s5 _ _ q1
    replace h2 := A2.mono s5 h2
    replace q2 := s5 _ _ q2
    replace sF := sF.trans s5
    obtain ⟨F41, s41, w41, q41⟩ : ∃ F', Same F5 F' ∧ W F' _ (os) ∧ F' p4 = some (.lst vs5_0) := w5.freezeE (pre := [])
    replace q1 := s41 _ _ q1
    replace h2 := A2.mono s41 h2
    replace q2 := s41 _ _ q2
    replace h5_0 := A2.mono s41 h5_0
    replace sF := sF.trans s41
    exact ⟨_, rfl, (post_ok hm) _ _ _ w41 sF (rep_lst q41 h5_0)⟩
def sp_law_things (K : Fg) : Sp := fun vs H Q E => ∃ (F : Hp) (os : List (Addr × HO)) (v__law_web_here : V) (x__law_web_here : (Int × (Tup (Int × Int)))) (x__law_kind : Str), vs = [v__law_web_here, .str x__law_kind] ∧ W F H (os) ∧ rep K F v__law_web_here x__law_web_here ∧ Post (law_things x__law_web_here x__law_kind) (RetL K F os Q) noX
theorem sc_law_things : FnScope ["_law_web_here", "_law_kind", "_law_found"] ["_law_web_here", "_law_kind"] (defScope s_law_things) := ⟨rfl, rfl, rfl, by decide +kernel, rfl, by decide +kernel, by decide +kernel⟩
theorem ok_law_things (T : Tx K mg A FD) : FnOk P w K mg base CX0 1 (A 48) (FD 48) ["_law_web_here", "_law_kind"] (sp_law_things K) := by
  refine T.d48.fn.ok sc_law_things (fun vs H Q E h => ?_) (fun cdv Ar outer s H vs Q E hr h => ?_)
  · obtain ⟨F, os, v__law_web_here, x__law_web_here, x__law_kind, rfl, _⟩ := h
    rfl
  · obtain ⟨F0, os, v__law_web_here, x__law_web_here, x__law_kind, rfl, w0, r__law_web_here, hm⟩ := h
    have sF : Same F0 F0 := Same.refl _
    obtain ⟨a1, u1, z1, rfl, q1, r1a, r1b⟩ := r__law_web_here
    obtain rfl : u1 = V.int x__law_web_here.1 := r1a
    obtain ⟨a2, vs2, rfl, q2, h2⟩ := r1b
    refine ⟨_, (pss_cons (ps_set (i := 2) sc_law_things.nd rfl (Or.inl rfl) (pe_op op_rep (pe_listRg rfl (by rfl) T.n_list (prg_1 (by rfl) T.n_range (pe_ix (ix_tupK (K := K) rfl) (pv 0) pe_int (fun _ _ => rfl)))) (pe_callTy call_intB (by rfl) T.n_int (by decide +kernel) (pa_cons (pe_cmpR op_neS (pv 1) pe_str (nomark _)) pa_nil)))) (pss_cons (ps_if (pt_cmpR op_neS (pv 1) pe_str (nomark _)) (pss_one (ps_expr (pe_bm PySem.F.plainAttrs_list PySem.F.slot_list_extend PySem.F.type_list_extend (mt_extendT (K := K) rfl) (pv 2) (pa_cons (pe_ix (ix_tupK (K := K) rfl) (pv 0) pe_int (fun _ _ => rfl)) pa_nil)))) pss_nil) (pss_one (ps_ret (pv 2))))), ?_⟩
    obtain ⟨l3, z3, e3, hm⟩ := pb_lrng hm
    have h3 : A2 (rep K F0) (rgV 0 x__law_web_here.1) l3 := by rw [e3, rgV_eq]; exact A2.of_ints
    refine ⟨_, rfl, _, _, _, _, rfl, rfl, SqT.of (w0.same _ _ q1), rfl, _, rfl, z3, fun p4 n4 => ?_⟩
    have w4 : W F0 _ ((p4, .lst (rgV 0 x__law_web_here.1)) :: os) := w0.new n4
    obtain ⟨l5, z5, e5, hm⟩ := pb_rep hm
    have h5 : A2 (rep K F0) (List.replicate (b2i (!decide (x__law_kind = ("ties" : Str)))).toNat (rgV 0 x__law_web_here.1)).flatten l5 := e5 ▸ A2.flat h3 _
    refine ⟨_, rfl, _, _, rfl, rfl, _, rfl, _, _, _, rfl, rfl, (w4.get (pre := [])), z5.1, z5.2.1, (by rw [h3.length]; exact z5.2.2), fun p6 n6 => ?_⟩
    have w6 : W F0 _ ((p6, .lst (List.replicate (b2i (!decide (x__law_kind = ("ties" : Str)))).toNat (rgV 0 x__law_web_here.1)).flatten) :: (p4, .lst (rgV 0 x__law_web_here.1)) :: os) := w4.new n6
    have h7 : A2 (rep K F0) (List.replicate (b2i (!decide (x__law_kind = ("ties" : Str)))).toNat (rgV 0 x__law_web_here.1)).flatten (mkpl l5) := A2.pl h5
    have w8 : W F0 _ ((p6, .lst (List.replicate (b2i (!decide (x__law_kind = ("ties" : Str)))).toNat (rgV 0 x__law_web_here.1)).flatten) :: os) := w6.drop (pre := [_])
    refine stepN ?_
    try dsimp only
    refine joinS hm (fun (g9 : (List Thing)) σ H' => ∃ (F' : Hp) (vs9_0 : List V), σ = [some (.ref a1), some (.str x__law_kind), some (.ref p6)] ∧ Same F0 F' ∧ W F' H' ((p6, .lst vs9_0) :: os) ∧ A2 (rep K F') vs9_0 g9) ?_ ?_
    · intro N9 P9 hN9 hm
      refine ⟨_, rfl, _, _, rfl, rfl, _, rfl, ?_⟩
      refine post_ite hm (fun k10 hm => ?_) (fun k10 hm => ?_)
      · skip
        have h11 : A2 (rep K F0) vs2 (mkti x__law_web_here.2.l) := A2.ti h2
        obtain ⟨l12, z12, e12, hm⟩ := pn_extend hm
        refine ⟨_, rfl, .inl ⟨rfl, _, SqL.of (w8.get (pre := []))⟩, _, rfl, _, _, _, _, rfl, rfl, SqT.of (w8.same _ _ q1), rfl, _, _, _, _, rfl, rfl, (w8.get (pre := [])), SqT.of (w8.same _ _ q2), (A2.le2 h7 h11 z12), ?_⟩
        have h12 : A2 (rep K F0) ((List.replicate (b2i (!decide (x__law_kind = ("ties" : Str)))).toNat (rgV 0 x__law_web_here.1)).flatten ++ vs2) l12 := e12 ▸ A2.append h7 h11
        have w13 : W F0 _ ((p6, .lst ((List.replicate (b2i (!decide (x__law_kind = ("ties" : Str)))).toNat (rgV 0 x__law_web_here.1)).flatten ++ vs2)) :: os) := w8.set (pre := [])
        exact hN9 _ (post_ok hm) _ _ ⟨_, _, rfl, Same.refl _, w13, h12⟩
      · skip
        exact hN9 _ (post_ok hm) _ _ ⟨_, _, rfl, Same.refl _, w8, h7⟩
    intro g9 σ9 H9 hI hm
    obtain ⟨F9, vs9_0, rfl, s9, w9, h9_0⟩ := hI
    replace q1 := s9 _ _ q1
    replace h2 := A2.mono s9 h2
    replace q2 := s9 _ _ q2
    replace sF := sF.trans s9
    exact ⟨_, rfl, (post_ok hm) _ _ _ _ w9 sF h9_0⟩
def sp_law_far (K : Fg) : Sp := fun vs H Q E => ∃ (F : Hp) (os : List (Addr × HO)) (v__law_fars : V) (x__law_fars : (List (List Int))) (x__law_look : Int) (v__law_thing : V) (x__law_thing : Thing), vs = [v__law_fars, .int x__law_look, v__law_thing] ∧ W F H (os) ∧ rep K F v__law_fars x__law_fars ∧ rep K F v__law_thing x__law_thing ∧ Post (law_far x__law_fars x__law_look x__law_thing) (Ret K F os Q) noX
theorem sc_law_far : FnScope ["_law_fars", "_law_look", "_law_thing", "_law_end"] ["_law_fars", "_law_look", "_law_thing"] (defScope s_law_far) := ⟨rfl, rfl, rfl, by decide +kernel, rfl, by decide +kernel, by decide +kernel⟩
theorem ok_law_far (T : Tx K mg A FD) : FnOk P w K mg base CX0 1 (A 49) (FD 49) ["_law_fars", "_law_look", "_law_thing"] (sp_law_far K) := by
  refine T.d49.fn.ok sc_law_far (fun vs H Q E h => ?_) (fun cdv Ar outer s H vs Q E hr h => ?_)
  · obtain ⟨F, os, v__law_fars, x__law_fars, x__law_look, v__law_thing, x__law_thing, rfl, _⟩ := h
    rfl
  · obtain ⟨F0, os, v__law_fars, x__law_fars, x__law_look, v__law_thing, x__law_thing, rfl, w0, r__law_fars, r__law_thing, hm⟩ := h
    have sF : Same F0 F0 := Same.refl _
    obtain ⟨a1, vs1, rfl, q1, h1⟩ := r__law_fars
    refine ⟨_, (pss_cons (ps_if (pt_val (pe_callB (call_isB (K := K) rfl) (by rfl) T.n_isinstance (by decide +kernel) (pa_cons (pv 2) (pa_cons (pe_bltn (v := .ty "int") (by rfl) T.n_int (by decide +kernel) rfl) pa_nil)))) (pss_one (ps_ret (pe_ix (ix_listK (K := K) rfl) (pe_ix (ix_listK (K := K) rfl) (pv 0) (pv 1) (fun _ _ => rfl)) (pv 2) (fun _ _ => rfl)))) pss_nil) (pss_one (ps_ret (pe_callB (cr_minI (K := K) rfl rfl) (by rfl) T.n_min (by decide +kernel) (pa_cons (pe_lc (own := [("_law_end", 3)]) (g := gName 3) (by rfl) sc_law_far.nd (pi_tupK (K := K) rfl (pv 2)) (blkOk_by (own := [("_law_end", 3)]) (N := ["_law_fars", "_law_look", "_law_thing", "_law_end"]) (sc := defScope s_law_far) (by decide +kernel)) (fun _ _ _ _ _ => (pg_name (i := 3) sc_law_far.nd rfl (Or.inl rfl))) (fun _ _ _ _ _ => pts_nil) (fun _ _ _ _ _ => (pe_ix (ix_listK (K := K) rfl) (pe_ix (ix_listK (K := K) rfl) (pv 0) (pv 1) (fun _ _ => rfl)) (pv 3) (fun _ _ => rfl)))) pa_nil))))), ?_⟩
    obtain ⟨a3, y3, k3⟩ := th_int w0.same r__law_thing
    refine ⟨_, rfl, _, _, _, x__law_thing.isPl, rfl, y3, k3, _, rfl, ?_⟩
    refine post_ite hm (fun k4 hm => ?_) (fun k4 hm => ?_)
    · skip
      obtain ⟨t5, e5, hm⟩ := pb_asPl hm
      have r5 : v__law_thing = V.int t5 := (show rep K F0 v__law_thing (Thing.pl t5) from e5 ▸ r__law_thing)
      subst r5
      obtain ⟨t6, e6, hm⟩ := pb_get hm
      obtain ⟨u6, f6, r6⟩ := A2.at h1 e6
      obtain ⟨a7, vs7, rfl, q7, h7⟩ := r6
      obtain ⟨t8, e8, hm⟩ := pb_get hm
      obtain ⟨u8, f8, r8⟩ := A2.at h7 e8
      obtain rfl : u8 = V.int t8 := r8
      exact ⟨_, rfl, _, rfl, _, _, _, _, rfl, rfl, SqL.of (w0.same _ _ q1), f6, _, rfl, _, _, _, _, rfl, rfl, SqL.of (w0.same _ _ q7), f8, (post_ok hm) _ _ _ w0 sF rep_i⟩
    · skip
      obtain ⟨t9, e9, hm⟩ := pb_asTi hm
      have r9 : rep K F0 v__law_thing (t9 : Int × Int) := (show rep K F0 v__law_thing (Thing.ti t9.1 t9.2) from e9 ▸ r__law_thing)
      obtain ⟨a10, u10, z10, rfl, q10, r10a, r10b⟩ := r9
      obtain rfl : u10 = V.int t9.1 := r10a
      obtain rfl : z10 = V.int t9.2 := r10b
      have h11 : A2 (rep K F0) [(.int t9.1), (.int t9.2)] ([t9.1, t9.2] : List Int) := .cons rep_i (.cons rep_i .nil)
      refine ⟨_, rfl, _, rfl, ⟨_, SqT.of (w0.same _ _ q10)⟩, fun D12 nD12 => ?_⟩
      refine lcM (K := K) (tw_tup (a := a10) h11) hm w0 nD12 (fun F' H' acc s w => SqT.of (w.same _ _ (s _ _ q10))) ?_ ?_
      · -- one turn
        intro b12 x12 F12 H12 H12' acc12 N12 P12 s12 w12 y12 hN12 hm
        replace q1 := s12 _ _ q1
        replace h1 := A2.mono s12 h1
        replace r__law_thing := Rep.mono s12 r__law_thing
        replace q10 := s12 _ _ q10
        replace h11 := A2.mono s12 h11
        replace sF := sF.trans s12
        obtain ⟨rfl, r14⟩ := y12
        obtain rfl : x12 = V.int b12 := r14
        obtain ⟨t15, e15, hm⟩ := pb_get hm
        obtain ⟨u15, f15, r15⟩ := A2.at h1 e15
        obtain ⟨a16, vs16, rfl, q16, h16⟩ := r15
        obtain ⟨t17, e17, hm⟩ := pb_get hm
        obtain ⟨u17, f17, r17⟩ := A2.at h16 e17
        obtain rfl : u17 = V.int t17 := r17
        exact ⟨rfl, _, rfl, _, rfl, _, _, _, _, rfl, rfl, SqL.of (w12.same _ _ q1), f15, _, rfl, _, _, _, _, rfl, rfl, SqL.of (w12.same _ _ q16), f17, hN12 _ (post_ok hm) _ _ _ w12 (Same.refl _) rep_i⟩
      intro us12 F12 H12 ys12 s12 w12 gg12 hm
      replace q1 := s12 _ _ q1
      replace h1 := A2.mono s12 h1
      replace r__law_thing := Rep.mono s12 r__law_thing
      replace q10 := s12 _ _ q10
      replace h11 := A2.mono s12 h11
      replace sF := sF.trans s12
      obtain ⟨t19, e19, hm⟩ := pb_min hm
      have w20 : W F12 _ (os) := w12.drop (pre := [])
      exact ⟨_, _, _, rfl, ints_q (SqL.of (w12.get (pre := []))) gg12, e19, (post_ok hm) _ _ _ w20 sF rep_i⟩
def sp_law_parters (K : Fg) : Sp := fun vs H Q E => ∃ (F : Hp) (os : List (Addr × HO)) (v__law_fars : V) (x__law_fars : (List (List Int))) (v__law_one : V) (x__law_one : Thing) (v__law_other : V) (x__law_other : Thing), vs = [v__law_fars, v__law_one, v__law_other] ∧ W F H (os) ∧ rep K F v__law_fars x__law_fars ∧ rep K F v__law_one x__law_one ∧ rep K F v__law_other x__law_other ∧ Post (law_parters x__law_fars x__law_one x__law_other) (RetL K F os Q) noX
theorem sc_law_parters : FnScope ["_law_fars", "_law_one", "_law_other", "_law_look"] ["_law_fars", "_law_one", "_law_other"] (defScope s_law_parters) := ⟨rfl, rfl, rfl, by decide +kernel, rfl, by decide +kernel, by decide +kernel⟩
theorem ok_law_parters (T : Tx K mg A FD) : FnOk P w K mg base CX0 2 (A 50) (FD 50) ["_law_fars", "_law_one", "_law_other"] (sp_law_parters K) := by
  refine T.d50.fn.ok sc_law_parters (fun vs H Q E h => ?_) (fun cdv Ar outer s H vs Q E hr h => ?_)
  · obtain ⟨F, os, v__law_fars, x__law_fars, v__law_one, x__law_one, v__law_other, x__law_other, rfl, _⟩ := h
    rfl
  · obtain ⟨F0, os, v__law_fars, x__law_fars, v__law_one, x__law_one, v__law_other, x__law_other, rfl, w0, r__law_fars, r__law_one, r__law_other, hm⟩ := h
    have sF : Same F0 F0 := Same.refl _
    obtain ⟨a1, vs1, rfl, q1, h1⟩ := r__law_fars
    refine ⟨_, (pss_one (ps_ret (pe_lc (own := [("_law_look", 3)]) (g := gName 3) (by rfl) sc_law_parters.nd (pi_range1 (by rfl) T.n_range (pa_cons (pe_callB (call_lenN (K := K) rfl) (by rfl) T.n_len (by decide +kernel) (pa_cons (pv 0) pa_nil)) pa_nil)) (blkOk_by (own := [("_law_look", 3)]) (N := ["_law_fars", "_law_one", "_law_other", "_law_look"]) (sc := defScope s_law_parters) (by decide +kernel)) (fun _ _ _ _ _ => (pg_name (i := 3) sc_law_parters.nd rfl (Or.inl rfl))) (fun _ _ _ _ _ => (pts_one (pt_cmp (pc_neI (pe_call (ok_law_far T) (hr.mono (by decide)) (by rfl) T.d49.mg T.d49.fn.kp T.d49.b .nil pass0 (pa_cons (pv 0) (pa_cons (pv 3) (pa_cons (pv 1) pa_nil)))) (pe_call (ok_law_far T) (hr.mono (by decide)) (by rfl) T.d49.mg T.d49.fn.kp T.d49.b .nil pass0 (pa_cons (pv 0) (pa_cons (pv 3) (pa_cons (pv 2) pa_nil)))))))) (fun _ _ _ _ _ => (pv 3))))), ?_⟩
    obtain ⟨c4, hm⟩ := pb_rng hm
    refine ⟨_, rfl, _, _, _, rfl, .inl (SqL.of (w0.same _ _ q1)), h1.length, _, rfl, c4.2.2.1, c4.2.2.2, fun D5 nD5 => ?_⟩
    refine lcF (K := K) (tw_rng0 (j := (x__law_fars.length : Int))) hm w0 nD5 (fun F' H' acc s w => trivial) ?_ ?_
    · -- one turn
      intro b5 x5 F5 H5 H5' acc5 N5 M5 P5 s5 w5 y5 hN5 hM5 hm
      replace q1 := s5 _ _ q1
      replace h1 := A2.mono s5 h1
      replace r__law_one := Rep.mono s5 r__law_one
      replace r__law_other := Rep.mono s5 r__law_other
      replace sF := sF.trans s5
      obtain ⟨rfl, rfl⟩ := y5
      refine ⟨rfl, _, rfl, _, rfl, _, rfl, _, _, _, (x__law_fars : (List (List Int))), _, _, (x__law_one : Thing), rfl, w5, (rep_lst q1 h1), r__law_one, ?_⟩
      refine (post_bind hm).mono (fun y7 hm v7 F7 H7 w7 s7 r7 => ?_) (fun _ z => z)
      replace q1 := s7 _ _ q1
      replace h1 := A2.mono s7 h1
      replace r__law_one := Rep.mono s7 r__law_one
      replace r__law_other := Rep.mono s7 r__law_other
      replace sF := sF.trans s7
      obtain rfl : v7 = V.int y7 := r7
      refine ⟨_, rfl, _, rfl, _, rfl, _, _, _, (x__law_fars : (List (List Int))), _, _, (x__law_other : Thing), rfl, w7, (rep_lst q1 h1), r__law_other, ?_⟩
      refine (post_bind hm).mono (fun y8 hm v8 F8 H8 w8 s8 r8 => ?_) (fun _ z => z)
      replace q1 := s8 _ _ q1
      replace h1 := A2.mono s8 h1
      replace r__law_one := Rep.mono s8 r__law_one
      replace r__law_other := Rep.mono s8 r__law_other
      replace sF := sF.trans s8
      obtain rfl : v8 = V.int y8 := r8
      refine ⟨_, _, rfl, rfl, _, rfl, ?_⟩
      refine post_ite hm (fun k9 hm => ?_) (fun k9 hm => ?_)
      · skip
        exact ⟨_, rfl, hN5 _ (post_ok hm) _ _ _ w8 (s7.trans s8) rep_i⟩
      · skip
        exact hM5 (post_ok hm) _ _ w8 (s7.trans s8)
    intro us5 F5 H5 ys5 s5 w5 gg5 hm
    replace q1 := s5 _ _ q1
    replace h1 := A2.mono s5 h1
    replace r__law_one := Rep.mono s5 r__law_one
    replace r__law_other := Rep.mono s5 r__law_other
    replace sF := sF.trans s5
    exact (post_ok hm) _ _ _ _ w5 sF gg5
def sp_law_parted (K : Fg) : Sp := fun vs H Q E => ∃ (F : Hp) (os : List (Addr × HO)) (v__law_web_here : V) (x__law_web_here : (Int × (Tup (Int × Int)))) (x__law_kind : Str), vs = [v__law_web_here, .str x__law_kind] ∧ W F H (os) ∧ rep K F v__law_web_here x__law_web_here ∧ Post (law_parted x__law_web_here x__law_kind) (RetL K F os Q) noX
theorem sc_law_parted : FnScope ["_law_web_here", "_law_kind", "_law_fars", "_law_some", "_law_found", "_law_k", "_law_other"] ["_law_web_here", "_law_kind"] (defScope s_law_parted) := ⟨rfl, rfl, rfl, by decide +kernel, rfl, by decide +kernel, by decide +kernel⟩
theorem ok_law_parted (T : Tx K mg A FD) : FnOk P w K mg base CX0 3 (A 51) (FD 51) ["_law_web_here", "_law_kind"] (sp_law_parted K) := by
  refine T.d51.fn.ok sc_law_parted (fun vs H Q E h => ?_) (fun cdv Ar outer s H vs Q E hr h => ?_)
  · obtain ⟨F, os, v__law_web_here, x__law_web_here, x__law_kind, rfl, _⟩ := h
    rfl
  · obtain ⟨F0, os, v__law_web_here, x__law_web_here, x__law_kind, rfl, w0, r__law_web_here, hm⟩ := h
    have sF : Same F0 F0 := Same.refl _
    obtain ⟨a1, u1, z1, rfl, q1, r1a, r1b⟩ := r__law_web_here
    obtain rfl : u1 = V.int x__law_web_here.1 := r1a
    obtain ⟨a2, vs2, rfl, q2, h2⟩ := r1b
    refine ⟨_, (pss_cons (ps_set (i := 2) sc_law_parted.nd rfl (Or.inl rfl) (pe_call (ok_law_table T) (hr.mono (by decide)) (by rfl) T.d47.mg T.d47.fn.kp T.d47.b .nil pass0 (pa_cons (pv 0) pa_nil))) (pss_cons (ps_set (i := 3) sc_law_parted.nd rfl (Or.inl rfl) (pe_call (ok_law_things T) (hr.mono (by decide)) (by rfl) T.d48.mg T.d48.fn.kp T.d48.b .nil pass0 (pa_cons (pv 0) (pa_cons (pv 1) pa_nil)))) (pss_cons (ps_set (i := 4) sc_law_parted.nd rfl (Or.inl rfl) (pe_lst pa_nil)) (pss_cons (ps_for PassesOwn.never rfl (pi_range1 (by rfl) T.n_range (pa_cons (pe_callB (call_lenN (K := K) rfl) (by rfl) T.n_len (by decide +kernel) (pa_cons (pv 3) pa_nil)) pa_nil)) (pg_name (i := 5) sc_law_parted.nd rfl (Or.inl rfl)) (pss_one (ps_for PassesOwn.never rfl (pi_listK (K := K) rfl (pe_slice (sl_listK (K := K) rfl) (pv 3) (po_some (pe_op op_add (pv 5) pe_int)) po_none)) (pg_name (i := 6) sc_law_parted.nd rfl (Or.inl rfl)) (pss_one (ps_expr (pe_bm PySem.F.plainAttrs_list PySem.F.slot_list_append PySem.F.type_list_append mt_append (pv 4) (pa_cons (pe_tup (pa_cons (pe_ix (ix_listK (K := K) rfl) (pv 3) (pv 5) (fun _ _ => rfl)) (pa_cons (pv 6) (pa_cons (pe_call (ok_law_parters T) (hr.mono (by decide)) (by rfl) T.d50.mg T.d50.fn.kp T.d50.b .nil pass0 (pa_cons (pv 2) (pa_cons (pe_ix (ix_listK (K := K) rfl) (pv 3) (pv 5) (fun _ _ => rfl)) (pa_cons (pv 6) pa_nil)))) pa_nil)))) pa_nil))))))) (pss_one (ps_ret (pv 4))))))), ?_⟩
    refine ⟨_, rfl, _, _, _, (x__law_web_here : (Int × (Tup (Int × Int)))), rfl, w0, (rep_pair q1 rep_i (rep_tup q2 h2)), ?_⟩
    refine (post_bind hm).mono (fun y3 hm v3 F3 H3 w3 s3 r3 => ?_) (fun _ z => z)
    replace q1 := s3 _ _ q1
    replace q2 := s3 _ _ q2
    replace h2 := A2.mono s3 h2
    replace sF := sF.trans s3
    obtain ⟨a4, vs4, rfl, q4, h4⟩ := r3
    refine ⟨_, rfl, _, rfl, _, _, _, (x__law_web_here : (Int × (Tup (Int × Int)))), _, rfl, w3, (rep_pair q1 rep_i (rep_tup q2 h2)), ?_⟩
    refine (post_bind hm).mono (fun y5 hm p5 us5 F5 H5 w5 s5 g5 => ?_) (fun _ z => z)
    replace q1 := s5 _ _ q1
    replace h2 := A2.mono s5 h2
    replace q2 := s5 _ _ q2
    replace h4 := A2.mono s5 h4
    replace q4 := s5 _ _ q4
    replace sF := sF.trans s5
    obtain ⟨F7, s7, w7, q7⟩ : ∃ F', Same F5 F' ∧ W F' _ (os) ∧ F' p5 = some (.lst us5) := w5.freezeE (pre := [])
    replace q1 := s7 _ _ q1
    replace h2 := A2.mono s7 h2
    replace q2 := s7 _ _ q2
    replace h4 := A2.mono s7 h4
    replace q4 := s7 _ _ q4
    replace g5 := A2.mono s7 g5
    replace sF := sF.trans s7
    have h8 : A2 (rep K F7) [] ([] : (List (Nt (Thing × Thing × (List Int) × Unit)))) := .nil
    refine ⟨(by show 0 ≤ sizeLine; decide), fun p9 n9 => ?_⟩
    have w9 : W F7 _ ((p9, .lst []) :: os) := w7.new n9
    obtain ⟨c11, hm⟩ := pb_rng hm
    refine ⟨_, rfl, _, _, _, rfl, .inl (SqL.of (w9.same _ _ q7)), g5.length, _, rfl, c11.2.2.1, c11.2.2.2, ?_⟩
    refine forS (tw_rng0 (j := (y5.length : Int))) hm (fun (g10 : (List (Nt (Thing × Thing × (List Int) × Unit)))) σ H' => ∃ (F' : Hp) (vs10_0 : List V) (o10_6 : Option V) (o10_5 : Option V), σ = [some (.ref a1), some (.str x__law_kind), some (.ref a4), some (.ref p5), some (.ref p9), o10_5, o10_6] ∧ Same F7 F' ∧ W F' H' ((p9, .lst vs10_0) :: os) ∧ A2 (rep K F') vs10_0 g10) ⟨_, _, _, _, rfl, Same.refl _, w9, h8⟩ (fun _ _ _ _ => trivial) ?_ ?_
    · -- a turn
      intro b10 g10 x10 σ10 H10 H10' N10 P10 hI hy hN10 hm
      obtain ⟨F10, vs10_0, o10_6, o10_5, rfl, s10, w10, h10_0⟩ := hI
      replace q1 := s10 _ _ q1
      replace h2 := A2.mono s10 h2
      replace q2 := s10 _ _ q2
      replace h4 := A2.mono s10 h4
      replace q4 := s10 _ _ q4
      replace g5 := A2.mono s10 g5
      replace q7 := s10 _ _ q7
      replace sF := sF.trans s10
      obtain ⟨rfl, rfl⟩ := hy
      have h13 : A2 (rep K F10) (cutV us5 (some (b10 + (1 : Int))) none) (cutL y5 (some (b10 + (1 : Int))) none) := sl_cut g5 _ _
      refine ⟨_, rfl, _, rfl, _, _, rfl, rfl, _, rfl, _, _, rfl, SqL.of (w10.same _ _ q7), fun p14 n14 => ?_⟩
      have w14 : W F10 _ ((p14, .lst (cutV us5 (some (b10 + (1 : Int))) none)) :: (p9, .lst vs10_0) :: os) := w10.new n14
      obtain ⟨F15, s15, w15, q15⟩ : ∃ F', Same F10 F' ∧ W F' _ ((p9, .lst vs10_0) :: os) ∧ F' p14 = some (.lst (cutV us5 (some (b10 + (1 : Int))) none)) := w14.freezeE (pre := [])
      replace q1 := s15 _ _ q1
      replace h2 := A2.mono s15 h2
      replace q2 := s15 _ _ q2
      replace h4 := A2.mono s15 h4
      replace q4 := s15 _ _ q4
      replace g5 := A2.mono s15 g5
      replace q7 := s15 _ _ q7
      replace h10_0 := A2.mono s15 h10_0
      replace h13 := A2.mono s15 h13
      replace sF := sF.trans s15
      refine ⟨_, rfl, ⟨_, SqL.of (w15.same _ _ q15)⟩, ?_⟩
      refine forS (tw_list (a := p14) h13) hm (fun (g12 : (List (Nt (Thing × Thing × (List Int) × Unit)))) σ H' => ∃ (F' : Hp) (vs12_0 : List V) (o12_6 : Option V), σ = [some (.ref a1), some (.str x__law_kind), some (.ref a4), some (.ref p5), some (.ref p9), some (.int b10), o12_6] ∧ Same F15 F' ∧ W F' H' ((p9, .lst vs12_0) :: os) ∧ A2 (rep K F') vs12_0 g12) ⟨_, _, _, rfl, Same.refl _, w15, h10_0⟩ (fun g σ H' hI => by obtain ⟨F', _, _, _, s, w, _⟩ := hI; exact SqL.of (w.same _ _ (s _ _ q15))) ?_ ?_
      · -- a turn
        intro b12 g12 x12 σ12 H12 H12' N12 P12 hI hy hN12 hm
        obtain ⟨F12, vs12_0, o12_6, rfl, s12, w12, h12_0⟩ := hI
        replace q1 := s12 _ _ q1
        replace h2 := A2.mono s12 h2
        replace q2 := s12 _ _ q2
        replace h4 := A2.mono s12 h4
        replace q4 := s12 _ _ q4
        replace g5 := A2.mono s12 g5
        replace q7 := s12 _ _ q7
        replace h13 := A2.mono s12 h13
        replace q15 := s12 _ _ q15
        replace sF := sF.trans s12
        obtain ⟨rfl, r16⟩ := hy
        replace r16 := Rep.mono s12 r16
        obtain ⟨t18, e18, hm⟩ := pb_get hm
        obtain ⟨u18, f18, r18⟩ := A2.at g5 e18
        obtain ⟨t20, e20, hm⟩ := pb_get hm
        obtain ⟨u20, f20, r20⟩ := A2.at g5 e20
        refine ⟨_, rfl, .inl ⟨rfl, _, SqL.of (w12.get (pre := []))⟩, _, rfl, _, rfl, _, _, _, _, rfl, rfl, SqL.of (w12.same _ _ q7), f18, _, rfl, _, rfl, _, rfl, _, rfl, _, _, _, _, rfl, rfl, SqL.of (w12.same _ _ q7), f20, _, rfl, _, _, _, (y3 : (List (List Int))), _, (t20 : Thing), _, (b12 : Thing), rfl, w12, (rep_lst q4 h4), r20, r16, ?_⟩
        refine (post_bind hm).mono (fun y22 hm p22 us22 F22 H22 w22 s22 g22 => ?_) (fun _ z => z)
        replace q1 := s22 _ _ q1
        replace h2 := A2.mono s22 h2
        replace q2 := s22 _ _ q2
        replace h4 := A2.mono s22 h4
        replace q4 := s22 _ _ q4
        replace g5 := A2.mono s22 g5
        replace q7 := s22 _ _ q7
        replace r16 := Rep.mono s22 r16
        replace h12_0 := A2.mono s22 h12_0
        replace r18 := Rep.mono s22 r18
        replace r20 := Rep.mono s22 r20
        replace sF := sF.trans s22
        obtain ⟨F24, s24, w24, q24⟩ : ∃ F', Same F22 F' ∧ W F' _ ((p9, .lst vs12_0) :: os) ∧ F' p22 = some (.lst us22) := w22.freezeE (pre := [])
        replace q1 := s24 _ _ q1
        replace h2 := A2.mono s24 h2
        replace q2 := s24 _ _ q2
        replace h4 := A2.mono s24 h4
        replace q4 := s24 _ _ q4
        replace g5 := A2.mono s24 g5
        replace q7 := s24 _ _ q7
        replace r16 := Rep.mono s24 r16
        replace h12_0 := A2.mono s24 h12_0
        replace r18 := Rep.mono s24 r18
        replace r20 := Rep.mono s24 r20
        replace g22 := A2.mono s24 g22
        replace sF := sF.trans s24
        refine ⟨(by show 3 ≤ sizeLine; decide), fun p25 n25 => ?_⟩
        obtain ⟨F25, s25, w25, q25⟩ := w24.frzE (o := .tup [u18, x12, (.ref p22)]) n25
        replace q1 := s25 _ _ q1
        replace h2 := A2.mono s25 h2
        replace q2 := s25 _ _ q2
        replace h4 := A2.mono s25 h4
        replace q4 := s25 _ _ q4
        replace g5 := A2.mono s25 g5
        replace q7 := s25 _ _ q7
        replace r16 := Rep.mono s25 r16
        replace h12_0 := A2.mono s25 h12_0
        replace r18 := Rep.mono s25 r18
        replace r20 := Rep.mono s25 r20
        replace g22 := A2.mono s25 g22
        replace q24 := s25 _ _ q24
        replace sF := sF.trans s25
        obtain ⟨l26, z26, e26, hm⟩ := pn_app hm
        refine ⟨_, _, _, rfl, rfl, (w25.get (pre := [])), (A2.lt h12_0 z26), ?_⟩
        have h26 : A2 (rep K F25) (vs12_0 ++ [(V.ref p25)]) l26 := e26 ▸ A2.snoc h12_0 (rep_nt3 q25 r18 r16 (rep_lst q24 g22))
        have w27 : W F25 _ ((p9, .lst (vs12_0 ++ [(V.ref p25)])) :: os) := w25.set (pre := [])
        exact hN12 _ (post_ok hm) _ _ ⟨_, _, _, rfl, (s12.trans (s22.trans (s24.trans s25))), w27, h26⟩
      intro g12 σ12 H12 hI hm
      obtain ⟨F12, vs12_0, o12_6, rfl, s12, w12, h12_0⟩ := hI
      replace q1 := s12 _ _ q1
      replace h2 := A2.mono s12 h2
      replace q2 := s12 _ _ q2
      replace h4 := A2.mono s12 h4
      replace q4 := s12 _ _ q4
      replace g5 := A2.mono s12 g5
      replace q7 := s12 _ _ q7
      replace h13 := A2.mono s12 h13
      replace q15 := s12 _ _ q15
      replace sF := sF.trans s12
      exact hN10 _ (post_ok hm) _ _ ⟨_, _, _, _, rfl, (s10.trans (s15.trans s12)), w12, h12_0⟩
    intro g10 σ10 H10 hI hm
    obtain ⟨F10, vs10_0, o10_6, o10_5, rfl, s10, w10, h10_0⟩ := hI
    replace q1 := s10 _ _ q1
    replace h2 := A2.mono s10 h2
    replace q2 := s10 _ _ q2
    replace h4 := A2.mono s10 h4
    replace q4 := s10 _ _ q4
    replace g5 := A2.mono s10 g5
    replace q7 := s10 _ _ q7
    replace sF := sF.trans s10
    exact ⟨_, rfl, (post_ok hm) _ _ _ _ w10 sF h10_0⟩
def sp_law_floor (K : Fg) : Sp := fun vs H Q E => ∃ (F : Hp) (os : List (Addr × HO)) (v__law_web_here : V) (x__law_web_here : (Int × (Tup (Int × Int)))) (x__law_kind : Str) (v__law_lots : V) (x__law_lots : (List (List Thing))) (a__law_purse_here : Addr) (vs__law_purse_here : List V) (x__law_purse_here : (List Int)), vs = [v__law_web_here, .str x__law_kind, v__law_lots, .ref a__law_purse_here] ∧ W F H ((a__law_purse_here, .lst vs__law_purse_here) :: os) ∧ rep K F v__law_web_here x__law_web_here ∧ rep K F v__law_lots x__law_lots ∧ A2 (rep K F) vs__law_purse_here x__law_purse_here ∧ Post (law_floor x__law_web_here x__law_kind x__law_lots x__law_purse_here) (RetM K F a__law_purse_here os Q) noX
theorem sc_law_floor : FnScope ["_law_web_here", "_law_kind", "_law_lots", "_law_purse_here", "_law_found", "_law_left", "_law_k", "_law_one", "_law_other", "_law_places", "_law_more"] ["_law_web_here", "_law_kind", "_law_lots", "_law_purse_here"] (defScope s_law_floor) := ⟨rfl, rfl, rfl, by decide +kernel, rfl, by decide +kernel, by decide +kernel⟩
theorem ok_law_floor (T : Tx K mg A FD) : FnOk P w K mg base CX0 6 (A 52) (FD 52) ["_law_web_here", "_law_kind", "_law_lots", "_law_purse_here"] (sp_law_floor K) := by
  refine T.d52.fn.ok sc_law_floor (fun vs H Q E h => ?_) (fun cdv Ar outer s H vs Q E hr h => ?_)
  · obtain ⟨F, os, v__law_web_here, x__law_web_here, x__law_kind, v__law_lots, x__law_lots, a__law_purse_here, vs__law_purse_here, x__law_purse_here, rfl, _⟩ := h
    rfl
  · obtain ⟨F0, os, v__law_web_here, x__law_web_here, x__law_kind, v__law_lots, x__law_lots, a__law_purse_here, vs__law_purse_here, x__law_purse_here, rfl, w0, r__law_web_here, r__law_lots, h__law_purse_here, hm⟩ := h
    have sF : Same F0 F0 := Same.refl _
    obtain ⟨a2, u2, z2, rfl, q2, r2a, r2b⟩ := r__law_web_here
    obtain rfl : u2 = V.int x__law_web_here.1 := r2a
    obtain ⟨a3, vs3, rfl, q3, h3⟩ := r2b
    obtain ⟨a4, vs4, rfl, q4, h4⟩ := r__law_lots
    refine ⟨_, (pss_cons (ps_set (i := 4) sc_law_floor.nd rfl (Or.inl rfl) (pe_callTy (call_list_ofK (K := K) rfl) (by rfl) T.n_list (by decide +kernel) (pa_cons (pv 2) pa_nil))) (pss_cons (ps_set (i := 5) sc_law_floor.nd rfl (Or.inl rfl) (pe_call (ok_law_parted T) (hr.mono (by decide)) (by rfl) T.d51.mg T.d51.fn.kp T.d51.b .nil pass0 (pa_cons (pv 0) (pa_cons (pv 1) pa_nil)))) (pss_cons (ps_for PassesOwn.never rfl (pi_range1 (by rfl) T.n_range (pa_cons (pe_callB (call_min2 rfl) (by rfl) T.n_min (by decide +kernel) (pa_cons pe_int (pa_cons (pe_callB (call_lenN (K := K) rfl) (by rfl) T.n_len (by decide +kernel) (pa_cons (pv 5) pa_nil)) pa_nil))) pa_nil)) (pg_name (i := 6) sc_law_floor.nd rfl (Or.inl rfl)) (pss_cons (ps_asg (pe_bm PySem.F.plainAttrs_list PySem.F.slot_list_pop PySem.F.type_list_pop mt_popAt (pv 5) (pa_cons (pe_call (ok_law_take T) (hr.mono (by decide)) (by rfl) T.d43.mg T.d43.fn.kp T.d43.b .nil pass0 (pa_cons (pv 3) (pa_cons (pe_callB (call_lenN (K := K) rfl) (by rfl) T.n_len (by decide +kernel) (pa_cons (pv 5) pa_nil)) pa_nil))) pa_nil)) (pg_k (K := K) (t := fun K => gTup K 3 _) rfl (pg_tup (n := 3) rfl (pgs_cons (pg_name (i := 7) sc_law_floor.nd rfl (Or.inl rfl)) (pgs_cons (pg_name (i := 8) sc_law_floor.nd rfl (Or.inl rfl)) (pgs_cons (pg_name (i := 9) sc_law_floor.nd rfl (Or.inl rfl)) pgs_nil)))))) (pss_cons (ps_set (i := 10) sc_law_floor.nd rfl (Or.inl rfl) (pe_op op_cat (pv 4) (pe_lst (pa_cons (pe_lst (pa_cons (pv 7) (pa_cons (pv 8) pa_nil))) pa_nil)))) (pss_one (ps_if (pt_cmpR op_notN2 (pe_call (ok_floor_height T) (hr.mono (by decide)) (by rfl) T.d40.mg T.d40.fn.kp T.d40.b .nil pass0 (pa_cons (pv 0) (pa_cons (pv 1) (pa_cons (pv 10) pa_nil)))) pe_non (nomark _)) (pss_one (ps_set (i := 4) sc_law_floor.nd rfl (Or.inl rfl) (pv 10))) pss_nil))))) (pss_one (ps_ret (pv 4)))))), ?_⟩
    have h5 : A2 (rep K F0) vs4 x__law_lots := h4
    refine ⟨_, rfl, _, _, rfl, .inl (SqL.of (w0.same _ _ q4)), fun p6 n6 => ?_⟩
    have w6 : W F0 _ ((p6, .lst vs4) :: (a__law_purse_here, .lst vs__law_purse_here) :: os) := w0.new n6
    obtain ⟨F7, s7, w7, q7⟩ : ∃ F', Same F0 F' ∧ W F' _ ((a__law_purse_here, .lst vs__law_purse_here) :: os) ∧ F' p6 = some (.lst vs4) := w6.freezeE (pre := [])
    replace h__law_purse_here := A2.mono s7 h__law_purse_here
    replace q2 := s7 _ _ q2
    replace q3 := s7 _ _ q3
    replace h3 := A2.mono s7 h3
    replace q4 := s7 _ _ q4
    replace h4 := A2.mono s7 h4
    replace h5 := A2.mono s7 h5
    replace sF := sF.trans s7
    refine ⟨_, rfl, _, rfl, _, _, _, (x__law_web_here : (Int × (Tup (Int × Int)))), _, rfl, w7, (rep_pair q2 rep_i (rep_tup q3 h3)), ?_⟩
    refine (post_bind hm).mono (fun y8 hm p8 us8 F8 H8 w8 s8 g8 => ?_) (fun _ z => z)
    replace q2 := s8 _ _ q2
    replace h3 := A2.mono s8 h3
    replace q3 := s8 _ _ q3
    replace h4 := A2.mono s8 h4
    replace q4 := s8 _ _ q4
    replace h5 := A2.mono s8 h5
    replace q7 := s8 _ _ q7
    replace h__law_purse_here := A2.mono s8 h__law_purse_here
    replace sF := sF.trans s8
    obtain ⟨c11, hm⟩ := pb_rng hm
    refine ⟨_, rfl, _, _, _, rfl, .inl (SqL.of (w8.get (pre := []))), g8.length, _, _, rfl, _, rfl, c11.2.2.1, c11.2.2.2, ?_⟩
    refine forS (tw_rng0 (j := (min2 (12 : Int) (y8.length : Int)))) hm (fun (g10 : (List (List Thing)) × (List (Nt (Thing × Thing × (List Int) × Unit))) × (List Int)) σ H' => ∃ (F' : Hp) (v10_4 : V) (vs10_0 : List V) (vs10_1 : List V) (o10_7 : Option V) (o10_8 : Option V) (o10_9 : Option V) (o10_10 : Option V) (o10_6 : Option V), σ = [some (.ref a2), some (.str x__law_kind), some (.ref a4), some (.ref a__law_purse_here), some v10_4, some (.ref p8), o10_6, o10_7, o10_8, o10_9, o10_10] ∧ Same F8 F' ∧ W F' H' ((p8, .lst vs10_0) :: (a__law_purse_here, .lst vs10_1) :: os) ∧ rep K F' v10_4 (g10.1 : (List (List Thing))) ∧ A2 (rep K F') vs10_0 g10.2.1 ∧ A2 (rep K F') vs10_1 g10.2.2) ⟨_, _, _, _, _, _, _, _, _, rfl, Same.refl _, w8, (rep_lst q7 h5), g8, h__law_purse_here⟩ (fun _ _ _ _ => trivial) ?_ ?_
    · -- a turn
      intro b10 g10 x10 σ10 H10 H10' N10 P10 hI hy hN10 hm
      obtain ⟨F10, v10_4, vs10_0, vs10_1, o10_7, o10_8, o10_9, o10_10, o10_6, rfl, s10, w10, r10_4, h10_0, h10_1⟩ := hI
      replace q2 := s10 _ _ q2
      replace h3 := A2.mono s10 h3
      replace q3 := s10 _ _ q3
      replace h4 := A2.mono s10 h4
      replace q4 := s10 _ _ q4
      replace h5 := A2.mono s10 h5
      replace q7 := s10 _ _ q7
      replace sF := sF.trans s10
      obtain ⟨a12, vs12, rfl, q12, h12⟩ := r10_4
      obtain ⟨rfl, rfl⟩ := hy
      have w14 : W F10 _ ((a__law_purse_here, .lst vs10_1) :: (p8, .lst vs10_0) :: os) := w10.front (pre := [_])
      refine ⟨_, rfl, .inl ⟨rfl, _, SqL.of (w10.get (pre := []))⟩, _, rfl, _, rfl, _, _, _, rfl, .inl (SqL.of (w10.get (pre := []))), h10_0.length, _, _, _, _, _, _, rfl, w14, h10_1, ?_⟩
      refine (post_bind hm).mono (fun y15 hm v15 vs15 F15 H15 w15 s15 r15 h15 => ?_) (fun _ z => z)
      replace q2 := s15 _ _ q2
      replace h3 := A2.mono s15 h3
      replace q3 := s15 _ _ q3
      replace h4 := A2.mono s15 h4
      replace q4 := s15 _ _ q4
      replace h12 := A2.mono s15 h12
      replace q12 := s15 _ _ q12
      replace h10_0 := A2.mono s15 h10_0
      replace sF := sF.trans s15
      obtain rfl : v15 = V.int y15.1 := r15
      obtain ⟨j13, x13, l13, z13, i13, y13, e13, hm⟩ := pn_popB hm
      obtain ⟨u13, f13, r13⟩ := A2.get h10_0 y13
      refine ⟨_, _, _, _, _, rfl, rfl, (w15.get (pre := [_])), z13.1, z13.2, (ixN_seq (A2.ix h10_0 i13)).1, f13, ?_⟩
      have h13 : A2 (rep K F15) (vs10_0.eraseIdx j13) l13 := e13 ▸ A2.eraseIdx j13 h10_0
      obtain ⟨a16, u16_0, u16_1, u16_2, rfl, q16, r16_0, r16_1, r16_2⟩ := nt3 r13
      replace r16_0 : rep K F15 u16_0 (x13.v.1 : Thing) := r16_0
      replace r16_1 : rep K F15 u16_1 (x13.v.2.1 : Thing) := r16_1
      replace r16_2 : rep K F15 u16_2 (x13.v.2.2.1 : (List Int)) := r16_2
      obtain ⟨a19, vs19, rfl, q19, h19⟩ := r16_2
      have w20 : W F15 _ ((a__law_purse_here, .lst vs15) :: (p8, .lst (vs10_0.eraseIdx j13)) :: os) := w15.set (pre := [_])
      have h21 : A2 (rep K F15) [u16_0, u16_1] ([x13.v.1, x13.v.2.1] : (List Thing)) := .cons r16_0 (.cons r16_1 (.nil))
      refine ⟨_, _, rfl, SqT.of (w20.same _ _ q16), rfl, _, _, rfl, _, _, rfl, _, _, rfl, rfl, _, rfl, _, rfl, _, rfl, (by show 2 ≤ sizeLine; decide), fun p22 n22 => ?_⟩
      have w22 : W F15 _ ((p22, .lst [u16_0, u16_1]) :: (a__law_purse_here, .lst vs15) :: (p8, .lst (vs10_0.eraseIdx j13)) :: os) := w20.new n22
      obtain ⟨F23, s23, w23, q23⟩ : ∃ F', Same F15 F' ∧ W F' _ ((a__law_purse_here, .lst vs15) :: (p8, .lst (vs10_0.eraseIdx j13)) :: os) ∧ F' p22 = some (.lst [u16_0, u16_1]) := w22.freezeE (pre := [])
      replace q2 := s23 _ _ q2
      replace h3 := A2.mono s23 h3
      replace q3 := s23 _ _ q3
      replace h4 := A2.mono s23 h4
      replace q4 := s23 _ _ q4
      replace h12 := A2.mono s23 h12
      replace q12 := s23 _ _ q12
      replace r16_0 := Rep.mono s23 r16_0
      replace r16_1 := Rep.mono s23 r16_1
      replace h19 := A2.mono s23 h19
      replace q19 := s23 _ _ q19
      replace h15 := A2.mono s23 h15
      replace h13 := A2.mono s23 h13
      replace h21 := A2.mono s23 h21
      replace sF := sF.trans s23
      have h24 : A2 (rep K F23) [(.ref p22)] ([([x13.v.1, x13.v.2.1] : (List Thing))] : (List (List Thing))) := .cons (rep_lst q23 h21) (.nil)
      refine ⟨(by show 1 ≤ sizeLine; decide), fun p25 n25 => ?_⟩
      have w25 : W F23 _ ((p25, .lst [(.ref p22)]) :: (a__law_purse_here, .lst vs15) :: (p8, .lst (vs10_0.eraseIdx j13)) :: os) := w23.new n25
      obtain ⟨l26, z26, e26, hm⟩ := pn_extend hm
      have h26 : A2 (rep K F23) (vs12 ++ [(.ref p22)]) l26 := e26 ▸ A2.append h12 h24
      refine ⟨_, _, _, _, rfl, rfl, (w25.same _ _ q12), (w25.get (pre := [])), (A2.le2 h12 h24 z26), fun p27 n27 => ?_⟩
      have w27 : W F23 _ ((p27, .lst (vs12 ++ [(.ref p22)])) :: (p25, .lst [(.ref p22)]) :: (a__law_purse_here, .lst vs15) :: (p8, .lst (vs10_0.eraseIdx j13)) :: os) := w25.new n27
      obtain ⟨F28, s28, w28, q28⟩ : ∃ F', Same F23 F' ∧ W F' _ ((p25, .lst [(.ref p22)]) :: (a__law_purse_here, .lst vs15) :: (p8, .lst (vs10_0.eraseIdx j13)) :: os) ∧ F' p27 = some (.lst (vs12 ++ [(.ref p22)])) := w27.freezeE (pre := [])
      replace q2 := s28 _ _ q2
      replace h3 := A2.mono s28 h3
      replace q3 := s28 _ _ q3
      replace h4 := A2.mono s28 h4
      replace q4 := s28 _ _ q4
      replace h12 := A2.mono s28 h12
      replace q12 := s28 _ _ q12
      replace r16_0 := Rep.mono s28 r16_0
      replace r16_1 := Rep.mono s28 r16_1
      replace h19 := A2.mono s28 h19
      replace q19 := s28 _ _ q19
      replace h15 := A2.mono s28 h15
      replace h13 := A2.mono s28 h13
      replace h21 := A2.mono s28 h21
      replace q23 := s28 _ _ q23
      replace h24 := A2.mono s28 h24
      replace h26 := A2.mono s28 h26
      replace sF := sF.trans s28
      have w29 : W F28 _ ((a__law_purse_here, .lst vs15) :: (p8, .lst (vs10_0.eraseIdx j13)) :: os) := w28.drop (pre := [])
      refine ⟨_, rfl, _, rfl, _, rfl, _, _, _, (x__law_web_here : (Int × (Tup (Int × Int)))), _, _, (l26 : (List (List Thing))), rfl, w29, (rep_pair q2 rep_i (rep_tup q3 h3)), (rep_lst q28 h26), ?_⟩
      refine (post_bind hm).mono (fun y30 hm v30 F30 H30 w30 s30 r30 => ?_) (fun _ z => z)
      replace q2 := s30 _ _ q2
      replace h3 := A2.mono s30 h3
      replace q3 := s30 _ _ q3
      replace h4 := A2.mono s30 h4
      replace q4 := s30 _ _ q4
      replace h12 := A2.mono s30 h12
      replace q12 := s30 _ _ q12
      replace r16_0 := Rep.mono s30 r16_0
      replace r16_1 := Rep.mono s30 r16_1
      replace h19 := A2.mono s30 h19
      replace q19 := s30 _ _ q19
      replace h26 := A2.mono s30 h26
      replace q28 := s30 _ _ q28
      replace h15 := A2.mono s30 h15
      replace h13 := A2.mono s30 h13
      replace sF := sF.trans s30
      refine ⟨rfl, _, isN_eq r30, _, rfl, ?_⟩
      refine post_ite hm (fun k32 hm => ?_) (fun k32 hm => ?_)
      · skip
        have w33 : W F30 _ ((p8, .lst (vs10_0.eraseIdx j13)) :: (a__law_purse_here, .lst vs15) :: os) := w30.front (pre := [_])
        exact ⟨_, rfl, hN10 _ (post_ok hm) _ _ ⟨_, _, _, _, _, _, _, _, _, rfl, (s10.trans (s15.trans (s23.trans (s28.trans s30)))), w33, (rep_lst q28 h26), h13, h15⟩⟩
      · skip
        have w34 : W F30 _ ((p8, .lst (vs10_0.eraseIdx j13)) :: (a__law_purse_here, .lst vs15) :: os) := w30.front (pre := [_])
        exact hN10 _ (post_ok hm) _ _ ⟨_, _, _, _, _, _, _, _, _, rfl, (s10.trans (s15.trans (s23.trans (s28.trans s30)))), w34, (rep_lst q12 h12), h13, h15⟩
    intro g10 σ10 H10 hI hm
    obtain ⟨F10, v10_4, vs10_0, vs10_1, o10_7, o10_8, o10_9, o10_10, o10_6, rfl, s10, w10, r10_4, h10_0, h10_1⟩ := hI
    replace q2 := s10 _ _ q2
    replace h3 := A2.mono s10 h3
    replace q3 := s10 _ _ q3
    replace h4 := A2.mono s10 h4
    replace q4 := s10 _ _ q4
    replace h5 := A2.mono s10 h5
    replace q7 := s10 _ _ q7
    replace sF := sF.trans s10
    obtain ⟨a35, vs35, rfl, q35, h35⟩ := r10_4
    have w36 : W F10 _ ((a__law_purse_here, .lst vs10_1) :: os) := w10.drop (pre := [])
    exact ⟨_, rfl, (post_ok hm) _ _ _ _ w36 sF (rep_lst q35 h35) h10_1⟩
def sp_law (K : Fg) : Sp := fun vs H Q E => ∃ (F : Hp) (os : List (Addr × HO)) (v__law_script : V) (x__law_script : Scr), vs = [v__law_script] ∧ W F H (os) ∧ rep K F v__law_script x__law_script ∧ Post (law x__law_script) (Ret K F os Q) noX
theorem sc_law : FnScope ["_law_script", "_law_purse_here", "_law_kind", "_law_web_here", "_law_twins", "_law_lots", "_law_floor_here", "_law_height", "_law_found", "_law_k", "_law_own_purse", "_law_looks", "_law_many", "_law_all_tied", "_law_lot", "_law_place"] ["_law_script"] (defScope s_law) := ⟨rfl, rfl, rfl, by decide +kernel, rfl, by decide +kernel, by decide +kernel⟩
set_option maxHeartbeats 40000000 in
theorem ok_law (T : Tx K mg A FD) : FnOk P w K mg base CX0 24 (A 53) (FD 53) ["_law_script"] (sp_law K) := by
  refine T.d53.fn.ok sc_law (fun vs H Q E h => ?_) (fun cdv Ar outer s H vs Q E hr h => ?_)
  · obtain ⟨F, os, v__law_script, x__law_script, rfl, _⟩ := h
    rfl
  · obtain ⟨F0, os, v__law_script, x__law_script, rfl, w0, r__law_script, hm⟩ := h
    have sF : Same F0 F0 := Same.refl _
    obtain ⟨a1, rfl, q1⟩ := r__law_script
    have h1 : A2 (rep K F0) (x__law_script.l.map V.int) x__law_script.l := A2.of_ints
    refine ⟨_, (pss_cons (ps_set (i := 1) sc_law.nd rfl (Or.inl rfl) (pe_call (ok_law_purse T) (hr.mono (by decide)) (by rfl) T.d42.mg T.d42.fn.kp T.d42.b .nil pass0 (pa_cons (pv 0) (pa_cons pe_int pa_nil)))) (pss_cons (ps_set (i := 2) sc_law.nd rfl (Or.inl rfl) (pe_ix (ix_listK (K := K) rfl) (pe_lst (pa_cons pe_str (pa_cons pe_str (pa_cons pe_str pa_nil)))) (pe_call (ok_law_take T) (hr.mono (by decide)) (by rfl) T.d43.mg T.d43.fn.kp T.d43.b .nil pass0 (pa_cons (pv 1) (pa_cons pe_int pa_nil))) (fun _ _ => rfl))) (pss_cons (ps_set (i := 3) sc_law.nd rfl (Or.inl rfl) (pe_call (ok_law_web T) (hr.mono (by decide)) (by rfl) T.d46.mg T.d46.fn.kp T.d46.b .nil pass0 (pa_cons (pe_call (ok_law_purse T) (hr.mono (by decide)) (by rfl) T.d42.mg T.d42.fn.kp T.d42.b .nil pass0 (pa_cons (pv 0) (pa_cons pe_int pa_nil))) (pa_cons pe_int (pa_cons pe_int pa_nil))))) (pss_cons (ps_set (i := 4) sc_law.nd rfl (Or.inl rfl) (pe_call (ok_twins_of T) (hr.mono (by decide)) (by rfl) T.d37.mg T.d37.fn.kp T.d37.b .nil pass0 (pa_cons (pv 3) pa_nil))) (pss_cons (ps_set (i := 5) sc_law.nd rfl (Or.inl rfl) (pe_lst pa_nil)) (pss_cons (ps_if (pt_cmpR op_neS (pv 2) pe_str (nomark _)) (pss_cons (ps_set (i := 5) sc_law.nd rfl (Or.inl rfl) (pv 4)) (pss_one (ps_if (pt_cmpR (op_neDt (K := K) rfl (Option Int) (by decide) hr.units) (pe_call (ok_floor_height T) (hr.mono (by decide)) (by rfl) T.d40.mg T.d40.fn.kp T.d40.b .nil pass0 (pa_cons (pv 3) (pa_cons (pv 2) (pa_cons (pv 5) pa_nil)))) (pe_callB (cr_sumK (K := K) rfl rfl) (by rfl) T.n_sum (by decide +kernel) (pa_cons (pe_lc (own := [("_law_lot", 14)]) (g := gName 14) (by rfl) sc_law.nd (pi_listK (K := K) rfl (pv 5)) (blkOk_by (own := [("_law_lot", 14)]) (N := ["_law_script", "_law_purse_here", "_law_kind", "_law_web_here", "_law_twins", "_law_lots", "_law_floor_here", "_law_height", "_law_found", "_law_k", "_law_own_purse", "_law_looks", "_law_many", "_law_all_tied", "_law_lot", "_law_place"]) (sc := defScope s_law) (by decide +kernel)) (fun _ _ _ _ _ => (pg_name (i := 14) sc_law.nd rfl (Or.inl rfl))) (fun _ _ _ _ _ => pts_nil) (fun _ _ _ _ _ => (pe_op op_sub (pe_callB (call_lenN (K := K) rfl) (by rfl) T.n_len (by decide +kernel) (pa_cons (pv 14) pa_nil)) pe_int))) pa_nil)) (nomark _)) (pss_one (ps_ret pe_bl)) pss_nil))) pss_nil) (pss_cons (ps_set (i := 6) sc_law.nd rfl (Or.inl rfl) (pe_call (ok_law_floor T) (hr.mono (by decide)) (by rfl) T.d52.mg T.d52.fn.kp T.d52.b .nil pass0 (pa_cons (pv 3) (pa_cons (pv 2) (pa_cons (pv 5) (pa_cons (pv 1) pa_nil)))))) (pss_cons (ps_set (i := 7) sc_law.nd rfl (Or.inl rfl) (pe_call (ok_floor_height T) (hr.mono (by decide)) (by rfl) T.d40.mg T.d40.fn.kp T.d40.b .nil pass0 (pa_cons (pv 3) (pa_cons (pv 2) (pa_cons (pv 6) pa_nil))))) (pss_cons (ps_set (i := 8) sc_law.nd rfl (Or.inl rfl) (pe_call (ok_fewest_looks T) (hr.mono (by decide)) (by rfl) T.d30.mg T.d30.fn.kp T.d30.b .nil pass0 (pa_cons (pv 3) (pa_cons (pv 2) (pa_cons pe_int pa_nil))))) (pss_cons (ps_if (PW.pt (pw_or (pt_cmpR op_neS (pe_ix (ix_tupK (K := K) rfl) (pv 8) pe_int (fun _ _ => rfl)) pe_str (nomark _)) (pw_or (pt_cmpR op_isN2 (pv 7) pe_non (nomark _)) (pw_or1 (pt_cmp (pc_gt (pv 7) (pe_callB (call_lenN (K := K) rfl) (by rfl) T.n_len (by decide +kernel) (pa_cons (pe_ix (ix_tupK (K := K) rfl) (pv 8) pe_int (fun _ _ => rfl)) pa_nil)))))))) (pss_one (ps_ret pe_bl)) pss_nil) (pss_cons (ps_for PassesOwn.never rfl (pi_range2 (by rfl) T.n_range (pa_cons pe_int (pa_cons pe_int pa_nil))) (pg_name (i := 9) sc_law.nd rfl (Or.inl rfl)) (pss_cons (ps_set (i := 10) sc_law.nd rfl (Or.inr rfl) (pe_call (ok_law_purse T) (hr.mono (by decide)) (by rfl) T.d42.mg T.d42.fn.kp T.d42.b .nil pass0 (pa_cons (pv 0) (pa_cons (pv 9) pa_nil)))) (pss_cons (ps_setLc (i := 11) (own := [("_law_place", 15)]) (g := gName 15) (by rfl) sc_law.nd rfl rfl (sw_true rfl rfl rfl (by decide +kernel)) (pi_range1 (by rfl) T.n_range (pa_cons (pe_ix (ix_tupK (K := K) rfl) (pv 3) pe_int (fun _ _ => rfl)) pa_nil)) (blkOk_by (own := [("_law_place", 15)]) (N := ["_law_script", "_law_purse_here", "_law_kind", "_law_web_here", "_law_twins", "_law_lots", "_law_floor_here", "_law_height", "_law_found", "_law_k", "_law_own_purse", "_law_looks", "_law_many", "_law_all_tied", "_law_lot", "_law_place"]) (sc := defScope s_law) (by decide +kernel)) (fun _ _ _ _ _ => (pg_name (i := 15) sc_law.nd rfl (Or.inl rfl))) (fun _ _ _ _ _ => (pts_one (pt_cmp (pc_gt (pe_call (ok_law_take T) (hr.mono (by decide)) (by rfl) T.d43.mg T.d43.fn.kp T.d43.b .nil pass0 (pa_cons (pv 10) (pa_cons pe_int pa_nil))) pe_int)))) (fun _ _ _ _ _ => (pv 15))) (pss_one (ps_if (PW.pt (pw_and (pt_val (pe_call (ok_is_known T) (hr.mono (by decide)) (by rfl) T.d20.mg T.d20.fn.kp T.d20.b .nil pass0 (pa_cons (pv 3) (pa_cons (pv 11) (pa_cons (pv 2) pa_nil))))) (pw_and1 (pt_cmp (pc_lt (pe_callB (call_lenN (K := K) rfl) (by rfl) T.n_len (by decide +kernel) (pa_cons (pv 11) pa_nil)) (pe_callB (call_lenN (K := K) rfl) (by rfl) T.n_len (by decide +kernel) (pa_cons (pe_ix (ix_tupK (K := K) rfl) (pv 8) pe_int (fun _ _ => rfl)) pa_nil))))))) (pss_one (ps_ret pe_bl)) pss_nil))))) (pss_cons (ps_set (i := 12) sc_law.nd rfl (Or.inl rfl) (pe_ix (ix_tupK (K := K) rfl) (pv 3) pe_int (fun _ _ => rfl))) (pss_cons (ps_set (i := 13) sc_law.nd rfl (Or.inl rfl) (pe_cmp (pc_eqI (pe_callB (call_lenN (K := K) rfl) (by rfl) T.n_len (by decide +kernel) (pa_cons (pe_ix (ix_tupK (K := K) rfl) (pv 3) pe_int (fun _ _ => rfl)) pa_nil)) (pe_op op_fdiv (pe_op op_mul (pv 12) (pe_op op_sub (pv 12) pe_int)) pe_int)))) (pss_cons (ps_if (PW.pt (pw_and (pt_cmpR op_eqS (pv 2) pe_str (nomark _)) (pw_and (pt_val (pv 13)) (pw_and1 (pt_cmp (pc_gt (pv 12) pe_int)))))) (pss_one (ps_ret (pe_chain op_eqI op_eqI (pv 7) (pe_callB (call_lenN (K := K) rfl) (by rfl) T.n_len (by decide +kernel) (pa_cons (pe_ix (ix_tupK (K := K) rfl) (pv 8) pe_int (fun _ _ => rfl)) pa_nil)) (pe_op op_sub (pv 12) pe_int)))) pss_nil) (pss_one (ps_ret pe_bl)))))))))))))))), ?_⟩
    refine ⟨_, rfl, _, _, _, (x__law_script : Scr), _, rfl, w0, ⟨_, rfl, q1⟩, ?_⟩
    refine (post_bind hm).mono (fun y2 hm p2 us2 F2 H2 w2 s2 g2 => ?_) (fun _ z => z)
    replace q1 := s2.seq q1
    replace h1 := A2.mono s2 h1
    replace sF := sF.trans s2
    have h4 : A2 (rep K F2) [(.str "places"), (.str "ties"), (.str "all")] ([("places" : Str), ("ties" : Str), ("all" : Str)] : (List Str)) := .cons rep_s (.cons rep_s (.cons rep_s (.nil)))
    refine ⟨(by show 3 ≤ sizeLine; decide), fun p5 n5 => ?_⟩
    have w5 : W F2 _ ((p5, .lst [(.str "places"), (.str "ties"), (.str "all")]) :: (p2, .lst us2) :: os) := w2.new n5
    have w6 : W F2 _ ((p2, .lst us2) :: (p5, .lst [(.str "places"), (.str "ties"), (.str "all")]) :: os) := w5.front (pre := [_])
    refine ⟨_, rfl, _, _, _, _, _, _, rfl, w6, g2, ?_⟩
    refine (post_bind hm).mono (fun y7 hm v7 vs7 F7 H7 w7 s7 r7 h7 => ?_) (fun _ z => z)
    replace h1 := A2.mono s7 h1
    replace q1 := s7.seq q1
    replace h4 := A2.mono s7 h4
    replace sF := sF.trans s7
    obtain rfl : v7 = V.int y7.1 := r7
    obtain ⟨t8, e8, hm⟩ := pb_get hm
    obtain ⟨u8, f8, r8⟩ := A2.at h4 e8
    obtain rfl : u8 = V.str t8 := r8
    have w9 : W F7 _ ((p2, .lst vs7) :: os) := w7.drop (pre := [_])
    refine ⟨_, _, _, _, rfl, rfl, SqL.of (w7.get (pre := [_])), f8, _, rfl, _, _, _, (x__law_script : Scr), _, rfl, w9, ⟨_, rfl, q1⟩, ?_⟩
    refine (post_bind hm).mono (fun y10 hm p10 us10 F10 H10 w10 s10 g10 => ?_) (fun _ z => z)
    replace h1 := A2.mono s10 h1
    replace q1 := s10.seq q1
    replace h7 := A2.mono s10 h7
    replace sF := sF.trans s10
    refine ⟨_, _, _, _, _, _, _, rfl, w10, g10, ?_⟩
    refine (post_bind hm).mono (fun y12 hm v12 vs12 F12 H12 w12 s12 r12 h12 => ?_) (fun _ z => z)
    replace h1 := A2.mono s12 h1
    replace q1 := s12.seq q1
    replace h7 := A2.mono s12 h7
    replace sF := sF.trans s12
    obtain ⟨a13, u13, z13, rfl, q13, r13a, r13b⟩ := r12
    obtain rfl : u13 = V.int y12.1.1 := r13a
    obtain ⟨a14, vs14, rfl, q14, h14⟩ := r13b
    have w15 : W F12 _ ((p2, .lst vs7) :: os) := w12.drop (pre := [])
    refine ⟨_, rfl, _, _, _, (y12.1 : (Int × (Tup (Int × Int)))), rfl, w15, (rep_pair q13 rep_i (rep_tup q14 h14)), ?_⟩
    refine (post_bind hm).mono (fun y16 hm v16 F16 H16 w16 s16 r16 => ?_) (fun _ z => z)
    replace h1 := A2.mono s16 h1
    replace q1 := s16.seq q1
    replace q13 := s16 _ _ q13
    replace h14 := A2.mono s16 h14
    replace q14 := s16 _ _ q14
    replace h7 := A2.mono s16 h7
    replace sF := sF.trans s16
    obtain ⟨a17, vs17, rfl, q17, h17⟩ := r16
    have h18 : A2 (rep K F16) [] ([] : (List (List Thing))) := .nil
    refine ⟨(by show 0 ≤ sizeLine; decide), fun p19 n19 => ?_⟩
    have w19 : W F16 _ ((p19, .lst []) :: (p2, .lst vs7) :: os) := w16.new n19
    obtain ⟨F20, s20, w20, q20⟩ : ∃ F', Same F16 F' ∧ W F' _ ((p2, .lst vs7) :: os) ∧ F' p19 = some (.lst []) := w19.freezeE (pre := [])
    replace h1 := A2.mono s20 h1
    replace q1 := s20.seq q1
    replace q13 := s20 _ _ q13
    replace h14 := A2.mono s20 h14
    replace q14 := s20 _ _ q14
    replace h17 := A2.mono s20 h17
    replace q17 := s20 _ _ q17
    replace h7 := A2.mono s20 h7
    replace h18 := A2.mono s20 h18
    replace sF := sF.trans s20
    refine ⟨_, rfl, _, _, rfl, rfl, _, rfl, ?_⟩
    refine post_ite hm (fun k21 hm => ?_) (fun k21 hm => ?_)
    · skip
      refine ⟨_, rfl, _, rfl, _, rfl, _, rfl, _, _, _, (y12.1 : (Int × (Tup (Int × Int)))), _, _, (y16 : (List (List Thing))), rfl, w20, (rep_pair q13 rep_i (rep_tup q14 h14)), (rep_lst q17 h17), ?_⟩
      refine (post_bind hm).mono (fun y22 hm v22 F22 H22 w22 s22 r22 => ?_) (fun _ z => z)
      replace h1 := A2.mono s22 h1
      replace q1 := s22.seq q1
      replace q13 := s22 _ _ q13
      replace h14 := A2.mono s22 h14
      replace q14 := s22 _ _ q14
      replace h17 := A2.mono s22 h17
      replace q17 := s22 _ _ q17
      replace h7 := A2.mono s22 h7
      replace sF := sF.trans s22
      refine ⟨_, rfl, _, rfl, ⟨_, SqL.of (w22.same _ _ q17)⟩, fun D24 nD24 => ?_⟩
      refine lcM (K := K) (tw_list (a := a17) h17) hm w22 nD24 (fun F' H' acc s w => SqL.of (w.same _ _ (s _ _ q17))) ?_ ?_
      · -- one turn
        intro b24 x24 F24 H24 H24' acc24 N24 P24 s24 w24 y24 hN24 hm
        replace h1 := A2.mono s24 h1
        replace q1 := s24.seq q1
        replace q13 := s24 _ _ q13
        replace h14 := A2.mono s24 h14
        replace q14 := s24 _ _ q14
        replace h17 := A2.mono s24 h17
        replace q17 := s24 _ _ q17
        replace h7 := A2.mono s24 h7
        replace r22 := Rep.mono s24 r22
        replace sF := sF.trans s24
        obtain ⟨rfl, r26⟩ := y24
        replace r26 := Rep.mono s24 r26
        obtain ⟨a27, vs27, rfl, q27, h27⟩ := r26
        exact ⟨rfl, _, rfl, _, _, _, rfl, .inl (SqL.of (w24.same _ _ q27)), h27.length, _, _, rfl, rfl, hN24 _ (post_ok hm) _ _ _ w24 (Same.refl _) rep_i⟩
      intro us24 F24 H24 ys24 s24 w24 gg24 hm
      replace h1 := A2.mono s24 h1
      replace q1 := s24.seq q1
      replace q13 := s24 _ _ q13
      replace h14 := A2.mono s24 h14
      replace q14 := s24 _ _ q14
      replace h17 := A2.mono s24 h17
      replace q17 := s24 _ _ q17
      replace h7 := A2.mono s24 h7
      replace r22 := Rep.mono s24 r22
      replace sF := sF.trans s24
      refine ⟨_, _, rfl, ints_q (SqL.of (w24.get (pre := []))) gg24, (y22 : (Option Int)), ((some (ys24.sum)) : (Option Int)), (Rep.mono w24.same r22), (Rep.mono w24.same (rep_some rep_i)), _, rfl, ?_⟩
      have w29 : W F24 _ ((p2, .lst vs7) :: os) := w24.drop (pre := [])
      refine post_ite hm (fun k30 hm => ?_) (fun k30 hm => ?_)
      · skip
        have w31 : W F24 _ (os) := w29.drop (pre := [])
        exact (post_ok hm) _ _ _ w31 sF rep_b
      · skip
        refine ⟨_, rfl, _, rfl, _, rfl, _, rfl, _, _, _, (y12.1 : (Int × (Tup (Int × Int)))), _, _, (y16 : (List (List Thing))), _, _, _, rfl, w29, (rep_pair q13 rep_i (rep_tup q14 h14)), (rep_lst q17 h17), h7, ?_⟩
        refine (post_bind hm).mono (fun y32 hm v32 vs32 F32 H32 w32 s32 r32 h32 => ?_) (fun _ z => z)
        replace h1 := A2.mono s32 h1
        replace q1 := s32.seq q1
        replace q13 := s32 _ _ q13
        replace h14 := A2.mono s32 h14
        replace q14 := s32 _ _ q14
        replace h17 := A2.mono s32 h17
        replace q17 := s32 _ _ q17
        replace r22 := Rep.mono s32 r22
        replace sF := sF.trans s32
        obtain ⟨a33, vs33, rfl, q33, h33⟩ := r32
        refine ⟨_, rfl, _, rfl, _, rfl, _, _, _, (y12.1 : (Int × (Tup (Int × Int)))), _, _, (y32.1 : (List (List Thing))), rfl, w32, (rep_pair q13 rep_i (rep_tup q14 h14)), (rep_lst q33 h33), ?_⟩
        refine (post_bind hm).mono (fun y34 hm v34 F34 H34 w34 s34 r34 => ?_) (fun _ z => z)
        replace h1 := A2.mono s34 h1
        replace q1 := s34.seq q1
        replace q13 := s34 _ _ q13
        replace h14 := A2.mono s34 h14
        replace q14 := s34 _ _ q14
        replace h17 := A2.mono s34 h17
        replace q17 := s34 _ _ q17
        replace h33 := A2.mono s34 h33
        replace q33 := s34 _ _ q33
        replace h32 := A2.mono s34 h32
        replace sF := sF.trans s34
        refine ⟨_, rfl, _, rfl, _, _, _, (y12.1 : (Int × (Tup (Int × Int)))), _, _, rfl, w34, (rep_pair q13 rep_i (rep_tup q14 h14)), ?_⟩
        refine (post_bind hm).mono (fun y36 hm v36 F36 H36 w36 s36 r36 => ?_) (fun _ z => z)
        replace h1 := A2.mono s36 h1
        replace q1 := s36.seq q1
        replace q13 := s36 _ _ q13
        replace h14 := A2.mono s36 h14
        replace q14 := s36 _ _ q14
        replace h17 := A2.mono s36 h17
        replace q17 := s36 _ _ q17
        replace h33 := A2.mono s36 h33
        replace q33 := s36 _ _ q33
        replace r34 := Rep.mono s36 r34
        replace h32 := A2.mono s36 h32
        replace sF := sF.trans s36
        have r37 : rep K F36 v36 (y36 : Fw) := r36
        obtain ⟨a37, u37a, u37b, rfl, q37⟩ := fw_open r37
        refine stepN ?_
        try dsimp only
        refine stepSeq (stepIf ?_)
        refine joinT hm (fun (j38 : Bool) c H' => c = j38 ∧ ∃ (F' : Hp), Same F36 F' ∧ W F' H' ((p2, .lst vs32) :: os)) ?_ ?_
        · intro Q38 P38 q38 hm
          refine ⟨_, rfl, _, _, _, _, rfl, rfl, SqT.of (w36.same _ _ q37), rfl, _, _, rfl, rfl, _, rfl, ?_⟩
          refine post_ite hm (fun k39 hm => ?_) (fun k39 hm => ?_)
          · skip
            exact q38 _ (post_ok hm) _ _ ⟨rfl, _, Same.refl _, w36⟩
          · skip
            refine ⟨_, rfl, rfl, _, isN_eq r34, _, rfl, ?_⟩
            refine post_ite hm (fun k41 hm => ?_) (fun k41 hm => ?_)
            · skip
              exact q38 _ (post_ok hm) _ _ ⟨rfl, _, Same.refl _, w36⟩
            · skip
              obtain ⟨t43, e43, e43b, r43a, r43b, hm⟩ := pb_lk q37 r37 hm
              obtain ⟨a44, vs44, rfl, q44, h44⟩ := r43a
              obtain ⟨t46, e46, hm⟩ := pb_ofO hm
              have r46 : rep K F36 v34 (some t46) := e46 ▸ r34
              replace r46 : v34 = V.int t46 := r46
              subst r46
              exact ⟨_, rfl, _, rfl, _, _, _, _, rfl, rfl, SqT.of (w36.same _ _ q37), rfl, _, _, _, rfl, .inl (SqL.of (w36.same _ _ q44)), h44.length, _, _, rfl, rfl, _, rfl, q38 _ (post_ok hm) _ _ ⟨rfl, _, Same.refl _, w36⟩⟩
        intro j38 c38 H38 hc38 hm
        obtain ⟨rfl, F38, s38, w38⟩ := hc38
        replace h1 := A2.mono s38 h1
        replace q1 := s38.seq q1
        replace q13 := s38 _ _ q13
        replace h14 := A2.mono s38 h14
        replace q14 := s38 _ _ q14
        replace h17 := A2.mono s38 h17
        replace q17 := s38 _ _ q17
        replace h33 := A2.mono s38 h33
        replace q33 := s38 _ _ q33
        replace r34 := Rep.mono s38 r34
        replace q37 := s38 _ _ q37
        replace r37 := Rep.mono s38 r37
        replace h32 := A2.mono s38 h32
        replace sF := sF.trans s38
        refine post_ite hm (fun k48 hm => ?_) (fun k48 hm => ?_)
        · skip
          have w49 : W F38 _ (os) := w38.drop (pre := [])
          exact (post_ok hm) _ _ _ w49 sF rep_b
        · skip
          obtain ⟨c51, hm⟩ := pb_rng hm
          refine ⟨_, _, rfl, c51, ?_⟩
          refine forX (tw_rng (i := (2 : Int)) (j := (5 : Int))) hm (fun (g50 : Unit) σ H' => ∃ (F' : Hp) (o50_10 : Option V) (o50_11 : Option V) (o50_9 : Option V), σ = [some (.ref a1), some (.ref p2), some (.str t8), some (.ref a13), some (.ref a17), some (.ref a17), some (.ref a33), some v34, some (.ref a37), o50_9, o50_10, o50_11, none, none, none, none] ∧ Same F38 F' ∧ W F' H' ((p2, .lst vs32) :: os)) ⟨_, _, _, _, rfl, Same.refl _, w38⟩ (fun _ _ _ _ => trivial) ?_ ?_
          · -- a turn
            intro b50 g50 x50 σ50 H50 H50' N50 B50 P50 hI hy hN50 hB50 hZ50 hm
            obtain ⟨F50, o50_10, o50_11, o50_9, rfl, s50, w50⟩ := hI
            replace h1 := A2.mono s50 h1
            replace q1 := s50.seq q1
            replace q13 := s50 _ _ q13
            replace h14 := A2.mono s50 h14
            replace q14 := s50 _ _ q14
            replace h17 := A2.mono s50 h17
            replace q17 := s50 _ _ q17
            replace h33 := A2.mono s50 h33
            replace q33 := s50 _ _ q33
            replace r34 := Rep.mono s50 r34
            replace q37 := s50 _ _ q37
            replace r37 := Rep.mono s50 r37
            replace h32 := A2.mono s50 h32
            replace sF := sF.trans s50
            obtain ⟨rfl, rfl⟩ := hy
            refine ⟨_, rfl, _, rfl, _, _, _, (x__law_script : Scr), _, rfl, w50, ⟨_, rfl, q1⟩, ?_⟩
            refine (post_bind hm).mono (fun y52 hm p52 us52 F52 H52 w52 s52 g52 => ?_) (fun _ z => z)
            replace h1 := A2.mono s52 h1
            replace q1 := s52.seq q1
            replace q13 := s52 _ _ q13
            replace h14 := A2.mono s52 h14
            replace q14 := s52 _ _ q14
            replace h17 := A2.mono s52 h17
            replace q17 := s52 _ _ q17
            replace h33 := A2.mono s52 h33
            replace q33 := s52 _ _ q33
            replace r34 := Rep.mono s52 r34
            replace q37 := s52 _ _ q37
            replace r37 := Rep.mono s52 r37
            replace h32 := A2.mono s52 h32
            replace sF := sF.trans s52
            obtain ⟨c54, hm⟩ := pb_rng hm
            refine ⟨_, rfl, _, _, _, _, rfl, rfl, SqT.of (w52.same _ _ q13), rfl, _, rfl, c54.2.2.1, c54.2.2.2, fun D55 nD55 => ?_⟩
            refine lcFil (K := K) (tw_rng0 (j := y12.1.1)) hm (fun (g55 : (List Int)) F' os' => ∃ (vs55_0 : List V), os' = (p52, .lst vs55_0) :: (p2, .lst vs32) :: os ∧ A2 (rep K F') vs55_0 g55) w52 ⟨_, rfl, g52⟩ nD55 (fun g F' H' os' acc s w o => by obtain ⟨_, rfl, _⟩ := o; exact trivial) ?_ ?_
            · -- one turn
              intro b55 g55 x55 F55 H55 H55' os55 acc55 N55 M55 P55 s55 w55 o55 y55 hN55 hM55 hm
              obtain ⟨vs55_0, rfl, h55_0⟩ := o55
              replace h1 := A2.mono s55 h1
              replace q1 := s55.seq q1
              replace q13 := s55 _ _ q13
              replace h14 := A2.mono s55 h14
              replace q14 := s55 _ _ q14
              replace h17 := A2.mono s55 h17
              replace q17 := s55 _ _ q17
              replace h33 := A2.mono s55 h33
              replace q33 := s55 _ _ q33
              replace r34 := Rep.mono s55 r34
              replace q37 := s55 _ _ q37
              replace r37 := Rep.mono s55 r37
              replace h32 := A2.mono s55 h32
              replace sF := sF.trans s55
              obtain ⟨rfl, rfl⟩ := y55
              have w57 : W F55 _ ((p52, .lst vs55_0) :: (D55, .lst acc55) :: (p2, .lst vs32) :: os) := w55.front (pre := [_])
              refine ⟨rfl, _, rfl, _, _, _, _, _, _, rfl, w57, h55_0, ?_⟩
              refine (post_bind hm).mono (fun y58 hm v58 vs58 F58 H58 w58 s58 r58 h58 => ?_) (fun _ z => z)
              replace h1 := A2.mono s58 h1
              replace q1 := s58.seq q1
              replace q13 := s58 _ _ q13
              replace h14 := A2.mono s58 h14
              replace q14 := s58 _ _ q14
              replace h17 := A2.mono s58 h17
              replace q17 := s58 _ _ q17
              replace h33 := A2.mono s58 h33
              replace q33 := s58 _ _ q33
              replace r34 := Rep.mono s58 r34
              replace q37 := s58 _ _ q37
              replace r37 := Rep.mono s58 r37
              replace h32 := A2.mono s58 h32
              replace sF := sF.trans s58
              obtain rfl : v58 = V.int y58.1 := r58
              refine ⟨_, _, rfl, rfl, _, rfl, ?_⟩
              refine post_ite hm (fun k59 hm => ?_) (fun k59 hm => ?_)
              · skip
                have w60 : W F58 _ ((p2, .lst vs32) :: (p52, .lst vs58) :: (D55, .lst acc55) :: os) := w58.front (pre := [_, _])
                have w61 : W F58 _ ((p52, .lst vs58) :: (p2, .lst vs32) :: (D55, .lst acc55) :: os) := w60.front (pre := [_])
                have w62 : W F58 _ ((D55, .lst acc55) :: (p52, .lst vs58) :: (p2, .lst vs32) :: os) := w61.front (pre := [_, _])
                exact ⟨_, rfl, hN55 _ _ (post_ok hm) _ _ _ _ w62 s58 ⟨_, rfl, h58⟩ rep_i⟩
              · skip
                have w63 : W F58 _ ((p2, .lst vs32) :: (p52, .lst vs58) :: (D55, .lst acc55) :: os) := w58.front (pre := [_, _])
                have w64 : W F58 _ ((p52, .lst vs58) :: (p2, .lst vs32) :: (D55, .lst acc55) :: os) := w63.front (pre := [_])
                have w65 : W F58 _ ((D55, .lst acc55) :: (p52, .lst vs58) :: (p2, .lst vs32) :: os) := w64.front (pre := [_, _])
                exact hM55 _ (post_ok hm) _ _ _ w65 s58 ⟨_, rfl, h58⟩
            intro g55 us55 F55 H55 os55 ys55 s55 w55 o55 gg55 hm
            obtain ⟨vs55_0, rfl, h55_0⟩ := o55
            replace h1 := A2.mono s55 h1
            replace q1 := s55.seq q1
            replace q13 := s55 _ _ q13
            replace h14 := A2.mono s55 h14
            replace q14 := s55 _ _ q14
            replace h17 := A2.mono s55 h17
            replace q17 := s55 _ _ q17
            replace h33 := A2.mono s55 h33
            replace q33 := s55 _ _ q33
            replace r34 := Rep.mono s55 r34
            replace q37 := s55 _ _ q37
            replace r37 := Rep.mono s55 r37
            replace h32 := A2.mono s55 h32
            replace sF := sF.trans s55
            obtain ⟨F67, s67, w67, q67⟩ : ∃ F', Same F55 F' ∧ W F' _ ((p52, .lst vs55_0) :: (p2, .lst vs32) :: os) ∧ F' D55 = some (.lst us55) := w55.freezeE (pre := [])
            replace h1 := A2.mono s67 h1
            replace q1 := s67.seq q1
            replace q13 := s67 _ _ q13
            replace h14 := A2.mono s67 h14
            replace q14 := s67 _ _ q14
            replace h17 := A2.mono s67 h17
            replace q17 := s67 _ _ q17
            replace h33 := A2.mono s67 h33
            replace q33 := s67 _ _ q33
            replace r34 := Rep.mono s67 r34
            replace q37 := s67 _ _ q37
            replace r37 := Rep.mono s67 r37
            replace h32 := A2.mono s67 h32
            replace h55_0 := A2.mono s67 h55_0
            replace gg55 := A2.mono s67 gg55
            replace sF := sF.trans s67
            refine stepN ?_
            try dsimp only
            refine stepIf ?_
            refine joinT hm (fun (j68 : Bool) c H' => c = j68 ∧ ∃ (F' : Hp), Same F67 F' ∧ W F' H' ((p52, .lst vs55_0) :: (p2, .lst vs32) :: os)) ?_ ?_
            · intro Q68 P68 q68 hm
              refine ⟨_, rfl, _, rfl, _, rfl, _, _, _, (y12.1 : (Int × (Tup (Int × Int)))), _, (ys55 : (List Int)), _, rfl, w67, (rep_pair q13 rep_i (rep_tup q14 h14)), (rep_lst q67 gg55), ?_⟩
              refine (post_bind hm).mono (fun y69 hm v69 F69 H69 w69 s69 r69 => ?_) (fun _ z => z)
              replace h1 := A2.mono s69 h1
              replace q1 := s69.seq q1
              replace q13 := s69 _ _ q13
              replace h14 := A2.mono s69 h14
              replace q14 := s69 _ _ q14
              replace h17 := A2.mono s69 h17
              replace q17 := s69 _ _ q17
              replace h33 := A2.mono s69 h33
              replace q33 := s69 _ _ q33
              replace r34 := Rep.mono s69 r34
              replace q37 := s69 _ _ q37
              replace r37 := Rep.mono s69 r37
              replace gg55 := A2.mono s69 gg55
              replace q67 := s69 _ _ q67
              replace h55_0 := A2.mono s69 h55_0
              replace h32 := A2.mono s69 h32
              replace sF := sF.trans s69
              obtain rfl : v69 = V.bl y69 := r69
              refine ⟨_, rfl, ?_⟩
              refine post_ite hm (fun k70 hm => ?_) (fun k70 hm => ?_)
              · skip
                obtain ⟨t71, e71, e71b, r71a, r71b, hm⟩ := pb_lk q37 r37 hm
                obtain ⟨a72, vs72, rfl, q72, h72⟩ := r71a
                exact ⟨_, rfl, _, _, _, rfl, .inl (SqL.of (w69.same _ _ q67)), gg55.length, _, rfl, _, _, _, _, rfl, rfl, SqT.of (w69.same _ _ q37), rfl, _, _, _, rfl, .inl (SqL.of (w69.same _ _ q72)), h72.length, _, _, rfl, rfl, _, rfl, q68 _ (post_ok hm) _ _ ⟨rfl, _, s69, w69⟩⟩
              · skip
                exact q68 _ (post_ok hm) _ _ ⟨rfl, _, s69, w69⟩
            intro j68 c68 H68 hc68 hm
            obtain ⟨rfl, F68, s68, w68⟩ := hc68
            replace h1 := A2.mono s68 h1
            replace q1 := s68.seq q1
            replace q13 := s68 _ _ q13
            replace h14 := A2.mono s68 h14
            replace q14 := s68 _ _ q14
            replace h17 := A2.mono s68 h17
            replace q17 := s68 _ _ q17
            replace h33 := A2.mono s68 h33
            replace q33 := s68 _ _ q33
            replace r34 := Rep.mono s68 r34
            replace q37 := s68 _ _ q37
            replace r37 := Rep.mono s68 r37
            replace gg55 := A2.mono s68 gg55
            replace q67 := s68 _ _ q67
            replace h55_0 := A2.mono s68 h55_0
            replace h32 := A2.mono s68 h32
            replace sF := sF.trans s68
            refine post_ite hm (fun k76 hm => ?_) (fun k76 hm => ?_)
            · skip
              have hm := hZ50 _ (post_ok hm)
              have w77 : W F68 _ ((p2, .lst vs32) :: os) := w68.drop (pre := [])
              have w78 : W F68 _ (os) := w77.drop (pre := [])
              exact (post_ok hm) _ _ _ w78 sF rep_b
            · skip
              have w79 : W F68 _ ((p2, .lst vs32) :: os) := w68.drop (pre := [])
              exact hN50 _ (post_ok hm) _ _ ⟨_, _, _, _, rfl, (s50.trans (s52.trans (s55.trans (s67.trans s68)))), w79⟩
          intro g50 σ50 H50 hI hm
          obtain ⟨F50, o50_10, o50_11, o50_9, rfl, s50, w50⟩ := hI
          replace h1 := A2.mono s50 h1
          replace q1 := s50.seq q1
          replace q13 := s50 _ _ q13
          replace h14 := A2.mono s50 h14
          replace q14 := s50 _ _ q14
          replace h17 := A2.mono s50 h17
          replace q17 := s50 _ _ q17
          replace h33 := A2.mono s50 h33
          replace q33 := s50 _ _ q33
          replace r34 := Rep.mono s50 r34
          replace q37 := s50 _ _ q37
          replace r37 := Rep.mono s50 r37
          replace h32 := A2.mono s50 h32
          replace sF := sF.trans s50
          obtain ⟨c80, hm⟩ := pb_mul hm
          refine ⟨_, rfl, _, _, _, _, rfl, rfl, SqT.of (w50.same _ _ q13), rfl, _, rfl, _, _, _, _, rfl, rfl, SqT.of (w50.same _ _ q13), rfl, _, _, _, rfl, .inr (SqT.of (w50.same _ _ q14)), h14.length, _, rfl, _, rfl, _, _, rfl, rfl, _, _, rfl, rfl, c80, _, _, rfl, rfl, (by constructor <;> decide), _, _, rfl, rfl, ?_⟩
          refine stepN ?_
          try dsimp only
          refine stepSeq (stepIf ?_)
          refine cutT (fun c H' => c = (((decide (t8 = ("places" : Str))) && ((decide ((y12.1.2.l.length : Int) = ((y12.1.1 * (y12.1.1 - (1 : Int))) / (2 : Int)))) && (decide ((1 : Int) < y12.1.1))))) ∧ ∃ F', Same F50 F' ∧ W F' H' ((p2, .lst vs32) :: os)) (fun Q82 q82 => ?_) (fun c82 H82 hc82 => ?_)
          · -- the ways
            refine ⟨_, rfl, _, _, rfl, rfl, _, rfl, ?_⟩
            refine ifB (fun k83 => ?_) (fun k83 => ?_)
            · skip
              refine ⟨_, rfl, _, rfl, ?_⟩
              refine ifB (fun k84 => ?_) (fun k84 => ?_)
              · skip
                exact ⟨_, rfl, _, _, rfl, rfl, _, rfl, q82 _ _ ⟨(by first | rfl | exact absurd k83 (by decide) | exact absurd k84 (by decide) | (simp [k83, k84]; done) | ((try simp only [Bool.not_eq_true] at k83); (try simp only [Bool.not_eq_true] at k84); simp only [k83, k84, Bool.true_or, Bool.false_or, Bool.or_false, Bool.or_true, Bool.true_and, Bool.false_and, Bool.and_true, Bool.and_false])), _, Same.refl _, w50⟩⟩
              · skip
                exact q82 _ _ ⟨(by first | rfl | exact absurd k83 (by decide) | exact absurd k84 (by decide) | (simp [k83, k84]; done) | ((try simp only [Bool.not_eq_true] at k83); (try simp only [Bool.not_eq_true] at k84); simp only [k83, k84, Bool.true_or, Bool.false_or, Bool.or_false, Bool.or_true, Bool.true_and, Bool.false_and, Bool.and_true, Bool.and_false])), _, Same.refl _, w50⟩
            · skip
              exact q82 _ _ ⟨(by first | rfl | exact absurd k83 (by decide) | (simp [k83]; done) | ((try simp only [Bool.not_eq_true] at k83); simp only [k83, Bool.true_or, Bool.false_or, Bool.or_false, Bool.or_true, Bool.true_and, Bool.false_and, Bool.and_true, Bool.and_false])), _, Same.refl _, w50⟩
          obtain ⟨rfl, F82, s82, w82⟩ := hc82
          replace h1 := A2.mono s82 h1
          replace q1 := s82.seq q1
          replace q13 := s82 _ _ q13
          replace h14 := A2.mono s82 h14
          replace q14 := s82 _ _ q14
          replace h17 := A2.mono s82 h17
          replace q17 := s82 _ _ q17
          replace h33 := A2.mono s82 h33
          replace q33 := s82 _ _ q33
          replace r34 := Rep.mono s82 r34
          replace q37 := s82 _ _ q37
          replace r37 := Rep.mono s82 r37
          replace h32 := A2.mono s82 h32
          replace sF := sF.trans s82
          refine post_ite hm (fun k88 hm => ?_) (fun k88 hm => ?_)
          · skip
            try dsimp only
            refine stepRet ?_
            refine joinE hm (fun (j89 : Bool) c H' => c = V.bl j89 ∧ ∃ (F' : Hp), Same F82 F' ∧ W F' H' ((p2, .lst vs32) :: os)) ?_ ?_
            · intro Q89 P89 q89 hm
              obtain ⟨t90, e90, hm⟩ := pb_ofO hm
              have r90 : rep K F82 v34 (some t90) := e90 ▸ r34
              replace r90 : v34 = V.int t90 := r90
              subst r90
              obtain ⟨t91, e91, e91b, r91a, r91b, hm⟩ := pb_lk q37 r37 hm
              obtain ⟨a92, vs92, rfl, q92, h92⟩ := r91a
              refine ⟨_, rfl, _, rfl, _, _, _, _, rfl, rfl, SqT.of (w82.same _ _ q37), rfl, _, _, _, rfl, .inl (SqL.of (w82.same _ _ q92)), h92.length, _, _, rfl, rfl, _, rfl, ?_⟩
              refine post_ite hm (fun k94 hm => ?_) (fun k94 hm => ?_)
              · skip
                exact ⟨_, rfl, _, _, rfl, rfl, _, _, rfl, rfl, q89 _ (post_ok hm) _ _ ⟨rfl, _, Same.refl _, w82⟩⟩
              · skip
                exact q89 _ (post_ok hm) _ _ ⟨rfl, _, Same.refl _, w82⟩
            intro j89 c89 H89 hc89 hm
            obtain ⟨rfl, F89, s89, w89⟩ := hc89
            replace h1 := A2.mono s89 h1
            replace q1 := s89.seq q1
            replace q13 := s89 _ _ q13
            replace h14 := A2.mono s89 h14
            replace q14 := s89 _ _ q14
            replace h17 := A2.mono s89 h17
            replace q17 := s89 _ _ q17
            replace h33 := A2.mono s89 h33
            replace q33 := s89 _ _ q33
            replace r34 := Rep.mono s89 r34
            replace q37 := s89 _ _ q37
            replace r37 := Rep.mono s89 r37
            replace h32 := A2.mono s89 h32
            replace sF := sF.trans s89
            have w97 : W F89 _ (os) := w89.drop (pre := [])
            exact (post_ok hm) _ _ _ w97 sF rep_b
          · skip
            have w98 : W F82 _ (os) := w82.drop (pre := [])
            exact (post_ok hm) _ _ _ w98 sF rep_b
    · skip
      refine ⟨_, rfl, _, rfl, _, rfl, _, rfl, _, _, _, (y12.1 : (Int × (Tup (Int × Int)))), _, _, (([] : (List (List Thing))) : (List (List Thing))), _, _, _, rfl, w20, (rep_pair q13 rep_i (rep_tup q14 h14)), (rep_lst q20 h18), h7, ?_⟩
      refine (post_bind hm).mono (fun y99 hm v99 vs99 F99 H99 w99 s99 r99 h99 => ?_) (fun _ z => z)
      replace h1 := A2.mono s99 h1
      replace q1 := s99.seq q1
      replace q13 := s99 _ _ q13
      replace h14 := A2.mono s99 h14
      replace q14 := s99 _ _ q14
      replace h17 := A2.mono s99 h17
      replace q17 := s99 _ _ q17
      replace h18 := A2.mono s99 h18
      replace q20 := s99 _ _ q20
      replace sF := sF.trans s99
      obtain ⟨a100, vs100, rfl, q100, h100⟩ := r99
      refine ⟨_, rfl, _, rfl, _, rfl, _, _, _, (y12.1 : (Int × (Tup (Int × Int)))), _, _, (y99.1 : (List (List Thing))), rfl, w99, (rep_pair q13 rep_i (rep_tup q14 h14)), (rep_lst q100 h100), ?_⟩
      refine (post_bind hm).mono (fun y101 hm v101 F101 H101 w101 s101 r101 => ?_) (fun _ z => z)
      replace h1 := A2.mono s101 h1
      replace q1 := s101.seq q1
      replace q13 := s101 _ _ q13
      replace h14 := A2.mono s101 h14
      replace q14 := s101 _ _ q14
      replace h17 := A2.mono s101 h17
      replace q17 := s101 _ _ q17
      replace h18 := A2.mono s101 h18
      replace q20 := s101 _ _ q20
      replace h100 := A2.mono s101 h100
      replace q100 := s101 _ _ q100
      replace h99 := A2.mono s101 h99
      replace sF := sF.trans s101
      refine ⟨_, rfl, _, rfl, _, _, _, (y12.1 : (Int × (Tup (Int × Int)))), _, _, rfl, w101, (rep_pair q13 rep_i (rep_tup q14 h14)), ?_⟩
      refine (post_bind hm).mono (fun y103 hm v103 F103 H103 w103 s103 r103 => ?_) (fun _ z => z)
      replace h1 := A2.mono s103 h1
      replace q1 := s103.seq q1
      replace q13 := s103 _ _ q13
      replace h14 := A2.mono s103 h14
      replace q14 := s103 _ _ q14
      replace h17 := A2.mono s103 h17
      replace q17 := s103 _ _ q17
      replace h18 := A2.mono s103 h18
      replace q20 := s103 _ _ q20
      replace h100 := A2.mono s103 h100
      replace q100 := s103 _ _ q100
      replace r101 := Rep.mono s103 r101
      replace h99 := A2.mono s103 h99
      replace sF := sF.trans s103
      have r104 : rep K F103 v103 (y103 : Fw) := r103
      obtain ⟨a104, u104a, u104b, rfl, q104⟩ := fw_open r104
      refine stepN ?_
      try dsimp only
      refine stepSeq (stepIf ?_)
      refine joinT hm (fun (j105 : Bool) c H' => c = j105 ∧ ∃ (F' : Hp), Same F103 F' ∧ W F' H' ((p2, .lst vs99) :: os)) ?_ ?_
      · intro Q105 P105 q105 hm
        refine ⟨_, rfl, _, _, _, _, rfl, rfl, SqT.of (w103.same _ _ q104), rfl, _, _, rfl, rfl, _, rfl, ?_⟩
        refine post_ite hm (fun k106 hm => ?_) (fun k106 hm => ?_)
        · skip
          exact q105 _ (post_ok hm) _ _ ⟨rfl, _, Same.refl _, w103⟩
        · skip
          refine ⟨_, rfl, rfl, _, isN_eq r101, _, rfl, ?_⟩
          refine post_ite hm (fun k108 hm => ?_) (fun k108 hm => ?_)
          · skip
            exact q105 _ (post_ok hm) _ _ ⟨rfl, _, Same.refl _, w103⟩
          · skip
            obtain ⟨t110, e110, e110b, r110a, r110b, hm⟩ := pb_lk q104 r104 hm
            obtain ⟨a111, vs111, rfl, q111, h111⟩ := r110a
            obtain ⟨t113, e113, hm⟩ := pb_ofO hm
            have r113 : rep K F103 v101 (some t113) := e113 ▸ r101
            replace r113 : v101 = V.int t113 := r113
            subst r113
            exact ⟨_, rfl, _, rfl, _, _, _, _, rfl, rfl, SqT.of (w103.same _ _ q104), rfl, _, _, _, rfl, .inl (SqL.of (w103.same _ _ q111)), h111.length, _, _, rfl, rfl, _, rfl, q105 _ (post_ok hm) _ _ ⟨rfl, _, Same.refl _, w103⟩⟩
      intro j105 c105 H105 hc105 hm
      obtain ⟨rfl, F105, s105, w105⟩ := hc105
      replace h1 := A2.mono s105 h1
      replace q1 := s105.seq q1
      replace q13 := s105 _ _ q13
      replace h14 := A2.mono s105 h14
      replace q14 := s105 _ _ q14
      replace h17 := A2.mono s105 h17
      replace q17 := s105 _ _ q17
      replace h18 := A2.mono s105 h18
      replace q20 := s105 _ _ q20
      replace h100 := A2.mono s105 h100
      replace q100 := s105 _ _ q100
      replace r101 := Rep.mono s105 r101
      replace q104 := s105 _ _ q104
      replace r104 := Rep.mono s105 r104
      replace h99 := A2.mono s105 h99
      replace sF := sF.trans s105
      refine post_ite hm (fun k115 hm => ?_) (fun k115 hm => ?_)
      · skip
        have w116 : W F105 _ (os) := w105.drop (pre := [])
        exact (post_ok hm) _ _ _ w116 sF rep_b
      · skip
        obtain ⟨c118, hm⟩ := pb_rng hm
        refine ⟨_, _, rfl, c118, ?_⟩
        refine forX (tw_rng (i := (2 : Int)) (j := (5 : Int))) hm (fun (g117 : Unit) σ H' => ∃ (F' : Hp) (o117_10 : Option V) (o117_11 : Option V) (o117_9 : Option V), σ = [some (.ref a1), some (.ref p2), some (.str t8), some (.ref a13), some (.ref a17), some (.ref p19), some (.ref a100), some v101, some (.ref a104), o117_9, o117_10, o117_11, none, none, none, none] ∧ Same F105 F' ∧ W F' H' ((p2, .lst vs99) :: os)) ⟨_, _, _, _, rfl, Same.refl _, w105⟩ (fun _ _ _ _ => trivial) ?_ ?_
        · -- a turn
          intro b117 g117 x117 σ117 H117 H117' N117 B117 P117 hI hy hN117 hB117 hZ117 hm
          obtain ⟨F117, o117_10, o117_11, o117_9, rfl, s117, w117⟩ := hI
          replace h1 := A2.mono s117 h1
          replace q1 := s117.seq q1
          replace q13 := s117 _ _ q13
          replace h14 := A2.mono s117 h14
          replace q14 := s117 _ _ q14
          replace h17 := A2.mono s117 h17
          replace q17 := s117 _ _ q17
          replace h18 := A2.mono s117 h18
          replace q20 := s117 _ _ q20
          replace h100 := A2.mono s117 h100
          replace q100 := s117 _ _ q100
          replace r101 := Rep.mono s117 r101
          replace q104 := s117 _ _ q104
          replace r104 := Rep.mono s117 r104
          replace h99 := A2.mono s117 h99
          replace sF := sF.trans s117
          obtain ⟨rfl, rfl⟩ := hy
          refine ⟨_, rfl, _, rfl, _, _, _, (x__law_script : Scr), _, rfl, w117, ⟨_, rfl, q1⟩, ?_⟩
          refine (post_bind hm).mono (fun y119 hm p119 us119 F119 H119 w119 s119 g119 => ?_) (fun _ z => z)
          replace h1 := A2.mono s119 h1
          replace q1 := s119.seq q1
          replace q13 := s119 _ _ q13
          replace h14 := A2.mono s119 h14
          replace q14 := s119 _ _ q14
          replace h17 := A2.mono s119 h17
          replace q17 := s119 _ _ q17
          replace h18 := A2.mono s119 h18
          replace q20 := s119 _ _ q20
          replace h100 := A2.mono s119 h100
          replace q100 := s119 _ _ q100
          replace r101 := Rep.mono s119 r101
          replace q104 := s119 _ _ q104
          replace r104 := Rep.mono s119 r104
          replace h99 := A2.mono s119 h99
          replace sF := sF.trans s119
          obtain ⟨c121, hm⟩ := pb_rng hm
          refine ⟨_, rfl, _, _, _, _, rfl, rfl, SqT.of (w119.same _ _ q13), rfl, _, rfl, c121.2.2.1, c121.2.2.2, fun D122 nD122 => ?_⟩
          refine lcFil (K := K) (tw_rng0 (j := y12.1.1)) hm (fun (g122 : (List Int)) F' os' => ∃ (vs122_0 : List V), os' = (p119, .lst vs122_0) :: (p2, .lst vs99) :: os ∧ A2 (rep K F') vs122_0 g122) w119 ⟨_, rfl, g119⟩ nD122 (fun g F' H' os' acc s w o => by obtain ⟨_, rfl, _⟩ := o; exact trivial) ?_ ?_
          · -- one turn
            intro b122 g122 x122 F122 H122 H122' os122 acc122 N122 M122 P122 s122 w122 o122 y122 hN122 hM122 hm
            obtain ⟨vs122_0, rfl, h122_0⟩ := o122
            replace h1 := A2.mono s122 h1
            replace q1 := s122.seq q1
            replace q13 := s122 _ _ q13
            replace h14 := A2.mono s122 h14
            replace q14 := s122 _ _ q14
            replace h17 := A2.mono s122 h17
            replace q17 := s122 _ _ q17
            replace h18 := A2.mono s122 h18
            replace q20 := s122 _ _ q20
            replace h100 := A2.mono s122 h100
            replace q100 := s122 _ _ q100
            replace r101 := Rep.mono s122 r101
            replace q104 := s122 _ _ q104
            replace r104 := Rep.mono s122 r104
            replace h99 := A2.mono s122 h99
            replace sF := sF.trans s122
            obtain ⟨rfl, rfl⟩ := y122
            have w124 : W F122 _ ((p119, .lst vs122_0) :: (D122, .lst acc122) :: (p2, .lst vs99) :: os) := w122.front (pre := [_])
            refine ⟨rfl, _, rfl, _, _, _, _, _, _, rfl, w124, h122_0, ?_⟩
            refine (post_bind hm).mono (fun y125 hm v125 vs125 F125 H125 w125 s125 r125 h125 => ?_) (fun _ z => z)
            replace h1 := A2.mono s125 h1
            replace q1 := s125.seq q1
            replace q13 := s125 _ _ q13
            replace h14 := A2.mono s125 h14
            replace q14 := s125 _ _ q14
            replace h17 := A2.mono s125 h17
            replace q17 := s125 _ _ q17
            replace h18 := A2.mono s125 h18
            replace q20 := s125 _ _ q20
            replace h100 := A2.mono s125 h100
            replace q100 := s125 _ _ q100
            replace r101 := Rep.mono s125 r101
            replace q104 := s125 _ _ q104
            replace r104 := Rep.mono s125 r104
            replace h99 := A2.mono s125 h99
            replace sF := sF.trans s125
            obtain rfl : v125 = V.int y125.1 := r125
            refine ⟨_, _, rfl, rfl, _, rfl, ?_⟩
            refine post_ite hm (fun k126 hm => ?_) (fun k126 hm => ?_)
            · skip
              have w127 : W F125 _ ((p2, .lst vs99) :: (p119, .lst vs125) :: (D122, .lst acc122) :: os) := w125.front (pre := [_, _])
              have w128 : W F125 _ ((p119, .lst vs125) :: (p2, .lst vs99) :: (D122, .lst acc122) :: os) := w127.front (pre := [_])
              have w129 : W F125 _ ((D122, .lst acc122) :: (p119, .lst vs125) :: (p2, .lst vs99) :: os) := w128.front (pre := [_, _])
              exact ⟨_, rfl, hN122 _ _ (post_ok hm) _ _ _ _ w129 s125 ⟨_, rfl, h125⟩ rep_i⟩
            · skip
              have w130 : W F125 _ ((p2, .lst vs99) :: (p119, .lst vs125) :: (D122, .lst acc122) :: os) := w125.front (pre := [_, _])
              have w131 : W F125 _ ((p119, .lst vs125) :: (p2, .lst vs99) :: (D122, .lst acc122) :: os) := w130.front (pre := [_])
              have w132 : W F125 _ ((D122, .lst acc122) :: (p119, .lst vs125) :: (p2, .lst vs99) :: os) := w131.front (pre := [_, _])
              exact hM122 _ (post_ok hm) _ _ _ w132 s125 ⟨_, rfl, h125⟩
          intro g122 us122 F122 H122 os122 ys122 s122 w122 o122 gg122 hm
          obtain ⟨vs122_0, rfl, h122_0⟩ := o122
          replace h1 := A2.mono s122 h1
          replace q1 := s122.seq q1
          replace q13 := s122 _ _ q13
          replace h14 := A2.mono s122 h14
          replace q14 := s122 _ _ q14
          replace h17 := A2.mono s122 h17
          replace q17 := s122 _ _ q17
          replace h18 := A2.mono s122 h18
          replace q20 := s122 _ _ q20
          replace h100 := A2.mono s122 h100
          replace q100 := s122 _ _ q100
          replace r101 := Rep.mono s122 r101
          replace q104 := s122 _ _ q104
          replace r104 := Rep.mono s122 r104
          replace h99 := A2.mono s122 h99
          replace sF := sF.trans s122
          obtain ⟨F134, s134, w134, q134⟩ : ∃ F', Same F122 F' ∧ W F' _ ((p119, .lst vs122_0) :: (p2, .lst vs99) :: os) ∧ F' D122 = some (.lst us122) := w122.freezeE (pre := [])
          replace h1 := A2.mono s134 h1
          replace q1 := s134.seq q1
          replace q13 := s134 _ _ q13
          replace h14 := A2.mono s134 h14
          replace q14 := s134 _ _ q14
          replace h17 := A2.mono s134 h17
          replace q17 := s134 _ _ q17
          replace h18 := A2.mono s134 h18
          replace q20 := s134 _ _ q20
          replace h100 := A2.mono s134 h100
          replace q100 := s134 _ _ q100
          replace r101 := Rep.mono s134 r101
          replace q104 := s134 _ _ q104
          replace r104 := Rep.mono s134 r104
          replace h99 := A2.mono s134 h99
          replace h122_0 := A2.mono s134 h122_0
          replace gg122 := A2.mono s134 gg122
          replace sF := sF.trans s134
          refine stepN ?_
          try dsimp only
          refine stepIf ?_
          refine joinT hm (fun (j135 : Bool) c H' => c = j135 ∧ ∃ (F' : Hp), Same F134 F' ∧ W F' H' ((p119, .lst vs122_0) :: (p2, .lst vs99) :: os)) ?_ ?_
          · intro Q135 P135 q135 hm
            refine ⟨_, rfl, _, rfl, _, rfl, _, _, _, (y12.1 : (Int × (Tup (Int × Int)))), _, (ys122 : (List Int)), _, rfl, w134, (rep_pair q13 rep_i (rep_tup q14 h14)), (rep_lst q134 gg122), ?_⟩
            refine (post_bind hm).mono (fun y136 hm v136 F136 H136 w136 s136 r136 => ?_) (fun _ z => z)
            replace h1 := A2.mono s136 h1
            replace q1 := s136.seq q1
            replace q13 := s136 _ _ q13
            replace h14 := A2.mono s136 h14
            replace q14 := s136 _ _ q14
            replace h17 := A2.mono s136 h17
            replace q17 := s136 _ _ q17
            replace h18 := A2.mono s136 h18
            replace q20 := s136 _ _ q20
            replace h100 := A2.mono s136 h100
            replace q100 := s136 _ _ q100
            replace r101 := Rep.mono s136 r101
            replace q104 := s136 _ _ q104
            replace r104 := Rep.mono s136 r104
            replace gg122 := A2.mono s136 gg122
            replace q134 := s136 _ _ q134
            replace h122_0 := A2.mono s136 h122_0
            replace h99 := A2.mono s136 h99
            replace sF := sF.trans s136
            obtain rfl : v136 = V.bl y136 := r136
            refine ⟨_, rfl, ?_⟩
            refine post_ite hm (fun k137 hm => ?_) (fun k137 hm => ?_)
            · skip
              obtain ⟨t138, e138, e138b, r138a, r138b, hm⟩ := pb_lk q104 r104 hm
              obtain ⟨a139, vs139, rfl, q139, h139⟩ := r138a
              exact ⟨_, rfl, _, _, _, rfl, .inl (SqL.of (w136.same _ _ q134)), gg122.length, _, rfl, _, _, _, _, rfl, rfl, SqT.of (w136.same _ _ q104), rfl, _, _, _, rfl, .inl (SqL.of (w136.same _ _ q139)), h139.length, _, _, rfl, rfl, _, rfl, q135 _ (post_ok hm) _ _ ⟨rfl, _, s136, w136⟩⟩
            · skip
              exact q135 _ (post_ok hm) _ _ ⟨rfl, _, s136, w136⟩
          intro j135 c135 H135 hc135 hm
          obtain ⟨rfl, F135, s135, w135⟩ := hc135
          replace h1 := A2.mono s135 h1
          replace q1 := s135.seq q1
          replace q13 := s135 _ _ q13
          replace h14 := A2.mono s135 h14
          replace q14 := s135 _ _ q14
          replace h17 := A2.mono s135 h17
          replace q17 := s135 _ _ q17
          replace h18 := A2.mono s135 h18
          replace q20 := s135 _ _ q20
          replace h100 := A2.mono s135 h100
          replace q100 := s135 _ _ q100
          replace r101 := Rep.mono s135 r101
          replace q104 := s135 _ _ q104
          replace r104 := Rep.mono s135 r104
          replace gg122 := A2.mono s135 gg122
          replace q134 := s135 _ _ q134
          replace h122_0 := A2.mono s135 h122_0
          replace h99 := A2.mono s135 h99
          replace sF := sF.trans s135
          refine post_ite hm (fun k143 hm => ?_) (fun k143 hm => ?_)
          · skip
            have hm := hZ117 _ (post_ok hm)
            have w144 : W F135 _ ((p2, .lst vs99) :: os) := w135.drop (pre := [])
            have w145 : W F135 _ (os) := w144.drop (pre := [])
            exact (post_ok hm) _ _ _ w145 sF rep_b
          · skip
            have w146 : W F135 _ ((p2, .lst vs99) :: os) := w135.drop (pre := [])
            exact hN117 _ (post_ok hm) _ _ ⟨_, _, _, _, rfl, (s117.trans (s119.trans (s122.trans (s134.trans s135)))), w146⟩
        intro g117 σ117 H117 hI hm
        obtain ⟨F117, o117_10, o117_11, o117_9, rfl, s117, w117⟩ := hI
        replace h1 := A2.mono s117 h1
        replace q1 := s117.seq q1
        replace q13 := s117 _ _ q13
        replace h14 := A2.mono s117 h14
        replace q14 := s117 _ _ q14
        replace h17 := A2.mono s117 h17
        replace q17 := s117 _ _ q17
        replace h18 := A2.mono s117 h18
        replace q20 := s117 _ _ q20
        replace h100 := A2.mono s117 h100
        replace q100 := s117 _ _ q100
        replace r101 := Rep.mono s117 r101
        replace q104 := s117 _ _ q104
        replace r104 := Rep.mono s117 r104
        replace h99 := A2.mono s117 h99
        replace sF := sF.trans s117
        obtain ⟨c147, hm⟩ := pb_mul hm
        refine ⟨_, rfl, _, _, _, _, rfl, rfl, SqT.of (w117.same _ _ q13), rfl, _, rfl, _, _, _, _, rfl, rfl, SqT.of (w117.same _ _ q13), rfl, _, _, _, rfl, .inr (SqT.of (w117.same _ _ q14)), h14.length, _, rfl, _, rfl, _, _, rfl, rfl, _, _, rfl, rfl, c147, _, _, rfl, rfl, (by constructor <;> decide), _, _, rfl, rfl, ?_⟩
        refine stepN ?_
        try dsimp only
        refine stepSeq (stepIf ?_)
        refine cutT (fun c H' => c = (((decide (t8 = ("places" : Str))) && ((decide ((y12.1.2.l.length : Int) = ((y12.1.1 * (y12.1.1 - (1 : Int))) / (2 : Int)))) && (decide ((1 : Int) < y12.1.1))))) ∧ ∃ F', Same F117 F' ∧ W F' H' ((p2, .lst vs99) :: os)) (fun Q149 q149 => ?_) (fun c149 H149 hc149 => ?_)
        · -- the ways
          refine ⟨_, rfl, _, _, rfl, rfl, _, rfl, ?_⟩
          refine ifB (fun k150 => ?_) (fun k150 => ?_)
          · skip
            refine ⟨_, rfl, _, rfl, ?_⟩
            refine ifB (fun k151 => ?_) (fun k151 => ?_)
            · skip
              exact ⟨_, rfl, _, _, rfl, rfl, _, rfl, q149 _ _ ⟨(by first | rfl | exact absurd k150 (by decide) | exact absurd k151 (by decide) | (simp [k150, k151]; done) | ((try simp only [Bool.not_eq_true] at k150); (try simp only [Bool.not_eq_true] at k151); simp only [k150, k151, Bool.true_or, Bool.false_or, Bool.or_false, Bool.or_true, Bool.true_and, Bool.false_and, Bool.and_true, Bool.and_false])), _, Same.refl _, w117⟩⟩
            · skip
              exact q149 _ _ ⟨(by first | rfl | exact absurd k150 (by decide) | exact absurd k151 (by decide) | (simp [k150, k151]; done) | ((try simp only [Bool.not_eq_true] at k150); (try simp only [Bool.not_eq_true] at k151); simp only [k150, k151, Bool.true_or, Bool.false_or, Bool.or_false, Bool.or_true, Bool.true_and, Bool.false_and, Bool.and_true, Bool.and_false])), _, Same.refl _, w117⟩
          · skip
            exact q149 _ _ ⟨(by first | rfl | exact absurd k150 (by decide) | (simp [k150]; done) | ((try simp only [Bool.not_eq_true] at k150); simp only [k150, Bool.true_or, Bool.false_or, Bool.or_false, Bool.or_true, Bool.true_and, Bool.false_and, Bool.and_true, Bool.and_false])), _, Same.refl _, w117⟩
        obtain ⟨rfl, F149, s149, w149⟩ := hc149
        replace h1 := A2.mono s149 h1
        replace q1 := s149.seq q1
        replace q13 := s149 _ _ q13
        replace h14 := A2.mono s149 h14
        replace q14 := s149 _ _ q14
        replace h17 := A2.mono s149 h17
        replace q17 := s149 _ _ q17
        replace h18 := A2.mono s149 h18
        replace q20 := s149 _ _ q20
        replace h100 := A2.mono s149 h100
        replace q100 := s149 _ _ q100
        replace r101 := Rep.mono s149 r101
        replace q104 := s149 _ _ q104
        replace r104 := Rep.mono s149 r104
        replace h99 := A2.mono s149 h99
        replace sF := sF.trans s149
        refine post_ite hm (fun k155 hm => ?_) (fun k155 hm => ?_)
        · skip
          try dsimp only
          refine stepRet ?_
          refine joinE hm (fun (j156 : Bool) c H' => c = V.bl j156 ∧ ∃ (F' : Hp), Same F149 F' ∧ W F' H' ((p2, .lst vs99) :: os)) ?_ ?_
          · intro Q156 P156 q156 hm
            obtain ⟨t157, e157, hm⟩ := pb_ofO hm
            have r157 : rep K F149 v101 (some t157) := e157 ▸ r101
            replace r157 : v101 = V.int t157 := r157
            subst r157
            obtain ⟨t158, e158, e158b, r158a, r158b, hm⟩ := pb_lk q104 r104 hm
            obtain ⟨a159, vs159, rfl, q159, h159⟩ := r158a
            refine ⟨_, rfl, _, rfl, _, _, _, _, rfl, rfl, SqT.of (w149.same _ _ q104), rfl, _, _, _, rfl, .inl (SqL.of (w149.same _ _ q159)), h159.length, _, _, rfl, rfl, _, rfl, ?_⟩
            refine post_ite hm (fun k161 hm => ?_) (fun k161 hm => ?_)
            · skip
              exact ⟨_, rfl, _, _, rfl, rfl, _, _, rfl, rfl, q156 _ (post_ok hm) _ _ ⟨rfl, _, Same.refl _, w149⟩⟩
            · skip
              exact q156 _ (post_ok hm) _ _ ⟨rfl, _, Same.refl _, w149⟩
          intro j156 c156 H156 hc156 hm
          obtain ⟨rfl, F156, s156, w156⟩ := hc156
          replace h1 := A2.mono s156 h1
          replace q1 := s156.seq q1
          replace q13 := s156 _ _ q13
          replace h14 := A2.mono s156 h14
          replace q14 := s156 _ _ q14
          replace h17 := A2.mono s156 h17
          replace q17 := s156 _ _ q17
          replace h18 := A2.mono s156 h18
          replace q20 := s156 _ _ q20
          replace h100 := A2.mono s156 h100
          replace q100 := s156 _ _ q100
          replace r101 := Rep.mono s156 r101
          replace q104 := s156 _ _ q104
          replace r104 := Rep.mono s156 r104
          replace h99 := A2.mono s156 h99
          replace sF := sF.trans s156
          have w164 : W F156 _ (os) := w156.drop (pre := [])
          exact (post_ok hm) _ _ _ w164 sF rep_b
        · skip
          have w165 : W F149 _ (os) := w149.drop (pre := [])
          exact (post_ok hm) _ _ _ w165 sF rep_b
end
end G
/-! MA2: webs drawn from a pool -/
namespace G
open PySem L2 Z
structure TiesOk (b : Nat) (n : Int) (ts : List (Int × Int)) : Prop where
  rg : ∀ p ∈ ts, 0 ≤ p.1 ∧ p.1 < p.2 ∧ p.2 < n
  nd : ts.Nodup
  conn : Conn n ts
  len : ts.length ≤ b
theorem TiesOk.up {b c : Nat} {n : Int} {ts : List (Int × Int)} (h : TiesOk b n ts) (hl : b ≤ c) : TiesOk c n ts := ⟨h.rg, h.nd, h.conn, Nat.le_trans h.len hl⟩
structure WebOk (n : Int) (ts : List (Int × Int)) : Prop where
  n1 : 1 ≤ n
  n60 : n ≤ 60
  rg : ∀ p ∈ ts, 0 ≤ p.1 ∧ p.1 < p.2 ∧ p.2 < n
  nd : ts.Nodup
  conn : Conn n ts
  len : ts.length ≤ 700
  srt : sortP ts = ts
theorem WebOk.rg4 {n : Int} {ts : List (Int × Int)} (h : WebOk n ts) : ∀ q ∈ ts, 0 ≤ q.1 ∧ q.1 < n ∧ 0 ≤ q.2 ∧ q.2 < n := fun q hq => by
  have := h.rg q hq
  omega
def moved (o : List Int) (p : Int × Int) : Int × Int := (min2 (o.getD p.1.toNat 0) (o.getD p.2.toNat 0), max2 (o.getD p.1.toNat 0) (o.getD p.2.toNat 0))
theorem perm_get {o : List Int} {n : Int} (h : o.Perm (rng 0 n)) (n0 : 0 ≤ n) {k : Int} (k0 : 0 ≤ k) (k1 : k < n) : ∃ x, o[k.toNat]? = some x ∧ 0 ≤ x ∧ x < n := by
  have hl := h.length_eq
  rw [rng_length] at hl
  have hk : k.toNat < o.length := by omega
  refine ⟨o[k.toNat], List.getElem?_eq_getElem hk, ?_⟩
  exact rng_mem.mp (h.mem_iff.mp (List.getElem_mem hk))
theorem perm_getD {o : List Int} {n : Int} (h : o.Perm (rng 0 n)) (n0 : 0 ≤ n) {k : Int} (k0 : 0 ≤ k) (k1 : k < n) : 0 ≤ o.getD k.toNat 0 ∧ o.getD k.toNat 0 < n := by
  obtain ⟨x, e, x0, x1⟩ := perm_get h n0 k0 k1
  rw [List.getD_eq_getElem?_getD, e]
  exact ⟨x0, x1⟩
theorem perm_inj {o : List Int} {n : Int} (h : o.Perm (rng 0 n)) (n0 : 0 ≤ n) {j k : Int} (j0 : 0 ≤ j) (j1 : j < n) (k0 : 0 ≤ k) (k1 : k < n) (e : o.getD j.toNat 0 = o.getD k.toNat 0) : j = k := by
  have hl := h.length_eq
  rw [rng_length] at hl
  have hnd : o.Nodup := (h.nodup_iff).mpr (rng_nodup 0 n)
  have hj : j.toNat < o.length := by omega
  have hk : k.toNat < o.length := by omega
  rw [List.getD_eq_getElem?_getD, List.getD_eq_getElem?_getD, List.getElem?_eq_getElem hj, List.getElem?_eq_getElem hk] at e
  have e' : o[j.toNat] = o[k.toNat] := e
  have hpw := List.pairwise_iff_getElem.mp hnd
  rcases Nat.lt_trichotomy j.toNat k.toNat with q | q | q
  · exact absurd e' (hpw _ _ hj hk q)
  · omega
  · exact absurd e'.symm (hpw _ _ hk hj q)
theorem perm_surj {o : List Int} {n : Int} (h : o.Perm (rng 0 n)) (n0 : 0 ≤ n) {x : Int} (x0 : 0 ≤ x) (x1 : x < n) : ∃ k, 0 ≤ k ∧ k < n ∧ o.getD k.toNat 0 = x := by
  have hx : x ∈ o := h.mem_iff.mpr (rng_mem.mpr ⟨x0, x1⟩)
  obtain ⟨i, hi⟩ := List.mem_iff_getElem?.mp hx
  have hl := h.length_eq
  rw [rng_length] at hl
  have hil := (List.getElem?_eq_some_iff.mp hi).1
  refine ⟨i, by omega, by omega, ?_⟩
  rw [List.getD_eq_getElem?_getD, Int.toNat_natCast, hi]
  rfl
theorem mm_cases (a b : Int) : (min2 a b = a ∧ max2 a b = b ∧ a ≤ b) ∨ (min2 a b = b ∧ max2 a b = a ∧ b ≤ a) := by
  unfold min2 max2
  by_cases h : b < a
  · rw [if_pos h, if_neg (by omega)]
    exact .inr ⟨rfl, rfl, by omega⟩
  · rw [if_neg h]
    by_cases h2 : b > a
    · rw [if_pos h2]
      exact .inl ⟨rfl, rfl, by omega⟩
    · rw [if_neg h2]
      have : a = b := by omega
      subst this
      exact .inl ⟨rfl, rfl, by omega⟩
theorem moved_inj {o : List Int} {n : Int} (h : o.Perm (rng 0 n)) (n0 : 0 ≤ n) {p q : Int × Int} (hp : 0 ≤ p.1 ∧ p.1 < p.2 ∧ p.2 < n) (hq : 0 ≤ q.1 ∧ q.1 < q.2 ∧ q.2 < n) (e : moved o p = moved o q) : p = q := by
  unfold moved at e
  injection e with e1 e2
  have i1 := fun e => perm_inj h n0 (j := p.1) (k := q.1) hp.1 (by omega) hq.1 (by omega) e
  have i2 := fun e => perm_inj h n0 (j := p.2) (k := q.2) (by omega) hp.2.2 (by omega) hq.2.2 e
  have i3 := fun e => perm_inj h n0 (j := p.1) (k := q.2) hp.1 (by omega) (by omega) hq.2.2 e
  have i4 := fun e => perm_inj h n0 (j := p.2) (k := q.1) (by omega) hp.2.2 hq.1 (by omega) e
  rcases mm_cases (o.getD p.1.toNat 0) (o.getD p.2.toNat 0) with ⟨a1, a2, _⟩ | ⟨a1, a2, _⟩ <;> rcases mm_cases (o.getD q.1.toNat 0) (o.getD q.2.toNat 0) with ⟨b1, b2, _⟩ | ⟨b1, b2, _⟩ <;> rw [a1, b1] at e1 <;> rw [a2, b2] at e2
  · exact Prod.ext (i1 e1) (i2 e2)
  · have := i3 e1
    have := i4 e2
    omega
  · have := i4 e1
    have := i3 e2
    omega
  · exact Prod.ext (i1 e2) (i2 e1)
theorem moved_ok {o : List Int} {n : Int} {ts : List (Int × Int)} (ho : o.Perm (rng 0 n)) (n0 : 1 ≤ n) (n1 : n ≤ 60) (h : TiesOk 700 n ts) : WebOk n (sortP (ts.map (moved o))) := by
  have hperm := sortP_perm (ts.map (moved o))
  refine ⟨n0, n1, fun p hp => ?_, ?_, ?_, ?_, ?_⟩
  · obtain ⟨q, hq, rfl⟩ := List.mem_map.mp (hperm.mem_iff.mp hp)
    have hr := h.rg q hq
    have r1 := perm_getD ho (by omega) (k := q.1) hr.1 (by omega)
    have r2 := perm_getD ho (by omega) (k := q.2) (by omega) hr.2.2
    have ne : o.getD q.1.toNat 0 ≠ o.getD q.2.toNat 0 := fun e => by
      have := perm_inj ho (by omega) hr.1 (by omega) (by omega) hr.2.2 e
      omega
    unfold moved
    dsimp only
    rcases mm_cases (o.getD q.1.toNat 0) (o.getD q.2.toNat 0) with ⟨a1, a2, _⟩ | ⟨a1, a2, _⟩ <;> rw [a1, a2] <;> omega
  · refine hperm.nodup_iff.mpr ?_
    refine List.Pairwise.map (R := fun p q => p ≠ q ∧ p ∈ ts ∧ q ∈ ts) _ (fun p q hpq e => hpq.1 (moved_inj ho (by omega) (h.rg p hpq.2.1) (h.rg q hpq.2.2) e)) ?_
    exact h.nd.imp_of_mem fun hp hq hne => ⟨hne, hp, hq⟩
  · intro S h0 hc
    obtain ⟨r, r0, r1, er⟩ := perm_surj ho (by omega) (x := 0) (by omega) (by omega)
    have key := h.conn.any (S := fun k => S (o.getD k.toNat 0)) r0 r1 (by show S (o.getD r.toNat 0); rw [er]; exact h0) fun p hp => by
      have hm : moved o p ∈ sortP (ts.map (moved o)) := hperm.mem_iff.mpr (List.mem_map.mpr ⟨p, hp, rfl⟩)
      have := hc _ hm
      unfold moved at this
      dsimp only at this
      rcases mm_cases (o.getD p.1.toNat 0) (o.getD p.2.toNat 0) with ⟨a1, a2, _⟩ | ⟨a1, a2, _⟩
      · rw [a1, a2] at this
        exact this
      · rw [a1, a2] at this
        exact this.symm
    intro k k0 k1
    obtain ⟨j, j0, j1, ej⟩ := perm_surj ho (by omega) k0 k1
    rw [← ej]
    exact key j j0 j1
  · rw [hperm.length_eq, List.length_map]
    exact h.len
  · exact (sortP_eq (List.Perm.refl _) (sortP_sorted _)).symm
/-! ### the purse -/
def PuOk (s : List Int) : Prop := ∃ a : Int, s = [a] ∧ 0 ≤ a
theorem take_ok {s : List Int} {m : Int} (h : PuOk s) (h0 : 0 < m) (h1 : m < 1073741824) : Post (law_take s m) (fun r => 0 ≤ r.1 ∧ r.1 < m ∧ PuOk r.2) noX := by
  obtain ⟨a, rfl, a0⟩ := h
  unfold law_take
  refine po_getE (x := a) rfl (po_mod h0 fun r0 r1 => po_getE (x := a) rfl (po_div h0 h1 (po_set (Int.le_refl _) (by show (0 : Int) < 1; decide) ?_)))
  exact ⟨r0, r1, a / m, rfl, Int.ediv_nonneg a0 (by omega)⟩
theorem ten30 : ((10 : Int) ^ ((30 : Int) : Int).toNat) = 1000000000000000000000000000000 := by decide +kernel
theorem ten18 : ((10 : Int) ^ ((18 : Int) : Int).toNat) = 1000000000000000000 := by decide +kernel
theorem fits400 {i : Int} (h0 : 0 ≤ i) (h1 : i < 10000000000000000000000000000000000000000) : i.natAbs < 2 ^ 400 := by
  have h : i.natAbs < 10000000000000000000000000000000000000000 := by omega
  exact Nat.lt_of_lt_of_le h (by decide +kernel)
theorem purse_ok {sc : Scr} {k : Int} (k0 : 0 ≤ k) (k1 : k < 1000) : Post (law_purse sc k) PuOk noX := by
  unfold law_purse
  rw [ten30, ten18]
  refine po_bind (Q := fun _ => True) (po_if (fun c => ?_) fun c => po_if (fun c2 => ?_) fun _ => trivial) fun g2 _ => po_if (fun c => ?_) fun c => ?_
  · exact po_get k0 (of_decide_eq_true c) fun t _ _ => trivial
  · have hl : sc.l ≠ [] := by
      intro e
      obtain ⟨l⟩ := sc
      have e' : l = [] := e
      subst e'
      rw [decide_eq_true rfl] at c2
      cases c2
    have hp : (0 : Int) < (sc.l.length : Int) := by
      have := List.length_pos_iff.mpr hl
      omega
    exact po_mod hp fun r0 r1 => po_get r0 r1 fun t _ _ => trivial
  · have c' := of_decide_eq_true c
    exact ⟨g2, rfl, by omega⟩
  · have r0 : 0 ≤ g2 % (1000000000000000000000000000000 + 57) := Int.emod_nonneg _ (by decide)
    have r1 : g2 % (1000000000000000000000000000000 + 57) < (1000000000000000000000000000000 + 57) := Int.emod_lt_of_pos _ (by decide)
    generalize g2 % (1000000000000000000000000000000 + 57) = r at r0 r1
    rw [po_sq (fits400 (by omega) (by omega)), ok_bind]
    generalize ((r + 7919 * k) + 101) * ((r + 7919 * k) + 101) = q
    have s0 : 0 ≤ q % (1000000000000000000000000000000 + 57) := Int.emod_nonneg _ (by decide)
    have s1 : q % (1000000000000000000000000000000 + 57) < (1000000000000000000000000000000 + 57) := Int.emod_lt_of_pos _ (by decide)
    generalize q % (1000000000000000000000000000000 + 57) = s at s0 s1
    rw [po_mulW (fits400 (by omega) (by omega)) (fits400 (by decide) (by decide)), ok_bind]
    exact ⟨_, rfl, Int.emod_nonneg _ (by decide)⟩
theorem order_ok {s : List Int} {n : Int} (h : PuOk s) (n0 : 0 ≤ n) (n1 : n ≤ 1000) : Post (law_order s n) (fun r => r.1.Perm (rng 0 n) ∧ PuOk r.2) noX := by
  unfold law_order
  refine po_rng (by decide) (by decide) (by omega) (by omega) ?_
  refine po_bind (po_foldP (fun pre (g : List Int × List Int) => g.1.Perm pre ∧ PuOk g.2) ⟨List.Perm.refl _, h⟩ ?_) fun g hg => po_ok hg
  rintro pre ⟨l, p⟩ x post e ⟨h1, h2⟩
  have h1' : l.Perm pre := h1
  have hx := rng_pre e
  obtain ⟨_, x0, x1⟩ := rng_split e
  have hl := h1'.length_eq
  refine po_bind (take_ok h2 (by omega) (by omega)) fun y ⟨y0, y1, hy⟩ => ?_
  have hi : insR l y.1 x = R.ok (l.take y.1.toNat ++ [x] ++ l.drop y.1.toNat) := by
    unfold insR
    rw [if_pos ⟨by omega, y0, by omega⟩]
  show Post (insR l y.1 x >>= _) _ _
  rw [hi, ok_bind]
  refine ⟨?_, hy⟩
  show (l.take y.1.toNat ++ [x] ++ l.drop y.1.toNat).Perm (pre ++ [x])
  have p1 : (l.take y.1.toNat ++ [x] ++ l.drop y.1.toNat).Perm (l.take y.1.toNat ++ l.drop y.1.toNat ++ [x]) := by
    rw [List.append_assoc, List.append_assoc]
    exact List.Perm.append_left _ List.perm_append_comm
  rw [List.take_append_drop] at p1
  exact p1.trans (h1'.append_right _)
/-! ### the pairs -/
structure PairsOk (n k : Int) (g : List (Int × Int)) : Prop where
  rg : ∀ p ∈ g, 0 ≤ p.1 ∧ p.1 < n ∧ 0 ≤ p.2 ∧ p.2 < n ∧ p.1 ≠ p.2
  dn : ∀ j, 1 ≤ j → j < k → ∃ i, 0 ≤ i ∧ i < j ∧ (i, j) ∈ g
theorem PairsOk.add {n k : Int} {g us : List (Int × Int)} (h : PairsOk n k g) (hu : ∀ p ∈ us, 0 ≤ p.1 ∧ p.1 < n ∧ 0 ≤ p.2 ∧ p.2 < n ∧ p.1 ≠ p.2) : PairsOk n k (g ++ us) :=
  ⟨fun p hp => (List.mem_append.mp hp).elim (h.rg p) (hu p), fun j j1 jk => let ⟨i, a, b, c⟩ := h.dn j j1 jk; ⟨i, a, b, List.mem_append_left _ c⟩⟩
theorem PairsOk.next {n k : Int} {g : List (Int × Int)} (h : PairsOk n k g) (hk : 1 ≤ k → ∃ i, 0 ≤ i ∧ i < k ∧ (i, k) ∈ g) : PairsOk n (k + 1) g := by
  refine ⟨h.rg, fun j j1 jk => ?_⟩
  by_cases e : j = k
  · subst e
    exact hk j1
  · exact h.dn j j1 (by omega)
theorem repL_one {α : Type} (x : α) (b : Bool) : repL [x] (b2i b) = if b = true then [x] else [] := by
  cases b <;> rfl
theorem pairs_ok {s : List Int} {n way : Int} (h : PuOk s) (n0 : 1 ≤ n) (n1 : n ≤ 60) (w0 : 0 ≤ way) : Post (law_pairs s n way) (fun r => PairsOk n n r.1 ∧ r.1.length < 5000 ∧ PuOk r.2) noX := by
  unfold law_pairs
  refine po_rng (by decide) (by decide) (by omega) (by omega) ?_
  refine po_bind (po_foldP (fun pre (g : List (Int × Int) × List Int) => PairsOk n (1 + pre.length) g.1 ∧ g.1.length ≤ 61 * pre.length ∧ PuOk g.2) ⟨⟨fun _ hp => (nomatch hp), fun j j1 jk => by
      have : j < 1 := jk
      omega⟩, Nat.le_refl _, h⟩ ?_) fun g4 ⟨g1, g2, g3⟩ => ?_
  · rintro pre ⟨g, p⟩ x post e ⟨h1, h2, h3⟩
    have h1' : PairsOk n (1 + pre.length) g := h1
    have h2' : g.length ≤ 61 * pre.length := h2
    have hx := rng_pre e
    obtain ⟨_, x1, xn⟩ := rng_split e
    refine po_bind (take_ok h3 (by omega) (by omega)) fun y ⟨y0, y1, hy⟩ => ?_
    have hm0 : 0 ≤ min2 way 3 ∧ min2 way 3 < 4 := by
      rcases mm_cases way 3 with ⟨e1, _, _⟩ | ⟨e1, _, _⟩ <;> rw [e1] <;> omega
    refine po_get hm0.1 hm0.2 fun t ht _ => ?_
    have ht' : 0 ≤ t ∧ t < x := by
      rcases List.mem_cons.mp ht with rfl | ht
      · omega
      · rcases List.mem_cons.mp ht with rfl | ht
        · omega
        · rcases List.mem_cons.mp ht with rfl | ht
          · omega
          · rcases List.mem_cons.mp ht with rfl | ht
            · omega
            · cases ht
    refine po_app (by show g.length < 100000; omega) ?_
    have q1 : PairsOk n (1 + pre.length + 1) (g ++ [(t, x)]) := by
      refine (h1'.add (us := [(t, x)]) fun p hp => ?_).next fun _ => ⟨t, ht'.1, by omega, ?_⟩
      · rw [List.mem_singleton.mp hp]
        exact ⟨ht'.1, by show t < n; omega, by show 0 ≤ x; omega, xn, by show t ≠ x; omega⟩
      · rw [← hx]
        exact List.mem_append_right _ (List.mem_singleton.mpr rfl)
    have lp : ((pre ++ [x]).length : Int) = pre.length + 1 := by rw [List.length_append]; rfl
    have lp' : (pre ++ [x]).length = pre.length + 1 := by rw [List.length_append]; rfl
    have q1' : PairsOk n (1 + ((pre ++ [x]).length : Int)) (g ++ [(t, x)]) := by rw [lp, show (1 : Int) + (pre.length + 1) = 1 + pre.length + 1 by omega]; exact q1
    refine po_if (fun _ => ?_) fun _ => ?_
    · refine po_rng (by decide) (by decide) (by omega) (by omega) ?_
      refine po_mapGE (g := fun b => (b, x)) (by rw [rng_length]; omega) (fun b _ => rfl) ?_
      have ll : ((rng 0 x).map fun b => (b, x)).length = x.toNat := by rw [List.length_map, rng_length]; omega
      refine po_extend (by rw [ll, List.length_append]; show g.length + 1 + x.toNat < 100000; omega) ⟨q1'.add fun p hp => ?_, ?_, hy⟩
      · obtain ⟨b, hb, rfl⟩ := List.mem_map.mp hp
        have := rng_mem.mp hb
        exact ⟨this.1, by show b < n; omega, by show 0 ≤ x; omega, xn, by show b ≠ x; omega⟩
      · show ((g ++ [(t, x)]) ++ _).length ≤ _
        rw [List.length_append, ll, List.length_append, lp']
        show g.length + 1 + x.toNat ≤ _
        omega
    · refine ⟨q1', ?_, hy⟩
      show (g ++ [(t, x)]).length ≤ _
      rw [List.length_append, lp']
      show g.length + 1 ≤ _
      omega
  · have lr : (rng 1 n).length = (n - 1).toNat := rng_length 1 n
    rw [lr, show (1 : Int) + (((n - 1).toNat : Nat) : Int) = n by omega] at g1
    rw [lr] at g2
    refine po_bind (Q := fun g => PairsOk n n g ∧ g.length < 3700) (po_if (fun c => ?_) fun _ => ⟨g1, by omega⟩) fun g26 ⟨k1, k2⟩ => ?_
    · have c' : (decide (way = 1) && decide ((2 : Int) < n)) = true := c
      rw [Bool.and_eq_true] at c'
      have n2 := of_decide_eq_true c'.2
      refine po_app (by omega) ⟨g1.add fun p hp => ?_, ?_⟩
      · rw [List.mem_singleton.mp hp]
        exact ⟨by show (0 : Int) ≤ 0; omega, by show (0 : Int) < n; omega, by show 0 ≤ n - 1; omega, by show n - 1 < n; omega, by show (0 : Int) ≠ n - 1; omega⟩
      · rw [List.length_append]
        show g4.1.length + 1 < _
        omega
    · refine po_bind (Q := fun (g : List (Int × Int) × List Int) => PairsOk n n g.1 ∧ g.1.length < 5000 ∧ PuOk g.2) (po_if (fun c => ?_) fun _ => ⟨k1, by show g26.length < 5000; omega, g3⟩) fun g35 hg => po_ok hg
      refine po_bind (take_ok g3 (by decide) (by decide)) fun y ⟨y0, y1, hy⟩ => ?_
      refine po_rng (by decide) (by decide) (by omega) (by omega) ?_
      refine po_bind (po_foldP (fun pre (g : List Int × List (Int × Int)) => PuOk g.1 ∧ PairsOk n n g.2 ∧ g.2.length ≤ 3700 + pre.length) ⟨hy, k1, by show g26.length ≤ 3700 + 0; omega⟩ ?_) fun g ⟨a1, a2, a3⟩ => ?_
      · rintro pre ⟨p, g⟩ x post e ⟨h1, h2, h3⟩
        have h3' : g.length ≤ 3700 + pre.length := h3
        have hx := rng_pre e
        obtain ⟨_, x1, xn⟩ := rng_split e
        refine po_bind (take_ok h1 (by omega) (by omega)) fun u ⟨u0, u1, hu⟩ => po_bind (take_ok hu (by omega) (by omega)) fun v ⟨v0, v1, hv⟩ => ?_
        have hb : 0 ≤ b2i (!decide (u.1 = v.1)) ∧ b2i (!decide (u.1 = v.1)) < 1000 := by
          cases (!decide (u.1 = v.1)) <;> decide
        refine po_rep hb.1 hb.2 (by show 1 < 100; decide) ?_
        rw [repL_one]
        have lx : (pre ++ [x]).length = pre.length + 1 := by rw [List.length_append]; rfl
        by_cases q : (!decide (u.1 = v.1)) = true
        · rw [if_pos q]
          have hne : u.1 ≠ v.1 := by
            intro z
            rw [decide_eq_true z] at q
            cases q
          refine po_extend (by show g.length + 1 < 100000; omega) ⟨hv, h2.add fun p hp => ?_, ?_⟩
          · rw [List.mem_singleton.mp hp]
            exact ⟨u0, u1, v0, v1, hne⟩
          · show (g ++ [_]).length ≤ _
            rw [List.length_append, lx]
            show g.length + 1 ≤ _
            omega
        · rw [if_neg q]
          refine po_extend (by show g.length + 0 < 100000; omega) ⟨hv, ?_, ?_⟩
          · show PairsOk n n (g ++ [])
            rw [List.append_nil]
            exact h2
          · show (g ++ []).length ≤ _
            rw [List.append_nil, lx]
            omega
      · rw [rng_length] at a3
        exact ⟨a2, by show g.2.length < 5000; omega, a1⟩
/-! ### the web -/
def norm2 (p : Int × Int) : Int × Int := (min2 p.1 p.2, max2 p.1 p.2)
theorem moved_norm (o : List Int) (p : Int × Int) : moved o (norm2 p) = moved o p := by
  unfold norm2
  rcases mm_cases p.1 p.2 with ⟨e1, e2, _⟩ | ⟨e1, e2, _⟩
  · rw [e1, e2]
  · rw [e1, e2]
    unfold moved
    show (min2 (o.getD p.2.toNat 0) (o.getD p.1.toNat 0), max2 (o.getD p.2.toNat 0) (o.getD p.1.toNat 0)) = _
    rcases mm_cases (o.getD p.1.toNat 0) (o.getD p.2.toNat 0) with ⟨a1, a2, _⟩ | ⟨a1, a2, _⟩ <;> rcases mm_cases (o.getD p.2.toNat 0) (o.getD p.1.toNat 0) with ⟨b1, b2, _⟩ | ⟨b1, b2, _⟩ <;> rw [a1, a2, b1, b2] <;> (refine Prod.ext ?_ ?_ <;> show _ = _ <;> first | rfl | omega)
theorem norm2_rg {n : Int} {p : Int × Int} (h : 0 ≤ p.1 ∧ p.1 < n ∧ 0 ≤ p.2 ∧ p.2 < n ∧ p.1 ≠ p.2) : 0 ≤ (norm2 p).1 ∧ (norm2 p).1 < (norm2 p).2 ∧ (norm2 p).2 < n := by
  unfold norm2
  rcases mm_cases p.1 p.2 with ⟨e1, e2, _⟩ | ⟨e1, e2, _⟩ <;> rw [e1, e2] <;> refine ⟨?_, ?_, ?_⟩ <;> dsimp only <;> omega
theorem few_pairs5 {ps : List (Int × Int)} {n : Int} (hn : n ≤ 26) (hd : ps.Nodup) (hr : ∀ p ∈ ps, 0 ≤ p.1 ∧ p.1 < p.2 ∧ p.2 < n) : ps.length ≤ 700 := by
  have h1 : (ps.map fun p => p.1 * 26 + p.2).Nodup := by
    refine List.pairwise_map.mpr (hd.imp_of_mem ?_)
    intro a b ha hb hne e
    have ra := hr a ha
    have rb := hr b hb
    exact hne (Prod.ext (by omega) (by omega))
  have h2 := nodup_le h1 (ys := rng 0 676) fun x hx => by
    obtain ⟨p, hp, rfl⟩ := List.mem_map.mp hx
    have := hr p hp
    exact rng_mem.mpr ⟨by omega, by omega⟩
  rw [List.length_map, rng_length] at h2
  have : ((676 : Int) - 0).toNat = 676 := by decide
  omega
theorem web_ok5 {s : List Int} {lo hi : Int} (h : PuOk s) (l1 : 1 ≤ lo) (l2 : lo ≤ hi) (l3 : hi ≤ 26) : Post (law_web s lo hi) (fun r => lo ≤ r.1.1 ∧ r.1.1 ≤ hi ∧ WebOk r.1.1 r.1.2.l ∧ PuOk r.2) noX := by
  unfold law_web
  refine po_bind (take_ok h (by omega) (by omega)) fun y2 ⟨a0, a1, h2⟩ => po_bind (take_ok h2 (by decide) (by decide)) fun y6 ⟨b0, b1, h6⟩ => ?_
  generalize hn : lo + y2.1 = n
  have n1 : 1 ≤ n := by omega
  have n2 : n ≤ 26 := by omega
  refine po_bind (pairs_ok h6 n1 (by omega) b0) fun y7 ⟨p1, p2, h7⟩ => po_bind (order_ok h7 (by omega) (by omega)) fun y10 ⟨ho, h10⟩ => ?_
  refine po_bind (po_foldP (fun pre (g : List (Int × Int)) => ∃ us : List (Int × Int), g = us.map (moved y10.1) ∧ us.Nodup ∧ (∀ q ∈ us, 0 ≤ q.1 ∧ q.1 < q.2 ∧ q.2 < n) ∧ ∀ p ∈ pre, norm2 p ∈ us) ⟨[], rfl, List.nodup_nil, fun _ z => (nomatch z), fun _ z => (nomatch z)⟩ ?_) ?_
  · rintro pre g x post e ⟨us, rfl, hd, hr, hm⟩
    have hx := p1.rg x (by rw [e]; simp)
    obtain ⟨u, eu, _⟩ := perm_get ho (by omega) (k := x.1) hx.1 hx.2.1
    obtain ⟨v, ev, _⟩ := perm_get ho (by omega) (k := x.2) hx.2.2.1 hx.2.2.2.1
    rw [getI_eq hx.1 eu, ok_bind, getI_eq hx.2.2.1 ev, ok_bind]
    have em : (min2 u v, max2 u v) = moved y10.1 x := by
      unfold moved
      rw [List.getD_eq_getElem?_getD, List.getD_eq_getElem?_getD, eu, ev]
      rfl
    rw [em]
    have hn2 := norm2_rg ⟨hx.1, hx.2.1, hx.2.2.1, hx.2.2.2.1, hx.2.2.2.2⟩
    have hlen := few_pairs5 n2 hd hr
    refine po_if (fun c => ?_) fun c => ?_
    · have hnin : moved y10.1 x ∉ us.map (moved y10.1) := by
        intro z
        have : inB (moved y10.1 x) (us.map (moved y10.1)) = true := inB_t.mpr z
        rw [this] at c
        cases c
      refine po_app (by rw [List.length_map]; omega) ⟨us ++ [norm2 x], ?_, ?_, ?_, ?_⟩
      · rw [List.map_append, List.map_singleton, moved_norm]
      · rw [List.nodup_append]
        refine ⟨hd, by simp, fun a ha b hb e2 => ?_⟩
        rw [List.mem_singleton.mp hb] at e2
        exact hnin (List.mem_map.mpr ⟨a, ha, by rw [e2, moved_norm]⟩)
      · intro q hq
        rcases List.mem_append.mp hq with hq | hq
        · exact hr q hq
        · rw [List.mem_singleton.mp hq]
          exact hn2
      · intro p hp
        rcases List.mem_append.mp hp with hp | hp
        · exact List.mem_append_left _ (hm p hp)
        · rw [List.mem_singleton.mp hp]
          exact List.mem_append_right _ (List.mem_singleton.mpr rfl)
    · have hin : moved y10.1 x ∈ us.map (moved y10.1) := by
        by_cases z : moved y10.1 x ∈ us.map (moved y10.1)
        · exact z
        · have : inB (moved y10.1 x) (us.map (moved y10.1)) = false := by
            cases q : inB (moved y10.1 x) (us.map (moved y10.1)) with
            | false => rfl
            | true => exact absurd (inB_t.mp q) z
          rw [this] at c
          exact absurd rfl c
      obtain ⟨q, hq, eq⟩ := List.mem_map.mp hin
      have e2 : q = norm2 x := moved_inj ho (by omega) (hr q hq) hn2 (by rw [eq, moved_norm])
      refine ⟨us, rfl, hd, hr, fun p hp => ?_⟩
      rcases List.mem_append.mp hp with hp | hp
      · exact hm p hp
      · rw [List.mem_singleton.mp hp, ← e2]
        exact hq
  · rintro g ⟨us, rfl, hd, hr, hm⟩
    have ht : TiesOk 700 n us := by
      refine ⟨hr, hd, conn_tree fun k k1 kn => ?_, few_pairs5 n2 hd hr⟩
      obtain ⟨i, i0, ik, hi⟩ := p1.dn k k1 kn
      refine ⟨i, i0, ik, .inl ?_⟩
      have := hm (i, k) hi
      unfold norm2 at this
      rcases mm_cases i k with ⟨e1, e2, _⟩ | ⟨_, _, z⟩
      · rw [show (min2 (i, k).1 (i, k).2, max2 (i, k).1 (i, k).2) = (i, k) by show (min2 i k, max2 i k) = _; rw [e1, e2]] at this
        exact this
      · omega
    exact ⟨by show lo ≤ n; omega, by show n ≤ hi; omega, moved_ok ho n1 (show n ≤ 60 by omega) ht, h10⟩
end G
/-! MB: neighbours and fars, as the program reckons them -/
namespace G
open PySem L2 Z
/-- the places tied to one, in the ties' order -/
def nbs (ts : List (Int × Int)) (i : Int) : List Int := ts.flatMap fun p => (if p.1 = i then [p.2] else []) ++ (if p.2 = i then [p.1] else [])
theorem nbs_snoc (ts : List (Int × Int)) (x : Int × Int) (i : Int) : nbs (ts ++ [x]) i = nbs ts i ++ ((if x.1 = i then [x.2] else []) ++ (if x.2 = i then [x.1] else [])) := by
  unfold nbs
  rw [List.flatMap_append]
  simp
theorem nbs_mem {ts : List (Int × Int)} {i j : Int} : j ∈ nbs ts i ↔ Adj ts i j := by
  unfold nbs Adj
  rw [List.mem_flatMap]
  constructor
  · rintro ⟨p, hp, h⟩
    rcases List.mem_append.mp h with h | h
    · split at h
      · rename_i e
        rw [List.mem_singleton] at h
        rw [← e, h]
        exact .inl hp
      · cases h
    · split at h
      · rename_i e
        rw [List.mem_singleton] at h
        rw [← e, h]
        exact .inr hp
      · cases h
  · rintro (h | h)
    · exact ⟨_, h, List.mem_append_left _ (by simp)⟩
    · exact ⟨_, h, List.mem_append_right _ (by simp)⟩
theorem nbs_len (ts : List (Int × Int)) (i : Int) : (nbs ts i).length ≤ 2 * ts.length := by
  induction ts with
  | nil => exact Nat.le_refl _
  | cons p ts ih =>
    have e : nbs (p :: ts) i = ((if p.1 = i then [p.2] else []) ++ (if p.2 = i then [p.1] else [])) ++ nbs ts i := rfl
    rw [e, List.length_append, List.length_append, List.length_cons]
    have h1 : (if p.1 = i then [p.2] else []).length ≤ 1 := by split <;> simp
    have h2 : (if p.2 = i then [p.1] else []).length ≤ 1 := by split <;> simp
    omega
theorem map_rng_get {α : Type} {n : Int} {F : Int → α} {j : Int} (h0 : 0 ≤ j) (h1 : j < n) : ((rng 0 n).map F)[j.toNat]? = some (F j) := by
  rw [List.getElem?_map, rng_atE (by omega)]
  show some (F (0 + (j.toNat : Int))) = _
  rw [show (0 : Int) + (j.toNat : Int) = j by omega]
theorem map_rng_set {α : Type} {n : Int} {F : Int → α} {j : Int} {y : α} (h0 : 0 ≤ j) : ((rng 0 n).map F).set j.toNat y = (rng 0 n).map fun i => if i = j then y else F i := by
  apply List.ext_getElem?
  intro k
  rw [List.getElem?_set, List.getElem?_map, List.getElem?_map, List.length_map]
  by_cases hk : k < (n - 0).toNat
  · rw [rng_atE hk]
    by_cases e : j.toNat = k
    · rw [if_pos e, if_pos (by rw [rng_length]; omega)]
      show some y = some (if (0 : Int) + (k : Int) = j then y else F (0 + k))
      rw [if_pos (by omega)]
    · rw [if_neg e]
      show some (F (0 + k)) = some (if (0 : Int) + (k : Int) = j then y else F (0 + k))
      rw [if_neg (by omega)]
  · rw [List.getElem?_eq_none (by rw [rng_length]; omega)]
    by_cases e : j.toNat = k
    · rw [if_pos e, if_neg (by rw [rng_length]; omega)]; rfl
    · rw [if_neg e]
      rfl
theorem map_rng_congr {α : Type} {n : Int} {F G : Int → α} (h : ∀ i, 0 ≤ i → i < n → F i = G i) : (rng 0 n).map F = (rng 0 n).map G := List.map_congr_left fun i hi => h i (rng_mem.mp hi).1 (rng_mem.mp hi).2
theorem range_get {N : Nat} {j : Int} (h0 : 0 ≤ j) (h1 : j < N) : getI (List.range N) j = R.ok j.toNat := by
  refine getI_eq h0 ?_
  rw [List.getElem?_range (by omega)]
def nears (n : Int) (ts : List (Int × Int)) : List (List Int) := (rng 0 n).map fun i => sortI (nbs ts i)
theorem near_lists_ok {n : Int} {ts : List (Int × Int)} (n0 : 0 ≤ n) (n1 : n < 1000) (hl : ts.length < 40000) (hr : ∀ p ∈ ts, 0 ≤ p.1 ∧ p.1 < n ∧ 0 ≤ p.2 ∧ p.2 < n) : near_lists (n, ⟨ts⟩) = R.ok (nears n ts) := by
  refine po_iff ?_
  unfold near_lists
  refine po_rng (by decide) (by decide) (by show -(2 ^ 62) ≤ n; omega) (by show n < 2 ^ 62; omega) ?_
  have hN : (rng 0 n).length = n.toNat := by rw [rng_length]; omega
  refine po_bind (po_mapStA (fun pre acc s => acc = List.range pre.length ∧ s = List.replicate pre.length []) (by show (rng 0 n).length < 100000; omega) ⟨rfl, rfl⟩ fun pre acc s x post e ⟨h1, h2⟩ => ?_) fun l5 ⟨a1, a2⟩ => ?_
  · refine po_newS ⟨?_, ?_⟩
    · show acc ++ [s.length] = _
      rw [h1, h2, List.length_replicate, List.length_append, List.length_singleton, List.range_succ]
    · show s ++ [[]] = _
      rw [h2, List.length_append, List.length_singleton, List.replicate_succ']
  · rw [hN] at a1 a2
    refine po_bind (po_foldP (fun pre g => g = (rng 0 n).map fun i => nbs pre i) ?_ fun pre g x post e hg => ?_) fun g11 hg => ?_
    · rw [a2]
      apply List.ext_getElem?
      intro k
      rw [List.getElem?_replicate, List.getElem?_map]
      by_cases hk : k < n.toNat
      · rw [if_pos hk, rng_atE (by omega)]; rfl
      · rw [if_neg hk, List.getElem?_eq_none (by rw [rng_length]; omega)]; rfl
    · obtain ⟨x1, x2, x3, x4⟩ := hr x (by rw [show ts = pre ++ x :: post from e]; simp)
      have hpl : pre.length < 40000 := by
        have : ts.length = pre.length + (post.length + 1) := by rw [show ts = pre ++ x :: post from e]; simp
        omega
      have hl1 := nbs_len pre x.1
      have hl2 := nbs_len pre x.2
      rw [a1]
      refine po_getE (range_get x1 (by omega)) (po_getS (by rw [hg]; exact map_rng_get x1 x2) (po_app (by omega) (po_setS ?_)))
      rw [hg, map_rng_set x1]
      refine po_getE (range_get x3 (by omega)) (po_getS (map_rng_get x3 x4) (po_app ?_ (po_setS ?_)))
      · split
        · rw [List.length_append, List.length_singleton]; omega
        · omega
      · rw [map_rng_set x3]
        show _ = _
        refine map_rng_congr fun i i0 i1 => ?_
        rw [nbs_snoc]
        by_cases e1 : x.1 = i
        · by_cases e2 : x.2 = i
          · subst e1
            rw [e2]
            simp
          · subst e1
            rw [if_neg (fun q => e2 q.symm), if_pos rfl, if_pos rfl, if_neg e2, List.append_nil]
        · by_cases e2 : x.2 = i
          · subst e2
            rw [if_pos rfl, if_neg (fun q => e1 q.symm), if_neg e1, if_pos rfl, List.nil_append]
          · rw [if_neg (fun q => e2 q.symm), if_neg (fun q => e1 q.symm), if_neg e1, if_neg e2, List.append_nil, List.append_nil]
    · have hg' : g11 = (rng 0 n).map fun i => nbs ts i := hg
      rw [a1]
      refine po_bind (Q := fun l => l = nears n ts) (po_eq (mapG_ok (g := fun b => sortI (nbs ts (b : Nat))) (by rw [List.length_range]; omega) fun b hb => ?_) ?_) fun l h => h
      · have hb' := List.mem_range.mp hb
        refine po_iff (po_getS (xs := nbs ts (b : Nat)) ?_ rfl)
        rw [hg']
        have := map_rng_get (n := n) (F := fun i => nbs ts i) (j := (b : Int)) (by omega) (by omega)
        rw [Int.toNat_natCast] at this
        exact this
      · unfold nears
        apply List.ext_getElem?
        intro k
        rw [List.getElem?_map, List.getElem?_map]
        by_cases hk : k < n.toNat
        · rw [rng_atE (by omega), List.getElem?_range hk]
          show some (sortI (nbs ts (k : Nat))) = some (sortI (nbs ts (0 + (k : Nat))))
          rw [Int.zero_add]
        · rw [List.getElem?_eq_none (by rw [List.length_range]; omega), List.getElem?_eq_none (by rw [rng_length]; omega)]; rfl
theorem sortI_mem {xs : List Int} {x : Int} : x ∈ sortI xs ↔ x ∈ xs := (sortI_perm xs).mem_iff
/-- so many empty lists -/
theorem empties_ok {N : Int} (h0 : 0 ≤ N) (h1 : N < 1000) : Post (mapStG (fun (g5 : (List (List Int))) (b5 : Int) => do
      let r9 ← newS g5 ([] : (List Int))
      R.ok (r9.1, r9.2)) ([] : List (List Int)) (rng 0 N)) (fun l => l.1 = List.range N.toNat ∧ l.2 = List.replicate N.toNat []) noX := by
  have hN : (rng 0 N).length = N.toNat := by rw [rng_length]; omega
  refine Post.mono (po_mapStA (fun pre acc s => acc = List.range pre.length ∧ s = List.replicate pre.length []) (by omega) ⟨rfl, rfl⟩ fun pre acc s x post e ⟨h1, h2⟩ => ?_) (fun l ⟨a1, a2⟩ => by rw [hN] at a1 a2; exact ⟨a1, a2⟩) fun _ z => z
  refine po_newS ⟨?_, ?_⟩
  · show acc ++ [s.length] = _
    rw [h1, h2, List.length_replicate, List.length_append, List.length_singleton, List.range_succ]
  · show s ++ [[]] = _
    rw [h2, List.length_append, List.length_singleton, List.replicate_succ']
/-- ties gathered at both ends -/
theorem gather_ok {n : Int} {ts : List (Int × Int)} (n0 : 0 ≤ n) (n1 : n < 1000) (hl : ts.length < 40000) (hr : ∀ p ∈ ts, 0 ≤ p.1 ∧ p.1 < n ∧ 0 ≤ p.2 ∧ p.2 < n) : Post (foldR (fun (g11 : (List (List Int))) (b11 : (Int × Int)) => do
      let t14 ← getI (List.range n.toNat) b11.1
      let x16 ← getS g11 t14
      let l17 ← app x16 b11.2
      let r17 ← setS g11 t14 l17
      let t18 ← getI (List.range n.toNat) b11.2
      let x20 ← getS r17 t18
      let l21 ← app x20 b11.1
      let r21 ← setS r17 t18 l21
      R.ok r21) (List.replicate n.toNat []) ts) (fun g => g = (rng 0 n).map fun i => nbs ts i) noX := by
  refine po_foldP (fun pre g => g = (rng 0 n).map fun i => nbs pre i) ?_ fun pre g x post e hg => ?_
  · apply List.ext_getElem?
    intro k
    rw [List.getElem?_replicate, List.getElem?_map]
    by_cases hk : k < n.toNat
    · rw [if_pos hk, rng_atE (by omega)]; rfl
    · rw [if_neg hk, List.getElem?_eq_none (by rw [rng_length]; omega)]; rfl
  · obtain ⟨x1, x2, x3, x4⟩ := hr x (by rw [show ts = pre ++ x :: post from e]; simp)
    have hpl : pre.length < 40000 := by
      have : ts.length = pre.length + (post.length + 1) := by rw [show ts = pre ++ x :: post from e]; simp
      omega
    have hl1 := nbs_len pre x.1
    have hl2 := nbs_len pre x.2
    refine po_getE (range_get x1 (by omega)) (po_getS (by rw [hg]; exact map_rng_get x1 x2) (po_app (by omega) (po_setS ?_)))
    rw [hg, map_rng_set x1]
    refine po_getE (range_get x3 (by omega)) (po_getS (map_rng_get x3 x4) (po_app ?_ (po_setS ?_)))
    · split
      · rw [List.length_append, List.length_singleton]; omega
      · omega
    · rw [map_rng_set x3]
      show _ = _
      refine map_rng_congr fun i i0 i1 => ?_
      rw [nbs_snoc]
      by_cases e1 : x.1 = i
      · by_cases e2 : x.2 = i
        · subst e1
          rw [e2]
          simp
        · subst e1
          rw [if_neg (fun q => e2 q.symm), if_pos rfl, if_pos rfl, if_neg e2, List.append_nil]
      · by_cases e2 : x.2 = i
        · subst e2
          rw [if_pos rfl, if_neg (fun q => e1 q.symm), if_neg e1, if_pos rfl, List.nil_append]
        · rw [if_neg (fun q => e2 q.symm), if_neg (fun q => e1 q.symm), if_neg e1, if_neg e2, List.append_nil, List.append_nil]
theorem deref_range {α : Type} {st : List (List α)} {k : Nat} (h : st.length = k) : deref st (List.range k) = R.ok st := by
  unfold deref
  have h1 : mapR (getS st) (List.range k) = R.ok ((List.range k).map fun i => st[i]?.getD []) := mapR_ok fun i hi => by
    have hi' := List.mem_range.mp hi
    unfold getS
    rw [List.getElem?_eq_getElem (by omega)]
    rfl
  rw [h1]
  congr 1
  apply List.ext_getElem?
  intro i
  rw [List.getElem?_map]
  by_cases hi : i < k
  · rw [List.getElem?_range hi, List.getElem?_eq_getElem (by omega)]
    show some (st[i]?.getD []) = _
    rw [List.getElem?_eq_getElem (by omega)]
    rfl
  · rw [List.getElem?_eq_none (by rw [List.length_range]; omega), List.getElem?_eq_none (by omega)]
    rfl
end G
/-! MC: drawn webs: neighbours, fars -/
namespace G
open PySem L2 Z
theorem web_near {n : Int} {ts : List (Int × Int)} (h : WebOk n ts) : near_lists (n, ⟨ts⟩) = R.ok (nears n ts) := near_lists_ok (by have := h.n1; omega) (by have := h.n60; omega) (by have := h.len; omega) h.rg4
theorem enum_mem {α : Type} {xs : List α} {b : Int × α} (h : b ∈ enum xs) : 0 ≤ b.1 ∧ b.1 < (xs.length : Int) ∧ xs[b.1.toNat]? = some b.2 := by
  unfold enum at h
  obtain ⟨i, hi⟩ := List.mem_iff_getElem?.mp h
  rw [List.getElem?_zip_eq_some] at hi
  obtain ⟨h1, h2⟩ := hi
  have hl := (List.getElem?_eq_some_iff.mp h2).1
  rw [rng_atE (by omega)] at h1
  have e : b.1 = (i : Int) := by
    injection h1 with h1
    omega
  rw [e]
  exact ⟨by omega, by omega, by rw [Int.toNat_natCast]; exact h2⟩
theorem web_dist {n : Int} {ts : List (Int × Int)} {p : Int} (h : WebOk n ts) (p0 : 0 ≤ p) (p1 : p < n) : IsDist n ts p (dst n ts p) := conn_ex h.rg4 h.conn p0 p1
theorem WebOk.adj {n : Int} {ts : List (Int × Int)} (h : WebOk n ts) {a b : Int} (q : Adj ts a b) : 0 ≤ a ∧ a < n ∧ 0 ≤ b ∧ b < n ∧ a ≠ b := by
  rcases q with q | q <;> have := h.rg _ q <;> dsimp only at this <;> omega
section
variable {n : Int} {ts : List (Int × Int)} (h : WebOk n ts)
include h
theorem dst_zero {p v : Int} (p0 : 0 ≤ p) (p1 : p < n) (v0 : 0 ≤ v) (v1 : v < n) : dst n ts p v = 0 ↔ v = p := by
  have d := web_dist h p0 p1
  constructor
  · intro e
    apply Classical.byContradiction
    intro hne
    obtain ⟨w, w0, w1, _, ew⟩ := d.desc v v0 v1 hne
    have := d.nn w w0 w1
    omega
  · rintro rfl
    exact d.zero
theorem dst_nn {p v : Int} (p0 : 0 ≤ p) (p1 : p < n) (v0 : 0 ≤ v) (v1 : v < n) : 0 ≤ dst n ts p v := (web_dist h p0 p1).nn v v0 v1
theorem dst_tri {a b x : Int} (q : Adj ts a b) (x0 : 0 ≤ x) (x1 : x < n) : dst n ts a x ≤ dst n ts b x + 1 := by
  obtain ⟨a0, a1, b0, b1, _⟩ := h.adj q
  have da := web_dist h a0 a1
  have db := web_dist h b0 b1
  have key : ∀ (m : Nat) (x : Int), (dst n ts b x).toNat ≤ m → 0 ≤ x → x < n → dst n ts a x ≤ dst n ts b x + 1 := by
    intro m
    induction m with
    | zero =>
      intro x hm x0 x1
      have hx := db.nn x x0 x1
      have e : x = b := (dst_zero h b0 b1 x0 x1).mp (by omega)
      subst e
      have := da.lip a x q
      rw [da.zero] at this
      rw [db.zero]
      exact this
    | succ m ih =>
      intro x hm x0 x1
      by_cases e : x = b
      · subst e
        have := da.lip a x q
        rw [da.zero] at this
        rw [db.zero]
        exact this
      · obtain ⟨y, y0, y1, hy, ey⟩ := db.desc x x0 x1 e
        have := db.nn y y0 y1
        have h1 := ih y (by omega) y0 y1
        have h2 := da.lip y x hy
        omega
  exact key _ x (Nat.le_refl _) x0 x1
theorem dst_le_symm {p v : Int} (p0 : 0 ≤ p) (p1 : p < n) (v0 : 0 ≤ v) (v1 : v < n) : dst n ts v p ≤ dst n ts p v := by
  have dp := web_dist h p0 p1
  have key : ∀ (m : Nat) (v : Int), (dst n ts p v).toNat ≤ m → 0 ≤ v → v < n → dst n ts v p ≤ dst n ts p v := by
    intro m
    induction m with
    | zero =>
      intro v hm v0 v1
      have hx := dp.nn v v0 v1
      have e : v = p := (dst_zero h p0 p1 v0 v1).mp (by omega)
      subst e
      exact Int.le_refl _
    | succ m ih =>
      intro v hm v0 v1
      by_cases e : v = p
      · subst e
        exact Int.le_refl _
      · obtain ⟨w, w0, w1, hw, ew⟩ := dp.desc v v0 v1 e
        have := dp.nn w w0 w1
        have h1 := ih w (by omega) w0 w1
        have h2 := dst_tri h hw.symm p0 p1
        omega
  exact key _ v (Nat.le_refl _) v0 v1
theorem dst_symm {p v : Int} (p0 : 0 ≤ p) (p1 : p < n) (v0 : 0 ≤ v) (v1 : v < n) : dst n ts v p = dst n ts p v := Int.le_antisymm (dst_le_symm h p0 p1 v0 v1) (dst_le_symm h v0 v1 p0 p1)
/-- neighbours are just one far -/
theorem dst_one {p v : Int} (p0 : 0 ≤ p) (p1 : p < n) (v0 : 0 ≤ v) (v1 : v < n) : dst n ts p v = 1 ↔ Adj ts p v := by
  have d := web_dist h p0 p1
  constructor
  · intro e
    obtain ⟨w, w0, w1, hw, ew⟩ := d.desc v v0 v1 (fun q => by
      have := (dst_zero h p0 p1 v0 v1).mpr q
      omega)
    have : w = p := (dst_zero h p0 p1 w0 w1).mp (by omega)
    rw [← this]
    exact hw
  · intro q
    have h1 := d.lip p v q
    rw [d.zero] at h1
    have h2 := d.nn v v0 v1
    have h3 : dst n ts p v ≠ 0 := fun e => (h.adj q).2.2.2.2 ((dst_zero h p0 p1 v0 v1).mp e).symm
    omega
end
theorem perm_nodup {xs ys : List Int} (h1 : xs.Nodup) (h2 : ys.Nodup) (h : ∀ x, x ∈ xs ↔ x ∈ ys) : xs.Perm ys := by
  rw [List.perm_iff_count]
  intro a
  rw [h1.count, h2.count]
  by_cases q : a ∈ xs
  · rw [if_pos q, if_pos ((h a).mp q)]
  · rw [if_neg q, if_neg (fun z => q ((h a).mpr z))]
theorem nbs_nodup {ts : List (Int × Int)} (hn : ts.Nodup) (hr : ∀ p ∈ ts, p.1 < p.2) (i : Int) : (nbs ts i).Nodup := by
  induction ts with
  | nil => exact List.nodup_nil
  | cons p ts ih =>
    have e : nbs (p :: ts) i = ((if p.1 = i then [p.2] else []) ++ (if p.2 = i then [p.1] else [])) ++ nbs ts i := rfl
    obtain ⟨hn1, hn2⟩ := List.nodup_cons.mp hn
    have ih' := ih hn2 fun q hq => hr q (List.mem_cons_of_mem _ hq)
    have hp := hr p List.mem_cons_self
    rw [e]
    by_cases h1 : p.1 = i
    · have h2 : p.2 ≠ i := by omega
      rw [if_pos h1, if_neg h2, List.append_nil]
      refine List.nodup_cons.mpr ⟨fun q => ?_, ih'⟩
      rcases nbs_mem.mp q with q | q
      · exact hn1 (by rw [← h1] at q; exact q)
      · have := hr _ (List.mem_cons_of_mem _ q)
        dsimp only at this
        omega
    · by_cases h2 : p.2 = i
      · rw [if_neg h1, if_pos h2, List.nil_append]
        refine List.nodup_cons.mpr ⟨fun q => ?_, ih'⟩
        rcases nbs_mem.mp q with q | q
        · have := hr _ (List.mem_cons_of_mem _ q)
          dsimp only at this
          omega
        · exact hn1 (by rw [← h2] at q; exact q)
      · rw [if_neg h1, if_neg h2, List.append_nil, List.nil_append]
        exact ih'
theorem rng_sorted (i j : Int) : (rng i j).Pairwise (· < ·) := by
  unfold rng
  refine List.Pairwise.map _ (fun a b h => ?_) List.pairwise_lt_range
  show i + (a : Int) < i + b
  omega
/-- the neighbours of a place, gathered otherwise -/
theorem sort_nbs {n : Int} {ts : List (Int × Int)} (h : WebOk n ts) (i : Int) (P : Int → Bool) (hP : ∀ v, 0 ≤ v → v < n → (P v = true ↔ Adj ts i v)) : sortI (nbs ts i) = (rng 0 n).filter P := by
  refine (sortI_eq ?_ ?_).symm
  · refine perm_nodup ((rng_nodup 0 n).filter _) (nbs_nodup h.nd (fun p hp => (h.rg p hp).2.1) i) fun x => ?_
    rw [List.mem_filter, nbs_mem, rng_mem]
    constructor
    · rintro ⟨⟨x0, x1⟩, hx⟩
      exact (hP x x0 x1).mp hx
    · intro hx
      have := h.adj hx
      exact ⟨⟨this.2.2.1, this.2.2.2.1⟩, (hP x this.2.2.1 this.2.2.2.1).mpr hx⟩
  · exact ((rng_sorted 0 n).sublist List.filter_sublist).imp fun h => Int.le_of_lt h
theorem nears_get {n p : Int} {ts : List (Int × Int)} (p0 : 0 ≤ p) (p1 : p < n) : getI (nears n ts) p = R.ok (sortI (nbs ts p)) := getI_eq p0 (map_rng_get p0 p1)
theorem nbs_len_n {n : Int} {ts : List (Int × Int)} (h : WebOk n ts) (i : Int) : (nbs ts i).length ≤ n.toNat := by
  have := nodup_le (nbs_nodup h.nd (fun p hp => (h.rg p hp).2.1) i) (ys := rng 0 n) fun x hx => by
    have := h.adj (nbs_mem.mp hx)
    exact rng_mem.mpr ⟨this.2.2.1, this.2.2.2.1⟩
  rw [rng_length] at this
  omega
theorem fil_ite {α : Type} (l : List α) (P : α → Bool) : l.filterMap (fun b => if P b = true then some b else none) = l.filter P := by
  induction l with
  | nil => rfl
  | cons a l ih =>
    rw [List.filterMap_cons, List.filter_cons]
    cases P a
    · exact ih
    · show a :: _ = a :: _
      rw [ih]
end G
/-! MF: fars, as the program reckons them -/
namespace G
open PySem L2 Z
/-! ### fars -/
section
variable {n : Int} {ts : List (Int × Int)} {p : Int}
structure Bfs (n : Int) (ts : List (Int × Int)) (p : Int) (at_ : Nat) (line : List Int) (F : Int → Option Int) : Prop where
  le : at_ ≤ line.length
  nd : line.Nodup
  rg : ∀ v ∈ line, 0 ≤ v ∧ v < n
  mem : ∀ v, 0 ≤ v → v < n → (v ∈ line ↔ (F v).isSome = true)
  p0 : F p = some 0
  nn : ∀ v d, F v = some d → 0 ≤ d
  par : ∀ v ∈ line, v = p ∨ ∃ w ∈ line, Adj ts w v ∧ ∃ d, F w = some d ∧ F v = some (d + 1)
  mono : line.Pairwise fun a b => (F a).getD 0 ≤ (F b).getD 0
  cap : ∀ v ∈ line, ∀ u ∈ line.drop at_, (F v).getD 0 ≤ (F u).getD 0 + 1
  done : ∀ i u, i < at_ → line[i]? = some u → ∀ w, Adj ts u w → w ∈ line ∧ (F w).getD 0 ≤ (F u).getD 0 + 1
/-- within a turn: the neighbours of u that are gone through -/
structure BfsIn (n : Int) (ts : List (Int × Int)) (p : Int) (at_ : Nat) (u : Int) (pre : List Int) (line : List Int) (F : Int → Option Int) : Prop where
  b : Bfs n ts p at_ line F
  u0 : line[at_]? = some u
  ok : ∀ w ∈ pre, w ∈ line ∧ (F w).getD 0 ≤ (F u).getD 0 + 1
theorem BfsIn.add {at_ : Nat} {u w : Int} {pre line : List Int} {F : Int → Option Int} {d : Int} (h : BfsIn n ts p at_ u pre line F) (hw : Adj ts u w) (w0 : 0 ≤ w) (w1 : w < n) (hn : F w = none) (hd : F u = some d) :
    BfsIn n ts p at_ u (pre ++ [w]) (line ++ [w]) (fun v => if v = w then some (d + 1) else F v) := by
  have b := h.b
  have hu : u ∈ line := List.mem_of_getElem? h.u0
  have hat : at_ < line.length := (List.getElem?_eq_some_iff.mp h.u0).1
  have hwl : w ∉ line := fun q => by
    have := (b.mem w w0 w1).mp q
    rw [hn] at this
    cases this
  have ne : ∀ v ∈ line, v ≠ w := fun v hv e => hwl (e ▸ hv)
  have eF : ∀ v ∈ line, (if v = w then some (d + 1) else F v) = F v := fun v hv => if_neg (ne v hv)
  have eW : (if w = w then some (d + 1) else F w) = some (d + 1) := if_pos rfl
  have hpl : p ∈ line ∨ True := .inr trivial
  have hd0 := b.nn u d hd
  have hud : u ∈ line.drop at_ := by
    rw [List.mem_iff_getElem?]
    exact ⟨0, by rw [List.getElem?_drop]; exact h.u0⟩
  refine ⟨⟨?_, ?_, ?_, ?_, ?_, ?_, ?_, ?_, ?_, ?_⟩, ?_, ?_⟩
  · rw [List.length_append]; omega
  · rw [List.nodup_append]
    refine ⟨b.nd, by simp, fun a ha c hc => ?_⟩
    rw [List.mem_singleton] at hc
    rw [hc]
    exact ne a ha
  · intro v hv
    rcases List.mem_append.mp hv with hv | hv
    · exact b.rg v hv
    · rw [List.mem_singleton] at hv
      rw [hv]; exact ⟨w0, w1⟩
  · intro v v0 v1
    by_cases e : v = w
    · subst e
      simp
    · show v ∈ line ++ [w] ↔ (if v = w then some (d + 1) else F v).isSome = true
      rw [if_neg e, ← b.mem v v0 v1]
      simp [e]
  · show (if p = w then some (d + 1) else F p) = some 0
    rw [if_neg]
    · exact b.p0
    · intro e
      rw [← e, b.p0] at hn
      cases hn
  · intro v e hv
    have hv' : (if v = w then some (d + 1) else F v) = some e := hv
    by_cases q : v = w
    · rw [if_pos q] at hv'
      cases hv'
      omega
    · rw [if_neg q] at hv'
      exact b.nn v e hv'
  · intro v hv
    rcases List.mem_append.mp hv with hv | hv
    · rcases b.par v hv with e | ⟨x, hx, ha, k, h1, h2⟩
      · exact .inl e
      · refine .inr ⟨x, List.mem_append_left _ hx, ha, k, ?_, ?_⟩
        · show (if x = w then some (d + 1) else F x) = some k
          rw [eF x hx]; exact h1
        · show (if v = w then some (d + 1) else F v) = some (k + 1)
          rw [eF v hv]; exact h2
    · rw [List.mem_singleton] at hv
      subst hv
      refine .inr ⟨u, List.mem_append_left _ hu, hw, d, ?_, eW⟩
      show (if u = v then some (d + 1) else F u) = some d
      rw [eF u hu]; exact hd
  · rw [List.pairwise_append]
    refine ⟨b.mono.imp_of_mem fun {a c} ha hc q => ?_, by simp, fun a ha c hc => ?_⟩
    · show (if a = w then some (d + 1) else F a).getD 0 ≤ (if c = w then some (d + 1) else F c).getD 0
      rw [eF a ha, eF c hc]; exact q
    · rw [List.mem_singleton] at hc
      subst hc
      show (if a = c then some (d + 1) else F a).getD 0 ≤ (if c = c then some (d + 1) else F c).getD 0
      rw [eF a ha, eW]
      have := b.cap a ha u hud
      rw [hd] at this
      exact this
  · intro v hv x hx
    rw [List.drop_append_of_le_length (by omega)] at hx
    show (if v = w then some (d + 1) else F v).getD 0 ≤ (if x = w then some (d + 1) else F x).getD 0 + 1
    have key : ∀ x, x ∈ line.drop at_ → d ≤ (F x).getD 0 := by
      intro x hx
      have hs : line.drop at_ = u :: line.drop (at_ + 1) := by
        rw [List.drop_eq_getElem_cons hat]
        have := (List.getElem?_eq_some_iff.mp h.u0).2
        rw [this]
      have hm := b.mono.sublist (List.drop_sublist at_ line)
      rw [hs] at hm hx
      rcases List.mem_cons.mp hx with rfl | hx
      · rw [hd]; exact Int.le_refl _
      · have := (List.pairwise_cons.mp hm).1 x hx
        rw [hd] at this
        exact this
    have hvd : (if v = w then some (d + 1) else F v).getD 0 ≤ d + 1 := by
      rcases List.mem_append.mp hv with hv | hv
      · rw [eF v hv]
        have := b.cap v hv u hud
        rw [hd] at this
        exact this
      · rw [List.mem_singleton] at hv
        rw [if_pos hv]; exact Int.le_refl _
    rcases List.mem_append.mp hx with hx | hx
    · rw [eF x (List.mem_of_mem_drop hx)]
      have := key x hx
      omega
    · rw [List.mem_singleton] at hx
      rw [if_pos hx]
      show _ ≤ (d + 1) + 1
      omega
  · intro i x hi hx y hy
    rw [List.getElem?_append_left (by omega)] at hx
    obtain ⟨h1, h2⟩ := b.done i x hi hx y hy
    refine ⟨List.mem_append_left _ h1, ?_⟩
    show (if y = w then some (d + 1) else F y).getD 0 ≤ (if x = w then some (d + 1) else F x).getD 0 + 1
    rw [eF y h1, eF x (List.mem_of_getElem? hx)]
    exact h2
  · rw [List.getElem?_append_left hat]; exact h.u0
  · intro v hv
    show v ∈ line ++ [w] ∧ (if v = w then some (d + 1) else F v).getD 0 ≤ (if u = w then some (d + 1) else F u).getD 0 + 1
    rw [eF u hu]
    rcases List.mem_append.mp hv with hv | hv
    · obtain ⟨h1, h2⟩ := h.ok v hv
      rw [eF v h1]
      exact ⟨List.mem_append_left _ h1, h2⟩
    · rw [List.mem_singleton] at hv
      rw [if_pos hv, hd, hv]
      exact ⟨List.mem_append_right _ (List.mem_singleton_self _), Int.le_refl _⟩
theorem BfsIn.skip {at_ : Nat} {u w : Int} {pre line : List Int} {F : Int → Option Int} (h : BfsIn n ts p at_ u pre line F) (hw : (F w).isSome = true) (w0 : 0 ≤ w) (w1 : w < n) : BfsIn n ts p at_ u (pre ++ [w]) line F := by
  refine ⟨h.b, h.u0, fun v hv => ?_⟩
  rcases List.mem_append.mp hv with hv | hv
  · exact h.ok v hv
  · rw [List.mem_singleton] at hv
    subst hv
    have hl := (h.b.mem v w0 w1).mpr hw
    refine ⟨hl, h.b.cap v hl u ?_⟩
    rw [List.mem_iff_getElem?]
    exact ⟨0, by rw [List.getElem?_drop]; exact h.u0⟩
theorem BfsIn.next {at_ : Nat} {u : Int} {nb line : List Int} {F : Int → Option Int} (h : BfsIn n ts p at_ u nb line F) (hnb : ∀ w, Adj ts u w → w ∈ nb) : Bfs n ts p (at_ + 1) line F := by
  have hat : at_ < line.length := (List.getElem?_eq_some_iff.mp h.u0).1
  refine { h.b with le := hat, cap := fun v hv x hx => h.b.cap v hv x ?_, done := fun i x hi hx w hw => ?_ }
  · exact (List.drop_sublist_drop_left line (Nat.le_succ at_)).subset hx
  · by_cases e : i = at_
    · subst e
      rw [h.u0] at hx
      cases hx
      exact h.ok w (hnb w hw)
    · exact h.b.done i x (by omega) hx w hw
theorem Bfs.isDist {line : List Int} {F : Int → Option Int} (b : Bfs n ts p line.length line F) (hc : Conn n ts) (hr : ∀ q ∈ ts, 0 ≤ q.1 ∧ q.1 < n ∧ 0 ≤ q.2 ∧ q.2 < n) (p0 : 0 ≤ p) (p1 : p < n) :
    (∀ v, 0 ≤ v → v < n → (F v).isSome = true) ∧ IsDist n ts p fun v => (F v).getD 0 := by
  have hp : p ∈ line := (b.mem p p0 p1).mpr (by rw [b.p0]; rfl)
  have cl : ∀ u w, u ∈ line → Adj ts u w → w ∈ line ∧ (F w).getD 0 ≤ (F u).getD 0 + 1 := by
    intro u w hu hw
    obtain ⟨i, hi⟩ := List.mem_iff_getElem?.mp hu
    exact b.done i u (List.getElem?_eq_some_iff.mp hi).1 hi w hw
  have all : ∀ k, 0 ≤ k → k < n → k ∈ line := hc.any (S := fun k => k ∈ line) p0 p1 hp fun q hq => ⟨fun h => (cl q.1 q.2 h (.inl hq)).1, fun h => (cl q.2 q.1 h (.inr hq)).1⟩
  refine ⟨fun v v0 v1 => (b.mem v v0 v1).mp (all v v0 v1), ⟨?_, fun v v0 v1 => ?_, fun a c h => ?_, fun v v0 v1 hne => ?_⟩⟩
  · show (F p).getD 0 = 0
    rw [b.p0]; rfl
  · show 0 ≤ (F v).getD 0
    cases e : F v with
    | none => exact Int.le_refl _
    | some d => exact b.nn v d e
  · have ra : 0 ≤ a ∧ a < n := by
      rcases h with h | h
      · exact ⟨(hr _ h).1, (hr _ h).2.1⟩
      · exact ⟨(hr _ h).2.2.1, (hr _ h).2.2.2⟩
    exact (cl a c (all a ra.1 ra.2) h).2
  · rcases b.par v (all v v0 v1) with e | ⟨w, hw, ha, d, h1, h2⟩
    · exact absurd e hne
    · refine ⟨w, (b.rg w hw).1, (b.rg w hw).2, ha, ?_⟩
      show (F w).getD 0 + 1 = (F v).getD 0
      rw [h1, h2]; rfl
end
theorem fars_by_post {n : Int} {ts : List (Int × Int)} {p : Int} (n1 : n < 900) (hr : ∀ q ∈ ts, 0 ≤ q.1 ∧ q.1 < n ∧ 0 ≤ q.2 ∧ q.2 < n) (hc : Conn n ts) (p0 : 0 ≤ p) (p1 : p < n) :
    Post (fars_by (nears n ts) p) (fun l => l = ((rng 0 n).map fun v => some (dst n ts p v)) ∧ IsDist n ts p (dst n ts p)) noX := by
  unfold fars_by
  have hN : (nears n ts).length = n.toNat := by unfold nears; rw [List.length_map, rng_length]; omega
  rw [hN]
  refine po_rep (by omega) (by omega) (by decide) ?_
  have e0 : repL ([none] : List (Option Int)) (n.toNat : Nat) = (rng 0 n).map fun _ => none := by
    unfold repL
    rw [Int.toNat_natCast]
    have h1 : (rng 0 n).length = n.toNat := by rw [rng_length]; omega
    rw [← h1]
    generalize rng 0 n = l
    induction l with
    | nil => rfl
    | cons a l ih =>
      rw [List.length_cons, List.replicate_succ, List.flatten_cons, ih]
      rfl
  rw [e0]
  refine po_set p0 (by rw [List.length_map, rng_length]; omega) ?_
  rw [map_rng_set p0]
  refine po_bind (Q := fun g => g.2.2 = ((rng 0 n).map fun v => some (dst n ts p v)) ∧ IsDist n ts p (dst n ts p)) (po_while (fun g => 0 ≤ g.1 ∧ ∃ F, g.2.2 = (rng 0 n).map F ∧ Bfs n ts p g.1.toNat g.2.1 F) (fun g => n.toNat - g.1.toNat) ?_ (n := fu 1000) ?_ ?_) fun g hg => hg
  · rintro ⟨a, line, fd⟩ ⟨a0, F, e1, b⟩
    have e1' : fd = (rng 0 n).map F := e1
    have a0' : 0 ≤ a := a0
    have b' : Bfs n ts p a.toNat line F := b
    clear e1 b a0
    subst e1'
    refine ⟨fun ht => ?_, fun hf => ?_⟩
    · have ht : a < (line.length : Int) := of_decide_eq_true ht
      refine po_get a0' ht fun u hu e2 => ?_
      obtain ⟨u0, u1⟩ := b'.rg u hu
      refine po_getE (getI_eq u0 (map_rng_get u0 u1)) ?_
      have hin : BfsIn n ts p a.toNat u [] line F := ⟨b', e2, fun _ h => nomatch h⟩
      refine po_bind (po_foldP (fun pre g => ∃ F', g.2 = (rng 0 n).map F' ∧ BfsIn n ts p a.toNat u pre g.1 F') ⟨F, rfl, hin⟩ ?_) ?_
      · rintro pre ⟨ln, fd⟩ w post ew ⟨F', e3, h3⟩
        have e3' : fd = (rng 0 n).map F' := e3
        have h3' : BfsIn n ts p a.toNat u pre ln F' := h3
        clear e3 h3
        subst e3'
        have hw : w ∈ sortI (nbs ts u) := by rw [show sortI (nbs ts u) = pre ++ w :: post from ew]; simp
        have hw := nbs_mem.mp (sortI_mem.mp hw)
        have rw' : 0 ≤ w ∧ w < n := by
          rcases hw with h | h
          · exact ⟨(hr _ h).2.2.1, (hr _ h).2.2.2⟩
          · exact ⟨(hr _ h).1, (hr _ h).2.1⟩
        obtain ⟨w0, w1⟩ := rw'
        refine po_getE (getI_eq w0 (map_rng_get w0 w1)) ?_
        refine po_if (fun c => ?_) (fun c => ?_)
        · have hn : F' w = none := by
            cases e : F' w with
            | none => rfl
            | some d => rw [e] at c; cases c
          refine po_getE (getI_eq a0' h3'.u0) (po_getE (getI_eq u0 (map_rng_get u0 u1)) ?_)
          have hus := (h3'.b.mem u u0 u1).mp (List.mem_of_getElem? h3'.u0)
          obtain ⟨d, hd⟩ := Option.isSome_iff_exists.mp hus
          have hlen : ln.length ≤ n.toNat := by
            have := nodup_le h3'.b.nd (ys := rng 0 n) fun v hv => rng_mem.mpr (h3'.b.rg v hv)
            rw [rng_length] at this
            omega
          refine po_ofO hd (po_set w0 (by rw [List.length_map, rng_length]; omega) (po_app (by show ln.length < 100000; omega) ?_))
          refine ⟨_, map_rng_set w0, ?_⟩
          exact h3'.add hw w0 w1 hn hd
        · refine ⟨F', rfl, h3'.skip ?_ w0 w1⟩
          cases e : F' w with
          | none => rw [e] at c; exact absurd rfl c
          | some d => rfl
      · rintro ⟨ln, fd⟩ ⟨F', e3, h3⟩
        have h3' : BfsIn n ts p a.toNat u (sortI (nbs ts u)) ln F' := h3
        have h4 := h3'.next fun w hw => sortI_mem.mpr (nbs_mem.mpr hw)
        have hat : a.toNat < ln.length := (List.getElem?_eq_some_iff.mp h3'.u0).1
        have hlen : ln.length ≤ n.toNat := by
          have := nodup_le h3'.b.nd (ys := rng 0 n) fun v hv => rng_mem.mpr (h3'.b.rg v hv)
          rw [rng_length] at this
          omega
        refine ⟨⟨by show 0 ≤ a + 1; omega, F', e3, ?_⟩, ?_⟩
        · show Bfs n ts p (a + 1).toNat ln F'
          rw [show (a + 1).toNat = a.toNat + 1 by omega]
          exact h4
        · show n.toNat - (a + 1).toNat < n.toNat - a.toNat
          omega
    · have hf : ¬ a < (line.length : Int) := of_decide_eq_false hf
      have hle := b'.le
      have ea : a.toNat = line.length := by omega
      rw [ea] at b'
      obtain ⟨h1, h2⟩ := b'.isDist hc hr p0 p1
      refine ⟨map_rng_congr fun v v0 v1 => ?_, dst_is h2⟩
      have h3 := dst_eq h2 v v0 v1
      obtain ⟨d, hd⟩ := Option.isSome_iff_exists.mp (h1 v v0 v1)
      have h3' : (F v).getD 0 = dst n ts p v := h3
      rw [hd] at h3' ⊢
      exact congrArg some h3'
  · refine ⟨Int.le_refl 0, _, rfl, ?_⟩
    show Bfs n ts p 0 [p] (fun i => if i = p then some 0 else none)
    refine ⟨Nat.zero_le _, by simp, fun v hv => ?_, fun v v0 v1 => ?_, if_pos rfl, fun v d hv => ?_, fun v hv => ?_, by simp, fun v hv u hu => ?_, fun i u hi => absurd hi (Nat.not_lt_zero _)⟩
    · rw [List.mem_singleton] at hv
      rw [hv]; exact ⟨p0, p1⟩
    · show v ∈ [p] ↔ (if v = p then some (0 : Int) else none).isSome = true
      rw [List.mem_singleton]
      by_cases e : v = p
      · rw [if_pos e]; simp [e]
      · rw [if_neg e]; simp [e]
    · have hv' : (if v = p then some (0 : Int) else none) = some d := hv
      split at hv'
      · cases hv'; exact Int.le_refl _
      · cases hv'
    · exact .inl (List.mem_singleton.mp hv)
    · rw [List.drop_zero] at hu
      rw [List.mem_singleton] at hv hu
      subst hv hu
      show (if u = u then some (0 : Int) else none).getD 0 ≤ (if u = u then some (0 : Int) else none).getD 0 + 1
      rw [if_pos rfl]
      decide
  · rw [fu_eq]
    show n.toNat - (0 : Int).toNat < 1000
    omega
theorem fars_by_ok {n : Int} {ts : List (Int × Int)} {p : Int} (n1 : n < 900) (hr : ∀ q ∈ ts, 0 ≤ q.1 ∧ q.1 < n ∧ 0 ≤ q.2 ∧ q.2 < n) (hc : Conn n ts) (p0 : 0 ≤ p) (p1 : p < n) :
    fars_by (nears n ts) p = R.ok ((rng 0 n).map fun v => some (dst n ts p v)) := po_iff ((fars_by_post n1 hr hc p0 p1).mono (fun _ h => h.1) fun _ h => h)
theorem web_fars {n : Int} {ts : List (Int × Int)} {p : Int} (h : WebOk n ts) (p0 : 0 ≤ p) (p1 : p < n) : fars_by (nears n ts) p = R.ok ((rng 0 n).map fun v => some (dst n ts p v)) := fars_by_ok (by have := h.n60; omega) h.rg4 h.conn p0 p1
end G
namespace G
open PySem L2 Z
theorem all_of_len {α : Type} [DecidableEq α] {xs ys : List α} (hx : xs.Nodup) (hs : ∀ x ∈ xs, x ∈ ys) (hl : ys.length ≤ xs.length) : ∀ y ∈ ys, y ∈ xs := fun y hy => by
  apply Classical.byContradiction
  intro hno
  have := nodup_le (xs := y :: xs) (ys := ys) (List.nodup_cons.mpr ⟨hno, hx⟩) fun z hz => by
    rcases List.mem_cons.mp hz with rfl | hz
    · exact hy
    · exact hs z hz
  rw [List.length_cons] at this
  omega
theorem place_ok {n p : Int} {t : Tup (Int × Int)} (p0 : 0 ≤ p) (p1 : p < n) : place_asked (n, t) p = R.ok () := by
  unfold place_asked
  dsimp only
  rw [decide_eq_true p0, decide_eq_true p1]
  rfl
theorem nbr_ok {n p : Int} {ts : List (Int × Int)} (h : WebOk n ts) (p0 : 0 ≤ p) (p1 : p < n) : neighbours_of (n, ⟨ts⟩) p = R.ok (sortI (nbs ts p)) := by
  unfold neighbours_of
  rw [place_ok p0 p1, ok_bind, web_near h, ok_bind, nears_get p0 p1]
  rfl
theorem near_floors_ok {n : Int} {ts : List (Int × Int)} (h : WebOk n ts) : near_lists_floors (n, ⟨ts⟩) = R.ok (nears n ts) := by
  have hn1 := h.n1
  have hn := h.n60
  refine po_iff ?_
  unfold near_lists_floors
  refine po_rng (by decide) (by decide) (by show -(2 ^ 62) ≤ n; omega) (by show n < 2 ^ 62; omega) ?_
  exact po_mapGE (g := fun i => sortI (nbs ts i)) (by show (rng 0 n).length < 100000; rw [rng_length]; omega) (fun i hi => by rw [nbr_ok h (rng_mem.mp hi).1 (rng_mem.mp hi).2]; rfl) rfl
/-- how far each place is from one -/
noncomputable def farL (n : Int) (ts : List (Int × Int)) (p : Int) : List Int := (rng 0 n).map (dst n ts p)
theorem farL_get {n p v : Int} {ts : List (Int × Int)} (v0 : 0 ≤ v) (v1 : v < n) : getI (farL n ts p) v = R.ok (dst n ts p v) := getI_eq v0 (map_rng_get v0 v1)
theorem allS_map {α : Type} (l : List α) : allS (l.map some) = R.ok l := allS_iff.mpr rfl
theorem fars_ok {n p : Int} {ts : List (Int × Int)} (h : WebOk n ts) (p0 : 0 ≤ p) (p1 : p < n) : fars_from (n, ⟨ts⟩) p = R.ok (farL n ts p) := by
  unfold fars_from
  rw [place_ok p0 p1, ok_bind, web_near h, ok_bind, web_fars h p0 p1, ok_bind]
  have e : (rng 0 n).map (fun v => some (dst n ts p v)) = ((rng 0 n).map (dst n ts p)).map some := by rw [List.map_map]; rfl
  rw [e, allS_map]
  rfl
/-- how far all places are from all -/
noncomputable def tabL (n : Int) (ts : List (Int × Int)) : List (List Int) := (rng 0 n).map fun p => (rng 0 n).map (dst n ts p)
theorem tab_get {n p : Int} {ts : List (Int × Int)} (p0 : 0 ≤ p) (p1 : p < n) : getI (tabL n ts) p = R.ok ((rng 0 n).map (dst n ts p)) := getI_eq p0 (map_rng_get p0 p1)
theorem row_get {n p v : Int} {ts : List (Int × Int)} (v0 : 0 ≤ v) (v1 : v < n) : getI ((rng 0 n).map (dst n ts p)) v = R.ok (dst n ts p v) := getI_eq v0 (map_rng_get v0 v1)
theorem table_ok {n : Int} {ts : List (Int × Int)} (h : WebOk n ts) : table_of (n, ⟨ts⟩) = R.ok (tabL n ts) := by
  have hn1 := h.n1
  have hn := h.n60
  refine po_iff ?_
  unfold table_of
  refine po_rng (by decide) (by decide) (by show -(2 ^ 62) ≤ n; omega) (by show n < 2 ^ 62; omega) ?_
  refine po_mapGE (g := fun p => (rng 0 n).map (dst n ts p)) (by show (rng 0 n).length < 100000; rw [rng_length]; omega) (fun p hp => ?_) rfl
  rw [fars_ok h (rng_mem.mp hp).1 (rng_mem.mp hp).2]
  rfl
/-- how far a thing is -/
noncomputable def farT (n : Int) (ts : List (Int × Int)) (p : Int) : Thing → Int
  | .pl i => dst n ts p i
  | .ti a b => min2 (dst n ts p a) (dst n ts p b)
def ThOk (n : Int) (ts : List (Int × Int)) : Thing → Prop
  | .pl i => 0 ≤ i ∧ i < n
  | .ti a b => (a, b) ∈ ts
def allT (n : Int) (ts : List (Int × Int)) : List Thing := mkpl (rng 0 n) ++ mkti ts
def kindT (n : Int) (ts : List (Int × Int)) (k : Str) : List Thing := if decide (k = "places") = true then mkpl (rng 0 n) else if decide (k = "ties") = true then mkti ts else allT n ts
theorem pl_mem {n : Int} {t : Thing} : t ∈ mkpl (rng 0 n) ↔ ∃ i, t = .pl i ∧ 0 ≤ i ∧ i < n := by
  unfold mkpl
  rw [List.mem_map]
  constructor
  · rintro ⟨i, hi, rfl⟩
    exact ⟨i, rfl, rng_mem.mp hi⟩
  · rintro ⟨i, rfl, hi⟩
    exact ⟨i, rng_mem.mpr hi, rfl⟩
theorem ti_mem {ts : List (Int × Int)} {t : Thing} : t ∈ mkti ts ↔ ∃ a b, t = .ti a b ∧ (a, b) ∈ ts := by
  unfold mkti
  rw [List.mem_map]
  constructor
  · rintro ⟨p, hp, rfl⟩
    exact ⟨p.1, p.2, rfl, hp⟩
  · rintro ⟨a, b, rfl, h⟩
    exact ⟨(a, b), h, rfl⟩
theorem allT_mem {n : Int} {ts : List (Int × Int)} {t : Thing} : t ∈ allT n ts ↔ ThOk n ts t := by
  unfold allT
  rw [List.mem_append, pl_mem, ti_mem]
  cases t with
  | pl i =>
    constructor
    · rintro (⟨j, e, h⟩ | ⟨a, b, e, _⟩)
      · cases e; exact h
      · cases e
    · intro h
      exact .inl ⟨i, rfl, h⟩
  | ti a b =>
    constructor
    · rintro (⟨j, e, h⟩ | ⟨c, d, e, h⟩)
      · cases e
      · cases e; exact h
    · intro h
      exact .inr ⟨a, b, rfl, h⟩
theorem kindT_ok {n : Int} {ts : List (Int × Int)} {k : Str} {t : Thing} (h : t ∈ kindT n ts k) : ThOk n ts t := by
  unfold kindT at h
  split at h
  · exact allT_mem.mp (List.mem_append_left _ h)
  · split at h
    · exact allT_mem.mp (List.mem_append_right _ h)
    · exact allT_mem.mp h
theorem allT_len {n : Int} {ts : List (Int × Int)} (n0 : 0 ≤ n) : ((allT n ts).length : Int) = n + ts.length := by
  unfold allT mkpl mkti
  rw [List.length_append, List.length_map, List.length_map, rng_length]
  omega
theorem things_ok {n : Int} {ts : List (Int × Int)} {k : Str} (h : WebOk n ts) : things_of (n, ⟨ts⟩) k = R.ok (kindT n ts k) := by
  have hn1 := h.n1
  have hn := h.n60
  have hl := h.len
  refine po_iff ?_
  unfold things_of kindT
  refine po_listRng (by decide) (by decide) (by show -(2 ^ 62) ≤ n; omega) (by show n < 2 ^ 62; omega) (by show (n - 0).toNat ≤ 100000; omega) ?_
  by_cases e1 : decide (k = "places") = true
  · rw [if_pos e1, if_pos e1]; rfl
  · rw [if_neg e1, if_neg e1]
    by_cases e2 : decide (k = "ties") = true
    · rw [if_pos e2, if_pos e2]; rfl
    · rw [if_neg e2, if_neg e2]
      refine po_extend ?_ rfl
      show (mkpl (rng 0 n)).length + (mkti ts).length < 100000
      unfold mkpl mkti
      rw [List.length_map, List.length_map, rng_length]
      omega
theorem far_by_ok {n p : Int} {ts : List (Int × Int)} {t : Thing} (h : WebOk n ts) (p0 : 0 ≤ p) (p1 : p < n) (ht : ThOk n ts t) : far_by (tabL n ts) p t = R.ok (farT n ts p t) := by
  unfold far_by
  cases t with
  | pl i =>
    show (asPl (.pl i) >>= _) = _
    rw [show asPl (.pl i) = R.ok i from rfl, ok_bind, tab_get p0 p1, ok_bind, row_get ht.1 ht.2]
    rfl
  | ti a b =>
    have hr := h.rg4 _ (show (a, b) ∈ ts from ht)
    show (asTi (.ti a b) >>= _) = _
    rw [show asTi (.ti a b) = R.ok (a, b) from rfl, ok_bind, tab_get p0 p1, ok_bind, row_get hr.1 hr.2.1, ok_bind, ok_bind, row_get hr.2.2.1 hr.2.2.2]
    rfl
/-- a rising list of places -/
structure LooksOk (n : Int) (ls : List Int) : Prop where
  rg : ∀ l ∈ ls, 0 ≤ l ∧ l < n
  up : ls.Pairwise (· < ·)
theorem LooksOk.len {n : Int} {ls : List Int} (h : LooksOk n ls) : ls.length ≤ n.toNat := by
  have := nodup_le (h.up.imp fun z => Int.ne_of_lt z) (ys := rng 0 n) fun v hv => rng_mem.mpr (h.rg v hv)
  rw [rng_length] at this
  omega
theorem looks_ok {n : Int} {t : Tup (Int × Int)} {ls : List Int} (h : LooksOk n ls) : looks_asked (n, t) ls = R.ok () := by
  refine po_iff ?_
  unfold looks_asked
  refine po_bind (po_fold (fun _ => True) trivial fun s x _ hx => ?_) fun _ _ => rfl
  obtain ⟨x0, x1, ex⟩ := enum_mem hx
  have hm := List.mem_of_getElem? ex
  have hr := h.rg _ hm
  refine po_bind (Q := fun j => j = false) (po_if (fun c => ?_) fun _ => ?_) fun j hj => ?_
  · rw [decide_eq_true hr.1, decide_eq_true (show x.2 < (n, t).1 from hr.2)] at c
    exact absurd c (by decide)
  · refine po_bind (Q := fun j => j = false) (po_if (fun c => ?_) fun _ => rfl) fun j hj => hj
    have c' := of_decide_eq_true c
    refine po_get (by omega) (by omega) fun y _ ey => ?_
    refine decide_eq_false ?_
    obtain ⟨i1, e1⟩ := List.getElem?_eq_some_iff.mp ey
    obtain ⟨i2, e2⟩ := List.getElem?_eq_some_iff.mp ex
    have := List.pairwise_iff_getElem.mp h.up _ _ i1 i2 (by omega)
    rw [e1, e2] at this
    omega
  · rw [hj]
    exact trivial
/-- two lists, item by item -/
inductive PW2 {α β : Type} (r : α → β → Prop) : List α → List β → Prop
  | nil : PW2 r [] []
  | cons {a : α} {b : β} {as : List α} {bs : List β} : r a b → PW2 r as bs → PW2 r (a :: as) (b :: bs)
theorem PW2.length {α β : Type} {r : α → β → Prop} {as : List α} {bs : List β} (h : PW2 r as bs) : as.length = bs.length := by
  induction h with
  | nil => rfl
  | cons _ _ ih => rw [List.length_cons, List.length_cons, ih]
theorem kind_len {n : Int} {ts : List (Int × Int)} {k : Str} (h : WebOk n ts) : (kindT n ts k).length ≤ 800 := by
  have hn1 := h.n1
  have hn := h.n60
  have hl := h.len
  have : (kindT n ts k).length ≤ (allT n ts).length := by
    unfold kindT allT
    rw [List.length_append]
    split
    · omega
    · split
      · omega
      · rw [List.length_append]; omega
  have := allT_len (ts := ts) (show 0 ≤ n by omega)
  omega
/-- a rising list of places -/
theorem zip_self {α β : Type} (f : α → β) (xs : List α) : xs.zip (xs.map f) = xs.map fun x => (x, f x) := by
  induction xs with
  | nil => rfl
  | cons x xs ih => rw [List.map_cons, List.zip_cons_cons, ih]; rfl
theorem cut_from {α : Type} (xs : List α) (k : Nat) : cutL xs (some (k : Int)) none = xs.drop k := by
  unfold cutL
  have e0 : HT.sIx xs.length 0 (some (k : Int)) = min k xs.length := HT.sIx_nat xs.length 0 k
  have e : HT.sIx xs.length xs.length none = xs.length := rfl
  rw [e, e0]
  by_cases h : k ≤ xs.length
  · rw [Nat.min_eq_left h, List.take_of_length_le (by rw [List.length_drop]; exact Nat.le_refl _)]
  · rw [Nat.min_eq_right (by omega), List.drop_of_length_le (Nat.le_refl _), List.drop_of_length_le (by omega), List.take_nil]
theorem cut_fromI {α : Type} (xs : List α) {k : Int} (k0 : 0 ≤ k) : cutL xs (some k) none = xs.drop k.toNat := by
  have := cut_from xs k.toNat
  rw [show ((k.toNat : Nat) : Int) = k by omega] at this
  exact this
theorem cut_nat {α : Type} (xs : List α) {k : Int} (k0 : 0 ≤ k) : cutL xs none (some k) = xs.take k.toNat := by
  have := cut_take xs k.toNat
  rw [show ((k.toNat : Nat) : Int) = k by omega] at this
  exact this
theorem cut_len {α : Type} {xs : List α} {i j : Option Int} : (cutL xs i j).length ≤ xs.length := by
  unfold cutL
  rw [List.length_take, List.length_drop]
  omega
theorem cut_sub {α : Type} {xs : List α} {i j : Option Int} {x : α} (h : x ∈ cutL xs i j) : x ∈ xs := by
  unfold cutL at h
  exact List.mem_of_mem_drop (List.mem_of_mem_take h)
/-! the table by rounds over the ties -/
section
variable {n p : Int} {ts : List (Int × Int)}
structure RowI (n p : Int) (ts : List (Int × Int)) (s : Int) (pre : List (Int × Int)) (F : Int → Int) : Prop where
  lo : ∀ v, 0 ≤ v → v < n → dst n ts p v ≤ s → F v = dst n ts p v
  hi : ∀ v, 0 ≤ v → v < n → s < dst n ts p v → F v = -1 ∨ (F v = s + 1 ∧ dst n ts p v = s + 1)
  dn : ∀ w v, 0 ≤ w → w < n → 0 ≤ v → v < n → dst n ts p w = s → dst n ts p v = s + 1 → Adj pre w v → F v = s + 1
def half5 (s a b : Int) (F : Int → Int) : Int → Int := fun v => if v = b ∧ F a = s ∧ F b < 0 then s + 1 else F v
theorem half5_or (s a b : Int) (F : Int → Int) (v : Int) : half5 s a b F v = F v ∨ half5 s a b F v = s + 1 := by
  unfold half5
  split
  · exact .inr rfl
  · exact .inl rfl
theorem half5_ok {s a b : Int} {F : Int → Int} (a0 : 0 ≤ a) (a1 : a < n) (b0 : 0 ≤ b) (b1 : b < n) : Post (do
    let j20 ← (do
      let t21 ← getI ((rng 0 n).map F) a
      if (decide (t21 = s)) = true then do
        let t23 ← getI ((rng 0 n).map F) b
        R.ok (decide (t23 < (0 : Int)))
      else do
        R.ok false : R (Bool))
    if j20 = true then do
      let l27 ← setI ((rng 0 n).map F) b (s + (1 : Int))
      R.ok l27
    else do
      R.ok ((rng 0 n).map F)) (fun r => r = (rng 0 n).map (half5 s a b F)) noX := by
  refine po_bind (Q := fun j => j = (decide (F a = s) && decide (F b < 0))) ?_ fun j hj => ?_
  · refine po_getE (getI_eq a0 (map_rng_get a0 a1)) (po_if (fun c => ?_) fun c => ?_)
    · refine po_getE (getI_eq b0 (map_rng_get b0 b1)) ?_
      show decide (F b < 0) = (decide (F a = s) && decide (F b < 0))
      rw [c]
      rfl
    · show false = (decide (F a = s) && decide (F b < 0))
      rw [show decide (F a = s) = false by simpa using c]
      rfl
  · rw [hj]
    refine po_if (fun c => ?_) fun c => ?_
    · have c' : F a = s ∧ F b < 0 := by
        rw [Bool.and_eq_true] at c
        exact ⟨of_decide_eq_true c.1, of_decide_eq_true c.2⟩
      refine po_set b0 (by rw [List.length_map, rng_length]; omega) ?_
      show ((rng 0 n).map F).set b.toNat (s + 1) = _
      rw [map_rng_set b0]
      refine map_rng_congr fun i _ _ => ?_
      unfold half5
      by_cases e : i = b
      · rw [if_pos e, if_pos ⟨e, c'⟩]
      · rw [if_neg e, if_neg fun z => e z.1]
    · have c' : ¬ (F a = s ∧ F b < 0) := fun z => c (by rw [decide_eq_true z.1, decide_eq_true z.2]; rfl)
      refine map_rng_congr fun i _ _ => ?_
      unfold half5
      rw [if_neg fun z => c' z.2]
theorem half5_inv {s a b : Int} {pre : List (Int × Int)} {F : Int → Int} (h : WebOk n ts) (p0 : 0 ≤ p) (p1 : p < n) (s0 : 0 ≤ s) (q : Adj ts a b) (hF : RowI n p ts s pre F) : RowI n p ts s pre (half5 s a b F) ∧ (dst n ts p a = s → dst n ts p b = s + 1 → half5 s a b F b = s + 1) := by
  obtain ⟨a0, a1, b0, b1, _⟩ := h.adj q
  have d := web_dist h p0 p1
  have hl := d.lip a b q
  by_cases c : F a = s ∧ F b < 0
  · have da : dst n ts p a = s := by
      by_cases z : dst n ts p a ≤ s
      · rw [← hF.lo a a0 a1 z]; exact c.1
      · rcases hF.hi a a0 a1 (by omega) with y | y <;> omega
    have db : s < dst n ts p b := by
      apply Classical.byContradiction
      intro z
      have := hF.lo b b0 b1 (by omega)
      have := d.nn b b0 b1
      omega
    have e : ∀ v, half5 s a b F v = if v = b then s + 1 else F v := fun v => by
      unfold half5
      by_cases z : v = b
      · rw [if_pos z, if_pos ⟨z, c⟩]
      · rw [if_neg z, if_neg fun y => z y.1]
    refine ⟨⟨fun v v0 v1 hv => ?_, fun v v0 v1 hv => ?_, fun w v w0 w1 v0 v1 hw hv ha => ?_⟩, fun _ _ => by rw [e, if_pos rfl]⟩
    · rw [e, if_neg fun z => by rw [z] at hv; omega]
      exact hF.lo v v0 v1 hv
    · rw [e]
      by_cases z : v = b
      · rw [if_pos z, z]
        exact .inr ⟨rfl, by omega⟩
      · rw [if_neg z]
        exact hF.hi v v0 v1 hv
    · rw [e]
      by_cases z : v = b
      · rw [if_pos z]
      · rw [if_neg z]
        exact hF.dn w v w0 w1 v0 v1 hw hv ha
  · have e : half5 s a b F = F := by
      funext v
      unfold half5
      rw [if_neg fun z => c z.2]
    rw [e]
    refine ⟨hF, fun ha hb => ?_⟩
    rcases hF.hi b b0 b1 (by omega) with y | y
    · exact absurd ⟨by rw [hF.lo a a0 a1 (by omega)]; exact ha, by omega⟩ c
    · exact y.1
theorem law_table_ok (h : WebOk n ts) : law_table (n, ⟨ts⟩) = R.ok (tabL n ts) := by
  have hn1 := h.n1
  have hn := h.n60
  refine po_iff ?_
  unfold law_table
  refine po_rng (by decide) (by decide) (by show -(2 ^ 62) ≤ n; omega) (by show n < 2 ^ 62; omega) ?_
  refine po_bind (Q := fun g => g = tabL n ts) (Post.mono (po_foldP (fun pre g => g = pre.map fun p => (rng 0 n).map (dst n ts p)) rfl ?_) (fun _ z => z) fun _ z => z) fun g hg => hg
  intro pre g p post e hg
  have hx := rng_pre e
  obtain ⟨_, p0, p1⟩ := rng_split e
  have d := web_dist h p0 p1
  refine po_rep (by show 0 ≤ n; omega) (by show n < 1000; omega) (by show 1 < 100; decide) ?_
  have erep : repL ([(-(1 : Int))] : List Int) n = (rng 0 n).map fun _ => (-1 : Int) := by
    refine List.ext_getElem? fun i => ?_
    unfold repL
    have : (List.replicate n.toNat [(-(1 : Int))]).flatten = List.replicate n.toNat (-1) := by
      generalize n.toNat = m
      induction m with
      | zero => rfl
      | succ m ih => rw [List.replicate_succ, List.replicate_succ, List.flatten_cons, ih]; rfl
    rw [this, List.getElem?_map, List.getElem?_replicate]
    by_cases z : i < n.toNat
    · rw [if_pos z, rng_atE (by omega)]; rfl
    · rw [if_neg z, List.getElem?_eq_none (by rw [rng_length]; omega)]; rfl
  show Post (setI (repL ([(-(1 : Int))] : List Int) n) p (0 : Int) >>= _) _ _
  rw [erep]
  refine po_set p0 (by rw [List.length_map, rng_length]; omega) ?_
  rw [map_rng_set p0]
  refine po_rng (by decide) (by decide) (by show -(2 ^ 62) ≤ n; omega) (by show n < 2 ^ 62; omega) ?_
  have hz : ∀ v, 0 ≤ v → v < n → dst n ts p v = 0 → v = p := fun v v0 v1 hv => by
    apply Classical.byContradiction
    intro z
    obtain ⟨w, w0, w1, _, ew⟩ := d.desc v v0 v1 z
    have := d.nn w w0 w1
    omega
  refine po_bind (Q := fun g => g = (rng 0 n).map (dst n ts p)) (Post.mono (po_foldP (fun pre g => ∃ F : Int → Int, g = (rng 0 n).map F ∧ ∀ v, 0 ≤ v → v < n → (dst n ts p v ≤ (pre.length : Int) → F v = dst n ts p v) ∧ ((pre.length : Int) < dst n ts p v → F v = -1)) ⟨_, rfl, fun v v0 v1 => ⟨fun hv => ?_, fun hv => ?_⟩⟩ ?_) (fun r hr => ?_) fun _ z => z) fun g2 hg2 => ?_
  · have := d.nn v v0 v1
    have hv' : dst n ts p v ≤ 0 := hv
    have e1 := hz v v0 v1 (by omega)
    show (if v = p then (0 : Int) else -1) = _
    rw [if_pos e1]
    omega
  · have hv' : 0 < dst n ts p v := hv
    show (if v = p then (0 : Int) else -1) = _
    rw [if_neg fun e1 => by rw [e1, d.zero] at hv'; omega]
  · intro pr g2 s po e2 hg2
    obtain ⟨F, rfl, hF⟩ := hg2
    have hs := rng_pre e2
    obtain ⟨_, s0, s1⟩ := rng_split e2
    have hs' : (pr.length : Int) = s := by omega
    rw [hs'] at hF
    refine Post.mono (po_bind (po_foldP (fun pre g => ∃ F : Int → Int, g = (rng 0 n).map F ∧ RowI n p ts s pre F) ⟨F, rfl, ⟨fun v v0 v1 hv => (hF v v0 v1).1 hv, fun v v0 v1 hv => .inl ((hF v v0 v1).2 hv), fun w v _ _ _ _ _ _ ha => by rcases ha with z | z <;> cases z⟩⟩ ?_) fun g3 hg3 => po_ok hg3) (fun r hr => ?_) fun _ z => z
    · intro pre3 g3 t post3 e3 hg3
      obtain ⟨F, rfl, hF⟩ := hg3
      have ht : t ∈ ts := by
        have e3' : ts = pre3 ++ t :: post3 := e3
        rw [e3']; simp
      have hq : Adj ts t.1 t.2 := .inl ht
      obtain ⟨a0, a1, b0, b1⟩ := h.rg4 t ht
      obtain ⟨h1, d1⟩ := half5_inv h p0 p1 s0 hq hF
      obtain ⟨h2, d2⟩ := half5_inv h p0 p1 s0 hq.symm h1
      refine po_bind (half5_ok a0 a1 b0 b1) fun r hr => ?_
      subst hr
      refine Post.mono (half5_ok b0 b1 a0 a1) (fun r hr => ⟨_, hr, ⟨h2.lo, h2.hi, fun w v w0 w1 v0 v1 hw hv ha => ?_⟩⟩) fun _ z => z
      rcases ha with z | z
      · rcases List.mem_append.mp z with z | z
        · exact h2.dn w v w0 w1 v0 v1 hw hv (.inl z)
        · have e4 := List.mem_singleton.mp z
          have ew : t.1 = w := by rw [← e4]
          have ev : t.2 = v := by rw [← e4]
          have k1 := d1 (by rw [ew]; exact hw) (by rw [ev]; exact hv)
          rw [ev] at k1
          rcases half5_or s t.2 t.1 (half5 s t.1 t.2 F) v with e5 | e5
          · rw [e5, ev]
            exact k1
          · exact e5
      · rcases List.mem_append.mp z with z | z
        · exact h2.dn w v w0 w1 v0 v1 hw hv (.inr z)
        · have e4 := List.mem_singleton.mp z
          have ew : t.2 = w := by rw [← e4]
          have ev : t.1 = v := by rw [← e4]
          have k1 := d2 (by rw [ew]; exact hw) (by rw [ev]; exact hv)
          rw [ev] at k1 ⊢
          exact k1
    · obtain ⟨G, rfl, hG⟩ := hr
      refine ⟨G, rfl, fun v v0 v1 => ?_⟩
      have el : ((pr ++ [s]).length : Int) = s + 1 := by rw [List.length_append, List.length_singleton]; omega
      rw [el]
      have key : dst n ts p v = s + 1 → G v = s + 1 := fun hv => by
        obtain ⟨w, w0, w1, hq, ew⟩ := d.desc v v0 v1 fun z => by rw [z, d.zero] at hv; omega
        exact hG.dn w v w0 w1 v0 v1 (by omega) hv hq
      refine ⟨fun hv => ?_, fun hv => ?_⟩
      · by_cases z : dst n ts p v ≤ s
        · exact hG.lo v v0 v1 z
        · have e5 : dst n ts p v = s + 1 := by omega
          rw [key e5, e5]
      · rcases hG.hi v v0 v1 (by omega) with y | y <;> omega
  · obtain ⟨F, rfl, hF⟩ := hr
    rw [rng_length] at hF
    refine map_rng_congr fun v v0 v1 => (hF v v0 v1).1 ?_
    have := d.lt v v0 v1
    omega
  · rw [hg2]
    refine po_app ?_ ?_
    · rw [hg, List.length_map]
      have := congrArg List.length e
      rw [rng_length, List.length_append, List.length_cons] at this
      omega
    · show g ++ _ = _
      rw [hg, List.map_append]
      rfl
end
/-! things, parters, pairs (laws k35 on) -/
theorem minL2 (x y : Int) : minL [x, y] = R.ok (min2 x y) := by
  unfold minL
  have : [x, y].min? = some (min2 x y) := by
    rw [List.min?_eq_some_iff]
    unfold min2
    split <;> simp <;> omega
  rw [this]
  rfl
theorem ties_few {n : Int} {ts : List (Int × Int)} (h : WebOk n ts) : (ts.length : Int) ≤ n * n := by
  have n1 := h.n1
  have h1 : (ts.map fun p => p.1 * n + p.2).Nodup := by
    refine List.pairwise_map.mpr (h.nd.imp_of_mem ?_)
    intro a b ha hb hne e
    have ra := h.rg a ha
    have rb := h.rg b hb
    have e1 : a.1 = b.1 := by
      have q1 : (a.2 + a.1 * n) / n = a.1 := by
        rw [Int.add_mul_ediv_right _ _ (by omega), Int.ediv_eq_zero_of_lt (by omega) (by omega), Int.zero_add]
      have q2 : (b.2 + b.1 * n) / n = b.1 := by
        rw [Int.add_mul_ediv_right _ _ (by omega), Int.ediv_eq_zero_of_lt (by omega) (by omega), Int.zero_add]
      rw [← q1, ← q2, Int.add_comm a.2, Int.add_comm b.2, e]
    have e2 : a.2 = b.2 := by rw [e1] at e; omega
    exact hne (Prod.ext e1 e2)
  have h2 := nodup_le h1 (ys := rng 0 (n * n)) fun x hx => by
    obtain ⟨p, hp, rfl⟩ := List.mem_map.mp hx
    have := h.rg p hp
    have m1 : p.1 * n ≤ (n - 1) * n := Int.mul_le_mul_of_nonneg_right (by omega) (by omega)
    have m0 : 0 ≤ p.1 * n := Int.mul_nonneg (by omega) (by omega)
    rw [Int.sub_mul] at m1
    exact rng_mem.mpr ⟨by omega, by omega⟩
  have nn : 0 ≤ n * n := Int.mul_nonneg (by omega) (by omega)
  rw [List.length_map, rng_length] at h2
  omega
theorem kind_few {n : Int} {ts : List (Int × Int)} {k : Str} (h : WebOk n ts) (h12 : n ≤ 12) : (kindT n ts k).length ≤ 156 := by
  have n1 := h.n1
  have hl := ties_few h
  have hm : n * n ≤ 12 * 12 := Int.mul_le_mul h12 h12 (by omega) (by omega)
  have : (kindT n ts k).length ≤ (allT n ts).length := by
    unfold kindT allT
    rw [List.length_append]
    split
    · omega
    · split
      · omega
      · rw [List.length_append]; omega
  have := allT_len (ts := ts) (show 0 ≤ n by omega)
  omega
/-- the places that part two things -/
noncomputable def partL (n : Int) (ts : List (Int × Int)) (a b : Thing) : List Int := (rng 0 n).filter fun p => !decide (farT n ts p a = farT n ts p b)
theorem partL_len {n : Int} {ts : List (Int × Int)} {a b : Thing} : (partL n ts a b).length ≤ n.toNat := by
  have := List.length_filter_le (fun p => !decide (farT n ts p a = farT n ts p b)) (rng 0 n)
  rw [rng_length] at this
  unfold partL
  omega
theorem partL_mem {n : Int} {ts : List (Int × Int)} {a b : Thing} {p : Int} : p ∈ partL n ts a b ↔ (0 ≤ p ∧ p < n) ∧ farT n ts p a ≠ farT n ts p b := by
  unfold partL
  rw [List.mem_filter, rng_mem]
  simp
theorem law_things_ok {n : Int} {ts : List (Int × Int)} {k : Str} (h : WebOk n ts) (hk : k = "places" ∨ k = "ties" ∨ k = "all") : law_things (n, ⟨ts⟩) k = R.ok (kindT n ts k) := by
  have hn1 := h.n1
  have hn := h.n60
  have hl := h.len
  refine po_iff ?_
  unfold law_things
  refine po_listRng (by decide) (by decide) (by show -(2 ^ 62) ≤ n; omega) (by show n < 2 ^ 62; omega) (by show (n - 0).toNat ≤ 100000; omega) ?_
  refine po_rep (by unfold b2i; split <;> omega) (by unfold b2i; split <;> omega) (by show (rng 0 n).length < 100; rw [rng_length]; omega) ?_
  have l1 : (mkpl (rng 0 n)).length + (mkti ts).length < 100000 := by
    unfold mkpl mkti
    rw [List.length_map, List.length_map, rng_length]
    omega
  have e1 : repL (rng 0 n) 1 = rng 0 n := by
    unfold repL
    show (List.replicate 1 (rng 0 n)).flatten = _
    simp
  refine po_bind (Q := fun g => g = kindT n ts k) ?_ fun g hg => by
    rw [hg]
    rfl
  rcases hk with rfl | rfl | rfl
  · refine po_if (fun c => absurd c (by decide)) fun _ => ?_
    show mkpl (repL (rng 0 n) 1) = _
    rw [e1]
    rfl
  · refine po_if (fun _ => ?_) fun c => absurd (by decide) c
    refine po_extend (xs := mkpl (repL (rng 0 n) 0)) ?_ rfl
    show 0 + (mkti ts).length < 100000
    omega
  · refine po_if (fun _ => ?_) fun c => absurd (by decide) c
    refine po_extend (xs := mkpl (repL (rng 0 n) 1)) ?_ ?_
    · rw [e1]
      exact l1
    · show mkpl (repL (rng 0 n) 1) ++ mkti ts = _
      rw [e1]
      rfl
theorem law_far_ok {n p : Int} {ts : List (Int × Int)} {t : Thing} (h : WebOk n ts) (p0 : 0 ≤ p) (p1 : p < n) (ht : ThOk n ts t) : law_far (tabL n ts) p t = R.ok (farT n ts p t) := by
  unfold law_far
  cases t with
  | pl i =>
    show (asPl (.pl i) >>= _) = _
    rw [show asPl (.pl i) = R.ok i from rfl, ok_bind, tab_get p0 p1, ok_bind, row_get ht.1 ht.2]
    rfl
  | ti a b =>
    have hr := h.rg4 _ (show (a, b) ∈ ts from ht)
    show (asTi (.ti a b) >>= _) = _
    rw [show asTi (.ti a b) = R.ok (a, b) from rfl, ok_bind]
    rw [mapG_ok (g := dst n ts p) (by show (2 : Nat) < 100000; decide) fun x hx => by
      rw [tab_get p0 p1, ok_bind]
      rcases List.mem_cons.mp hx with rfl | hx
      · rw [row_get hr.1 hr.2.1]; rfl
      · rw [List.mem_singleton.mp hx, row_get hr.2.2.1 hr.2.2.2]; rfl]
    rw [ok_bind]
    show (minL [dst n ts p a, dst n ts p b] >>= _) = _
    rw [minL2]
    rfl
theorem tab_len {n : Int} {ts : List (Int × Int)} (n0 : 0 ≤ n) : ((tabL n ts).length : Int) = n := by
  unfold tabL
  rw [List.length_map, rng_length]
  omega
theorem law_parters_ok {n : Int} {ts : List (Int × Int)} {a b : Thing} (h : WebOk n ts) (ha : ThOk n ts a) (hb : ThOk n ts b) : law_parters (tabL n ts) a b = R.ok (partL n ts a b) := by
  have hn1 := h.n1
  have hn := h.n60
  refine po_iff ?_
  unfold law_parters
  rw [tab_len (by omega)]
  refine po_rng (by decide) (by decide) (by omega) (by omega) ?_
  refine po_filGE (g := fun p => if (!decide (farT n ts p a = farT n ts p b)) = true then some p else none) (by rw [rng_length]; omega) (fun p hp => ?_) ?_
  · obtain ⟨p0, p1⟩ := rng_mem.mp hp
    rw [law_far_ok h p0 p1 ha, ok_bind, law_far_ok h p0 p1 hb, ok_bind]
    split <;> rfl
  · show _ = _
    rw [fil_ite]
    rfl
abbrev Part : Type := Nt (Thing × Thing × (List Int) × Unit)
noncomputable def mkP (n : Int) (ts : List (Int × Int)) (a b : Thing) : Part := Nt.mk (a, b, partL n ts a b, ())
/-- each two things, the one ahead of the other, with their parters -/
noncomputable def pairsT (n : Int) (ts : List (Int × Int)) (T : List Thing) (is : List Int) : List Part := is.flatMap fun i => (T.drop (i + 1).toNat).map (mkP n ts (T.getD i.toNat (.pl 0)))
theorem pairsT_len {n : Int} {ts : List (Int × Int)} {T : List Thing} (is : List Int) : (pairsT n ts T is).length ≤ is.length * T.length := by
  unfold pairsT
  induction is with
  | nil => exact Nat.zero_le _
  | cons i is ih =>
    rw [List.flatMap_cons, List.length_append, List.length_map, List.length_drop, List.length_cons, Nat.succ_mul]
    omega
theorem pairsT_mem {n : Int} {ts : List (Int × Int)} {T : List Thing} {x : Part} (h : x ∈ pairsT n ts T (rng 0 T.length)) : x.v.1 ∈ T ∧ x.v.2.1 ∈ T ∧ x.v.2.2.1 = partL n ts x.v.1 x.v.2.1 := by
  unfold pairsT at h
  obtain ⟨i, hi, hx⟩ := List.mem_flatMap.mp h
  obtain ⟨i0, i1⟩ := rng_mem.mp hi
  obtain ⟨b, hb, rfl⟩ := List.mem_map.mp hx
  refine ⟨?_, List.mem_of_mem_drop hb, rfl⟩
  show T.getD i.toNat (.pl 0) ∈ T
  rw [List.getD_eq_getElem?_getD, List.getElem?_eq_getElem (show i.toNat < T.length by omega)]
  exact List.getElem_mem _
noncomputable def partedL (n : Int) (ts : List (Int × Int)) (k : Str) : List Part := pairsT n ts (kindT n ts k) (rng 0 (kindT n ts k).length)
theorem partedL_len {n : Int} {ts : List (Int × Int)} {k : Str} (h : WebOk n ts) (h12 : n ≤ 12) : (partedL n ts k).length ≤ 24336 := by
  have hk := kind_few (k := k) h h12
  have h1 : (partedL n ts k).length ≤ (rng 0 (kindT n ts k).length).length * (kindT n ts k).length := pairsT_len _
  rw [rng_length] at h1
  have h2 : (((kindT n ts k).length : Int) - 0).toNat * (kindT n ts k).length ≤ 156 * 156 := Nat.mul_le_mul (by omega) hk
  omega
theorem fold_pairs {n : Int} {ts : List (Int × Int)} {T us : List Thing} {f : List Part → Thing → R (List Part)} {a : Thing} {g : List Part} (hl : g.length + us.length ≤ 100000) (hf : ∀ g b, b ∈ us → g.length < 100000 → f g b = R.ok (g ++ [mkP n ts a b])) : foldR f g us = R.ok (g ++ us.map (mkP n ts a)) := by
  induction us generalizing g with
  | nil => rw [List.map_nil, List.append_nil]; rfl
  | cons u us ih =>
    rw [List.length_cons] at hl
    show (f g u >>= fun s => foldR f s us) = _
    rw [hf g u List.mem_cons_self (by omega), ok_bind, ih (by rw [List.length_append, List.length_singleton]; omega) fun g b hb => hf g b (List.mem_cons_of_mem _ hb), List.append_assoc]
    rfl
theorem law_parted_ok {n : Int} {ts : List (Int × Int)} {k : Str} (h : WebOk n ts) (h12 : n ≤ 12) (hk : k = "places" ∨ k = "ties" ∨ k = "all") : law_parted (n, ⟨ts⟩) k = R.ok (partedL n ts k) := by
  have hkl := kind_few (k := k) h h12
  refine po_iff ?_
  unfold law_parted
  rw [law_table_ok h, ok_bind, law_things_ok h hk, ok_bind]
  generalize hT : kindT n ts k = T at hkl
  have hTo : ∀ t ∈ T, ThOk n ts t := fun t ht => kindT_ok (hT ▸ ht)
  refine po_rng (by decide) (by decide) (by omega) (by omega) ?_
  refine po_bind (Q := fun g => g = pairsT n ts T (rng 0 T.length)) (Post.mono (po_foldP (fun pre g => g = pairsT n ts T pre) rfl ?_) (fun _ z => z) fun _ z => z) fun g hg => ?_
  · intro pre g i post e hg
    obtain ⟨_, i0, i1⟩ := rng_split e
    have hpl : pre.length ≤ 156 := by
      have := congrArg List.length e
      rw [rng_length, List.length_append] at this
      omega
    have hgl : g.length ≤ 24336 := by
      have h1 := pairsT_len (n := n) (ts := ts) (T := T) pre
      have h2 : pre.length * T.length ≤ 156 * 156 := Nat.mul_le_mul hpl hkl
      rw [hg]
      omega
    have hi : T[i.toNat]? = some (T.getD i.toNat (.pl 0)) := by
      rw [List.getD_eq_getElem?_getD, List.getElem?_eq_getElem (show i.toNat < T.length by omega)]; rfl
    rw [cut_fromI _ (show 0 ≤ i + 1 by omega)]
    rw [fold_pairs (n := n) (ts := ts) (T := T) (a := T.getD i.toNat (.pl 0)) (by rw [List.length_drop]; omega) fun g b hb hgl => by
      rw [getI_eq i0 hi, ok_bind, ok_bind, law_parters_ok h (hTo _ (List.mem_of_getElem? hi)) (hTo _ (List.mem_of_mem_drop hb)), ok_bind, app_ok hgl, ok_bind]
      unfold mkP
      with_reducible rfl]
    show g ++ _ = _
    unfold pairsT
    rw [List.flatMap_append, hg]
    unfold pairsT
    simp only [List.flatMap_cons, List.flatMap_nil, List.append_nil]
  · rw [hg]
    show _ = partedL n ts k
    unfold partedL
    rw [hT]
/-! the program's own table, parters (fewest) -/
theorem fars_of_ok {n : Int} {ts : List (Int × Int)} (h : WebOk n ts) : fars_of (n, ⟨ts⟩) = R.ok (tabL n ts) := by
  have hn1 := h.n1
  have hn := h.n60
  refine po_iff ?_
  unfold fars_of
  refine po_rng (by decide) (by decide) (by show -(2 ^ 62) ≤ n; omega) (by show n < 2 ^ 62; omega) ?_
  refine po_mapGE (g := fun p => (rng 0 n).map (dst n ts p)) (by show (rng 0 n).length < 100000; rw [rng_length]; omega) (fun p hp => ?_) rfl
  rw [fars_ok h (rng_mem.mp hp).1 (rng_mem.mp hp).2]
  rfl
theorem far_in_ok {n p : Int} {ts : List (Int × Int)} {t : Thing} (h : WebOk n ts) (ht : ThOk n ts t) : far_in ((rng 0 n).map (dst n ts p)) t = R.ok (farT n ts p t) := by
  unfold far_in
  cases t with
  | pl i =>
    show (asPl (.pl i) >>= _) = _
    rw [show asPl (.pl i) = R.ok i from rfl, ok_bind, row_get ht.1 ht.2]
    rfl
  | ti a b =>
    have hr := h.rg4 _ (show (a, b) ∈ ts from ht)
    show (asTi (.ti a b) >>= _) = _
    rw [show asTi (.ti a b) = R.ok (a, b) from rfl, ok_bind, row_get hr.1 hr.2.1, ok_bind, row_get hr.2.2.1 hr.2.2.2]
    rfl
theorem enum_tab {n : Int} {ts : List (Int × Int)} (n0 : 0 ≤ n) : enum (tabL n ts) = (rng 0 n).map fun p => (p, (rng 0 n).map (dst n ts p)) := by
  unfold enum
  rw [tab_len n0]
  unfold tabL
  exact zip_self _ _
theorem parters_in_ok {n : Int} {ts : List (Int × Int)} {a b : Thing} (h : WebOk n ts) (ha : ThOk n ts a) (hb : ThOk n ts b) : parters_in (tabL n ts) a b = R.ok (partL n ts a b) := by
  have hn1 := h.n1
  have hn := h.n60
  refine po_iff ?_
  unfold parters_in
  rw [enum_tab (by omega)]
  refine po_filGE (g := fun q : Int × List Int => if (!decide (farT n ts q.1 a = farT n ts q.1 b)) = true then some q.1 else none) (by rw [List.length_map, rng_length]; omega) (fun q hq => ?_) ?_
  · obtain ⟨p, hp, rfl⟩ := List.mem_map.mp hq
    show (far_in ((rng 0 n).map (dst n ts p)) a >>= _) = _
    rw [far_in_ok h ha, ok_bind]
    show (far_in ((rng 0 n).map (dst n ts p)) b >>= _) = _
    rw [far_in_ok h hb, ok_bind]
    show (if (!decide (farT n ts p a = farT n ts p b)) = true then R.ok (some p) else R.ok none) = R.ok (if (!decide (farT n ts p a = farT n ts p b)) = true then some p else none)
    split <;> rfl
  · show _ = _
    rw [List.filterMap_map]
    show (rng 0 n).filterMap (fun p => if (!decide (farT n ts p a = farT n ts p b)) = true then some p else none) = _
    rw [fil_ite]
    rfl
theorem po_filB {α γ : Type} {P : α → Bool} {xs : List α} {k : List α → R γ} {T : γ → Prop} {X : Exn → Prop} (hl : xs.length < 100000) (hk : Post (k (xs.filter P)) T X) : Post (filG (fun b => if P b = true then R.ok (some b) else R.ok none) xs >>= k) T X := by
  refine po_filGE (g := fun b => if P b = true then some b else none) hl (fun b _ => by split <;> rfl) ?_
  rw [fil_ite]
  exact hk
/-- a tree of a case, walked -/
noncomputable def caseS (n : Int) (ts : List (Int × Int)) (T : List Thing) (st m : Int) : Nat → Tr → List Int → List Int → Bool
  | 0, _, _, _ => false
  | d + 1, t, w, wo =>
    if ((!inB t.a T) || ((!inB t.b T) || (decide (t.a = t.b)))) = true then false
    else if (decide (st ≤ (((partL n ts t.a t.b).filter fun b => inB b w).length : Int))) = true then false
    else if (decide ((w.length : Int) = m)) = true then t.ts.isEmpty
    else if (!decide ((t.ts.length : Int) = (((partL n ts t.a t.b).filter fun b => (!inB b w) && (!inB b wo)).length : Int))) = true then false
    else (rng 0 ((partL n ts t.a t.b).filter fun b => (!inB b w) && (!inB b wo)).length).all fun i => caseS n ts T st m d (t.ts.getD i.toNat (.n (.pl 0) (.pl 0) [])) (w ++ [((partL n ts t.a t.b).filter fun b => (!inB b w) && (!inB b wo)).getD i.toNat 0]) (wo ++ ((partL n ts t.a t.b).filter fun b => (!inB b w) && (!inB b wo)).take i.toNat)
theorem inB_of {α : Type} [DecidableEq α] {t : α} {T : List α} (h : ¬ (!inB t T) = true) : t ∈ T := by
  cases e : inB t T with
  | true => exact inB_t.mp e
  | false => rw [e] at h; exact absurd rfl h
section
variable {n : Int} {ts : List (Int × Int)} {k : Str} {st m : Int}
theorem case_things {t : Tr} {T : List Thing} (c : ¬ ((!inB t.a T) || ((!inB t.b T) || (decide (t.a = t.b)))) = true) : t.a ∈ T ∧ t.b ∈ T ∧ t.a ≠ t.b := by
  rw [Bool.or_eq_true, Bool.or_eq_true, not_or, not_or] at c
  exact ⟨inB_of c.1, inB_of c.2.1, fun e => c.2.2 (decide_eq_true e)⟩
/-- a fold that leaves at the first that is not so, by a list of numbers -/
theorem fold_all {α : Type} {f : Unit → α → R (Sum Bool (Bool × Unit))} {φ : Int → α} {q : Int → Bool} {N : Nat} (hf : ∀ i : Int, 0 ≤ i → i < N → f () (φ i) = (if (!q i) = true then R.ok (.inl false) else R.ok (.inr (true, ())))) :
    foldX f () ((rng 0 N).map φ) = R.ok (if (rng 0 N).all q = true then .inr () else .inl false) := by
  have key : ∀ l : List Int, (∀ i ∈ l, 0 ≤ i ∧ i < N) → foldX f () (l.map φ) = R.ok (if l.all q = true then .inr () else .inl false) := by
    intro l
    induction l with
    | nil => intro _; rfl
    | cons i l ih =>
      intro h
      have hi := h i List.mem_cons_self
      show (f () (φ i) >>= _) = _
      rw [hf i hi.1 hi.2, List.all_cons]
      cases e : q i with
      | false => rfl
      | true =>
        show foldX f () (l.map φ) = _
        rw [ih fun i hi => h i (List.mem_cons_of_mem _ hi)]
        rfl
  exact key _ fun i hi => rng_mem.mp hi
theorem enum_mapI (l : List Int) : enum l = (rng 0 l.length).map fun i => (i, l.getD i.toNat 0) := by
  refine List.ext_getElem? fun i => ?_
  rw [List.getElem?_map]
  by_cases hi : i < l.length
  · rw [rng_atE (by omega), enum_get (List.getElem?_eq_getElem hi)]
    show some ((i : Int), l[i]) = some ((0 : Int) + (i : Int), l.getD ((0 : Int) + (i : Int)).toNat 0)
    rw [show ((0 : Int) + (i : Int)).toNat = i by omega, List.getD_eq_getElem?_getD, List.getElem?_eq_getElem hi, show (0 : Int) + (i : Int) = i by omega]
    rfl
  · rw [List.getElem?_eq_none (by rw [enum_length]; omega), List.getElem?_eq_none (by rw [rng_length]; omega)]
    rfl
theorem getD_at {α : Type} {l : List α} {i : Int} {d : α} (h0 : 0 ≤ i) (h1 : i < l.length) : getI l i = R.ok (l.getD i.toNat d) := getI_eq h0 (by rw [List.getD_eq_getElem?_getD, List.getElem?_eq_getElem (show i.toNat < l.length by omega)]; rfl)
theorem left_len {a b : Thing} {P : Int → Bool} (hn : n ≤ 60) : ((partL n ts a b).filter P).length ≤ 60 := by
  have h1 := List.length_filter_le P (partL n ts a b)
  have h2 := partL_len (n := n) (ts := ts) (a := a) (b := b)
  omega
end
/-! ### a fold that leaves, by what is gone through -/
theorem po_foldXP {β α ρ : Type} {f : β → α → R (Sum ρ (Bool × β))} {s : β} {xs : List α} {X : Exn → Prop} (I : List α → β → Prop) (P : ρ → Prop) (h0 : I [] s)
    (hf : ∀ pre s x post, xs = pre ++ x :: post → I pre s → Post (f s x) (fun r => (∃ z, r = .inl z ∧ P z) ∨ ∃ s', r = .inr (true, s') ∧ I (pre ++ [x]) s') X) : Post (foldX f s xs) (fun r => (∃ z, r = .inl z ∧ P z) ∨ ∃ s', r = .inr s' ∧ I xs s') X := by
  have key : ∀ (l pre : List α) (s : β), xs = pre ++ l → I pre s → Post (foldX f s l) (fun r => (∃ z, r = .inl z ∧ P z) ∨ ∃ s', r = .inr s' ∧ I xs s') X := by
    intro l
    induction l with
    | nil =>
      intro pre s e h
      rw [List.append_nil] at e
      rw [e]
      exact .inr ⟨s, rfl, h⟩
    | cons x l ih =>
      intro pre s e h
      refine po_bind (hf pre s x l e h) fun r hr => ?_
      rcases hr with ⟨z, rfl, hz⟩ | ⟨s', rfl, hs⟩
      · exact .inl ⟨z, rfl, hz⟩
      · exact ih (pre ++ [x]) s' (by rw [e, List.append_assoc]; rfl) hs
  exact key xs [] s rfl h0
/-! ### pairs of the program -/
theorem enum_mapT (l : List Thing) : enum l = (rng 0 l.length).map fun i => (i, l.getD i.toNat (.pl 0)) := by
  refine List.ext_getElem? fun i => ?_
  rw [List.getElem?_map]
  by_cases hi : i < l.length
  · rw [rng_atE (by omega), enum_get (List.getElem?_eq_getElem hi)]
    show some ((i : Int), l[i]) = some ((0 : Int) + (i : Int), l.getD ((0 : Int) + (i : Int)).toNat (.pl 0))
    rw [show ((0 : Int) + (i : Int)).toNat = i by omega, List.getD_eq_getElem?_getD, List.getElem?_eq_getElem hi, show (0 : Int) + (i : Int) = i by omega]
    rfl
  · rw [List.getElem?_eq_none (by rw [enum_length]; omega), List.getElem?_eq_none (by rw [rng_length]; omega)]
    rfl
theorem foldR_map {α β γ : Type} {f : β → α → R β} {φ : γ → α} : ∀ {l : List γ} {s : β}, foldR f s (l.map φ) = foldR (fun s x => f s (φ x)) s l
  | [], s => rfl
  | x :: l, s => by
    show (f s (φ x) >>= fun s' => foldR f s' (l.map φ)) = (f s (φ x) >>= fun s' => foldR (fun s x => f s (φ x)) s' l)
    congr 1
    funext s'
    exact foldR_map
theorem pairs_of_ok {n : Int} {ts : List (Int × Int)} {k : Str} (h : WebOk n ts) (h12 : n ≤ 12) : pairs_of (n, ⟨ts⟩) k = R.ok (partedL n ts k) := by
  have hkl := kind_few (k := k) h h12
  refine po_iff ?_
  unfold pairs_of
  rw [things_ok h, ok_bind, fars_of_ok h, ok_bind]
  generalize hT : kindT n ts k = T at hkl
  have hTo : ∀ t ∈ T, ThOk n ts t := fun t ht => kindT_ok (hT ▸ ht)
  rw [enum_mapT, foldR_map]
  refine po_bind (Q := fun g => g = pairsT n ts T (rng 0 T.length)) (Post.mono (po_foldP (fun pre g => g = pairsT n ts T pre) rfl ?_) (fun _ z => z) fun _ z => z) fun g hg => ?_
  · intro pre g i post e hg
    obtain ⟨_, i0, i1⟩ := rng_split e
    have hpl : pre.length ≤ 156 := by
      have := congrArg List.length e
      rw [rng_length, List.length_append] at this
      omega
    have hgl : g.length ≤ 24336 := by
      have h1 := pairsT_len (n := n) (ts := ts) (T := T) pre
      have h2 : pre.length * T.length ≤ 156 * 156 := Nat.mul_le_mul hpl hkl
      rw [hg]
      omega
    have hi : T[i.toNat]? = some (T.getD i.toNat (.pl 0)) := by
      rw [List.getD_eq_getElem?_getD, List.getElem?_eq_getElem (show i.toNat < T.length by omega)]; rfl
    show Post (foldR _ g (cutL T (some (i + 1)) none) >>= _) _ _
    rw [cut_fromI _ (show 0 ≤ i + 1 by omega)]
    rw [fold_pairs (n := n) (ts := ts) (T := T) (a := T.getD i.toNat (.pl 0)) (by rw [List.length_drop]; omega) fun g b hb hgl => by
      show (parters_in (tabL n ts) (T.getD i.toNat (.pl 0)) b >>= _) = _
      rw [parters_in_ok h (hTo _ (List.mem_of_getElem? hi)) (hTo _ (List.mem_of_mem_drop hb)), ok_bind, app_ok hgl, ok_bind]
      unfold mkP
      with_reducible rfl]
    show g ++ _ = _
    unfold pairsT
    rw [List.flatMap_append, hg]
    unfold pairsT
    simp only [List.flatMap_cons, List.flatMap_nil, List.append_nil]
  · rw [hg]
    show _ = partedL n ts k
    unfold partedL
    rw [hT]
/-! ### how often looks part a pair -/
def hits (W : List Int) (p : Part) : Nat := (p.v.2.2.1.filter fun b => inB b W).length
def Strong (st : Int) (W : List Int) (ps : List Part) : Prop := ∀ p ∈ ps, st ≤ (hits W p : Int)
theorem hits_sub {W S : List Int} {p : Part} (h : ∀ v ∈ W, v ∈ S) : hits W p ≤ hits S p := by
  unfold hits
  rw [← List.countP_eq_length_filter, ← List.countP_eq_length_filter]
  exact List.countP_mono_left fun a _ ha => inB_t.mpr (h a (inB_t.mp ha))
theorem hits_le (W : List Int) (p : Part) : hits W p ≤ p.v.2.2.1.length := List.length_filter_le _ _
/-! ### the leanest pairs -/
abbrev DP : Type := List ((Tup Int) × Part)
/-- no key of the dict lies strictly within this one -/
def lesserL (d : DP) (p : (Tup Int) × Part) : List (Tup Int) := (d.map (·.1)).filter fun b => (decide ((b.l.length : Int) < (p.1.l.length : Int))) && (b.l.all fun v => inB v p.1.l)
theorem msetd_mem {d : DP} {k : Tup Int} {v : Part} {q : (Tup Int) × Part} (h : q ∈ msetd d k v) : q ∈ d ∨ q = (k, v) := by
  unfold msetd at h
  split at h
  · exact .inl h
  · rename_i c
    rw [mput_new (by cases e : mhas d k with | true => exact absurd e c | false => rfl)] at h
    rcases List.mem_append.mp h with h | h
    · exact .inl h
    · exact .inr (List.mem_singleton.mp h)
theorem msetd_has {d : DP} {k : Tup Int} {v : Part} : (∃ q ∈ msetd d k v, q.1 = k) ∧ (∀ q ∈ d, q ∈ msetd d k v) ∧ (msetd d k v).length ≤ d.length + 1 := by
  unfold msetd
  split
  · rename_i c
    exact ⟨mhas_iff.mp c, fun q hq => hq, by omega⟩
  · rename_i c
    rw [mput_new (by cases e : mhas d k with | true => exact absurd e c | false => rfl)]
    exact ⟨⟨(k, v), by simp, rfl⟩, fun q hq => List.mem_append_left _ hq, by rw [List.length_append]; exact Nat.le_refl _⟩
theorem leanest_ok {ps : List Part} (hl : ps.length ≤ 24336) (hp : ∀ p ∈ ps, p.v.2.2.1.length ≤ 60) : ∃ ls, leanest_pairs ps = R.ok ls ∧ (∀ p ∈ ls, p ∈ ps) ∧ (∀ q ∈ ps, ∃ p ∈ ls, ∀ v ∈ p.v.2.2.1, v ∈ q.v.2.2.1) ∧ ls.length ≤ 24336 := by
  refine po_ex ?_
  unfold leanest_pairs
  refine po_bind (Q := fun d => (∀ q ∈ d, q.2 ∈ ps ∧ q.1 = Tup.mk q.2.v.2.2.1) ∧ (∀ p ∈ ps, ∃ q ∈ d, q.1 = Tup.mk p.v.2.2.1) ∧ d.length ≤ 24336) (Post.mono (po_foldP (fun pre (d : DP) => (∀ q ∈ d, q.2 ∈ ps ∧ q.1 = Tup.mk q.2.v.2.2.1) ∧ (∀ p ∈ pre, ∃ q ∈ d, q.1 = Tup.mk p.v.2.2.1) ∧ d.length ≤ pre.length) ⟨fun _ z => (nomatch z), fun _ z => (nomatch z), Nat.le_refl _⟩ ?_) (fun r hr => ⟨hr.1, hr.2.1, by have := hr.2.2; omega⟩) fun _ z => z) fun d ⟨d1, d2, d3⟩ => ?_
  · intro pre d x post e ⟨h1, h2, h3⟩
    have hpre : pre.length + 1 ≤ 24336 := by
      have := congrArg List.length e
      rw [List.length_append, List.length_cons] at this
      omega
    have hx : x ∈ ps := by rw [e]; simp
    obtain ⟨m1, m2, m3⟩ := msetd_has (d := d) (k := Tup.mk x.v.2.2.1) (v := x)
    refine po_msetd (by omega) ⟨fun q hq => ?_, fun p hpm => ?_, ?_⟩
    · rcases msetd_mem hq with hq | rfl
      · exact h1 q hq
      · exact ⟨hx, rfl⟩
    · rcases List.mem_append.mp hpm with hpm | hpm
      · obtain ⟨q, hq, eq⟩ := h2 p hpm
        exact ⟨q, m2 q hq, eq⟩
      · rw [List.mem_singleton.mp hpm]
        exact m1
    · show (msetd d _ x).length ≤ _
      rw [List.length_append, List.length_singleton]
      omega
  · refine po_bind (Q := fun g => g = (d.filter fun p => (lesserL d p).isEmpty).map (·.2)) (Post.mono (po_foldP (fun pre g => g = (pre.filter fun p => (lesserL d p).isEmpty).map (·.2)) rfl ?_) (fun _ z => z) fun _ z => z) fun g hg => ?_
    · intro pre g x post e hg
      have hgl : g.length ≤ 24336 := by
        rw [hg, List.length_map]
        refine Nat.le_trans (List.length_filter_le _ _) ?_
        have := congrArg List.length e
        rw [List.length_append] at this
        omega
      refine po_bind (Q := fun l => l = lesserL d x) (po_eq (a := lesserL d x) ?_ rfl) fun l hl => ?_
      · rw [filG_ok (g := fun b => if ((decide ((b.l.length : Int) < (x.1.l.length : Int))) && (b.l.all fun v => inB v x.1.l)) = true then some b else none) (by rw [List.length_map]; omega) fun b hb => ?_]
        · rw [fil_ite]
          rfl
        · obtain ⟨q, hq, rfl⟩ := List.mem_map.mp hb
          have hql : q.1.l.length ≤ 60 := by
            obtain ⟨z1, z2⟩ := d1 q hq
            rw [z2]
            exact hp _ z1
          by_cases c : decide ((q.1.l.length : Int) < (x.1.l.length : Int)) = true
          · rw [if_pos c, c, mapG_ok (g := fun v => inB v x.1.l) (by omega) fun v _ => rfl, ok_bind, List.all_map]
            show (if (q.1.l.all fun v => inB v x.1.l) = true then R.ok (some q.1) else R.ok none) = R.ok (if (true && q.1.l.all fun v => inB v x.1.l) = true then some q.1 else none)
            rw [Bool.true_and]
            split <;> rfl
          · have c' : decide ((q.1.l.length : Int) < (x.1.l.length : Int)) = false := by
              cases e : decide ((q.1.l.length : Int) < (x.1.l.length : Int)) with
              | true => exact absurd e c
              | false => rfl
            rw [if_neg c, c']
            rfl
      · subst hl
        rw [List.filter_append, List.map_append, ← hg]
        refine po_if (fun c => po_app (by omega) ?_) fun c => ?_
        · have e1 : lesserL d x = [] := of_decide_eq_true c
          show g ++ [x.2] = _
          rw [List.filter_cons, if_pos (by rw [e1]; rfl)]
          rfl
        · have e1 : ¬ (lesserL d x).isEmpty = true := fun z => c (decide_eq_true (List.isEmpty_iff.mp z))
          show g = _
          rw [List.filter_cons, if_neg e1]
          simp
    · refine po_ok ⟨fun p hpm => ?_, fun q hq => ?_, ?_⟩
      · rw [hg] at hpm
        obtain ⟨z, hz, rfl⟩ := List.mem_map.mp hpm
        exact (d1 z (List.mem_filter.mp hz).1).1
      · -- a key within, as short as can be
        obtain ⟨q0, hq0, eq0⟩ := d2 q hq
        have key : ∀ (N : Nat) (z : (Tup Int) × Part), z ∈ d → z.1.l.length ≤ N → (∀ v ∈ z.1.l, v ∈ q.v.2.2.1) → ∃ y ∈ d, (lesserL d y).isEmpty = true ∧ ∀ v ∈ y.1.l, v ∈ q.v.2.2.1 := by
          intro N
          induction N with
          | zero =>
            intro z hz hN hs
            refine ⟨z, hz, ?_, hs⟩
            rw [List.isEmpty_iff]
            refine List.filter_eq_nil_iff.mpr fun b hb => ?_
            rw [decide_eq_false (by omega)]
            simp
          | succ N ih =>
            intro z hz hN hs
            by_cases c : (lesserL d z).isEmpty = true
            · exact ⟨z, hz, c, hs⟩
            · have hne : lesserL d z ≠ [] := fun e => c (by rw [e]; rfl)
              obtain ⟨b, hb⟩ := List.exists_mem_of_ne_nil _ hne
              obtain ⟨hb1, hb2⟩ := List.mem_filter.mp hb
              obtain ⟨y, hy, rfl⟩ := List.mem_map.mp hb1
              rw [Bool.and_eq_true] at hb2
              have hlt := of_decide_eq_true hb2.1
              refine ih y hy (by omega) fun v hv => hs v ?_
              exact inB_t.mp (List.all_eq_true.mp hb2.2 v hv)
        obtain ⟨y, hy, hy1, hy2⟩ := key _ q0 hq0 (Nat.le_refl _) (by rw [eq0]; exact fun v hv => hv)
        refine ⟨y.2, ?_, fun v hv => hy2 v ?_⟩
        · rw [hg]
          exact List.mem_map.mpr ⟨y, List.mem_filter.mpr ⟨hy, hy1⟩, rfl⟩
        · rw [(d1 y hy).2]
          exact hv
      · show g.length ≤ 24336
        rw [hg, List.length_map]
        exact Nat.le_trans (List.length_filter_le _ _) d3
theorem strong_lean {ps ls : List Part} {st : Int} {W : List Int} (h : ∀ q ∈ ps, ∃ p ∈ ls, ∀ v ∈ p.v.2.2.1, v ∈ q.v.2.2.1) (hn : ∀ p ∈ ls, p.v.2.2.1.Nodup) (hs : Strong st W ls) : Strong st W ps := fun q hq => by
  obtain ⟨p, hp, hv⟩ := h q hq
  have h1 := hs p hp
  have h2 : hits W p ≤ hits W q := by
    unfold hits
    refine nodup_le ((hn p hp).filter _) fun v hvm => ?_
    obtain ⟨a, b⟩ := List.mem_filter.mp hvm
    exact List.mem_filter.mpr ⟨hv v a, b⟩
  omega
/-! ### a pair that is parted too seldom -/
theorem seldom_ok {ps : List Part} {st : Int} {W : List Int} (hp : ∀ p ∈ ps, p.v.2.2.1.length ≤ 60) : ∃ o, too_seldom ps st W = R.ok o ∧ (o = none → Strong st W ps) ∧ ∀ p, o = some p → p ∈ ps ∧ (hits W p : Int) < st := by
  refine po_ex ?_
  unfold too_seldom
  refine po_bind (Q := fun o => (o = none → Strong st W ps) ∧ ∀ p, o = some p → p ∈ ps ∧ (hits W p : Int) < st) (Post.mono (po_foldP (fun pre (o : Option Part) => (o = none → Strong st W pre) ∧ ∀ p, o = some p → p ∈ pre ∧ (hits W p : Int) < st) ⟨fun _ _ z => (nomatch z), fun _ z => (nomatch z)⟩ ?_) (fun r hr => hr) fun _ z => z) fun o ho => ho
  intro pre o x post e ⟨h1, h2⟩
  have hx := hp x (by rw [e]; simp)
  have keep : ∀ p, o = some p → p ∈ pre ++ [x] ∧ (hits W p : Int) < st := fun p hp => ⟨List.mem_append_left _ (h2 p hp).1, (h2 p hp).2⟩
  refine po_filB (P := fun b => inB b W) (by omega) ?_
  refine po_if (fun c => ?_) fun c => ?_
  · have c' : (hits W x : Int) < st := of_decide_eq_true c
    have new : ∀ p, some x = some p → p ∈ pre ++ [x] ∧ (hits W p : Int) < st := fun p hp => by
      cases hp
      exact ⟨by simp, c'⟩
    have ex : (Nt.mk (x.v.1, x.v.2.1, x.v.2.2.1, ()) : Part) = x := rfl
    cases o with
    | none =>
      show Post (R.ok (some (Nt.mk (x.v.1, x.v.2.1, x.v.2.2.1, ()) : Part))) _ _
      rw [ex]
      exact ⟨fun z => (nomatch z), new⟩
    | some y =>
      show Post (if (decide ((x.v.2.2.1.length : Int) < (y.v.2.2.1.length : Int))) = true then R.ok (some (Nt.mk (x.v.1, x.v.2.1, x.v.2.2.1, ()) : Part)) else R.ok (some y)) _ _
      rw [ex]
      exact po_if (fun _ => ⟨fun z => (nomatch z), new⟩) fun _ => ⟨fun z => (nomatch z), keep⟩
  · refine ⟨fun z p hpm => ?_, keep⟩
    rcases List.mem_append.mp hpm with hpm | hpm
    · exact h1 z p hpm
    · rw [List.mem_singleton.mp hpm]
      have : ¬ (hits W x : Int) < st := fun z => c (decide_eq_true z)
      omega
/-! ### the search -/
theorem kindT_nd {n : Int} {ts : List (Int × Int)} {k : Str} (h : WebOk n ts) : (kindT n ts k).Nodup := by
  have h1 : (mkpl (rng 0 n)).Nodup := by
    unfold mkpl
    exact List.pairwise_map.mpr ((rng_nodup 0 n).imp fun hne e => hne (by injection e))
  have h2 : (mkti ts).Nodup := by
    unfold mkti
    refine List.pairwise_map.mpr (h.nd.imp fun hne e => hne ?_)
    injection e with e1 e2
    exact Prod.ext e1 e2
  unfold kindT
  split
  · exact h1
  · split
    · exact h2
    · unfold allT
      rw [List.nodup_append]
      refine ⟨h1, h2, fun a ha b hb e => ?_⟩
      obtain ⟨i, rfl, _⟩ := pl_mem.mp ha
      obtain ⟨x, y, rfl, _⟩ := ti_mem.mp hb
      cases e
theorem pairsT_ne2 {n : Int} {ts : List (Int × Int)} {T : List Thing} (hT : T.Nodup) {x : Part} (h : x ∈ pairsT n ts T (rng 0 T.length)) : x.v.1 ≠ x.v.2.1 := by
  unfold pairsT at h
  obtain ⟨i, hi, hx⟩ := List.mem_flatMap.mp h
  obtain ⟨i0, i1⟩ := rng_mem.mp hi
  obtain ⟨b, hb, rfl⟩ := List.mem_map.mp hx
  show T.getD i.toNat (.pl 0) ≠ b
  have hi2 : i.toNat < T.length := by omega
  rw [List.getD_eq_getElem?_getD, List.getElem?_eq_getElem hi2]
  show T[i.toNat] ≠ b
  obtain ⟨j, hj, rfl⟩ := List.getElem_of_mem hb
  rw [List.getElem_drop]
  intro e
  rw [List.length_drop] at hj
  have := (List.getElem_inj hT).mp e
  omega
structure PsOk (n : Int) (ts : List (Int × Int)) (T : List Thing) (ps : List Part) : Prop where
  one : ∀ p ∈ ps, p.v.1 ∈ T
  two : ∀ p ∈ ps, p.v.2.1 ∈ T
  ne : ∀ p ∈ ps, p.v.1 ≠ p.v.2.1
  par : ∀ p ∈ ps, p.v.2.2.1 = partL n ts p.v.1 p.v.2.1
theorem PsOk.of {n : Int} {ts : List (Int × Int)} {k : Str} (h : WebOk n ts) : PsOk n ts (kindT n ts k) (partedL n ts k) :=
  ⟨fun p hp => (pairsT_mem hp).1, fun p hp => (pairsT_mem hp).2.1, fun p hp => pairsT_ne2 (kindT_nd h) hp, fun p hp => (pairsT_mem hp).2.2⟩
theorem PsOk.sub {n : Int} {ts : List (Int × Int)} {T : List Thing} {ps qs : List Part} (h : PsOk n ts T ps) (hs : ∀ p ∈ qs, p ∈ ps) : PsOk n ts T qs :=
  ⟨fun p hp => h.one p (hs p hp), fun p hp => h.two p (hs p hp), fun p hp => h.ne p (hs p hp), fun p hp => h.par p (hs p hp)⟩
theorem partL_nodup {n : Int} {ts : List (Int × Int)} {a b : Thing} : (partL n ts a b).Nodup := (rng_nodup 0 n).filter _
theorem PsOk.nd {n : Int} {ts : List (Int × Int)} {T : List Thing} {ps : List Part} (h : PsOk n ts T ps) : ∀ p ∈ ps, p.v.2.2.1.Nodup := fun p hp => by
  rw [h.par p hp]
  exact partL_nodup
theorem PsOk.few {n : Int} {ts : List (Int × Int)} {T : List Thing} {ps : List Part} (h : PsOk n ts T ps) (hn : n ≤ 60) : ∀ p ∈ ps, p.v.2.2.1.length ≤ 60 := fun p hp => by
  rw [h.par p hp]
  have := partL_len (n := n) (ts := ts) (a := p.v.1) (b := p.v.2.1)
  omega
def keep5 (ps : List Part) (st m : Int) (o : Option (List Int)) : SearchF := (ps, st, m, o, ())
/-- no looks, at most so many, that hold what is within and nothing that is without -/
def NoS (st m : Int) (ps : List Part) (w wo : List Int) : Prop := ∀ S : List Int, S.Nodup → (∀ v ∈ w, v ∈ S) → (∀ v ∈ wo, v ∉ S) → (S.length : Int) ≤ m → ¬ Strong st S ps
/-- looks that are found -/
def GoodL (n st m : Int) (ps : List Part) (L : List Int) : Prop := ∃ W : List Int, L = sortI W ∧ W.Nodup ∧ (∀ v ∈ W, 0 ≤ v ∧ v < n) ∧ (W.length : Int) ≤ m ∧ Strong st W ps
theorem toTrs_snoc : ∀ {ts : List To} {xs : List Tr} {t : To} {x : Tr}, toTr.toTrs ts = some xs → toTr t = some x → toTr.toTrs (ts ++ [t]) = some (xs ++ [x])
  | [], xs, t, x, h, h2 => by
    rw [toTr.toTrs] at h
    cases h
    show toTr.toTrs [t] = some [x]
    rw [toTr.toTrs, h2, toTr.toTrs]
  | y :: ts, xs, t, x, h, h2 => by
    rw [toTr.toTrs] at h
    cases e1 : toTr y with
    | none => rw [e1] at h; cases h
    | some z =>
      cases e2 : toTr.toTrs ts with
      | none => rw [e1, e2] at h; cases h
      | some zs =>
        rw [e1, e2] at h
        cases h
        show toTr.toTrs (y :: (ts ++ [t])) = _
        rw [toTr.toTrs, e1, toTrs_snoc e2 h2]
        rfl
theorem first_in {S : List Int} : ∀ {l : List Int}, (∃ v ∈ l, v ∈ S) → ∃ i y, l[i]? = some y ∧ y ∈ S ∧ ∀ v ∈ l.take i, v ∉ S
  | [], h => by
    obtain ⟨v, hv, _⟩ := h
    cases hv
  | x :: l, h => by
    by_cases c : x ∈ S
    · exact ⟨0, x, rfl, c, fun v hv => by rw [List.take_zero] at hv; cases hv⟩
    · obtain ⟨v, hv, hS⟩ := h
      rcases List.mem_cons.mp hv with rfl | hv
      · exact absurd hS c
      · obtain ⟨i, y, h1, h2, h3⟩ := first_in ⟨v, hv, hS⟩
        refine ⟨i + 1, y, h1, h2, fun u hu => ?_⟩
        rw [List.take_succ_cons] at hu
        rcases List.mem_cons.mp hu with rfl | hu
        · exact c
        · exact h3 u hu
section
variable {n : Int} {ts : List (Int × Int)} {T : List Thing} {st m : Int} {ps : List Part}
/-- the trees of the places gone through -/
def Kids (n : Int) (ts : List (Int × Int)) (T : List Thing) (st m : Int) (ps : List Part) (d : Nat) (w wo : List Int) (l : List Int) (xs : List Tr) : Prop :=
  xs.length = l.length ∧ ∀ i y, l[i]? = some y → ∃ x, xs[i]? = some x ∧ caseS n ts T st m d x (w ++ [y]) (wo ++ l.take i) = true ∧ NoS st m ps (w ++ [y]) (wo ++ l.take i)
theorem Kids.snoc {d : Nat} {w wo l : List Int} {xs : List Tr} {y : Int} {x : Tr} (h : Kids n ts T st m ps d w wo l xs) (h1 : caseS n ts T st m d x (w ++ [y]) (wo ++ l) = true) (h2 : NoS st m ps (w ++ [y]) (wo ++ l)) : Kids n ts T st m ps d w wo (l ++ [y]) (xs ++ [x]) := by
  refine ⟨by rw [List.length_append, List.length_append, h.1]; rfl, fun i z hz => ?_⟩
  by_cases c : i < l.length
  · rw [List.getElem?_append_left c] at hz
    obtain ⟨u, a1, a2, a3⟩ := h.2 i z hz
    rw [List.take_append_of_le_length (by omega)]
    exact ⟨u, by rw [List.getElem?_append_left (by rw [h.1]; exact c)]; exact a1, a2, a3⟩
  · have hi : i < (l ++ [y]).length := (List.getElem?_eq_some_iff.mp hz).1
    rw [List.length_append, List.length_singleton] at hi
    have ei : i = l.length := by omega
    subst ei
    rw [List.getElem?_append_right (by omega), Nat.sub_self] at hz
    cases hz
    rw [List.take_left]
    exact ⟨x, by rw [List.getElem?_append_right (by rw [h.1]; omega), h.1, Nat.sub_self]; rfl, h1, h2⟩
theorem tree_ok (h : WebOk n ts) (hps : PsOk n ts T ps) (hm : m ≤ 30) : ∀ (d : Nat) (w wo : List Int), (w.length : Int) ≤ m → m - w.length < d → wo.length ≤ 60 * w.length → w.Nodup → (∀ v ∈ w, 0 ≤ v ∧ v < n) →
    ∃ t o, Search_tree_of d (keep5 ps st m none) w wo = R.ok (t, keep5 ps st m o) ∧ (∀ L, o = some L → GoodL n st m ps L) ∧ (o = none → ∃ x, toTr t = some x ∧ caseS n ts T st m d x w wo = true ∧ NoS st m ps w wo)
  | 0, w, wo, h1, h2, _, _, _ => by omega
  | d + 1, w, wo, h1, h2, h3, hw, hr => by
    have hn := h.n60
    have hfew := hps.few hn
    obtain ⟨o1, e1, f1, f2⟩ := seldom_ok (st := st) (W := w) hfew
    show ∃ t o, Search_tree_of_b (Search_tree_of d) (keep5 ps st m none) w wo = R.ok (t, keep5 ps st m o) ∧ _
    unfold Search_tree_of_b
    have e1' : too_seldom (keep5 ps st m none).1 (keep5 ps st m none).2.1 w = R.ok o1 := e1
    rw [e1', ok_bind]
    cases o1 with
    | none => exact ⟨To.no, some (sortI w), rfl, fun L hL => by cases hL; exact ⟨w, rfl, hw, hr, h1, f1 rfl⟩, fun z => nomatch z⟩
    | some p =>
      obtain ⟨pm, phit⟩ := f2 p rfl
      have hP : p.v.2.2.1 = partL n ts p.v.1 p.v.2.1 := hps.par p pm
      have hPl := hfew p pm
      generalize hcond : (fun b : Int => (!inB b w) && (!inB b wo)) = cond
      have hlP : ∀ pre : List Int, (pre.filter cond).length ≤ pre.length := fun pre => List.length_filter_le _ _
      -- the loop
      have loop : Post (do
          if (decide ((w.length : Int) < m)) = true then do
            let g28 ← foldR (fun (g28 : (List Int) × (List To) × SearchF) (b28 : Int) => do
                if ((!inB b28 w) && ((!inB b28 wo) && g28.2.2.2.2.2.1.isNone)) = true then do
                  let l42 ← extend w ([b28] : (List Int))
                  let y47 ← (Search_tree_of d) g28.2.2 l42 g28.1
                  let l49 ← app g28.2.1 y47.1
                  let l54 ← extend g28.1 ([b28] : (List Int))
                  R.ok (l54, l49, y47.2)
                else do
                  R.ok (g28.1, g28.2.1, g28.2.2)) (wo, ([] : (List To)), keep5 ps st m none) p.v.2.2.1
            R.ok (g28.2.1, g28.2.2)
          else do
            R.ok (([] : (List To)), keep5 ps st m none)) (fun (g : (List To) × SearchF) => ∃ o, g.2 = keep5 ps st m o ∧ (∀ L, o = some L → GoodL n st m ps L) ∧ (o = none → ∃ xs, toTr.toTrs g.1 = some xs ∧ (if (w.length : Int) < m then Kids n ts T st m ps d w wo (p.v.2.2.1.filter cond) xs else xs = []))) noX := by
        refine po_if (fun c => ?_) fun c => ?_
        · have c' : (w.length : Int) < m := of_decide_eq_true c
          refine po_bind (Q := fun (g : (List Int) × (List To) × SearchF) => ((g.2.2 = keep5 ps st m none ∧ g.1 = wo ++ p.v.2.2.1.filter cond ∧ ∃ xs, toTr.toTrs g.2.1 = some xs ∧ Kids n ts T st m ps d w wo (p.v.2.2.1.filter cond) xs) ∨ ∃ L, g.2.2 = keep5 ps st m (some L) ∧ GoodL n st m ps L)) (Post.mono (po_foldP (fun pre (g : (List Int) × (List To) × SearchF) => g.1.length ≤ wo.length + pre.length ∧ g.2.1.length ≤ pre.length ∧ ((g.2.2 = keep5 ps st m none ∧ g.1 = wo ++ pre.filter cond ∧ ∃ xs, toTr.toTrs g.2.1 = some xs ∧ Kids n ts T st m ps d w wo (pre.filter cond) xs) ∨ ∃ L, g.2.2 = keep5 ps st m (some L) ∧ GoodL n st m ps L)) ⟨Nat.le_refl _, Nat.le_refl _, .inl ⟨rfl, (List.append_nil wo).symm, [], by rw [toTr.toTrs], rfl, fun i y hy => by cases hy⟩⟩ ?_) (fun r hr => hr.2.2) fun _ z => z) fun g hg => ?_
          · intro pre g b post e ⟨g1, g2, g3⟩
            have hpre : pre.length + 1 ≤ 60 := by
              have := congrArg List.length e
              rw [List.length_append, List.length_cons] at this
              omega
            have hb : 0 ≤ b ∧ b < n := by
              have : b ∈ p.v.2.2.1 := by rw [e]; simp
              rw [hP] at this
              exact (partL_mem.mp this).1
            have len1 : (pre ++ [b]).length = pre.length + 1 := by rw [List.length_append]; rfl
            rcases g3 with ⟨k1, k2, xs, k3, k4⟩ | ⟨L, k1, k2⟩
            · have ec : ((!inB b w) && ((!inB b wo) && g.2.2.2.2.2.1.isNone)) = cond b := by
                rw [k1, ← hcond]
                show ((!inB b w) && ((!inB b wo) && true)) = _
                rw [Bool.and_true]
              refine po_if (fun c2 => ?_) fun c2 => ?_
              · rw [ec] at c2
                have c2' : b ∉ w := by
                  rw [← hcond] at c2
                  rw [Bool.and_eq_true] at c2
                  intro z
                  have := inB_t.mpr z
                  rw [this] at c2
                  cases c2.1
                have el : (pre ++ [b]).filter cond = pre.filter cond ++ [b] := by
                  rw [List.filter_append, List.filter_cons, if_pos c2]
                  rfl
                refine po_extend (by show w.length + 1 < 100000; omega) ?_
                have lw : (w ++ [b]).length = w.length + 1 := by rw [List.length_append]; rfl
                have hfl := hlP pre
                obtain ⟨t, o, q1, q2, q3⟩ := tree_ok h hps hm d (w ++ [b]) (wo ++ pre.filter cond) (by rw [lw]; omega) (by rw [lw]; omega) (by rw [lw, List.length_append]; omega) (by
                  rw [List.nodup_append]
                  exact ⟨hw, List.pairwise_singleton _ _, fun x hx y hy z => c2' (by rw [← List.mem_singleton.mp hy, ← z]; exact hx)⟩) (fun v hv => by
                  rcases List.mem_append.mp hv with hv | hv
                  · exact hr v hv
                  · rw [List.mem_singleton.mp hv]; exact hb)
                have q1' : Search_tree_of d g.2.2 (w ++ [b]) g.1 = R.ok (t, keep5 ps st m o) := by rw [k1, k2]; exact q1
                refine po_bind (po_eq q1' rfl) fun y hy => ?_
                subst hy
                refine po_app (by omega) (po_extend (by show g.1.length + 1 < 100000; omega) ⟨?_, ?_, ?_⟩)
                · show (g.1 ++ [b]).length ≤ _
                  rw [List.length_append, len1]
                  show g.1.length + 1 ≤ _
                  omega
                · show (g.2.1 ++ [t]).length ≤ _
                  rw [List.length_append, len1]
                  show g.2.1.length + 1 ≤ _
                  omega
                · cases o with
                  | some L => exact .inr ⟨L, rfl, q2 L rfl⟩
                  | none =>
                    obtain ⟨x, x1, x2, x3⟩ := q3 rfl
                    refine .inl ⟨rfl, ?_, xs ++ [x], toTrs_snoc k3 x1, ?_⟩
                    · show g.1 ++ [b] = _
                      rw [el, k2, List.append_assoc]
                    · rw [el]
                      exact k4.snoc x2 x3
              · rw [ec] at c2
                have el : (pre ++ [b]).filter cond = pre.filter cond := by
                  rw [List.filter_append, List.filter_cons, if_neg c2]
                  simp
                exact ⟨by rw [len1]; show g.1.length ≤ _; omega, by rw [len1]; show g.2.1.length ≤ _; omega, .inl ⟨k1, by rw [el]; exact k2, xs, k3, by rw [el]; exact k4⟩⟩
            · refine po_if (fun c2 => ?_) fun c2 => ?_
              · rw [k1, Bool.and_eq_true, Bool.and_eq_true] at c2
                cases c2.2.2
              · exact ⟨by rw [len1]; show g.1.length ≤ _; omega, by rw [len1]; show g.2.1.length ≤ _; omega, .inr ⟨L, k1, k2⟩⟩
          · rcases hg with ⟨k1, k2, xs, k3, k4⟩ | ⟨L, k1, k2⟩
            · exact ⟨none, k1, fun L z => (nomatch z), fun _ => ⟨xs, k3, by rw [if_pos c']; exact k4⟩⟩
            · exact ⟨some L, k1, fun L' z => by cases z; exact k2, fun z => nomatch z⟩
        · have c' : ¬ (w.length : Int) < m := fun z => c (decide_eq_true z)
          exact ⟨none, rfl, fun L z => (nomatch z), fun _ => ⟨[], by rw [toTr.toTrs], by rw [if_neg c']⟩⟩
      obtain ⟨⟨tl, sf⟩, eg, o, k1, k2, k3⟩ := po_ex loop
      have k1' : sf = keep5 ps st m o := k1
      subst k1'
      refine ⟨To.n p.v.1 p.v.2.1 tl, o, ?_, k2, fun z => ?_⟩
      · show (do
          let g25 ← (do
            if (decide ((w.length : Int) < m)) = true then do
              let g28 ← foldR (fun (g28 : (List Int) × (List To) × SearchF) (b28 : Int) => do
                  if ((!inB b28 w) && ((!inB b28 wo) && g28.2.2.2.2.2.1.isNone)) = true then do
                    let l42 ← extend w ([b28] : (List Int))
                    let y47 ← (Search_tree_of d) g28.2.2 l42 g28.1
                    let l49 ← app g28.2.1 y47.1
                    let l54 ← extend g28.1 ([b28] : (List Int))
                    R.ok (l54, l49, y47.2)
                  else do
                    R.ok (g28.1, g28.2.1, g28.2.2)) (wo, ([] : (List To)), keep5 ps st m none) p.v.2.2.1
              R.ok (g28.2.1, g28.2.2)
            else do
              R.ok (([] : (List To)), keep5 ps st m none) : R ((List To) × SearchF))
          R.ok ((To.n p.v.1 p.v.2.1 g25.1), g25.2)) = _
        rw [eg]
        rfl
      · obtain ⟨xs, x1, x2⟩ := k3 z
        refine ⟨.n p.v.1 p.v.2.1 xs, by rw [toTr, x1]; rfl, ?_, ?_⟩
        · unfold caseS
          rw [show (Tr.n p.v.1 p.v.2.1 xs).a = p.v.1 from rfl, show (Tr.n p.v.1 p.v.2.1 xs).b = p.v.2.1 from rfl, show (Tr.n p.v.1 p.v.2.1 xs).ts = xs from rfl]
          show (if ((!inB p.v.1 T) || ((!inB p.v.2.1 T) || (decide (p.v.1 = p.v.2.1)))) = true then false else _) = true
          rw [inB_t.mpr (hps.one p pm), inB_t.mpr (hps.two p pm), decide_eq_false (hps.ne p pm)]
          rw [if_neg (by decide)]
          show (if (decide (st ≤ (((partL n ts p.v.1 p.v.2.1).filter fun b => inB b w).length : Int))) = true then false else _) = true
          rw [if_neg (fun q => by
            have := of_decide_eq_true q
            unfold hits at phit
            rw [hP] at phit
            omega)]
          by_cases c : (w.length : Int) < m
          · rw [if_pos c] at x2
            rw [if_neg (fun q => by have := of_decide_eq_true q; omega)]
            show (if (!decide ((xs.length : Int) = (((partL n ts p.v.1 p.v.2.1).filter fun b => (!inB b w) && (!inB b wo)).length : Int))) = true then false else _) = true
            rw [← hP, hcond]
            rw [if_neg (by rw [x2.1, decide_eq_true rfl]; decide)]
            rw [List.all_eq_true]
            intro i hi
            obtain ⟨i0, i1⟩ := rng_mem.mp hi
            have hi2 : i.toNat < (p.v.2.2.1.filter cond).length := by omega
            obtain ⟨u, u1, u2, _⟩ := x2.2 i.toNat _ (List.getElem?_eq_getElem hi2)
            show caseS n ts T st m d (xs.getD i.toNat (.n (.pl 0) (.pl 0) [])) _ _ = true
            rw [List.getD_eq_getElem?_getD, u1, List.getD_eq_getElem?_getD, List.getElem?_eq_getElem hi2]
            exact u2
          · rw [if_neg c] at x2
            rw [if_pos (decide_eq_true (by omega)), x2]
            rfl
        · intro S s1 s2 s3 s4 s5
          have hS := s5 p pm
          by_cases c : (w.length : Int) < m
          · rw [if_pos c] at x2
            -- some parter is in S, and not within
            have hex : ∃ v ∈ p.v.2.2.1.filter cond, v ∈ S := by
              apply Classical.byContradiction
              intro q
              have hle : hits S p ≤ hits w p := by
                unfold hits
                refine nodup_le ((hps.nd p pm).filter _) fun v hv => ?_
                obtain ⟨a, b⟩ := List.mem_filter.mp hv
                have hvS := inB_t.mp b
                refine List.mem_filter.mpr ⟨a, ?_⟩
                apply Classical.byContradiction
                intro y
                refine q ⟨v, List.mem_filter.mpr ⟨a, ?_⟩, hvS⟩
                rw [← hcond]
                have y1 : inB v w = false := by cases e : inB v w with | true => exact absurd e y | false => rfl
                have y2 : inB v wo = false := inB_f.mpr fun z => s3 v z hvS
                show ((!inB v w) && (!inB v wo)) = true
                rw [y1, y2]
                rfl
              omega
            obtain ⟨i, y, i1, i2, i3⟩ := first_in hex
            obtain ⟨_, _, _, u3⟩ := x2.2 i y i1
            refine u3 S s1 (fun v hv => ?_) (fun v hv => ?_) s4 s5
            · rcases List.mem_append.mp hv with hv | hv
              · exact s2 v hv
              · rw [List.mem_singleton.mp hv]; exact i2
            · rcases List.mem_append.mp hv with hv | hv
              · exact s3 v hv
              · exact i3 v hv
          · -- as many as may be are within
            have hle : hits S p ≤ hits w p := by
              have hsub : ∀ v ∈ S, v ∈ w := all_of_len hw s2 (by omega)
              exact hits_sub hsub
            omega
end
/-! ### fewest_looks -/
/-- what it tells -/
def FewOk (n : Int) (ts : List (Int × Int)) (k : Str) (st : Int) : Fw → Prop
  | .never a b => ∃ p ∈ partedL n ts k, p.v.1 = a ∧ p.v.2.1 = b ∧ (p.v.2.2.1.length : Int) < st
  | .looks L t => (∃ W : List Int, L = sortI W ∧ W.Nodup ∧ (∀ v ∈ W, 0 ≤ v ∧ v < n) ∧ Strong st W (partedL n ts k)) ∧ (∀ S : List Int, S.Nodup → Strong st S (partedL n ts k) → L.length ≤ S.length) ∧
      (∀ p ∈ partedL n ts k, st ≤ (p.v.2.2.1.length : Int)) ∧ ((L = [] ∧ t = none) ∨ ∃ x, t = some x ∧ 1 ≤ L.length ∧ caseS n ts (kindT n ts k) st ((L.length : Int) - 1) 20 x [] [] = true)
theorem sortI_len (W : List Int) : (sortI W).length = W.length := (sortI_perm W).length_eq
theorem fewest_ok {n : Int} {ts : List (Int × Int)} {k : Str} {st : Int} (h : WebOk n ts) (n8 : n ≤ 8) : ∃ r, fewest_looks (n, ⟨ts⟩) k st = R.ok r ∧ FewOk n ts k st r := by
  have hn1 := h.n1
  have hP := PsOk.of (k := k) h
  have hPl := partedL_len (k := k) h (by omega)
  refine po_ex ?_
  unfold fewest_looks
  refine po_if (fun c => ?_) fun _ => ?_
  · have : (8 : Int) < n := of_decide_eq_true c
    omega
  rw [pairs_of_ok h (by omega), ok_bind]
  refine po_bind (po_foldXP (fun pre _ => ∀ p ∈ pre, st ≤ (p.v.2.2.1.length : Int)) (fun z => FewOk n ts k st z) (fun _ z => nomatch z) ?_) fun r hr => ?_
  · intro pre _ p post e hpre
    refine po_if (fun c => .inl ⟨_, rfl, p, by rw [e]; simp, rfl, rfl, of_decide_eq_true c⟩) fun c => .inr ⟨(), rfl, fun q hq => ?_⟩
    rcases List.mem_append.mp hq with hq | hq
    · exact hpre q hq
    · rw [List.mem_singleton.mp hq]
      have : ¬ (p.v.2.2.1.length : Int) < st := fun z => c (decide_eq_true z)
      omega
  · rcases hr with ⟨z, rfl, hz⟩ | ⟨_, rfl, hall⟩
    · exact hz
    obtain ⟨ls, e1, l1, l2, l3⟩ := leanest_ok hPl (hP.few h.n60)
    have hL : PsOk n ts (kindT n ts k) ls := hP.sub l1
    have up : ∀ {W : List Int}, Strong st W ls → Strong st W (partedL n ts k) := fun {W} hW => strong_lean l2 hL.nd hW
    have down : ∀ {W : List Int}, Strong st W (partedL n ts k) → Strong st W ls := fun {W} hW p hp => hW p (l1 p hp)
    show Post (leanest_pairs (partedL n ts k) >>= _) _ _
    rw [e1, ok_bind]
    refine po_rng (by decide) (by decide) (by show -(2 ^ 62) ≤ n + 1; omega) (by show n + 1 < 2 ^ 62; omega) ?_
    refine po_bind (po_foldXP (fun pre (g : Option Tr) => (∀ S : List Int, S.Nodup → (S.length : Int) < pre.length → ¬ Strong st S ls) ∧ ((pre.length = 0 ∧ g = none) ∨ ∃ x, g = some x ∧ 1 ≤ pre.length ∧ caseS n ts (kindT n ts k) st ((pre.length : Int) - 1) 20 x [] [] = true)) (fun z => FewOk n ts k st z) ⟨fun S _ hS => by have : (S.length : Int) < 0 := hS; omega, .inl ⟨rfl, rfl⟩⟩ ?_) fun r hr => ?_
    · intro pre g m post e ⟨g1, g2⟩
      have hm := rng_pre e
      obtain ⟨_, m0, m1⟩ := rng_split e
      have m1' : m < n + 1 := m1
      have hm' : (pre.length : Int) = m := by omega
      obtain ⟨t, o, q1, q2, q3⟩ := tree_ok (st := st) (m := m) h hL (by omega) 20 [] [] (by show (0 : Int) ≤ m; omega) (by show m - (0 : Int) < 20; omega) (by show 0 ≤ 0; omega) List.nodup_nil fun _ z => nomatch z
      show Post (Search_tree_of 20 (keep5 ls st m none) [] [] >>= _) _ _
      refine po_bind (po_eq q1 rfl) fun y hy => ?_
      subst hy
      cases o with
      | some L =>
        refine po_if (fun _ => ?_) fun c => absurd (show (!(some L : Option (List Int)).isNone) = true from rfl) c
        obtain ⟨W, w1, w2, w3, w4, w5⟩ := q2 L rfl
        have hlen : (L.length : Int) = m := by
          rw [w1, sortI_len]
          apply Classical.byContradiction
          intro z
          exact g1 W w2 (by omega) w5
        refine .inl ⟨Fw.looks L g, rfl, ⟨W, w1, w2, w3, up w5⟩, fun S s1 s2 => ?_, hall, ?_⟩
        · apply Classical.byContradiction
          intro z
          exact g1 S s1 (by omega) (down s2)
        · rcases g2 with ⟨a, b⟩ | ⟨x, a, b, c⟩
          · exact .inl ⟨List.eq_nil_of_length_eq_zero (by omega), b⟩
          · exact .inr ⟨x, a, by omega, by rw [hlen, ← hm']; exact c⟩
      | none =>
        refine po_if (fun c => absurd (show (!true) = true from c) (by decide)) fun _ => ?_
        obtain ⟨x, x1, x2, x3⟩ := q3 rfl
        have ea : asTr t = R.ok (some x) := by
          cases t with
          | no => rw [toTr] at x1; cases x1
          | n a b l =>
            show (match toTr (.n a b l) with
              | some x => R.ok (some x)
              | none => R.bad) = _
            rw [x1]
        show Post (asTr t >>= _) _ _
        rw [ea, ok_bind]
        refine .inr ⟨some x, rfl, fun S s1 s2 => ?_, .inr ⟨x, rfl, ?_, ?_⟩⟩
        · rw [List.length_append, List.length_singleton] at s2
          exact x3 S s1 (fun _ z => nomatch z) (fun _ z => nomatch z) (by omega)
        · rw [List.length_append]; exact Nat.le_add_left _ _
        · rw [List.length_append, List.length_singleton, show (((pre.length + 1 : Nat) : Int) - 1) = m by omega]
          exact x2
    · rcases hr with ⟨z, rfl, hz⟩ | ⟨g, rfl, hg1, _⟩
      · exact hz
      exfalso
      refine hg1 (rng 0 n) (rng_nodup 0 n) ?_ fun p hp => ?_
      · rw [rng_length, rng_length]
        show ((n - 0).toNat : Int) < ((n + 1 - 0).toNat : Int)
        omega
      · have e : hits (rng 0 n) p = p.v.2.2.1.length := by
          unfold hits
          rw [List.filter_eq_self.mpr]
          intro v hv
          rw [hL.par p hp] at hv
          exact inB_t.mpr (rng_mem.mpr (partL_mem.mp hv).1)
        rw [e]
        exact hall p (l1 p hp)
/-! ### what has one code, in lists -/
section
variable {κ α : Type} [DecidableEq κ]
def kstep (ks : List κ) (k : κ) : List κ := if k ∈ ks then ks else ks ++ [k]
def keysG (c : α → κ) (ts : List α) : List κ := (ts.map c).foldl kstep []
def rowsG (c : α → κ) (ks : List κ) (ts : List α) : List (List α) := ks.map fun k => ts.filter fun t => decide (c t = k)
def likesG (c : α → κ) (ts : List α) : List (List α) := (rowsG c (keysG c ts) ts).filter fun r => decide ((1 : Int) < (r.length : Int))
theorem keysG_snoc (c : α → κ) (ts : List α) (t : α) : keysG c (ts ++ [t]) = kstep (keysG c ts) (c t) := by
  unfold keysG
  rw [List.map_append, List.foldl_append]
  rfl
theorem kstep_mem {ks : List κ} {k j : κ} : j ∈ kstep ks k ↔ j ∈ ks ∨ j = k := by
  unfold kstep
  by_cases h : k ∈ ks
  · rw [if_pos h]
    exact ⟨.inl, fun z => z.elim id fun e => e ▸ h⟩
  · rw [if_neg h]
    simp
theorem kstep_nodup {ks : List κ} {k : κ} (h : ks.Nodup) : (kstep ks k).Nodup := by
  unfold kstep
  by_cases q : k ∈ ks
  · rw [if_pos q]; exact h
  · rw [if_neg q]
    rw [List.nodup_append]
    refine ⟨h, by simp, fun a ha b hb e => ?_⟩
    simp at hb
    subst hb
    exact q (e ▸ ha)
theorem snoc_ind {α : Type} {P : List α → Prop} (h0 : P []) (hs : ∀ xs x, P xs → P (xs ++ [x])) (xs : List α) : P xs := by
  have : P xs.reverse.reverse := by
    induction xs.reverse with
    | nil => exact h0
    | cons x l ih =>
      rw [List.reverse_cons]
      exact hs _ _ ih
  rwa [List.reverse_reverse] at this
theorem keysG_mem {c : α → κ} {ts : List α} {k : κ} : k ∈ keysG c ts ↔ ∃ t ∈ ts, c t = k := by
  induction ts using snoc_ind with
  | h0 => simp [keysG]
  | hs ts t ih =>
    rw [keysG_snoc, kstep_mem, ih]
    constructor
    · rintro (⟨u, hu, e⟩ | rfl)
      · exact ⟨u, List.mem_append_left _ hu, e⟩
      · exact ⟨t, by simp, rfl⟩
    · rintro ⟨u, hu, e⟩
      rcases List.mem_append.mp hu with h | h
      · exact .inl ⟨u, h, e⟩
      · simp at h
        exact .inr (h ▸ e.symm)
theorem keysG_nodup {c : α → κ} {ts : List α} : (keysG c ts).Nodup := by
  induction ts using snoc_ind with
  | h0 => exact List.Pairwise.nil
  | hs ts t ih => rw [keysG_snoc]; exact kstep_nodup ih
theorem keysG_len {c : α → κ} {ts : List α} : (keysG c ts).length ≤ ts.length := by
  induction ts using snoc_ind with
  | h0 => exact Nat.le_refl _
  | hs ts t ih =>
    rw [keysG_snoc, List.length_append]
    unfold kstep
    split
    · omega
    · rw [List.length_append]; simp; omega
theorem fidx_mem {k : κ} : ∀ {ks : List κ}, k ∈ ks → ∃ j, fidx k ks = some j ∧ ks[j]? = some k
  | [], h => nomatch h
  | x :: xs, h => by
    by_cases e : x = k
    · exact ⟨0, by unfold fidx; rw [if_pos e], by rw [e]; rfl⟩
    · obtain ⟨j, h1, h2⟩ := fidx_mem (k := k) (ks := xs) ((List.mem_cons.mp h).resolve_left fun z => e z.symm)
      exact ⟨j + 1, by unfold fidx; rw [if_neg e, h1]; rfl, by simpa using h2⟩
/-- the rows once a new code has an empty row -/
theorem rowsG_new {c : α → κ} {ts : List α} {k : κ} (h : k ∉ keysG c ts) : rowsG c (keysG c ts ++ [k]) ts = rowsG c (keysG c ts) ts ++ [[]] := by
  unfold rowsG
  rw [List.map_append, List.map_cons, List.map_nil]
  congr 2
  rw [List.filter_eq_nil_iff]
  intro t ht e
  exact h (keysG_mem.mpr ⟨t, ht, of_decide_eq_true e⟩)
theorem rowsG_get {c : α → κ} {ks : List κ} {ts : List α} {j : Nat} {k : κ} (h : ks[j]? = some k) : (rowsG c ks ts)[j]? = some (ts.filter fun t => decide (c t = k)) := by
  unfold rowsG
  rw [List.getElem?_map, h]
  rfl
theorem rowsG_set {c : α → κ} {ks : List κ} {ts : List α} {t : α} {j : Nat} (hd : ks.Nodup) (h : ks[j]? = some (c t)) : (rowsG c ks ts).set j ((ts.filter fun u => decide (c u = c t)) ++ [t]) = rowsG c ks (ts ++ [t]) := by
  refine List.ext_getElem? fun i => ?_
  unfold rowsG
  rw [List.getElem?_set, List.getElem?_map, List.getElem?_map, List.length_map]
  obtain ⟨hj, ej⟩ := List.getElem?_eq_some_iff.mp h
  by_cases e : j = i
  · subst e
    rw [if_pos rfl, if_pos hj, h]
    simp
  · rw [if_neg e]
    cases q : ks[i]? with
    | none => rfl
    | some k =>
      have : c t ≠ k := fun z => by
        obtain ⟨hi, ei⟩ := List.getElem?_eq_some_iff.mp q
        rcases Nat.lt_or_gt_of_ne e with l | l
        · exact List.pairwise_iff_getElem.mp hd _ _ hj hi l (by rw [ej, ei, z])
        · exact List.pairwise_iff_getElem.mp hd _ _ hi hj l (by rw [ej, ei, z])
      simp [this]
theorem keysG_comp {β : Type} [DecidableEq β] {f : κ → β} (hf : ∀ a b, f a = f b → a = b) (c : α → κ) (ts : List α) : keysG (fun t => f (c t)) ts = (keysG c ts).map f := by
  induction ts using snoc_ind with
  | h0 => rfl
  | hs ts t ih =>
    rw [keysG_snoc, keysG_snoc, ih]
    unfold kstep
    by_cases h : c t ∈ keysG c ts
    · rw [if_pos h, if_pos (List.mem_map_of_mem h)]
    · rw [if_neg h, if_neg, List.map_append]
      · rfl
      · intro z
        obtain ⟨u, h1, h2⟩ := List.mem_map.mp z
        exact h (hf _ _ h2 ▸ h1)
theorem rowsG_comp {β : Type} [DecidableEq β] {f : κ → β} (hf : ∀ a b, f a = f b → a = b) (c : α → κ) (ks : List κ) (ts : List α) : rowsG (fun t => f (c t)) (ks.map f) ts = rowsG c ks ts := by
  unfold rowsG
  rw [List.map_map]
  refine List.map_congr_left fun k _ => List.filter_congr fun t _ => ?_
  by_cases e : c t = k
  · rw [decide_eq_true e, decide_eq_true (congrArg f e)]
  · rw [decide_eq_false e, decide_eq_false fun z => e (hf _ _ z)]
def mkG (i : Nat) : List κ → List (κ × Nat)
  | [] => []
  | k :: ks => (k, i) :: mkG (i + 1) ks
theorem mkG_len : ∀ (i : Nat) (ks : List κ), (mkG i ks).length = ks.length
  | _, [] => rfl
  | i, k :: ks => by show (mkG (i + 1) ks).length + 1 = _; rw [mkG_len]; rfl
theorem mkG_has {k : κ} : ∀ (i : Nat) (ks : List κ), mhas (mkG i ks) k = decide (k ∈ ks)
  | _, [] => rfl
  | i, j :: ks => by
    show (decide (j = k) || mhas (mkG (i + 1) ks) k) = _
    rw [mkG_has (i + 1) ks]
    by_cases e : j = k
    · rw [decide_eq_true e, decide_eq_true (show k ∈ j :: ks from e ▸ List.mem_cons_self)]; rfl
    · rw [decide_eq_false e, Bool.false_or]
      by_cases q : k ∈ ks
      · rw [decide_eq_true q, decide_eq_true (List.mem_cons_of_mem _ q)]
      · rw [decide_eq_false q, decide_eq_false fun z => (List.mem_cons.mp z).elim (fun w => e w.symm) q]
theorem mkG_snoc {k : κ} : ∀ (i : Nat) (ks : List κ), mkG i (ks ++ [k]) = mkG i ks ++ [(k, i + ks.length)]
  | _, [] => rfl
  | i, j :: ks => by
    show (j, i) :: mkG (i + 1) (ks ++ [k]) = (j, i) :: (mkG (i + 1) ks ++ [(k, i + (ks.length + 1))])
    rw [mkG_snoc (i + 1) ks, show i + 1 + ks.length = i + (ks.length + 1) by omega]
theorem mkG_get {k : κ} : ∀ (i : Nat) (ks : List κ), mget (mkG i ks) k = (fidx k ks).map (i + ·)
  | _, [] => rfl
  | i, j :: ks => by
    show mget ((j, i) :: mkG (i + 1) ks) k = _
    rw [mget_cons]
    unfold fidx
    by_cases e : j = k
    · rw [if_pos e, if_pos e]; rfl
    · rw [if_neg e, if_neg e, mkG_get (i + 1) ks, Option.map_map]
      cases fidx k ks with
      | none => rfl
      | some x => show some (i + 1 + x) = some (i + (x + 1)); congr 1; omega
theorem mkG_vals : ∀ (i : Nat) (ks : List κ), (mkG i ks).map (·.2) = List.range' i ks.length
  | _, [] => rfl
  | i, k :: ks => by
    show i :: (mkG (i + 1) ks).map (·.2) = List.range' i (ks.length + 1)
    rw [mkG_vals (i + 1) ks]
    rfl
end
theorem filSt_const {α β γ : Type} {f : γ → α → R (Option β × γ)} {g : α → Option β} {s : γ} : ∀ {xs : List α}, (∀ x ∈ xs, f s x = R.ok (g x, s)) → filSt f s xs = R.ok (xs.filterMap g, s)
  | [], _ => rfl
  | x :: xs, h => by
    unfold filSt
    rw [h x List.mem_cons_self, ok_bind]
    show filSt f s xs >>= _ = _
    rw [filSt_const fun y hy => h y (List.mem_cons_of_mem _ hy), ok_bind, List.filterMap_cons]
    cases g x <;> rfl
theorem mapR_some {α β : Type} {f : α → R β} {g : α → Option β} : ∀ {xs : List α}, (∀ x ∈ xs, ∃ y, g x = some y ∧ f x = R.ok y) → mapR f xs = R.ok (xs.filterMap g)
  | [], _ => rfl
  | x :: xs, h => by
    obtain ⟨y, h1, h2⟩ := h x List.mem_cons_self
    unfold mapR
    rw [h2, ok_bind, mapR_some fun y hy => h y (List.mem_cons_of_mem _ hy), List.filterMap_cons, h1]
    rfl
theorem range_pick {β γ : Type} (st : List β) (p : β → Option γ) : (List.range st.length).filterMap (fun i => st[i]?.bind p) = st.filterMap p := by
  have key : ∀ m, m ≤ st.length → (List.range m).filterMap (fun i => st[i]?.bind p) = (st.take m).filterMap p := by
    intro m
    induction m with
    | zero => intro _; rfl
    | succ m ih =>
      intro h
      have e : st[m]? = some st[m] := List.getElem?_eq_getElem (by omega)
      rw [List.range_succ, List.filterMap_append, ih (by omega), List.take_add_one, List.filterMap_append, e]
      congr 1
      simp [List.filterMap_cons, e]
  rw [key _ (Nat.le_refl _), List.take_length]
/-- the rows of two or more: their numbers, and what they hold -/
theorem pick_deref {β : Type} (st : List (List β)) : deref st ((List.range st.length).filterMap fun i => st[i]?.bind fun (r : List β) => if decide ((1 : Int) < (r.length : Int)) = true then some i else none) = R.ok (st.filter fun r => decide ((1 : Int) < (r.length : Int))) := by
  unfold deref
  rw [mapR_some (g := fun i => st[i]?)]
  · congr 1
    rw [List.filterMap_filterMap]
    have : (fun (i : Nat) => (st[i]?.bind fun (r : List β) => if decide ((1 : Int) < (r.length : Int)) = true then some i else none).bind fun i => st[i]?) = fun (i : Nat) => st[i]?.bind fun (r : List β) => if decide ((1 : Int) < (r.length : Int)) = true then some r else none := by
      funext i
      cases e : st[i]? with
      | none => rfl
      | some r =>
        show ((if decide ((1 : Int) < (r.length : Int)) = true then some i else none).bind fun i => st[i]?) = (if decide ((1 : Int) < (r.length : Int)) = true then some r else none)
        by_cases q : decide ((1 : Int) < (r.length : Int)) = true
        · rw [if_pos q, if_pos q]; exact e
        · rw [if_neg q, if_neg q]; rfl
    rw [this, range_pick st fun (r : List β) => if decide ((1 : Int) < (r.length : Int)) = true then some r else none]
    rw [fil_ite]
  · intro i hi
    obtain ⟨k, _, hk⟩ := List.mem_filterMap.mp hi
    cases e : st[k]? with
    | none => rw [e] at hk; cases hk
    | some r =>
      rw [e] at hk
      have : k = i := by
        change (if decide ((1 : Int) < (r.length : Int)) = true then some k else none) = some i at hk
        split at hk
        · exact Option.some.inj hk
        · cases hk
      subst this
      exact ⟨r, e, by unfold getS; rw [e]; rfl⟩
noncomputable def codeT (n : Int) (ts : List (Int × Int)) (ls : List Int) (t : Thing) : List Int := ls.map fun l => farT n ts l t
noncomputable def likesL (n : Int) (ts : List (Int × Int)) (ls : List Int) (k : Str) : List (List Thing) := likesG (codeT n ts ls) (kindT n ts k)
theorem by_code_ok {n : Int} {ts : List (Int × Int)} {ls : List Int} {k : Str} (h : WebOk n ts) (hl : LooksOk n ls) : by_code (n, ⟨ts⟩) ls k = R.ok (mkG 0 (keysG (fun t => Tup.mk (codeT n ts ls t)) (kindT n ts k)), rowsG (codeT n ts ls) (keysG (codeT n ts ls) (kindT n ts k)) (kindT n ts k)) := by
  have hlen := hl.len
  have hn := h.n60
  have hk := kind_len (k := k) h
  have inj : ∀ a b : List Int, Tup.mk a = Tup.mk b → a = b := fun a b e => by injection e
  rw [← rowsG_comp inj, ← keysG_comp inj]
  refine po_iff ?_
  unfold by_code
  rw [table_ok h, ok_bind, things_ok h, ok_bind]
  generalize hc : (fun t => Tup.mk (codeT n ts ls t)) = c
  refine po_bind (po_foldP (fun pre s => s = (mkG 0 (keysG c pre), rowsG c (keysG c pre) pre)) rfl fun pre s t post hp hs => ?_) fun r hr => ?_
  · subst hs
    have ht : ThOk n ts t := kindT_ok (k := k) (by rw [hp]; simp)
    have hpl : pre.length ≤ 800 := by rw [hp, List.length_append] at hk; omega
    have hkl := keysG_len (c := c) (ts := pre)
    refine po_mapGE (g := fun l => farT n ts l t) (by omega) (fun l hm => by
      rw [far_by_ok h (hl.rg l hm).1 (hl.rg l hm).2 ht]
      rfl) ?_
    have ec : Tup.mk (ls.map fun l => farT n ts l t) = c t := by rw [← hc]; rfl
    rw [ec]
    refine po_bind (Q := fun g => g = (mkG 0 (keysG c (pre ++ [t])), rowsG c (keysG c (pre ++ [t])) pre)) (po_if (fun q => ?_) fun q => ?_) fun g hg => ?_
    · rw [mkG_has] at q
      have hm : c t ∉ keysG c pre := fun z => by rw [decide_eq_true z] at q; exact absurd q (by decide)
      rw [keysG_snoc]
      unfold kstep
      rw [if_neg hm, rowsG_new hm]
      refine po_newS (po_mput (by rw [mkG_len]; omega) ?_)
      show (_, _) = (_, _)
      rw [mput_new (by rw [mkG_has]; exact decide_eq_false hm), mkG_snoc]
      unfold rowsG
      rw [List.length_map, Nat.zero_add]
    · rw [mkG_has] at q
      have hm : c t ∈ keysG c pre := by
        by_cases z : c t ∈ keysG c pre
        · exact z
        · exfalso
          apply q
          rw [decide_eq_false z]
          rfl
      rw [keysG_snoc]
      unfold kstep
      rw [if_pos hm]
      exact rfl
    · subst hg
      have hd := keysG_nodup (c := c) (ts := pre ++ [t])
      obtain ⟨j, e1, e2⟩ := fidx_mem (k := c t) (ks := keysG c (pre ++ [t])) (keysG_mem.mpr ⟨t, by simp, rfl⟩)
      refine po_mgetE (x := j) (by rw [mkG_get, e1]; show some (0 + j) = _; rw [Nat.zero_add]) (po_getS (rowsG_get e2) (po_app ?_ (po_setS ?_)))
      · refine Nat.lt_of_le_of_lt (List.length_filter_le _ _) ?_
        omega
      · show (_, _) = (_, _)
        rw [rowsG_set hd e2]
  · subst hr
    exact rfl
theorem likes_pick {n : Int} {ts : List (Int × Int)} {ls : List Int} {k : Str} (h : WebOk n ts) : filStG (fun (g10 : (List (List Thing))) (b10 : Ix) => do
      let x14 ← getS g10 b10
      if (decide ((1 : Int) < (x14.length : Int))) = true then do
        R.ok ((some b10), g10)
      else
        R.ok (none, g10)) (rowsG (codeT n ts ls) (keysG (codeT n ts ls) (kindT n ts k)) (kindT n ts k)) ((mkG 0 (keysG (fun t => Tup.mk (codeT n ts ls t)) (kindT n ts k))).map (·.2)) =
    R.ok ((List.range (rowsG (codeT n ts ls) (keysG (codeT n ts ls) (kindT n ts k)) (kindT n ts k)).length).filterMap (fun i => (rowsG (codeT n ts ls) (keysG (codeT n ts ls) (kindT n ts k)) (kindT n ts k))[i]?.bind fun r => if decide ((1 : Int) < (r.length : Int)) = true then some i else none), rowsG (codeT n ts ls) (keysG (codeT n ts ls) (kindT n ts k)) (kindT n ts k)) := by
  have hk := kind_len (k := k) h
  have inj : ∀ a b : List Int, Tup.mk a = Tup.mk b → a = b := fun a b e => by injection e
  have hkl := keysG_len (c := codeT n ts ls) (ts := kindT n ts k)
  rw [mkG_vals, keysG_comp inj, List.length_map, ← List.range_eq_range']
  have e : (rowsG (codeT n ts ls) (keysG (codeT n ts ls) (kindT n ts k)) (kindT n ts k)).length = (keysG (codeT n ts ls) (kindT n ts k)).length := by unfold rowsG; rw [List.length_map]
  rw [e]
  unfold filStG
  rw [grd_t (decide_eq_true (by rw [List.length_range]; omega)), ok_bind]
  refine filSt_const fun i hi => ?_
  rw [List.mem_range, ← e] at hi
  unfold getS
  rw [List.getElem?_eq_getElem hi]
  show (if _ then _ else _) = _
  by_cases q : decide ((1 : Int) < (((rowsG (codeT n ts ls) (keysG (codeT n ts ls) (kindT n ts k)) (kindT n ts k))[i]).length : Int)) = true
  · rw [if_pos q]
    show _ = R.ok ((if _ then _ else _), _)
    rw [if_pos q]
  · rw [if_neg q]
    show _ = R.ok ((if _ then _ else _), _)
    rw [if_neg q]
theorem likes_by_ok {n : Int} {ts : List (Int × Int)} {ls : List Int} {k : Str} (h : WebOk n ts) (hl : LooksOk n ls) : likes_by (n, ⟨ts⟩) ls k = R.ok (likesL n ts ls k) := by
  unfold likes_by
  rw [looks_ok hl, ok_bind, by_code_ok h hl, ok_bind]
  show filStG _ (rowsG (codeT n ts ls) (keysG (codeT n ts ls) (kindT n ts k)) (kindT n ts k)) ((mkG 0 (keysG (fun t => Tup.mk (codeT n ts ls t)) (kindT n ts k))).map (·.2)) >>= _ = _
  rw [likes_pick h, ok_bind]
  show deref _ _ >>= _ = _
  rw [pick_deref, ok_bind]
  rfl
theorem is_known_ok {n : Int} {ts : List (Int × Int)} {ls : List Int} {k : Str} (h : WebOk n ts) (hl : LooksOk n ls) : is_known (n, ⟨ts⟩) ls k = R.ok (decide (likesL n ts ls k = [])) := by
  unfold is_known
  rw [likes_by_ok h hl, ok_bind]
def onT (p : Int) : Thing → Prop
  | .pl i => i = p
  | .ti c d => c = p ∨ d = p
/-- two unlike things are parted by some place of the one -/
theorem parted {n : Int} {ts : List (Int × Int)} {a b : Thing} (h : WebOk n ts) (ha : ThOk n ts a) (hb : ThOk n ts b) (hne : a ≠ b) : ∃ p, 0 ≤ p ∧ p < n ∧ farT n ts p a ≠ farT n ts p b := by
  have z : ∀ p, 0 ≤ p → p < n → ∀ t, ThOk n ts t → (farT n ts p t = 0 ↔ onT p t) := by
    intro p p0 p1 t ht
    cases t with
    | pl i => exact dst_zero h p0 p1 ht.1 ht.2
    | ti c d =>
      have hr := h.rg4 _ (show (c, d) ∈ ts from ht)
      have e1 := dst_zero h p0 p1 hr.1 hr.2.1
      have e2 := dst_zero h p0 p1 hr.2.2.1 hr.2.2.2
      have n1 := dst_nn h p0 p1 hr.1 hr.2.1
      have n2 := dst_nn h p0 p1 hr.2.2.1 hr.2.2.2
      dsimp only at e1 e2 n1 n2
      show min2 (dst n ts p c) (dst n ts p d) = 0 ↔ (c = p ∨ d = p)
      rw [← e1, ← e2]
      rcases mm_cases (dst n ts p c) (dst n ts p d) with ⟨q, _, _⟩ | ⟨q, _, _⟩ <;> rw [q] <;> omega
  apply Classical.byContradiction
  intro hc
  have hall : ∀ p, 0 ≤ p → p < n → farT n ts p a = farT n ts p b := fun p p0 p1 => Classical.byContradiction fun q => hc ⟨p, p0, p1, q⟩
  have key : ∀ p, 0 ≤ p → p < n → (onT p a ↔ onT p b) := fun p p0 p1 => by
    rw [← z p p0 p1 a ha, ← z p p0 p1 b hb, hall p p0 p1]
  cases a with
  | pl i =>
    cases b with
    | pl j =>
      have := (key i ha.1 ha.2).mp rfl
      have this' : j = i := this
      exact hne (by rw [this'])
    | ti c d =>
      have hr := h.rg _ (show (c, d) ∈ ts from hb)
      dsimp only at hr
      have k1 := (key c (by omega) (by omega)).mpr (.inl rfl)
      have k2 := (key d (by omega) (by omega)).mpr (.inr rfl)
      unfold onT at k1 k2
      omega
  | ti c d =>
    have hr := h.rg _ (show (c, d) ∈ ts from ha)
    dsimp only at hr
    cases b with
    | pl j =>
      have k1 := (key c (by omega) (by omega)).mp (.inl rfl)
      have k2 := (key d (by omega) (by omega)).mp (.inr rfl)
      unfold onT at k1 k2
      omega
    | ti e f =>
      have hs := h.rg _ (show (e, f) ∈ ts from hb)
      dsimp only at hs
      have k1 := (key c (by omega) (by omega)).mp (.inl rfl)
      have k2 := (key d (by omega) (by omega)).mp (.inr rfl)
      unfold onT at k1 k2
      have : c = e ∧ d = f := by omega
      exact hne (by rw [this.1, this.2])
theorem likesG_mem {κ α : Type} [DecidableEq κ] {c : α → κ} {ts : List α} {r : List α} : r ∈ likesG c ts ↔ ∃ t ∈ ts, r = ts.filter (fun u => decide (c u = c t)) ∧ 1 < r.length := by
  unfold likesG rowsG
  rw [List.mem_filter, List.mem_map]
  constructor
  · rintro ⟨⟨k, hk, rfl⟩, h2⟩
    obtain ⟨t, ht, rfl⟩ := keysG_mem.mp hk
    have := of_decide_eq_true h2
    exact ⟨t, ht, rfl, by omega⟩
  · rintro ⟨t, ht, e, h2⟩
    exact ⟨⟨c t, keysG_mem.mpr ⟨t, ht, rfl⟩, e.symm⟩, decide_eq_true (by omega)⟩
theorem two_long {α : Type} {a b : α} : ∀ {l : List α}, a ∈ l → b ∈ l → a ≠ b → 1 < l.length
  | [], h, _, _ => nomatch h
  | [x], h1, h2, hne => by
    rw [List.mem_singleton] at h1 h2
    exact absurd (h1.trans h2.symm) hne
  | _ :: _ :: _, _, _, _ => by simp
theorem codeT_eq {n : Int} {ts : List (Int × Int)} {ls : List Int} {a b : Thing} : codeT n ts ls a = codeT n ts ls b ↔ ∀ l ∈ ls, farT n ts l a = farT n ts l b := by
  unfold codeT
  exact List.map_inj_left
/-- two things of one code: a row has both -/
theorem likes_both {n : Int} {ts : List (Int × Int)} {ls : List Int} {k : Str} {a b : Thing} (ha : a ∈ kindT n ts k) (hb : b ∈ kindT n ts k) (hne : a ≠ b) : (∃ r ∈ likesL n ts ls k, a ∈ r ∧ b ∈ r) ↔ codeT n ts ls a = codeT n ts ls b := by
  constructor
  · rintro ⟨r, hr, h1, h2⟩
    obtain ⟨t, _, e, _⟩ := likesG_mem.mp hr
    rw [e] at h1 h2
    exact (of_decide_eq_true (List.mem_filter.mp h1).2).trans (of_decide_eq_true (List.mem_filter.mp h2).2).symm
  · intro e
    have h1 : a ∈ (kindT n ts k).filter fun u => decide (codeT n ts ls u = codeT n ts ls a) := List.mem_filter.mpr ⟨ha, decide_eq_true rfl⟩
    have h2 : b ∈ (kindT n ts k).filter fun u => decide (codeT n ts ls u = codeT n ts ls a) := List.mem_filter.mpr ⟨hb, decide_eq_true e.symm⟩
    exact ⟨_, likesG_mem.mpr ⟨a, ha, rfl, two_long h1 h2 hne⟩, h1, h2⟩
theorem kindT_nodup {n : Int} {ts : List (Int × Int)} {k : Str} (h : WebOk n ts) : (kindT n ts k).Nodup := by
  have h1 : (mkpl (rng 0 n)).Nodup := by
    unfold mkpl
    refine List.Pairwise.map _ (fun a b (e : a ≠ b) q => e ?_) (rng_nodup 0 n)
    injection q
  have h2 : (mkti ts).Nodup := by
    unfold mkti
    refine List.Pairwise.map _ (fun a b (e : a ≠ b) q => e ?_) h.nd
    injection q with q1 q2
    exact Prod.ext q1 q2
  unfold kindT
  split
  · exact h1
  · split
    · exact h2
    · unfold allT
      rw [List.nodup_append]
      refine ⟨h1, h2, fun a ha b hb e => ?_⟩
      obtain ⟨i, rfl, _⟩ := pl_mem.mp ha
      obtain ⟨c, d, rfl, _⟩ := ti_mem.mp hb
      cases e
/-- by all places each thing is known -/
theorem likes_all {n : Int} {ts : List (Int × Int)} {k : Str} (h : WebOk n ts) : likesL n ts (rng 0 n) k = [] := by
  rw [List.eq_nil_iff_forall_not_mem]
  intro r hr
  obtain ⟨t, _, e, hl⟩ := likesG_mem.mp hr
  have hd : r.Nodup := by rw [e]; exact (kindT_nodup h).filter _
  match r, hl, hd, e with
  | a :: b :: l, _, hd, e =>
    have hne : a ≠ b := fun q => (List.nodup_cons.mp hd).1 (q ▸ List.mem_cons_self)
    have h1 : a ∈ (kindT n ts k).filter fun u => decide (codeT n ts (rng 0 n) u = codeT n ts (rng 0 n) t) := e ▸ List.mem_cons_self
    have h2 : b ∈ (kindT n ts k).filter fun u => decide (codeT n ts (rng 0 n) u = codeT n ts (rng 0 n) t) := e ▸ List.mem_cons_of_mem _ List.mem_cons_self
    obtain ⟨p, p0, p1, hp⟩ := parted h (kindT_ok (List.mem_filter.mp h1).1) (kindT_ok (List.mem_filter.mp h2).1) hne
    exact hp (codeT_eq.mp ((of_decide_eq_true (List.mem_filter.mp h1).2).trans (of_decide_eq_true (List.mem_filter.mp h2).2).symm) p (rng_mem.mpr ⟨p0, p1⟩))
/-! ### looks by things -/
noncomputable def cntS (n : Int) (ts : List (Int × Int)) (S : List Int) (X Y : Thing) : Nat := (S.filter fun l => !decide (farT n ts l X = farT n ts l Y)).length
theorem cntS_symm {n : Int} {ts : List (Int × Int)} {S : List Int} {X Y : Thing} : cntS n ts S X Y = cntS n ts S Y X := by
  unfold cntS
  congr 1
  refine List.filter_congr fun p _ => ?_
  by_cases e : farT n ts p X = farT n ts p Y
  · rw [decide_eq_true e, decide_eq_true e.symm]
  · rw [decide_eq_false e, decide_eq_false (fun q => e q.symm)]
theorem hits_cnt {n : Int} {ts : List (Int × Int)} {S : List Int} {X Y : Thing} (hS : S.Nodup) (hr : ∀ v ∈ S, 0 ≤ v ∧ v < n) : ((partL n ts X Y).filter fun b => inB b S).length = cntS n ts S X Y := by
  unfold cntS
  refine Nat.le_antisymm (nodup_le (partL_nodup.filter _) fun v hv => ?_) (nodup_le (hS.filter _) fun v hv => ?_)
  · obtain ⟨a, b⟩ := List.mem_filter.mp hv
    refine List.mem_filter.mpr ⟨inB_t.mp b, ?_⟩
    rw [decide_eq_false (partL_mem.mp a).2]
    rfl
  · obtain ⟨a, b⟩ := List.mem_filter.mp hv
    refine List.mem_filter.mpr ⟨partL_mem.mpr ⟨hr v a, fun e => ?_⟩, inB_t.mpr a⟩
    rw [decide_eq_true e] at b
    cases b
theorem pairs_has {n : Int} {ts : List (Int × Int)} {T : List Thing} {i j : Nat} {X Y : Thing} (hij : i < j) (hX : T[i]? = some X) (hY : T[j]? = some Y) : mkP n ts X Y ∈ pairsT n ts T (rng 0 T.length) := by
  obtain ⟨hj, ej⟩ := List.getElem?_eq_some_iff.mp hY
  unfold pairsT
  refine List.mem_flatMap.mpr ⟨(i : Int), rng_mem.mpr ⟨by omega, by omega⟩, ?_⟩
  have e1 : T.getD ((i : Int)).toNat (.pl 0) = X := by
    rw [show ((i : Int)).toNat = i by omega, List.getD_eq_getElem?_getD, hX]
    rfl
  rw [e1]
  refine List.mem_map.mpr ⟨Y, ?_, rfl⟩
  refine List.mem_of_getElem? (i := j - (i + 1)) ?_
  rw [List.getElem?_drop, show ((i : Int) + 1).toNat + (j - (i + 1)) = j by omega]
  exact hY
section
variable {n : Int} {ts : List (Int × Int)} {k : Str} {st : Int} {S : List Int}
theorem strong_to2 (hS : S.Nodup) (hr : ∀ v ∈ S, 0 ≤ v ∧ v < n) (hs : Strong st S (partedL n ts k)) {X Y : Thing} (hX : X ∈ kindT n ts k) (hY : Y ∈ kindT n ts k) (hne : X ≠ Y) : st ≤ (cntS n ts S X Y : Int) := by
  obtain ⟨i, hi, ei⟩ := List.mem_iff_getElem.mp hX
  obtain ⟨j, hj, ej⟩ := List.mem_iff_getElem.mp hY
  have a1 : (kindT n ts k)[i]? = some X := by rw [List.getElem?_eq_getElem hi, ei]
  have a2 : (kindT n ts k)[j]? = some Y := by rw [List.getElem?_eq_getElem hj, ej]
  rcases Nat.lt_trichotomy i j with q | q | q
  · rw [← hits_cnt hS hr]
    exact hs _ (pairs_has q a1 a2)
  · subst q
    exact absurd (ei.symm.trans ej) hne
  · rw [cntS_symm, ← hits_cnt hS hr]
    exact hs _ (pairs_has q a2 a1)
theorem strong_of2 (h : WebOk n ts) (hS : S.Nodup) (hr : ∀ v ∈ S, 0 ≤ v ∧ v < n) (hs : ∀ X ∈ kindT n ts k, ∀ Y ∈ kindT n ts k, X ≠ Y → st ≤ (cntS n ts S X Y : Int)) : Strong st S (partedL n ts k) := fun p hp => by
  have P := PsOk.of (k := k) h
  unfold hits
  rw [P.par p hp, hits_cnt hS hr]
  exact hs _ (P.one p hp) _ (P.two p hp) (P.ne p hp)
end
section
variable {n : Int} {ts : List (Int × Int)} {o : List Int} {k : Str} {st : Int} (ho : o.Perm (rng 0 n)) (h : WebOk n ts)
include ho h
end
/-! ### twins -/
open Classical in
/-- no place but they themselves parts them -/
noncomputable def twB (n : Int) (ts : List (Int × Int)) (a b : Int) : Bool := decide (∀ c, 0 ≤ c → c < n → c ≠ a → c ≠ b → (Adj ts a c ↔ Adj ts b c))
open Classical in
theorem twB_iff {n : Int} {ts : List (Int × Int)} {a b : Int} : twB n ts a b = true ↔ ∀ c, 0 ≤ c → c < n → c ≠ a → c ≠ b → (Adj ts a c ↔ Adj ts b c) := by
  unfold twB
  rw [decide_eq_true_iff]
theorem twB_refl (n : Int) (ts : List (Int × Int)) (a : Int) : twB n ts a a = true := twB_iff.mpr fun _ _ _ _ _ => Iff.rfl
theorem twB_symm {n : Int} {ts : List (Int × Int)} {a b : Int} (h : twB n ts a b = true) : twB n ts b a = true := twB_iff.mpr fun c c0 c1 h1 h2 => (twB_iff.mp h c c0 c1 h2 h1).symm
theorem twB_comm (n : Int) (ts : List (Int × Int)) (a b : Int) : twB n ts a b = twB n ts b a := by
  rw [Bool.eq_iff_iff]
  exact ⟨twB_symm, twB_symm⟩
theorem twB_trans {n : Int} {ts : List (Int × Int)} {a b c : Int} (hr : ∀ x, x = a ∨ x = b ∨ x = c → 0 ≤ x ∧ x < n) (h1 : twB n ts a b = true) (h2 : twB n ts b c = true) : twB n ts a c = true := by
  by_cases eab : a = b
  · rw [eab]; exact h2
  by_cases ebc : b = c
  · rw [← ebc]; exact h1
  by_cases eac : a = c
  · rw [eac]; exact twB_refl _ _ _
  refine twB_iff.mpr fun d d0 d1 n1 n2 => ?_
  by_cases e : d = b
  · subst e
    have q1 := twB_iff.mp h1 c (hr c (.inr (.inr rfl))).1 (hr c (.inr (.inr rfl))).2 (fun e => eac e.symm) (fun e => ebc e.symm)
    have q2 := twB_iff.mp h2 a (hr a (.inl rfl)).1 (hr a (.inl rfl)).2 eab eac
    exact ⟨fun h => (q1.mp (q2.mp h.symm).symm).symm, fun h => (q2.mpr (q1.mpr h.symm).symm).symm⟩
  · exact (twB_iff.mp h1 d d0 d1 n1 e).trans (twB_iff.mp h2 d d0 d1 e n2)
/-- twins are as far from all others -/
theorem twB_dst {n : Int} {ts : List (Int × Int)} {a b : Int} (h : WebOk n ts) (a0 : 0 ≤ a) (a1 : a < n) (b0 : 0 ≤ b) (b1 : b < n) :
    twB n ts a b = true ↔ ∀ c, 0 ≤ c → c < n → c ≠ a → c ≠ b → dst n ts c a = dst n ts c b := by
  have half : ∀ a b, 0 ≤ a → a < n → 0 ≤ b → b < n → twB n ts a b = true → ∀ c, 0 ≤ c → c < n → c ≠ a → c ≠ b → dst n ts c b ≤ dst n ts c a := by
    intro a b a0 a1 b0 b1 ht c c0 c1 na nb
    have d := web_dist h c0 c1
    obtain ⟨w, w0, w1, hw, ew⟩ := d.desc a a0 a1 (fun e => na e.symm)
    by_cases e : w = b
    · rw [← e]; omega
    · have := (twB_iff.mp ht w w0 w1 (h.adj hw).2.2.2.2 e).mp hw.symm
      have := d.lip w b this.symm
      omega
  constructor
  · intro ht c c0 c1 na nb
    exact Int.le_antisymm (half b a b0 b1 a0 a1 (twB_symm ht) c c0 c1 nb na) (half a b a0 a1 b0 b1 ht c c0 c1 na nb)
  · intro hd
    refine twB_iff.mpr fun c c0 c1 na nb => ?_
    have e := hd c c0 c1 na nb
    rw [show Adj ts a c ↔ Adj ts c a from ⟨Adj.symm, Adj.symm⟩, show Adj ts b c ↔ Adj ts c b from ⟨Adj.symm, Adj.symm⟩, ← dst_one h c0 c1 a0 a1, ← dst_one h c0 c1 b0 b1, e]
theorem filter_eq_iff {α : Type} {l : List α} {P Q : α → Bool} : l.filter P = l.filter Q ↔ ∀ x ∈ l, P x = Q x := by
  constructor
  · intro e x hx
    rw [Bool.eq_iff_iff]
    constructor
    · intro p
      have : x ∈ l.filter P := List.mem_filter.mpr ⟨hx, p⟩
      rw [e] at this
      exact (List.mem_filter.mp this).2
    · intro p
      have : x ∈ l.filter Q := List.mem_filter.mpr ⟨hx, p⟩
      rw [← e] at this
      exact (List.mem_filter.mp this).2
  · exact fun h => List.filter_congr h
open Classical in
theorem tw_lists {n : Int} {ts : List (Int × Int)} {a b : Int} (h : WebOk n ts) : decide ((rng 0 n).filter (fun x => decide (Adj ts a x) && !decide (x = b)) = (rng 0 n).filter (fun x => decide (Adj ts b x) && !decide (x = a))) = twB n ts a b := by
  rw [Bool.eq_iff_iff, decide_eq_true_iff, twB_iff, filter_eq_iff]
  constructor
  · intro q c c0 c1 na nb
    have := q c (rng_mem.mpr ⟨c0, c1⟩)
    rw [decide_eq_false na, decide_eq_false nb] at this
    simpa using this
  · intro q x hx
    obtain ⟨x0, x1⟩ := rng_mem.mp hx
    by_cases ea : x = a
    · subst ea
      have : ¬ Adj ts x x := fun z => (h.adj z).2.2.2.2 rfl
      simp [this]
    · by_cases eb : x = b
      · subst eb
        have : ¬ Adj ts x x := fun z => (h.adj z).2.2.2.2 rfl
        simp [this]
      · have := q x x0 x1 ea eb
        simp [ea, eb, this]
/-- all twins of a place, itself too -/
noncomputable def clsL (n : Int) (ts : List (Int × Int)) (p : Int) : List Int := (rng 0 n).filter fun o => twB n ts p o
/-- whether a place is the first of its twins -/
noncomputable def fstB (n : Int) (ts : List (Int × Int)) (p : Int) : Bool := (rng 0 p).all fun q => !twB n ts q p
theorem fstB_iff {n : Int} {ts : List (Int × Int)} {p : Int} : fstB n ts p = true ↔ ∀ q, 0 ≤ q → q < p → twB n ts q p = false := by
  unfold fstB
  rw [List.all_eq_true]
  constructor
  · intro h q q0 q1
    have := h q (rng_mem.mpr ⟨q0, q1⟩)
    simpa using this
  · intro h q hq
    obtain ⟨q0, q1⟩ := rng_mem.mp hq
    rw [h q q0 q1]; rfl
noncomputable def twinL (n : Int) (ts : List (Int × Int)) : List (List Int) := (((rng 0 n).filter fun p => fstB n ts p).map (clsL n ts)).filter fun r => decide ((1 : Int) < (r.length : Int))
theorem cls_first {n : Int} {ts : List (Int × Int)} {p : Int} (p0 : 0 ≤ p) (p1 : p < n) (h : fstB n ts p = true) : clsL n ts p = [p] ++ (rng (p + 1) n).filter fun o => twB n ts p o := by
  have e : rng 0 n = rng 0 p ++ ([p] ++ rng (p + 1) n) := by
    apply List.ext_getElem?
    intro k
    by_cases hk : k < (n - 0).toNat
    · rw [rng_atE hk]
      by_cases h1 : k < (p - 0).toNat
      · rw [List.getElem?_append_left (by rw [rng_length]; exact h1), rng_atE h1]
      · rw [List.getElem?_append_right (by rw [rng_length]; omega), rng_length]
        by_cases h2 : k = (p - 0).toNat
        · rw [h2, Nat.sub_self]
          show _ = some p
          congr 1
          omega
        · rw [List.getElem?_append_right (by simp; omega)]
          rw [rng_atE (by simp; omega)]
          congr 1
          simp
          omega
    · rw [List.getElem?_eq_none (by rw [rng_length]; omega), List.getElem?_eq_none (by rw [List.length_append, List.length_append, rng_length, rng_length]; simp; omega)]
  unfold clsL
  rw [e, List.filter_append, List.filter_append]
  have e1 : (rng 0 p).filter (fun o => twB n ts p o) = [] := by
    rw [List.filter_eq_nil_iff]
    intro q hq
    obtain ⟨q0, q1⟩ := rng_mem.mp hq
    rw [twB_comm, fstB_iff.mp h q q0 q1]
    decide
  have e2 : [p].filter (fun o => twB n ts p o) = [p] := by
    rw [List.filter_cons_of_pos (twB_refl _ _ _)]
    rfl
  rw [e1, e2, List.nil_append]
/-- each place has a first twin -/
theorem has_first {n : Int} {ts : List (Int × Int)} {p : Int} (p0 : 0 ≤ p) (p1 : p < n) : ∃ q, 0 ≤ q ∧ q ≤ p ∧ fstB n ts q = true ∧ twB n ts q p = true := by
  have key : ∀ (m : Nat) (p : Int), p.toNat ≤ m → 0 ≤ p → p < n → ∃ q, 0 ≤ q ∧ q ≤ p ∧ fstB n ts q = true ∧ twB n ts q p = true := by
    intro m
    induction m with
    | zero =>
      intro p hm p0 p1
      exact ⟨p, p0, Int.le_refl _, fstB_iff.mpr fun q q0 q1 => by omega, twB_refl _ _ _⟩
    | succ m ih =>
      intro p hm p0 p1
      by_cases hf : fstB n ts p = true
      · exact ⟨p, p0, Int.le_refl _, hf, twB_refl _ _ _⟩
      · have : ∃ q, 0 ≤ q ∧ q < p ∧ twB n ts q p = true := by
          apply Classical.byContradiction
          intro hc
          apply hf
          refine fstB_iff.mpr fun q q0 q1 => ?_
          cases e : twB n ts q p with
          | false => rfl
          | true => exact absurd ⟨q, q0, q1, e⟩ hc
        obtain ⟨q, q0, q1, hq⟩ := this
        obtain ⟨r, r0, r1, hr, hrq⟩ := ih q (by omega) q0 (by omega)
        exact ⟨r, r0, by omega, hr, twB_trans (fun x hx => by omega) hrq hq⟩
  exact key _ p (Nat.le_refl _) p0 p1
theorem first_uniq {n : Int} {ts : List (Int × Int)} {p q r : Int} (p0 : 0 ≤ p) (q0 : 0 ≤ q) (r0 : 0 ≤ r) (p1 : p < n) (q1 : q < n) (r1 : r < n) (hp : fstB n ts p = true) (hq : fstB n ts q = true) (h1 : twB n ts p r = true) (h2 : twB n ts q r = true) : p = q := by
  have h3 : twB n ts p q = true := twB_trans (fun x hx => by omega) h1 (twB_symm h2)
  rcases Int.lt_trichotomy p q with h | h | h
  · rw [fstB_iff.mp hq p p0 h] at h3; cases h3
  · exact h
  · rw [twB_comm, fstB_iff.mp hp q q0 h] at h3; cases h3
open Classical in
theorem are_twins_ok {n : Int} {ts : List (Int × Int)} {a b : Int} (h : WebOk n ts) (a0 : 0 ≤ a) (a1 : a < n) (b0 : 0 ≤ b) (b1 : b < n) : are_twins (nears n ts) a b = R.ok (twB n ts a b) := by
  have hn := h.n60
  have ea := sort_nbs h a (fun v => decide (Adj ts a v)) fun v _ _ => decide_eq_true_iff
  have eb := sort_nbs h b (fun v => decide (Adj ts b v)) fun v _ _ => decide_eq_true_iff
  have la := nbs_len_n h a
  have lb := nbs_len_n h b
  rw [← (sortI_perm _).length_eq, ea] at la
  rw [← (sortI_perm _).length_eq, eb] at lb
  refine po_iff ?_
  unfold are_twins
  refine po_getE (nears_get a0 a1) ?_
  rw [ea]
  refine po_filGE (g := fun x => if (!decide (x = b)) = true then some x else none) (by omega) (fun x _ => by
    by_cases q : (!decide (x = b)) = true
    · rw [if_pos q, if_pos q]
    · rw [if_neg q, if_neg q]) ?_
  refine po_getE (nears_get b0 b1) ?_
  rw [eb]
  refine po_filGE (g := fun x => if (!decide (x = a)) = true then some x else none) (by omega) (fun x _ => by
    by_cases q : (!decide (x = a)) = true
    · rw [if_pos q, if_pos q]
    · rw [if_neg q, if_neg q]) ?_
  show decide (_ = _) = _
  rw [fil_ite, fil_ite, List.filter_filter, List.filter_filter, ← tw_lists h]
  congr 1
  simp only [Bool.and_comm]
theorem twins_ok {n : Int} {ts : List (Int × Int)} (h : WebOk n ts) : twins_of (n, ⟨ts⟩) = R.ok ((twinL n ts).map mkpl) := by
  have hn1 := h.n1
  have hn := h.n60
  refine po_iff ?_
  unfold twins_of
  rw [near_floors_ok h, ok_bind]
  refine po_rng (by decide) (by decide) (by show -(2 ^ 62) ≤ n; omega) (by show n < 2 ^ 62; omega) ?_
  refine po_bind (po_foldP (fun pre g => g.1 = (((pre.filter fun p => fstB n ts p).map (clsL n ts)).filter fun r => decide ((1 : Int) < (r.length : Int))).map mkpl ∧ (∀ v, 0 ≤ v → v < n → (v ∈ g.2 ↔ ∃ p, 0 ≤ p ∧ p < (pre.length : Int) ∧ twB n ts p v = true)) ∧ g.2.length ≤ 60 * pre.length)
    ⟨rfl, fun v _ _ => ⟨fun h => (nomatch h), fun ⟨p, p0, p1, _⟩ => absurd p1 (by show ¬ p < (0 : Int); omega)⟩, Nat.zero_le _⟩ ?_) ?_
  · rintro pre ⟨st, met⟩ k post e ⟨h2, h3, h4⟩
    obtain ⟨e1, k0, kn⟩ := rng_split e
    have kn' : k < n := kn
    have ek : k = 0 + (pre.length : Int) := rng_pre e
    have ek' : (pre.length : Int) = k := by omega
    have h2' : st = (((pre.filter fun p => fstB n ts p).map (clsL n ts)).filter fun r => decide ((1 : Int) < (r.length : Int))).map mkpl := h2
    have h3' : ∀ v, 0 ≤ v → v < n → (v ∈ met ↔ ∃ p, 0 ≤ p ∧ p < (pre.length : Int) ∧ twB n ts p v = true) := h3
    have h4' : met.length ≤ 60 * pre.length := h4
    have hfst : k ∉ met ↔ fstB n ts k = true := by
      rw [h3' k k0 kn', fstB_iff, ek']
      constructor
      · intro q p p0 p1
        cases z : twB n ts p k with
        | false => rfl
        | true => exact absurd ⟨p, p0, p1, z⟩ q
      · rintro q ⟨p, p0, p1, z⟩
        rw [q p p0 p1] at z
        cases z
    have hlen : (pre ++ [k]).length = pre.length + 1 := by rw [List.length_append]; rfl
    have hstl : st.length ≤ pre.length := by
      rw [h2', List.length_map]
      refine Nat.le_trans (List.length_filter_le _ _) ?_
      rw [List.length_map]
      exact List.length_filter_le _ _
    have hcl : (clsL n ts k).length ≤ 60 := by
      refine Nat.le_trans (List.length_filter_le _ _) ?_
      rw [rng_length]; omega
    refine po_if (fun c => ?_) fun c => ?_
    · have hk : k ∉ met := by
        rw [Bool.not_eq_true'] at c
        exact inB_f.mp c
      have hf := hfst.mp hk
      refine po_rng (by omega) (by omega) (by show -(2 ^ 62) ≤ n; omega) (by show n < 2 ^ 62; omega) ?_
      refine po_filGE (g := fun o => if twB n ts k o = true then some o else none) (by show (rng (k + 1) n).length < 100000; rw [rng_length]; omega) (fun o ho => ?_) ?_
      · obtain ⟨o0, o1⟩ := rng_mem.mp ho
        rw [are_twins_ok h k0 kn' (by omega) o1, ok_bind]
        by_cases q : twB n ts k o = true
        · rw [if_pos q, if_pos q]
        · rw [if_neg q, if_neg q]
      · rw [fil_ite]
        have ec := cls_first k0 kn' hf
        have hcl2 := congrArg List.length ec
        rw [List.length_append] at hcl2
        refine po_extend (by show [k].length + ((rng (k + 1) n).filter fun o => twB n ts k o).length < 100000; omega) ?_
        show Post (extend met ([k] ++ (rng (k + 1) n).filter fun o => twB n ts k o) >>= _) _ _
        rw [← ec]
        refine po_extend (by show met.length + (clsL n ts k).length < 100000; omega) ?_
        have hmet : ∀ v, 0 ≤ v → v < n → (v ∈ met ++ clsL n ts k ↔ ∃ p, 0 ≤ p ∧ p < ((pre ++ [k]).length : Int) ∧ twB n ts p v = true) := fun v v0 v1 => by
          rw [List.mem_append, h3' v v0 v1, hlen]
          constructor
          · rintro (⟨p, p0, p1, z⟩ | z)
            · exact ⟨p, p0, by omega, z⟩
            · exact ⟨k, k0, by omega, (List.mem_filter.mp z).2⟩
          · rintro ⟨p, p0, p1, z⟩
            by_cases q : p < (pre.length : Int)
            · exact .inl ⟨p, p0, q, z⟩
            · have : p = k := by omega
              rw [this] at z
              exact .inr (List.mem_filter.mpr ⟨rng_mem.mpr ⟨v0, v1⟩, z⟩)
        have hnext : (((pre ++ [k]).filter fun p => fstB n ts p).map (clsL n ts)) = ((pre.filter fun p => fstB n ts p).map (clsL n ts)) ++ [clsL n ts k] := by
          rw [List.filter_append, List.filter_cons_of_pos hf, List.map_append]
          rfl
        refine po_if (fun c2 => ?_) fun c2 => ?_
        · refine po_app (by show st.length < 100000; have := congrArg List.length e; rw [rng_length, List.length_append] at this; omega) ⟨?_, hmet, by show (met ++ clsL n ts k).length ≤ _; rw [List.length_append, hlen]; omega⟩
          show st ++ [mkpl (clsL n ts k)] = _
          rw [hnext, List.filter_append, List.map_append, ← h2', List.filter_cons_of_pos (p := fun r : List Int => decide ((1 : Int) < (r.length : Int))) c2]
          rfl
        · refine ⟨?_, hmet, by show (met ++ clsL n ts k).length ≤ _; rw [List.length_append, hlen]; omega⟩
          show st = _
          rw [hnext, List.filter_append, List.map_append, ← h2', List.filter_cons_of_neg (p := fun r : List Int => decide ((1 : Int) < (r.length : Int))) c2]
          simp
    · have hk : k ∈ met := by
        apply Classical.byContradiction
        intro q
        apply c
        rw [Bool.not_eq_true']
        exact inB_f.mpr q
      have hf : fstB n ts k = false := by
        cases z : fstB n ts k with
        | false => rfl
        | true => exact absurd hk (hfst.mpr z)
      refine ⟨?_, fun v v0 v1 => ?_, by show met.length ≤ _; rw [hlen]; omega⟩
      · show st = _
        rw [List.filter_append, List.filter_cons_of_neg (by rw [hf]; decide)]
        simp
        exact h2'
      · show v ∈ met ↔ _
        rw [h3' v v0 v1, hlen]
        constructor
        · rintro ⟨p, p0, p1, z⟩
          exact ⟨p, p0, by omega, z⟩
        · rintro ⟨p, p0, p1, z⟩
          by_cases q : p < (pre.length : Int)
          · exact ⟨p, p0, q, z⟩
          · have ep : p = k := by omega
            rw [ep] at z
            obtain ⟨p2, a0, a1, a2⟩ := (h3' k k0 kn').mp hk
            exact ⟨p2, a0, a1, twB_trans (fun x hx => by omega) a2 z⟩
  · rintro ⟨st, met⟩ ⟨h2, _, _⟩
    have h2' : st = (twinL n ts).map mkpl := h2
    show st = _
    rw [h2']
/-! ### floors -/
theorem nub_two {xs : List Int} : 1 < (nub xs).length ↔ ∃ a ∈ xs, ∃ b ∈ xs, a ≠ b := by
  constructor
  · intro h
    have hd := nub_nodup xs
    match q : nub xs, h, hd with
    | a :: b :: l, _, hd =>
      refine ⟨a, nub_mem.mp (by rw [q]; simp), b, nub_mem.mp (by rw [q]; simp), fun e => ?_⟩
      exact (List.nodup_cons.mp hd).1 (e ▸ List.mem_cons_self)
  · rintro ⟨a, ha, b, hb, hne⟩
    have ha' := nub_mem.mpr ha
    have hb' := nub_mem.mpr hb
    match q : nub xs with
    | [] => rw [q] at ha'; exact nomatch ha'
    | [c] =>
      rw [q] at ha' hb'
      exact absurd ((List.mem_singleton.mp ha').trans (List.mem_singleton.mp hb').symm) hne
    | c :: d :: l => show 1 < l.length + 1 + 1; omega
/-- the looks to which a lot's things are not all alike -/
noncomputable def lotP (n : Int) (ts : List (Int × Int)) (lot : List Thing) : List Int := (rng 0 n).filter fun p => decide (1 < (nub (lot.map (farT n ts p))).length)
theorem lotP_mem {n p : Int} {ts : List (Int × Int)} {lot : List Thing} : p ∈ lotP n ts lot ↔ (0 ≤ p ∧ p < n) ∧ ∃ X ∈ lot, ∃ Y ∈ lot, farT n ts p X ≠ farT n ts p Y := by
  unfold lotP
  rw [List.mem_filter, rng_mem, decide_eq_true_eq, nub_two]
  constructor
  · rintro ⟨h, a, ha, b, hb, hne⟩
    obtain ⟨X, hX, rfl⟩ := List.mem_map.mp ha
    obtain ⟨Y, hY, rfl⟩ := List.mem_map.mp hb
    exact ⟨h, X, hX, Y, hY, hne⟩
  · rintro ⟨h, X, hX, Y, hY, hne⟩
    exact ⟨h, _, List.mem_map.mpr ⟨X, hX, rfl⟩, _, List.mem_map.mpr ⟨Y, hY, rfl⟩, hne⟩
theorem lotP_nd {n : Int} {ts : List (Int × Int)} {lot : List Thing} : (lotP n ts lot).Nodup := (rng_nodup 0 n).filter _
theorem lotP_len {n : Int} {ts : List (Int × Int)} {lot : List Thing} : (lotP n ts lot).length ≤ n.toNat := by
  have := List.length_filter_le (fun p => decide (1 < (nub (lot.map (farT n ts p))).length)) (rng 0 n)
  rw [rng_length] at this
  unfold lotP
  omega
/-- two things, or places that are twins -/
structure GoodLot (n : Int) (ts : List (Int × Int)) (k : Str) (lot : List Thing) : Prop where
  nd : lot.Nodup
  sub : ∀ X ∈ lot, X ∈ kindT n ts k
  two : 2 ≤ lot.length
  how : (∃ X Y, lot = [X, Y]) ∨ ∃ p, 0 ≤ p ∧ p < n ∧ fstB n ts p = true ∧ lot = mkpl (clsL n ts p)
theorem cls_mem {n p v : Int} {ts : List (Int × Int)} : v ∈ clsL n ts p ↔ (0 ≤ v ∧ v < n) ∧ twB n ts p v = true := by
  unfold clsL
  rw [List.mem_filter, rng_mem]
theorem cls_nd {n p : Int} {ts : List (Int × Int)} : (clsL n ts p).Nodup := (rng_nodup 0 n).filter _
theorem cls_len {n p : Int} {ts : List (Int × Int)} : (clsL n ts p).length ≤ n.toNat := by
  have := List.length_filter_le (fun o => twB n ts p o) (rng 0 n)
  rw [rng_length] at this
  unfold clsL
  omega
section
variable {n : Int} {ts : List (Int × Int)} {k : Str} (h : WebOk n ts)
include h
/-- twins are parted by themselves alone -/
theorem lotP_cls {p : Int} (p0 : 0 ≤ p) (p1 : p < n) (h2 : 2 ≤ (clsL n ts p).length) : lotP n ts (mkpl (clsL n ts p)) = clsL n ts p := by
  unfold lotP
  conv => rhs; unfold clsL
  refine List.filter_congr fun v hv => ?_
  obtain ⟨v0, v1⟩ := rng_mem.mp hv
  by_cases q : twB n ts p v = true
  · rw [q]
    refine decide_eq_true (nub_two.mpr ?_)
    have hvc : v ∈ clsL n ts p := cls_mem.mpr ⟨⟨v0, v1⟩, q⟩
    obtain ⟨u, hu, hne⟩ : ∃ u ∈ clsL n ts p, u ≠ v := by
      apply Classical.byContradiction
      intro z
      have : (clsL n ts p).length ≤ [v].length := nodup_le cls_nd fun y hy => by
        apply Classical.byContradiction
        intro w
        exact z ⟨y, hy, fun e => w (by rw [e]; exact List.mem_singleton.mpr rfl)⟩
      have : [v].length = 1 := rfl
      omega
    have hur := cls_mem.mp hu
    refine ⟨_, List.mem_map.mpr ⟨.pl v, List.mem_map.mpr ⟨v, hvc, rfl⟩, rfl⟩, _, List.mem_map.mpr ⟨.pl u, List.mem_map.mpr ⟨u, hu, rfl⟩, rfl⟩, ?_⟩
    show dst n ts v v ≠ dst n ts v u
    have e0 : dst n ts v v = 0 := (dst_zero h v0 v1 v0 v1).mpr rfl
    intro e
    exact hne ((dst_zero h v0 v1 hur.1.1 hur.1.2).mp (by omega))
  · have q' : twB n ts p v = false := by
      cases z : twB n ts p v with
      | false => rfl
      | true => exact absurd z q
    rw [q']
    refine decide_eq_false fun z => ?_
    obtain ⟨a, ha, b, hb, hne⟩ := nub_two.mp z
    obtain ⟨X, hX, rfl⟩ := List.mem_map.mp ha
    obtain ⟨Y, hY, rfl⟩ := List.mem_map.mp hb
    obtain ⟨x, hx, rfl⟩ := List.mem_map.mp hX
    obtain ⟨y, hy, rfl⟩ := List.mem_map.mp hY
    have xr := cls_mem.mp hx
    have yr := cls_mem.mp hy
    apply hne
    show dst n ts v x = dst n ts v y
    have key : ∀ u, u ∈ clsL n ts p → dst n ts v p = dst n ts v u := fun u hu => by
      have ur := cls_mem.mp hu
      refine (twB_dst h p0 p1 ur.1.1 ur.1.2).mp ur.2 v v0 v1 (fun e => ?_) fun e => ?_
      · subst e
        exact q (twB_refl n ts v)
      · subst e
        exact q ur.2
    rw [← key x hx, ← key y hy]
/-- a lot wants a look for each of its things but one -/
theorem lot_need {lot : List Thing} (g : GoodLot n ts k lot) {W : List Int} (hW : W.Nodup) (hr : ∀ v ∈ W, 0 ≤ v ∧ v < n) (hs : Strong 1 W (partedL n ts k)) : lot.length ≤ ((lotP n ts lot).filter fun v => inB v W).length + 1 := by
  have part : ∀ X ∈ lot, ∀ Y ∈ lot, X ≠ Y → ∃ v ∈ W, farT n ts v X ≠ farT n ts v Y := fun X hX Y hY hne => by
    have c := strong_to2 hW hr hs (g.sub X hX) (g.sub Y hY) hne
    unfold cntS at c
    match q : W.filter (fun l => !decide (farT n ts l X = farT n ts l Y)) with
    | [] => rw [q] at c; exact absurd c (by decide)
    | v :: l =>
      have hv : v ∈ W.filter (fun l => !decide (farT n ts l X = farT n ts l Y)) := by rw [q]; exact List.mem_cons_self
      obtain ⟨hv1, hv2⟩ := List.mem_filter.mp hv
      rw [Bool.not_eq_true', decide_eq_false_iff_not] at hv2
      exact ⟨v, hv1, hv2⟩
  rcases g.how with ⟨X, Y, rfl⟩ | ⟨p, p0, p1, _, rfl⟩
  · have hne : X ≠ Y := fun e => (List.nodup_cons.mp g.nd).1 (e ▸ List.mem_singleton.mpr rfl)
    obtain ⟨v, hv, hd⟩ := part X (by simp) Y (by simp) hne
    have hm : v ∈ (lotP n ts [X, Y]).filter fun v => inB v W := List.mem_filter.mpr ⟨lotP_mem.mpr ⟨hr v hv, X, by simp, Y, by simp, hd⟩, inB_t.mpr hv⟩
    have := List.length_pos_of_mem hm
    show 2 ≤ _
    omega
  · have h2 : 2 ≤ (clsL n ts p).length := by
      have := g.two
      unfold mkpl at this
      rw [List.length_map] at this
      exact this
    rw [lotP_cls h p0 p1 h2]
    have e : (mkpl (clsL n ts p)).length = (clsL n ts p).length := List.length_map _
    rw [e]
    have split : (clsL n ts p).length = ((clsL n ts p).filter fun v => inB v W).length + ((clsL n ts p).filter fun v => !inB v W).length := by
      generalize clsL n ts p = l
      induction l with
      | nil => rfl
      | cons a l ih =>
        cases z : inB a W with
        | true =>
          rw [List.filter_cons_of_pos (by rw [z]), List.filter_cons_of_neg (by rw [z]; decide), List.length_cons, List.length_cons]
          omega
        | false =>
          rw [List.filter_cons_of_neg (by rw [z]; decide), List.filter_cons_of_pos (by rw [z]; rfl), List.length_cons, List.length_cons]
          omega
    have few : ((clsL n ts p).filter fun v => !inB v W).length ≤ 1 := by
      have hd : ((clsL n ts p).filter fun v => !inB v W).Nodup := cls_nd.filter _
      match q : (clsL n ts p).filter (fun v => !inB v W), hd with
      | [], _ => exact Nat.zero_le _
      | [_], _ => exact Nat.le_refl _
      | a :: b :: l, hd =>
        exfalso
        have hab : a ≠ b := fun e => (List.nodup_cons.mp hd).1 (e ▸ List.mem_cons_self)
        have ha : a ∈ (clsL n ts p).filter (fun v => !inB v W) := by rw [q]; simp
        have hb : b ∈ (clsL n ts p).filter (fun v => !inB v W) := by rw [q]; simp
        obtain ⟨ha1, ha2⟩ := List.mem_filter.mp ha
        obtain ⟨hb1, hb2⟩ := List.mem_filter.mp hb
        rw [Bool.not_eq_true'] at ha2 hb2
        have ar := cls_mem.mp ha1
        have br := cls_mem.mp hb1
        obtain ⟨v, hv, hne⟩ := part (.pl a) (List.mem_map.mpr ⟨a, ha1, rfl⟩) (.pl b) (List.mem_map.mpr ⟨b, hb1, rfl⟩) fun e => hab (by injection e)
        have hab2 : twB n ts a b = true := twB_trans (fun x hx => by rcases hx with rfl | rfl | rfl <;> omega) (twB_symm ar.2) br.2
        exact hne ((twB_dst h ar.1.1 ar.1.2 br.1.1 br.1.2).mp hab2 v (hr v hv).1 (hr v hv).2 (fun e => inB_f.mp ha2 (e ▸ hv)) fun e => inB_f.mp hb2 (e ▸ hv))
    omega
/-- how high a floor is -/
def sumL (lots : List (List Thing)) : Int := (lots.map fun l => (l.length : Int) - 1).sum
omit h in
theorem sumL_snoc (lots : List (List Thing)) (l : List Thing) : sumL (lots ++ [l]) = sumL lots + ((l.length : Int) - 1) := by
  unfold sumL
  rw [List.map_append, List.sum_append]
  simp
/-- no looks that know are fewer than a floor is high -/
theorem floor_le {lots : List (List Thing)} (g : ∀ l ∈ lots, GoodLot n ts k l) (hd : (lots.flatMap (lotP n ts)).Nodup) {W : List Int} (hW : W.Nodup) (hr : ∀ v ∈ W, 0 ≤ v ∧ v < n) (hs : Strong 1 W (partedL n ts k)) : sumL lots ≤ (W.length : Int) := by
  have step : ∀ ls : List (List Thing), (∀ l ∈ ls, GoodLot n ts k l) → sumL ls ≤ (((ls.flatMap (lotP n ts)).filter fun v => inB v W).length : Int) := by
    intro ls
    induction ls with
    | nil => intro _; exact Int.le_refl 0
    | cons l ls ih =>
      intro gl
      have i1 := ih fun x hx => gl x (List.mem_cons_of_mem _ hx)
      have i2 := lot_need h (gl l List.mem_cons_self) hW hr hs
      rw [List.flatMap_cons, List.filter_append, List.length_append]
      have e : sumL (l :: ls) = ((l.length : Int) - 1) + sumL ls := rfl
      rw [e]
      omega
  have s1 := step lots g
  have s2 := nodup_le (hd.filter fun v => inB v W) (ys := W) fun y hy => inB_t.mp (List.mem_filter.mp hy).2
  omega
end
/-! ### floors, of the program -/
theorem far_fl_ok {n p : Int} {ts : List (Int × Int)} {t : Thing} (h : WebOk n ts) (ht : ThOk n ts t) : far_by_floors ((rng 0 n).map (dst n ts p)) t = R.ok (farT n ts p t) := by
  unfold far_by_floors
  cases t with
  | pl i =>
    show (asPl (.pl i) >>= _) = _
    rw [show asPl (.pl i) = R.ok i from rfl, ok_bind, row_get ht.1 ht.2]
    rfl
  | ti a b =>
    have hr := h.rg4 _ (show (a, b) ∈ ts from ht)
    show (asTi (.ti a b) >>= _) = _
    rw [show asTi (.ti a b) = R.ok (a, b) from rfl, ok_bind, row_get hr.1 hr.2.1, ok_bind, row_get hr.2.2.1 hr.2.2.2]
    rfl
theorem lot_parters_ok {n : Int} {ts : List (Int × Int)} {lot : List Thing} (h : WebOk n ts) (hl : lot.length ≤ 60) (ht : ∀ X ∈ lot, ThOk n ts X) : lot_parters (tabL n ts) lot = R.ok (lotP n ts lot) := by
  have hn1 := h.n1
  have hn := h.n60
  refine po_iff ?_
  unfold lot_parters
  rw [enum_tab (by omega)]
  refine po_filGE (g := fun q : Int × List Int => if decide (1 < (nub (lot.map (farT n ts q.1))).length) = true then some q.1 else none) (by rw [List.length_map, rng_length]; omega) (fun q hq => ?_) ?_
  · obtain ⟨p, hp, rfl⟩ := List.mem_map.mp hq
    rw [mapG_ok (g := farT n ts p) (by omega) fun X hX => by
      show (far_by_floors ((rng 0 n).map (dst n ts p)) X >>= _) = _
      rw [far_fl_ok h (ht X hX)]
      rfl]
    rw [ok_bind]
    have e : setLenI (lot.map (farT n ts p)) = R.ok ((nub (lot.map (farT n ts p))).length : Int) := by
      unfold setLenI
      rw [if_pos (by rw [List.length_map]; omega)]
    rw [e, ok_bind]
    by_cases c : 1 < (nub (lot.map (farT n ts p))).length
    · rw [if_pos (decide_eq_true (by omega))]
      show R.ok (some p) = R.ok (if decide (1 < (nub (lot.map (farT n ts p))).length) = true then some p else none)
      rw [if_pos (decide_eq_true c)]
    · rw [if_neg (by rw [decide_eq_true_eq]; omega)]
      show R.ok none = R.ok (if decide (1 < (nub (lot.map (farT n ts p))).length) = true then some p else none)
      rw [if_neg (by rw [decide_eq_true_eq]; exact c)]
  · show _ = _
    rw [List.filterMap_map]
    show (rng 0 n).filterMap (fun p => if decide (1 < (nub (lot.map (farT n ts p))).length) = true then some p else none) = _
    rw [fil_ite]
    rfl
theorem good_len {n : Int} {ts : List (Int × Int)} {k : Str} {lot : List Thing} (h : WebOk n ts) (g : GoodLot n ts k lot) : lot.length ≤ 60 := by
  have hn := h.n60
  rcases g.how with ⟨X, Y, rfl⟩ | ⟨p, _, _, _, rfl⟩
  · show 2 ≤ 60
    decide
  · unfold mkpl
    rw [List.length_map]
    have := cls_len (n := n) (ts := ts) (p := p)
    omega
theorem small_ok {n : Int} {ts : List (Int × Int)} {X : Thing} (h : WebOk n ts) (hX : ThOk n ts X) : Thing.small X = true := by
  have hn := h.n60
  cases X with
  | pl i =>
    have hr : 0 ≤ i ∧ i < n := hX
    show (decide (0 ≤ i) && decide (i < 64)) = true
    rw [decide_eq_true hr.1, decide_eq_true (show i < 64 by omega)]
    rfl
  | ti a b =>
    have hr := h.rg4 _ (show (a, b) ∈ ts from hX)
    have q1 : 0 ≤ a := hr.1
    have q2 : a < n := hr.2.1
    have q3 : 0 ≤ b := hr.2.2.1
    have q4 : b < n := hr.2.2.2
    show (decide (0 ≤ a) && decide (a < 64) && decide (0 ≤ b) && decide (b < 64)) = true
    rw [decide_eq_true q1, decide_eq_true (show a < 64 by omega), decide_eq_true q3, decide_eq_true (show b < 64 by omega)]
    rfl
theorem good_okS {n : Int} {ts : List (Int × Int)} {k : Str} {lot : List Thing} (h : WebOk n ts) (g : GoodLot n ts k lot) : okS lot = true := by
  have hl := good_len h g
  unfold okS
  rw [decide_eq_true g.nd, decide_eq_true (show lot.length < 64 by omega)]
  rcases g.how with ⟨X, Y, rfl⟩ | ⟨p, _, _, _, rfl⟩
  · have e : [X, Y].all Thing.small = true := by
      rw [List.all_cons, List.all_cons, small_ok h (kindT_ok (g.sub X (by simp))), small_ok h (kindT_ok (g.sub Y (by simp)))]
      rfl
    rw [e, decide_eq_true (show [X, Y].length = 2 from rfl)]
    simp
  · have e : (mkpl (clsL n ts p)).all Thing.isPl = true := List.all_eq_true.mpr fun X hX => by
      obtain ⟨i, _, rfl⟩ := List.mem_map.mp hX
      rfl
    rw [e]
    rfl
theorem is_lot_ok {n : Int} {ts : List (Int × Int)} {k : Str} {lot : List Thing} (h : WebOk n ts) (g : GoodLot n ts k lot) : is_lot (n, ⟨ts⟩) k lot = R.ok true := by
  have hok := good_okS h g
  have h2 := g.two
  have hl := good_len h g
  have hn := h.n60
  refine po_iff ?_
  unfold is_lot
  rw [things_ok h, ok_bind]
  refine po_bind (Q := fun j => j = false) ?_ fun j hj => ?_
  · rw [if_neg (by rw [decide_eq_true_eq]; omega)]
    have e : setLen lot = R.ok (lot.length : Int) := by
      unfold setLen
      rw [if_pos hok]
    rw [e, ok_bind, if_neg (by rw [decide_eq_true_eq]; omega)]
    refine po_mapGE (g := fun b => inB b (kindT n ts k)) (by omega) (fun _ _ => rfl) ?_
    show (!((lot.map fun b => inB b (kindT n ts k)).all id)) = false
    have e2 : ((lot.map fun b => inB b (kindT n ts k)).all id) = true := by
      rw [List.all_map]
      exact List.all_eq_true.mpr fun X hX => inB_t.mpr (g.sub X hX)
    rw [e2]
    rfl
  · rw [hj]
    refine po_if (fun c => absurd c (by decide)) fun _ => po_if (fun _ => rfl) fun c => ?_
    rcases g.how with ⟨X, Y, rfl⟩ | ⟨p, p0, p1, hf, rfl⟩
    · exact absurd (decide_eq_true (show (([X, Y] : List Thing).length : Int) = 2 from rfl)) c
    · refine po_mapGE (g := Thing.isPl) (by omega) (fun _ _ => rfl) ?_
      have e : (((mkpl (clsL n ts p)).map Thing.isPl).all id) = true := by
        rw [List.all_map]
        exact List.all_eq_true.mpr fun X hX => by
          obtain ⟨i, _, rfl⟩ := List.mem_map.mp hX
          rfl
      refine po_if (fun c2 => ?_) fun _ => ?_
      · rw [e] at c2
        cases c2
      · rw [near_floors_ok h, ok_bind]
        have ec := cls_first p0 p1 hf
        have e2 : cutL (mkpl (clsL n ts p)) (some (1 : Int)) none = mkpl ((rng (p + 1) n).filter fun o => twB n ts p o) := by
          rw [ec]
          exact cut_from _ 1
        have e0 : getI (mkpl (clsL n ts p)) (0 : Int) = R.ok (.pl p) := getI_eq (Int.le_refl 0) (by rw [ec]; rfl)
        rw [e2]
        refine po_mapGE (g := fun _ => true) ?_ (fun b hb => ?_) ?_
        · unfold mkpl
          rw [List.length_map]
          have := List.length_filter_le (fun o => twB n ts p o) (rng (p + 1) n)
          rw [rng_length] at this
          omega
        · obtain ⟨o, ho, rfl⟩ := List.mem_map.mp hb
          obtain ⟨ho1, ho2⟩ := List.mem_filter.mp ho
          obtain ⟨o0, o1⟩ := rng_mem.mp ho1
          rw [e0, ok_bind]
          show (are_twins (nears n ts) p o >>= fun y => R.ok y) = _
          rw [are_twins_ok h p0 p1 (by omega) o1, ok_bind, ho2]
        · show ((mkpl _).map fun _ => true).all id = true
          simp
theorem lots_rng {n : Int} {ts : List (Int × Int)} {lots : List (List Thing)} {v : Int} (hv : v ∈ lots.flatMap (lotP n ts)) : v ∈ rng 0 n := by
  obtain ⟨l, _, hl⟩ := List.mem_flatMap.mp hv
  exact rng_mem.mpr (lotP_mem.mp hl).1
theorem floor_ok {n : Int} {ts : List (Int × Int)} {k : Str} {lots : List (List Thing)} (h : WebOk n ts) (g : ∀ l ∈ lots, GoodLot n ts k l) : Post (floor_height (n, ⟨ts⟩) k lots) (fun r => (r = none ∧ ¬ (lots.flatMap (lotP n ts)).Nodup) ∨ (r = some (sumL lots) ∧ (lots.flatMap (lotP n ts)).Nodup)) noX := by
  have hn1 := h.n1
  have hn := h.n60
  unfold floor_height
  refine po_rng (by decide) (by decide) (by show -(2 ^ 62) ≤ n; omega) (by show n < 2 ^ 62; omega) ?_
  refine po_mapGE (g := fun p => (rng 0 n).map (dst n ts p)) (by show (rng 0 n).length < 100000; rw [rng_length]; omega) (fun p hp => by
    rw [fars_ok h (rng_mem.mp hp).1 (rng_mem.mp hp).2]
    rfl) ?_
  refine po_bind (po_foldXP (fun (pre : List (List Thing)) (g : Int × List Int) => g.1 = sumL pre ∧ g.2 = pre.flatMap (lotP n ts) ∧ g.2.Nodup) (fun z : Option Int => z = none ∧ ¬ (lots.flatMap (lotP n ts)).Nodup) ⟨rfl, rfl, List.nodup_nil⟩ ?_) ?_
  · rintro pre ⟨hh, met⟩ lot post e ⟨h1, h2, h3⟩
    have h1' : hh = sumL pre := h1
    have h2' : met = pre.flatMap (lotP n ts) := h2
    have h3' : met.Nodup := h3
    have hg := g lot (by rw [e]; simp)
    rw [is_lot_ok h hg, ok_bind]
    refine po_if (fun c => absurd c (by decide)) fun _ => ?_
    show Post (lot_parters (tabL n ts) lot >>= _) _ _
    rw [lot_parters_ok h (good_len h hg) fun X hX => kindT_ok (hg.sub X hX), ok_bind]
    refine po_bind (po_foldXP (fun (pr : List Int) (m : List Int) => m = met ++ pr ∧ m.Nodup) (fun z : Option Int => z = none ∧ ¬ (lots.flatMap (lotP n ts)).Nodup) ⟨(List.append_nil _).symm, h3'⟩ ?_) ?_
    · rintro pr m v post2 e2 ⟨m1, m2⟩
      refine po_if (fun c => ?_) fun c => ?_
      · refine .inl ⟨none, rfl, rfl, fun z => ?_⟩
        have ef : lots.flatMap (lotP n ts) = pre.flatMap (lotP n ts) ++ ((pr ++ v :: post2) ++ post.flatMap (lotP n ts)) := by rw [e, List.flatMap_append, List.flatMap_cons, e2]
        rw [ef] at z
        have z1 := List.nodup_append.mp z
        have hv : v ∈ met ++ pr := m1 ▸ inB_t.mp c
        rcases List.mem_append.mp hv with q | q
        · exact z1.2.2 v (h2' ▸ q) v (by simp) rfl
        · have z2 := (List.nodup_append.mp z1.2.1).1
          exact (List.nodup_append.mp z2).2.2 v q v List.mem_cons_self rfl
      · have hv : v ∉ m := fun q => c (inB_t.mpr q)
        have hlen : m.length ≤ (rng 0 n).length := nodup_le m2 fun y hy => by
          rw [m1] at hy
          rcases List.mem_append.mp hy with q | q
          · exact lots_rng (h2' ▸ q)
          · exact rng_mem.mpr (lotP_mem.mp (show y ∈ lotP n ts lot by rw [e2]; exact List.mem_append_left _ q)).1
        rw [rng_length] at hlen
        refine po_app (by omega) (.inr ⟨_, rfl, by rw [m1, List.append_assoc], ?_⟩)
        rw [List.nodup_append]
        refine ⟨m2, by simp, fun a ha b hb e3 => ?_⟩
        rw [List.mem_singleton.mp hb] at e3
        exact hv (e3 ▸ ha)
    · rintro r (⟨z, rfl, hz⟩ | ⟨m, rfl, m1, m2⟩)
      · exact .inl ⟨z, rfl, hz⟩
      · refine .inr ⟨_, rfl, ?_, ?_, m2⟩
        · show hh + (lot.length : Int) - 1 = _
          rw [sumL_snoc, h1']
          omega
        · show m = _
          rw [m1, h2', List.flatMap_append, List.flatMap_singleton]
  · rintro r (⟨z, rfl, hz1, hz2⟩ | ⟨⟨hh, met⟩, rfl, h1, h2, h3⟩)
    · exact .inl ⟨hz1, hz2⟩
    · have h1' : hh = sumL lots := h1
      have h2' : met = lots.flatMap (lotP n ts) := h2
      have h3' : met.Nodup := h3
      exact .inr ⟨by show some hh = _; rw [h1'], h2' ▸ h3'⟩
theorem pair_good {n : Int} {ts : List (Int × Int)} {k : Str} (h : WebOk n ts) {x : Part} (hx : x ∈ partedL n ts k) : GoodLot n ts k [x.v.1, x.v.2.1] := by
  have P := PsOk.of (k := k) h
  have hne := P.ne x hx
  refine ⟨?_, fun X hX => ?_, Nat.le_refl 2, .inl ⟨_, _, rfl⟩⟩
  · simp only [List.nodup_cons, List.mem_singleton, List.not_mem_nil, not_false_eq_true, List.nodup_nil, and_true]
    exact hne
  · rcases List.mem_cons.mp hX with rfl | hX
    · exact P.one x hx
    · rw [List.mem_singleton.mp hX]
      exact P.two x hx
theorem law_floor_ok {n : Int} {ts : List (Int × Int)} {k : Str} {s : List Int} {init : List (List Thing)} (h : WebOk n ts) (h12 : n ≤ 12) (hk : k = "places" ∨ k = "ties" ∨ k = "all") (hs : PuOk s) (g : ∀ l ∈ init, GoodLot n ts k l) (hd : (init.flatMap (lotP n ts)).Nodup) (hil : init.length ≤ 60) :
    Post (law_floor (n, ⟨ts⟩) k init s) (fun r => ∃ ext, r.1 = init ++ ext ∧ (∀ l ∈ r.1, GoodLot n ts k l) ∧ (r.1.flatMap (lotP n ts)).Nodup) noX := by
  have hpl := partedL_len (k := k) h h12
  unfold law_floor
  rw [law_parted_ok h h12 hk, ok_bind]
  have hmin : min2 (12 : Int) ((partedL n ts k).length : Int) ≤ 12 ∧ min2 (12 : Int) ((partedL n ts k).length : Int) ≤ ((partedL n ts k).length : Int) := by
    rcases mm_cases 12 ((partedL n ts k).length : Int) with ⟨e1, _, _⟩ | ⟨e1, _, _⟩ <;> rw [e1] <;> omega
  refine po_rng (by decide) (by decide) (by
    rcases mm_cases 12 ((partedL n ts k).length : Int) with ⟨e1, _, _⟩ | ⟨e1, _, _⟩ <;> rw [e1] <;> omega) (by omega) ?_
  refine po_bind (po_foldP (fun (pre : List Int) (g : List (List Thing) × List Part × List Int) => PuOk g.2.2 ∧ (∀ p ∈ g.2.1, p ∈ partedL n ts k) ∧ g.2.1.length + pre.length = (partedL n ts k).length ∧ ∃ ext, g.1 = init ++ ext ∧ (∀ l ∈ g.1, GoodLot n ts k l) ∧ (g.1.flatMap (lotP n ts)).Nodup ∧ ext.length ≤ pre.length)
    ⟨hs, fun _ hp => hp, rfl, [], (List.append_nil _).symm, g, hd, Nat.le_refl _⟩ ?_) ?_
  · rintro pre ⟨lots, left, pu⟩ x post e ⟨h1, h2, h3, ext, e1, h4, h5, h6⟩
    have h2' : ∀ p ∈ left, p ∈ partedL n ts k := h2
    have h3' : left.length + pre.length = (partedL n ts k).length := h3
    have e1' : lots = init ++ ext := e1
    have h4' : ∀ l ∈ lots, GoodLot n ts k l := h4
    have h5' : (lots.flatMap (lotP n ts)).Nodup := h5
    obtain ⟨_, x0, x1⟩ := rng_split e
    have ex := rng_pre e
    have hpos : 0 < left.length := by omega
    refine po_bind (take_ok h1 (by show (0 : Int) < (left.length : Int); omega) (by show (left.length : Int) < _; omega)) fun y ⟨y0, y1, hy⟩ => ?_
    refine po_popB y0 y1 (by have : y.1 < (left.length : Int) := y1; omega) fun z hz => ?_
    have hz' : left[y.1.toNat]? = some z := hz
    have hzm : z ∈ left := List.mem_of_getElem? hz'
    have hzp := h2' z hzm
    have hlots : lots.length ≤ 60 + pre.length := by
      rw [e1', List.length_append]
      omega
    have hkeep : (∀ p ∈ left.eraseIdx y.1.toNat, p ∈ partedL n ts k) ∧ (left.eraseIdx y.1.toNat).length + (pre ++ [x]).length = (partedL n ts k).length := by
      refine ⟨fun p hp => h2' p (List.mem_of_mem_eraseIdx hp), ?_⟩
      have y1' : y.1 < (left.length : Int) := y1
      rw [List.length_eraseIdx_of_lt (by omega), List.length_append, List.length_singleton]
      omega
    refine po_extend (by show lots.length + 1 < 100000; omega) ?_
    show Post (floor_height (n, ⟨ts⟩) k (lots ++ [[z.v.1, z.v.2.1]]) >>= _) _ _
    have g2 : ∀ l ∈ lots ++ [[z.v.1, z.v.2.1]], GoodLot n ts k l := fun l hl => by
      rcases List.mem_append.mp hl with q | q
      · exact h4' l q
      · rw [List.mem_singleton.mp q]
        exact pair_good h hzp
    refine po_bind (floor_ok h g2) fun r hr => ?_
    refine po_if (fun c => ?_) fun c => ?_
    · rcases hr with ⟨rfl, _⟩ | ⟨rfl, hn2⟩
      · cases c
      · exact ⟨hy, hkeep.1, hkeep.2, ext ++ [[z.v.1, z.v.2.1]], by show lots ++ _ = _; rw [e1', List.append_assoc], g2, hn2, by rw [List.length_append, List.length_append]; simp only [List.length_singleton]; omega⟩
    · exact ⟨hy, hkeep.1, hkeep.2, ext, e1', h4', h5', by rw [List.length_append]; omega⟩
  · rintro ⟨lots, left, pu⟩ ⟨_, _, _, ext, e1, h4, h5, _⟩
    exact ⟨ext, e1, h4, h5⟩
theorem looks_drawn {s : List Int} {m : Int} (h : PuOk s) (m0 : 0 ≤ m) (m1 : m < 10000) : Post (filStG (fun (g55 : (List Int)) (b55 : Int) => do
            let y58 ← law_take g55 (3 : Int)
            if (decide ((0 : Int) < y58.1)) = true then do
              R.ok ((some b55), y58.2)
            else
              R.ok (none, y58.2)) s (rng 0 m)) (fun r => LooksOk m r.1) noX := by
  refine Post.mono (P := fun r => r.1.Sublist (rng 0 m) ∧ PuOk r.2) ?_ (fun r ⟨h1, h2⟩ => ⟨fun l hl => rng_mem.mp (h1.subset hl), (rng_sorted 0 m).sublist h1⟩) (fun _ z => z)
  unfold filStG
  rw [grd_t (decide_eq_true (by rw [rng_length]; omega)), ok_bind]
  generalize rng 0 m = l
  revert s
  induction l with
  | nil => exact fun {s} hs => ⟨List.Sublist.refl _, hs⟩
  | cons b l ih =>
    intro s hs
    refine po_bind (Q := fun p => (p.1 = some b ∨ p.1 = none) ∧ PuOk p.2) (po_bind (take_ok hs (by decide) (by decide)) fun z ⟨_, _, hz⟩ => po_if (fun _ => ⟨.inl rfl, hz⟩) fun _ => ⟨.inr rfl, hz⟩) fun p ⟨h1, h2⟩ => po_bind (ih h2) fun q ⟨h3, h4⟩ => ?_
    rcases h1 with h1 | h1
    · rw [h1]
      exact ⟨h3.cons₂ b, h4⟩
    · rw [h1]
      exact ⟨h3.cons b, h4⟩
/-! ### all tied -/
def allP (n : Int) : List (Int × Int) := (rng 0 n).flatMap fun b => (rng 0 b).map fun a => (a, b)
theorem allP_len {n : Int} (n1 : 1 < n) (n7 : n ≤ 7) : ((allP n).length : Int) = n * (n - 1) / 2 := by
  have : n = 2 ∨ n = 3 ∨ n = 4 ∨ n = 5 ∨ n = 6 ∨ n = 7 := by omega
  rcases this with rfl | rfl | rfl | rfl | rfl | rfl <;> decide
section
variable {n : Int} {ts : List (Int × Int)} {k : Str} (h : WebOk n ts)
include h
theorem full_adj (n1 : 1 < n) (n7 : n ≤ 7) (hc : (ts.length : Int) = n * (n - 1) / 2) {a b : Int} (a0 : 0 ≤ a) (ab : a < b) (b1 : b < n) : (a, b) ∈ ts := by
  apply Classical.byContradiction
  intro hn
  have hl := allP_len n1 n7
  have mem : ∀ p : Int × Int, 0 ≤ p.1 → p.1 < p.2 → p.2 < n → p ∈ allP n := fun p p0 p1 p2 => List.mem_flatMap.mpr ⟨p.2, rng_mem.mpr ⟨by omega, p2⟩, List.mem_map.mpr ⟨p.1, rng_mem.mpr ⟨p0, p1⟩, rfl⟩⟩
  have := nodup_le (List.nodup_cons.mpr ⟨hn, h.nd⟩) (ys := allP n) fun p hp => by
    rcases List.mem_cons.mp hp with rfl | hp
    · exact mem _ a0 ab b1
    · have := h.rg p hp
      exact mem p this.1 this.2.1 this.2.2
  rw [List.length_cons] at this
  omega
theorem full_twins (hf : ∀ a b, 0 ≤ a → a < b → b < n → (a, b) ∈ ts) {a b : Int} (a0 : 0 ≤ a) (a1 : a < n) (b0 : 0 ≤ b) (b1 : b < n) : twB n ts a b = true := by
  have adj : ∀ x y, 0 ≤ x → x < n → 0 ≤ y → y < n → x ≠ y → Adj ts x y := fun x y x0 x1 y0 y1 hne => by
    rcases Int.lt_or_gt_of_ne hne with q | q
    · exact .inl (hf x y x0 q y1)
    · exact .inr (hf y x y0 q x1)
  exact twB_iff.mpr fun c c0 c1 na nb => ⟨fun _ => adj b c b0 b1 c0 c1 (Ne.symm nb), fun _ => adj a c a0 a1 c0 c1 (Ne.symm na)⟩
/-! ### what twins tell -/
theorem twin_mem {r : List Int} (hr : r ∈ twinL n ts) : ∃ p, 0 ≤ p ∧ p < n ∧ fstB n ts p = true ∧ r = clsL n ts p ∧ 2 ≤ (clsL n ts p).length := by
  unfold twinL at hr
  obtain ⟨h1, h2⟩ := List.mem_filter.mp hr
  obtain ⟨p, hp, rfl⟩ := List.mem_map.mp h1
  obtain ⟨hp1, hp2⟩ := List.mem_filter.mp hp
  have := of_decide_eq_true h2
  exact ⟨p, (rng_mem.mp hp1).1, (rng_mem.mp hp1).2, hp2, rfl, by omega⟩
theorem twin_good (hk : k = "places" ∨ k = "all") : ∀ l ∈ (twinL n ts).map mkpl, GoodLot n ts k l := fun l hl => by
  obtain ⟨r, hr, rfl⟩ := List.mem_map.mp hl
  obtain ⟨p, p0, p1, hf, rfl, h2⟩ := twin_mem h hr
  refine ⟨?_, fun X hX => ?_, by unfold mkpl; rw [List.length_map]; exact h2, .inr ⟨p, p0, p1, hf, rfl⟩⟩
  · unfold mkpl
    exact List.Pairwise.map _ (fun a b (e : a ≠ b) q => e (by injection q)) cls_nd
  · obtain ⟨v, hv, rfl⟩ := List.mem_map.mp hX
    have vr := (cls_mem.mp hv).1
    rcases hk with rfl | rfl
    · exact pl_mem.mpr ⟨v, rfl, vr.1, vr.2⟩
    · exact allT_mem.mpr vr
theorem twin_nd : (((twinL n ts).map mkpl).flatMap (lotP n ts)).Nodup := by
  have base : ((((rng 0 n).filter fun p => fstB n ts p).map (clsL n ts))).Pairwise fun r1 r2 => ∀ v, v ∈ r1 → v ∈ r2 → False := by
    refine List.pairwise_map.mpr (((rng_nodup 0 n).filter _).imp_of_mem fun {p q} hp hq hne v v1 v2 => ?_)
    obtain ⟨hp1, hp2⟩ := List.mem_filter.mp hp
    obtain ⟨hq1, hq2⟩ := List.mem_filter.mp hq
    have pr := rng_mem.mp hp1
    have qr := rng_mem.mp hq1
    have a1 := cls_mem.mp v1
    have a2 := cls_mem.mp v2
    exact hne (first_uniq pr.1 qr.1 a1.1.1 pr.2 qr.2 a1.1.2 hp2 hq2 a1.2 a2.2)
  have tw : (twinL n ts).Pairwise fun r1 r2 => ∀ v, v ∈ r1 → v ∈ r2 → False := base.filter _
  refine List.pairwise_flatMap.mpr ⟨fun l _ => lotP_nd, ?_⟩
  refine List.pairwise_map.mpr (tw.imp_of_mem fun {r1 r2} h1 h2 hd x hx y hy e => ?_)
  obtain ⟨p, p0, p1, _, rfl, l1⟩ := twin_mem h h1
  obtain ⟨q, q0, q1, _, rfl, l2⟩ := twin_mem h h2
  rw [lotP_cls h p0 p1 l1] at hx
  rw [lotP_cls h q0 q1 l2] at hy
  exact hd x hx (e ▸ hy)
theorem twin_len : ((twinL n ts).map mkpl).length ≤ 60 := by
  have hn := h.n60
  unfold twinL
  rw [List.length_map]
  refine Nat.le_trans (List.length_filter_le _ _) ?_
  rw [List.length_map]
  refine Nat.le_trans (List.length_filter_le _ _) ?_
  rw [rng_length]
  omega
omit h in
theorem sumL_ge : ∀ {lots : List (List Thing)} {l : List Thing}, (∀ x ∈ lots, 2 ≤ x.length) → l ∈ lots → (l.length : Int) - 1 ≤ sumL lots
  | [], _, _, hl => nomatch hl
  | x :: lots, l, g, hl => by
    have e : sumL (x :: lots) = ((x.length : Int) - 1) + sumL lots := rfl
    have gx := g x List.mem_cons_self
    have nn : ∀ ls : List (List Thing), (∀ y ∈ ls, 2 ≤ y.length) → 0 ≤ sumL ls := by
      intro ls
      induction ls with
      | nil => exact fun _ => Int.le_refl 0
      | cons y ls ih =>
        intro gy
        have e2 : sumL (y :: ls) = ((y.length : Int) - 1) + sumL ls := rfl
        have a1 := gy y List.mem_cons_self
        have a2 := ih fun z hz => gy z (List.mem_cons_of_mem _ hz)
        omega
    rcases List.mem_cons.mp hl with rfl | hl
    · have := nn lots fun y hy => g y (List.mem_cons_of_mem _ hy)
      omega
    · have := sumL_ge (fun y hy => g y (List.mem_cons_of_mem _ hy)) hl
      omega
/-! ### what knows -/
theorem strong_one {W : List Int} (hW : W.Nodup) (hr : ∀ v ∈ W, 0 ≤ v ∧ v < n) (hk : ∀ X ∈ kindT n ts k, ∀ Y ∈ kindT n ts k, X ≠ Y → ∃ v ∈ W, farT n ts v X ≠ farT n ts v Y) : Strong 1 W (partedL n ts k) := strong_of2 h hW hr fun X hX Y hY hne => by
  obtain ⟨v, hv, hd⟩ := hk X hX Y hY hne
  have hm : v ∈ W.filter (fun l => !decide (farT n ts l X = farT n ts l Y)) := List.mem_filter.mpr ⟨hv, by rw [Bool.not_eq_true', decide_eq_false_iff_not]; exact hd⟩
  have := List.length_pos_of_mem hm
  unfold cntS
  omega
theorem known_strong {W : List Int} (hl : LooksOk n W) (e : likesL n ts W k = []) : Strong 1 W (partedL n ts k) := strong_one h (hl.up.imp fun z => Int.ne_of_lt z) hl.rg fun X hX Y hY hne => by
  apply Classical.byContradiction
  intro z
  have hc : codeT n ts W X = codeT n ts W Y := codeT_eq.mpr fun l hl2 => Classical.byContradiction fun q => z ⟨l, hl2, q⟩
  obtain ⟨r, hr, _⟩ := (likes_both hX hY hne).mpr hc
  rw [e] at hr
  exact nomatch hr
end
def lawTail (x__law_script : Scr) (w : Int × Tup (Int × Int)) (t8 : Str) (init : List (List Thing)) (s : List Int) : R Bool := do
  let y32 ← law_floor w t8 init s
  let y34 ← floor_height w t8 y32.1
  let y36 ← fewest_looks w t8 (1 : Int)
  let j38 ← (do
    if (!decide (y36.w = ("looks" : Str))) = true then do
      R.ok true
    else do
      if y34.isNone = true then do
        R.ok true
      else do
        let t43 ← asLk y36
        let t46 ← ofO y34
        R.ok (decide ((t43.1.length : Int) < t46)) : R (Bool))
  if j38 = true then do
    R.ok false
  else do
    let l51 ← rngI (2 : Int) (5 : Int)
    let r50 ← foldX (fun (g50 : Unit) (b50 : Int) => do
        let y52 ← law_purse x__law_script b50
        let l54 ← rngI 0 w.1
        let l55 ← filStG (fun (g55 : (List Int)) (b55 : Int) => do
            let y58 ← law_take g55 (3 : Int)
            if (decide ((0 : Int) < y58.1)) = true then do
              R.ok ((some b55), y58.2)
            else
              R.ok (none, y58.2)) y52 l54
        let j68 ← (do
          let y69 ← is_known w l55.1 t8
          if y69 = true then do
            let t71 ← asLk y36
            R.ok (decide ((l55.1.length : Int) < (t71.1.length : Int)))
          else do
            R.ok false : R (Bool))
        if j68 = true then do
          R.ok (.inl false)
        else do
          R.ok (.inr (true, ()))) () l51
    match r50 with
    | .inl z => R.ok z
    | .inr g50 => do
      let t80 ← mulI w.1 (w.1 - (1 : Int))
      if ((decide (t8 = ("places" : Str))) && ((decide ((w.2.l.length : Int) = (t80 / (2 : Int)))) && (decide ((1 : Int) < w.1)))) = true then do
        let j89 ← (do
          let t90 ← ofO y34
          let t91 ← asLk y36
          if (decide (t90 = (t91.1.length : Int))) = true then do
            R.ok (decide ((t91.1.length : Int) = (w.1 - (1 : Int))))
          else do
            R.ok false : R (Bool))
        R.ok j89
      else do
        R.ok true
theorem tail_ok {n : Int} {ts : List (Int × Int)} {k : Str} {sc : Scr} {s : List Int} {init : List (List Thing)} (h : WebOk n ts) (n7 : n ≤ 7) (hk : k = "places" ∨ k = "ties" ∨ k = "all") (hs : PuOk s) (g : ∀ l ∈ init, GoodLot n ts k l) (hd : (init.flatMap (lotP n ts)).Nodup) (hil : init.length ≤ 60)
    (hin : k = "places" → init = (twinL n ts).map mkpl) : Post (lawTail sc (n, ⟨ts⟩) k init s) (· = true) noX := by
  have hn1 := h.n1
  unfold lawTail
  refine po_bind (law_floor_ok h (by omega) hk hs g hd hil) fun y32 ⟨ext, e1, g1, d1⟩ => po_bind (floor_ok h g1) fun y34 hy => ?_
  rcases hy with ⟨_, z⟩ | ⟨rfl, _⟩
  · exact absurd d1 z
  obtain ⟨r, er, hr⟩ := fewest_ok (k := k) (st := 1) h (by omega)
  rw [er, ok_bind]
  have P := PsOk.of (k := k) h
  cases r with
  | never a b =>
    exfalso
    obtain ⟨p, p1, p2, p3, p4⟩ := hr
    obtain ⟨v, v0, v1, hv⟩ := parted h (kindT_ok (P.one p p1)) (kindT_ok (P.two p p1)) (P.ne p p1)
    have hm : v ∈ p.v.2.2.1 := by
      rw [P.par p p1]
      exact partL_mem.mpr ⟨⟨v0, v1⟩, hv⟩
    have := List.length_pos_of_mem hm
    omega
  | looks L t =>
    obtain ⟨⟨W, eL, w2, w3, w4⟩, hmin, _, _⟩ := hr
    have hLW : L.length = W.length := by rw [eL, sortI_len]
    have hle := floor_le h g1 d1 w2 w3 w4
    refine po_bind (Q := fun j => j = false) ?_ fun j hj => ?_
    · refine po_if (fun c => absurd (show (!decide (("looks" : Str) = ("looks" : Str))) = true from c) (by decide)) fun _ => ?_
      refine po_if (fun c => Bool.noConfusion (show false = true from c)) fun _ => ?_
      show Post (R.ok (L, t) >>= _) _ _
      rw [ok_bind]
      show Post (R.ok (sumL y32.1) >>= _) _ _
      rw [ok_bind]
      show decide ((L.length : Int) < sumL y32.1) = false
      exact decide_eq_false (by omega)
    rw [hj]
    refine po_if (fun c => absurd c (by decide)) fun _ => ?_
    refine po_rng (by decide) (by decide) (by decide) (by decide) ?_
    refine po_bind (po_foldX (fun _ => True) trivial fun s x _ hx => ?_) fun r ⟨s, e, _⟩ => ?_
    · obtain ⟨x0, x1⟩ := rng_mem.mp hx
      refine po_bind (purse_ok (by omega) (by omega)) fun y52 h52 => ?_
      refine po_rng (by decide) (by decide) (by show -(2 ^ 62) ≤ n; omega) (by show n < 2 ^ 62; omega) ?_
      refine po_bind (looks_drawn h52 (by show 0 ≤ n; omega) (by show n < 10000; omega)) fun l55 hl => ?_
      have hl' : LooksOk n l55.1 := hl
      refine po_bind (Q := fun j => j = false) ?_ fun j hj => ?_
      · rw [is_known_ok h hl', ok_bind]
        refine po_if (fun c => ?_) fun _ => rfl
        rw [decide_eq_true_eq] at c
        show Post (R.ok (L, t) >>= _) _ _
        rw [ok_bind]
        have := hmin _ (hl'.up.imp fun z => Int.ne_of_lt z) (known_strong h hl' c)
        show decide ((l55.1.length : Int) < (L.length : Int)) = false
        exact decide_eq_false (by omega)
      · rw [hj]
        exact po_if (fun c => absurd c (by decide)) fun _ => ⟨(), rfl, trivial⟩
    · rw [e]
      refine po_mul (.inl (by show -(2 ^ 64) < n ∧ n < 2 ^ 64; omega)) ?_
      refine po_if (fun c => ?_) fun _ => rfl
      rw [Bool.and_eq_true, Bool.and_eq_true, decide_eq_true_eq, decide_eq_true_eq, decide_eq_true_eq] at c
      obtain ⟨ck, cl, cn⟩ := c
      have cl' : (ts.length : Int) = n * (n - 1) / 2 := cl
      have cn' : 1 < n := cn
      have hf : ∀ a b, 0 ≤ a → a < b → b < n → (a, b) ∈ ts := fun a b a0 ab b1 => full_adj h cn' n7 cl' a0 ab b1
      have htw : ∀ v, 0 ≤ v → v < n → v ∈ clsL n ts 0 := fun v v0 v1 => cls_mem.mpr ⟨⟨v0, v1⟩, full_twins h hf (Int.le_refl 0) (by omega) v0 v1⟩
      have hcl : n ≤ ((clsL n ts 0).length : Int) := by
        have := nodup_le (rng_nodup 0 n) (ys := clsL n ts 0) fun y hy => htw y (rng_mem.mp hy).1 (rng_mem.mp hy).2
        rw [rng_length] at this
        omega
      have hf0 : fstB n ts 0 = true := fstB_iff.mpr fun q q0 q1 => by omega
      have hin0 : mkpl (clsL n ts 0) ∈ init := by
        rw [hin ck]
        refine List.mem_map.mpr ⟨_, ?_, rfl⟩
        unfold twinL
        exact List.mem_filter.mpr ⟨List.mem_map.mpr ⟨0, List.mem_filter.mpr ⟨rng_mem.mpr ⟨Int.le_refl 0, by omega⟩, hf0⟩, rfl⟩, decide_eq_true (by omega)⟩
      have hin1 : mkpl (clsL n ts 0) ∈ y32.1 := by
        rw [e1]
        exact List.mem_append_left _ hin0
      have hge := sumL_ge (fun l hl => (g1 l hl).two) hin1
      have hlm : (mkpl (clsL n ts 0)).length = (clsL n ts 0).length := List.length_map _
      have hup : (L.length : Int) ≤ n - 1 := by
        have hs1 : Strong 1 (rng 1 n) (partedL n ts k) := strong_one h (rng_nodup 1 n) (fun v hv => by have := rng_mem.mp hv; omega) fun X hX Y hY hne => by
          rw [ck] at hX hY
          obtain ⟨i, rfl, i0, i1⟩ := pl_mem.mp (show X ∈ mkpl (rng 0 n) from hX)
          obtain ⟨j, rfl, j0, j1⟩ := pl_mem.mp (show Y ∈ mkpl (rng 0 n) from hY)
          have hij : i ≠ j := fun q => hne (by rw [q])
          by_cases q : 1 ≤ i
          · refine ⟨i, rng_mem.mpr ⟨q, i1⟩, fun e2 => ?_⟩
            have e2' : dst n ts i i = dst n ts i j := e2
            rw [(dst_zero h i0 i1 i0 i1).mpr rfl] at e2'
            exact hij ((dst_zero h i0 i1 j0 j1).mp e2'.symm).symm
          · refine ⟨j, rng_mem.mpr ⟨by omega, j1⟩, fun e2 => ?_⟩
            have e2' : dst n ts j i = dst n ts j j := e2
            rw [(dst_zero h j0 j1 j0 j1).mpr rfl] at e2'
            exact hij ((dst_zero h j0 j1 i0 i1).mp e2')
        have := hmin _ (rng_nodup 1 n) hs1
        rw [rng_length] at this
        omega
      refine po_bind (Q := fun j => j = true) ?_ fun j hj => hj
      show Post (R.ok (sumL y32.1) >>= _) _ _
      rw [ok_bind]
      show Post (R.ok (L, t) >>= _) _ _
      rw [ok_bind]
      refine po_if (fun _ => ?_) fun c => absurd (decide_eq_true (show sumL y32.1 = (L.length : Int) by omega)) c
      show decide ((L.length : Int) = n - 1) = true
      exact decide_eq_true (by omega)
theorem law_true (ns : List Int) (h : ns.length ≤ 63) : law ⟨ns⟩ = R.ok true := by
  refine po_iff ?_
  unfold law
  refine po_bind (purse_ok (by decide) (by decide)) fun y2 h2 => po_bind (take_ok h2 (by decide) (by decide)) fun y7 ⟨a0, a1, h7⟩ => po_get a0 a1 fun t8 m8 _ => ?_
  have hk : t8 = "places" ∨ t8 = "ties" ∨ t8 = "all" := by simpa using m8
  refine po_bind (purse_ok (by decide) (by decide)) fun y10 h10 => po_bind (web_ok5 h10 (by decide) (by decide) (by decide)) fun y12 ⟨w0, w1, hw, _⟩ => ?_
  obtain ⟨⟨n, ⟨ts⟩⟩, s12⟩ := y12
  have hw' : WebOk n ts := hw
  have w1' : n ≤ 7 := w1
  show Post (twins_of (n, ⟨ts⟩) >>= _) _ _
  rw [twins_ok hw', ok_bind]
  refine po_if (fun c => ?_) fun c => ?_
  · have hne : t8 ≠ "ties" := fun q => by
      rw [q, decide_eq_true rfl] at c
      cases c
    have hk2 : t8 = "places" ∨ t8 = "all" := by
      rcases hk with q | q | q
      · exact .inl q
      · exact absurd q hne
      · exact .inr q
    have g := twin_good hw' hk2
    have hd := twin_nd hw'
    have htl := twin_len hw'
    show Post (floor_height (n, ⟨ts⟩) t8 ((twinL n ts).map mkpl) >>= _) _ _
    refine po_bind (floor_ok hw' g) fun y22 hy => ?_
    rcases hy with ⟨_, z⟩ | ⟨rfl, _⟩
    · exact absurd hd z
    refine po_mapGE (g := fun l : List Thing => (l.length : Int) - 1) (by omega) (fun _ _ => rfl) ?_
    refine po_if (fun c2 => ?_) fun _ => ?_
    · have : (!decide (some (sumL ((twinL n ts).map mkpl)) = some (((twinL n ts).map mkpl).map fun l : List Thing => (l.length : Int) - 1).sum)) = true := c2
      rw [decide_eq_true (show some (sumL ((twinL n ts).map mkpl)) = some (((twinL n ts).map mkpl).map fun l : List Thing => (l.length : Int) - 1).sum from rfl)] at this
      cases this
    · exact tail_ok (sc := ⟨ns⟩) hw' w1' hk h7 g hd htl fun _ => rfl
  · have e8 : t8 = "ties" := by
      apply Classical.byContradiction
      intro q
      apply c
      rw [decide_eq_false q]
      rfl
    exact tail_ok (sc := ⟨ns⟩) hw' w1' hk h7 (fun _ z => (nomatch z)) List.nodup_nil (Nat.zero_le _) fun q => absurd (q.symm.trans e8) (by decide)
end G
namespace G
open PySem L2 Z
open Rep (rep)
theorem dn_mk {K : Fg} {h : Heap} {mg : Str → Option Value} (X : K.In h) (G : h.Ns mainGlobals mg) {x y : Str} {st : Stmt} {ps : List Str} {f : Addr} {od an : Option Addr} {sl : Array (Option Value)} {oc kV dc pm cd ct : Value}
    (a : PySem.W.nsIn K mainGlobals x = some (some (.ref f))) (l : K.lookup f = some ⟨oc, od, .func (PySem.W.fnOf y y (defArgs st) (defBody st) (defScope st) .none kV dc pm an cd ct), sl⟩) (c : PySem.W.codeIn K cd y = true) (k : PySem.W.keepIn K (.ref f) = true)
    (b : ∀ (kV doc pm : Value) (an : Option Addr) (cdv ct : Value) (us : List Value), us.length = ps.length → bindArgs (PySem.W.fnOf y y (defArgs st) (defBody st) (defScope st) .none kV doc pm an cdv ct) ⟨us, []⟩ = pure (ps.zip us)) :
    Dn K mg x y st ps f (PySem.W.fnOf y y (defArgs st) (defBody st) (defScope st) .none kV dc pm an cd ct) := ⟨fun_mk l c k, PySem.W.mg_of X G a, (fun_mk l c k).binds b⟩
theorem all_mk {l : PySem.W.OpenLaw} {w : World} {K : PySem.W.Frag} {h : Heap} {mg : Str → Option Value} {fa : Addr} (X : K.In h) (G : h.Ns mainGlobals mg) (hfa : mg "law" = some (.ref fa))
    {f6 : Addr} {od6 an6 : Option Addr} {sl6 : Array (Option Value)} {oc6 kV6 dc6 pm6 cd6 ct6 : Value}
    {f8 : Addr} {od8 an8 : Option Addr} {sl8 : Array (Option Value)} {oc8 kV8 dc8 pm8 cd8 ct8 : Value}
    {f9 : Addr} {od9 an9 : Option Addr} {sl9 : Array (Option Value)} {oc9 kV9 dc9 pm9 cd9 ct9 : Value}
    {f10 : Addr} {od10 an10 : Option Addr} {sl10 : Array (Option Value)} {oc10 kV10 dc10 pm10 cd10 ct10 : Value}
    {f11 : Addr} {od11 an11 : Option Addr} {sl11 : Array (Option Value)} {oc11 kV11 dc11 pm11 cd11 ct11 : Value}
    {f13 : Addr} {od13 an13 : Option Addr} {sl13 : Array (Option Value)} {oc13 kV13 dc13 pm13 cd13 ct13 : Value}
    {f14 : Addr} {od14 an14 : Option Addr} {sl14 : Array (Option Value)} {oc14 kV14 dc14 pm14 cd14 ct14 : Value}
    {f15 : Addr} {od15 an15 : Option Addr} {sl15 : Array (Option Value)} {oc15 kV15 dc15 pm15 cd15 ct15 : Value}
    {f16 : Addr} {od16 an16 : Option Addr} {sl16 : Array (Option Value)} {oc16 kV16 dc16 pm16 cd16 ct16 : Value}
    {f18 : Addr} {od18 an18 : Option Addr} {sl18 : Array (Option Value)} {oc18 kV18 dc18 pm18 cd18 ct18 : Value}
    {f19 : Addr} {od19 an19 : Option Addr} {sl19 : Array (Option Value)} {oc19 kV19 dc19 pm19 cd19 ct19 : Value}
    {f20 : Addr} {od20 an20 : Option Addr} {sl20 : Array (Option Value)} {oc20 kV20 dc20 pm20 cd20 ct20 : Value}
    {f23 : Addr} {od23 an23 : Option Addr} {sl23 : Array (Option Value)} {oc23 kV23 dc23 pm23 cd23 ct23 : Value}
    {f24 : Addr} {od24 an24 : Option Addr} {sl24 : Array (Option Value)} {oc24 kV24 dc24 pm24 cd24 ct24 : Value}
    {f25 : Addr} {od25 an25 : Option Addr} {sl25 : Array (Option Value)} {oc25 kV25 dc25 pm25 cd25 ct25 : Value}
    {f26 : Addr} {od26 an26 : Option Addr} {sl26 : Array (Option Value)} {oc26 kV26 dc26 pm26 cd26 ct26 : Value}
    {f27 : Addr} {od27 an27 : Option Addr} {sl27 : Array (Option Value)} {oc27 kV27 dc27 pm27 cd27 ct27 : Value}
    {f28 : Addr} {od28 an28 : Option Addr} {sl28 : Array (Option Value)} {oc28 kV28 dc28 pm28 cd28 ct28 : Value}
    {f30 : Addr} {od30 an30 : Option Addr} {sl30 : Array (Option Value)} {oc30 kV30 dc30 pm30 cd30 ct30 : Value}
    {f32 : Addr} {od32 an32 : Option Addr} {sl32 : Array (Option Value)} {oc32 kV32 dc32 pm32 cd32 ct32 : Value}
    {f34 : Addr} {od34 an34 : Option Addr} {sl34 : Array (Option Value)} {oc34 kV34 dc34 pm34 cd34 ct34 : Value}
    {f36 : Addr} {od36 an36 : Option Addr} {sl36 : Array (Option Value)} {oc36 kV36 dc36 pm36 cd36 ct36 : Value}
    {f37 : Addr} {od37 an37 : Option Addr} {sl37 : Array (Option Value)} {oc37 kV37 dc37 pm37 cd37 ct37 : Value}
    {f38 : Addr} {od38 an38 : Option Addr} {sl38 : Array (Option Value)} {oc38 kV38 dc38 pm38 cd38 ct38 : Value}
    {f39 : Addr} {od39 an39 : Option Addr} {sl39 : Array (Option Value)} {oc39 kV39 dc39 pm39 cd39 ct39 : Value}
    {f40 : Addr} {od40 an40 : Option Addr} {sl40 : Array (Option Value)} {oc40 kV40 dc40 pm40 cd40 ct40 : Value}
    {f42 : Addr} {od42 an42 : Option Addr} {sl42 : Array (Option Value)} {oc42 kV42 dc42 pm42 cd42 ct42 : Value}
    {f43 : Addr} {od43 an43 : Option Addr} {sl43 : Array (Option Value)} {oc43 kV43 dc43 pm43 cd43 ct43 : Value}
    {f44 : Addr} {od44 an44 : Option Addr} {sl44 : Array (Option Value)} {oc44 kV44 dc44 pm44 cd44 ct44 : Value}
    {f45 : Addr} {od45 an45 : Option Addr} {sl45 : Array (Option Value)} {oc45 kV45 dc45 pm45 cd45 ct45 : Value}
    {f46 : Addr} {od46 an46 : Option Addr} {sl46 : Array (Option Value)} {oc46 kV46 dc46 pm46 cd46 ct46 : Value}
    {f47 : Addr} {od47 an47 : Option Addr} {sl47 : Array (Option Value)} {oc47 kV47 dc47 pm47 cd47 ct47 : Value}
    {f48 : Addr} {od48 an48 : Option Addr} {sl48 : Array (Option Value)} {oc48 kV48 dc48 pm48 cd48 ct48 : Value}
    {f49 : Addr} {od49 an49 : Option Addr} {sl49 : Array (Option Value)} {oc49 kV49 dc49 pm49 cd49 ct49 : Value}
    {f50 : Addr} {od50 an50 : Option Addr} {sl50 : Array (Option Value)} {oc50 kV50 dc50 pm50 cd50 ct50 : Value}
    {f51 : Addr} {od51 an51 : Option Addr} {sl51 : Array (Option Value)} {oc51 kV51 dc51 pm51 cd51 ct51 : Value}
    {f52 : Addr} {od52 an52 : Option Addr} {sl52 : Array (Option Value)} {oc52 kV52 dc52 pm52 cd52 ct52 : Value}
    {f53 : Addr} {od53 an53 : Option Addr} {sl53 : Array (Option Value)} {oc53 kV53 dc53 pm53 cd53 ct53 : Value}
    {f30000 : Addr} {od30000 an30000 : Option Addr} {sl30000 : Array (Option Value)} {oc30000 kV30000 dc30000 pm30000 cd30000 ct30000 : Value}
    {f30001 : Addr} {od30001 an30001 : Option Addr} {sl30001 : Array (Option Value)} {oc30001 kV30001 dc30001 pm30001 cd30001 ct30001 : Value}
    {g29 : Addr}
    {tk_MOST_SEARCHED : Tok}
    (a6 : PySem.W.nsIn K mainGlobals "near_lists_webs" = some (some (.ref f6))) (l6 : K.lookup f6 = some ⟨oc6, od6, .func (PySem.W.fnOf "near_lists" "near_lists" (defArgs s_near_lists) (defBody s_near_lists) (defScope s_near_lists) .none kV6 dc6 pm6 an6 cd6 ct6), sl6⟩) (c6 : PySem.W.codeIn K cd6 "near_lists" = true) (k6 : PySem.W.keepIn K (.ref f6) = true)
    (a8 : PySem.W.nsIn K mainGlobals "fars_by" = some (some (.ref f8))) (l8 : K.lookup f8 = some ⟨oc8, od8, .func (PySem.W.fnOf "fars_by" "fars_by" (defArgs s_fars_by) (defBody s_fars_by) (defScope s_fars_by) .none kV8 dc8 pm8 an8 cd8 ct8), sl8⟩) (c8 : PySem.W.codeIn K cd8 "fars_by" = true) (k8 : PySem.W.keepIn K (.ref f8) = true)
    (a9 : PySem.W.nsIn K mainGlobals "place_asked" = some (some (.ref f9))) (l9 : K.lookup f9 = some ⟨oc9, od9, .func (PySem.W.fnOf "place_asked" "place_asked" (defArgs s_place_asked) (defBody s_place_asked) (defScope s_place_asked) .none kV9 dc9 pm9 an9 cd9 ct9), sl9⟩) (c9 : PySem.W.codeIn K cd9 "place_asked" = true) (k9 : PySem.W.keepIn K (.ref f9) = true)
    (a10 : PySem.W.nsIn K mainGlobals "neighbours_of" = some (some (.ref f10))) (l10 : K.lookup f10 = some ⟨oc10, od10, .func (PySem.W.fnOf "neighbours_of" "neighbours_of" (defArgs s_neighbours_of) (defBody s_neighbours_of) (defScope s_neighbours_of) .none kV10 dc10 pm10 an10 cd10 ct10), sl10⟩) (c10 : PySem.W.codeIn K cd10 "neighbours_of" = true) (k10 : PySem.W.keepIn K (.ref f10) = true)
    (a11 : PySem.W.nsIn K mainGlobals "fars_from" = some (some (.ref f11))) (l11 : K.lookup f11 = some ⟨oc11, od11, .func (PySem.W.fnOf "fars_from" "fars_from" (defArgs s_fars_from) (defBody s_fars_from) (defScope s_fars_from) .none kV11 dc11 pm11 an11 cd11 ct11), sl11⟩) (c11 : PySem.W.codeIn K cd11 "fars_from" = true) (k11 : PySem.W.keepIn K (.ref f11) = true)
    (a13 : PySem.W.nsIn K mainGlobals "table_of" = some (some (.ref f13))) (l13 : K.lookup f13 = some ⟨oc13, od13, .func (PySem.W.fnOf "table_of" "table_of" (defArgs s_table_of) (defBody s_table_of) (defScope s_table_of) .none kV13 dc13 pm13 an13 cd13 ct13), sl13⟩) (c13 : PySem.W.codeIn K cd13 "table_of" = true) (k13 : PySem.W.keepIn K (.ref f13) = true)
    (a14 : PySem.W.nsIn K mainGlobals "things_of" = some (some (.ref f14))) (l14 : K.lookup f14 = some ⟨oc14, od14, .func (PySem.W.fnOf "things_of" "things_of" (defArgs s_things_of) (defBody s_things_of) (defScope s_things_of) .none kV14 dc14 pm14 an14 cd14 ct14), sl14⟩) (c14 : PySem.W.codeIn K cd14 "things_of" = true) (k14 : PySem.W.keepIn K (.ref f14) = true)
    (a15 : PySem.W.nsIn K mainGlobals "looks_asked" = some (some (.ref f15))) (l15 : K.lookup f15 = some ⟨oc15, od15, .func (PySem.W.fnOf "looks_asked" "looks_asked" (defArgs s_looks_asked) (defBody s_looks_asked) (defScope s_looks_asked) .none kV15 dc15 pm15 an15 cd15 ct15), sl15⟩) (c15 : PySem.W.codeIn K cd15 "looks_asked" = true) (k15 : PySem.W.keepIn K (.ref f15) = true)
    (a16 : PySem.W.nsIn K mainGlobals "far_by_codes" = some (some (.ref f16))) (l16 : K.lookup f16 = some ⟨oc16, od16, .func (PySem.W.fnOf "far_by" "far_by" (defArgs s_far_by) (defBody s_far_by) (defScope s_far_by) .none kV16 dc16 pm16 an16 cd16 ct16), sl16⟩) (c16 : PySem.W.codeIn K cd16 "far_by" = true) (k16 : PySem.W.keepIn K (.ref f16) = true)
    (a18 : PySem.W.nsIn K mainGlobals "by_code" = some (some (.ref f18))) (l18 : K.lookup f18 = some ⟨oc18, od18, .func (PySem.W.fnOf "by_code" "by_code" (defArgs s_by_code) (defBody s_by_code) (defScope s_by_code) .none kV18 dc18 pm18 an18 cd18 ct18), sl18⟩) (c18 : PySem.W.codeIn K cd18 "by_code" = true) (k18 : PySem.W.keepIn K (.ref f18) = true)
    (a19 : PySem.W.nsIn K mainGlobals "likes_by" = some (some (.ref f19))) (l19 : K.lookup f19 = some ⟨oc19, od19, .func (PySem.W.fnOf "likes_by" "likes_by" (defArgs s_likes_by) (defBody s_likes_by) (defScope s_likes_by) .none kV19 dc19 pm19 an19 cd19 ct19), sl19⟩) (c19 : PySem.W.codeIn K cd19 "likes_by" = true) (k19 : PySem.W.keepIn K (.ref f19) = true)
    (a20 : PySem.W.nsIn K mainGlobals "is_known" = some (some (.ref f20))) (l20 : K.lookup f20 = some ⟨oc20, od20, .func (PySem.W.fnOf "is_known" "is_known" (defArgs s_is_known) (defBody s_is_known) (defScope s_is_known) .none kV20 dc20 pm20 an20 cd20 ct20), sl20⟩) (c20 : PySem.W.codeIn K cd20 "is_known" = true) (k20 : PySem.W.keepIn K (.ref f20) = true)
    (a23 : PySem.W.nsIn K mainGlobals "fars_of" = some (some (.ref f23))) (l23 : K.lookup f23 = some ⟨oc23, od23, .func (PySem.W.fnOf "fars_of" "fars_of" (defArgs s_fars_of) (defBody s_fars_of) (defScope s_fars_of) .none kV23 dc23 pm23 an23 cd23 ct23), sl23⟩) (c23 : PySem.W.codeIn K cd23 "fars_of" = true) (k23 : PySem.W.keepIn K (.ref f23) = true)
    (a24 : PySem.W.nsIn K mainGlobals "far_in" = some (some (.ref f24))) (l24 : K.lookup f24 = some ⟨oc24, od24, .func (PySem.W.fnOf "far_in" "far_in" (defArgs s_far_in) (defBody s_far_in) (defScope s_far_in) .none kV24 dc24 pm24 an24 cd24 ct24), sl24⟩) (c24 : PySem.W.codeIn K cd24 "far_in" = true) (k24 : PySem.W.keepIn K (.ref f24) = true)
    (a25 : PySem.W.nsIn K mainGlobals "parters_in" = some (some (.ref f25))) (l25 : K.lookup f25 = some ⟨oc25, od25, .func (PySem.W.fnOf "parters_in" "parters_in" (defArgs s_parters_in) (defBody s_parters_in) (defScope s_parters_in) .none kV25 dc25 pm25 an25 cd25 ct25), sl25⟩) (c25 : PySem.W.codeIn K cd25 "parters_in" = true) (k25 : PySem.W.keepIn K (.ref f25) = true)
    (a26 : PySem.W.nsIn K mainGlobals "pairs_of" = some (some (.ref f26))) (l26 : K.lookup f26 = some ⟨oc26, od26, .func (PySem.W.fnOf "pairs_of" "pairs_of" (defArgs s_pairs_of) (defBody s_pairs_of) (defScope s_pairs_of) .none kV26 dc26 pm26 an26 cd26 ct26), sl26⟩) (c26 : PySem.W.codeIn K cd26 "pairs_of" = true) (k26 : PySem.W.keepIn K (.ref f26) = true)
    (a27 : PySem.W.nsIn K mainGlobals "leanest_pairs" = some (some (.ref f27))) (l27 : K.lookup f27 = some ⟨oc27, od27, .func (PySem.W.fnOf "leanest_pairs" "leanest_pairs" (defArgs s_leanest_pairs) (defBody s_leanest_pairs) (defScope s_leanest_pairs) .none kV27 dc27 pm27 an27 cd27 ct27), sl27⟩) (c27 : PySem.W.codeIn K cd27 "leanest_pairs" = true) (k27 : PySem.W.keepIn K (.ref f27) = true)
    (a28 : PySem.W.nsIn K mainGlobals "too_seldom" = some (some (.ref f28))) (l28 : K.lookup f28 = some ⟨oc28, od28, .func (PySem.W.fnOf "too_seldom" "too_seldom" (defArgs s_too_seldom) (defBody s_too_seldom) (defScope s_too_seldom) .none kV28 dc28 pm28 an28 cd28 ct28), sl28⟩) (c28 : PySem.W.codeIn K cd28 "too_seldom" = true) (k28 : PySem.W.keepIn K (.ref f28) = true)
    (a30 : PySem.W.nsIn K mainGlobals "fewest_looks" = some (some (.ref f30))) (l30 : K.lookup f30 = some ⟨oc30, od30, .func (PySem.W.fnOf "fewest_looks" "fewest_looks" (defArgs s_fewest_looks) (defBody s_fewest_looks) (defScope s_fewest_looks) .none kV30 dc30 pm30 an30 cd30 ct30), sl30⟩) (c30 : PySem.W.codeIn K cd30 "fewest_looks" = true) (k30 : PySem.W.keepIn K (.ref f30) = true)
    (a32 : PySem.W.nsIn K mainGlobals "near_lists_floors" = some (some (.ref f32))) (l32 : K.lookup f32 = some ⟨oc32, od32, .func (PySem.W.fnOf "near_lists" "near_lists" (defArgs s_near_lists_floors) (defBody s_near_lists_floors) (defScope s_near_lists_floors) .none kV32 dc32 pm32 an32 cd32 ct32), sl32⟩) (c32 : PySem.W.codeIn K cd32 "near_lists" = true) (k32 : PySem.W.keepIn K (.ref f32) = true)
    (a34 : PySem.W.nsIn K mainGlobals "far_by_floors" = some (some (.ref f34))) (l34 : K.lookup f34 = some ⟨oc34, od34, .func (PySem.W.fnOf "far_by" "far_by" (defArgs s_far_by_floors) (defBody s_far_by_floors) (defScope s_far_by_floors) .none kV34 dc34 pm34 an34 cd34 ct34), sl34⟩) (c34 : PySem.W.codeIn K cd34 "far_by" = true) (k34 : PySem.W.keepIn K (.ref f34) = true)
    (a36 : PySem.W.nsIn K mainGlobals "are_twins" = some (some (.ref f36))) (l36 : K.lookup f36 = some ⟨oc36, od36, .func (PySem.W.fnOf "are_twins" "are_twins" (defArgs s_are_twins) (defBody s_are_twins) (defScope s_are_twins) .none kV36 dc36 pm36 an36 cd36 ct36), sl36⟩) (c36 : PySem.W.codeIn K cd36 "are_twins" = true) (k36 : PySem.W.keepIn K (.ref f36) = true)
    (a37 : PySem.W.nsIn K mainGlobals "twins_of" = some (some (.ref f37))) (l37 : K.lookup f37 = some ⟨oc37, od37, .func (PySem.W.fnOf "twins_of" "twins_of" (defArgs s_twins_of) (defBody s_twins_of) (defScope s_twins_of) .none kV37 dc37 pm37 an37 cd37 ct37), sl37⟩) (c37 : PySem.W.codeIn K cd37 "twins_of" = true) (k37 : PySem.W.keepIn K (.ref f37) = true)
    (a38 : PySem.W.nsIn K mainGlobals "is_lot" = some (some (.ref f38))) (l38 : K.lookup f38 = some ⟨oc38, od38, .func (PySem.W.fnOf "is_lot" "is_lot" (defArgs s_is_lot) (defBody s_is_lot) (defScope s_is_lot) .none kV38 dc38 pm38 an38 cd38 ct38), sl38⟩) (c38 : PySem.W.codeIn K cd38 "is_lot" = true) (k38 : PySem.W.keepIn K (.ref f38) = true)
    (a39 : PySem.W.nsIn K mainGlobals "lot_parters" = some (some (.ref f39))) (l39 : K.lookup f39 = some ⟨oc39, od39, .func (PySem.W.fnOf "lot_parters" "lot_parters" (defArgs s_lot_parters) (defBody s_lot_parters) (defScope s_lot_parters) .none kV39 dc39 pm39 an39 cd39 ct39), sl39⟩) (c39 : PySem.W.codeIn K cd39 "lot_parters" = true) (k39 : PySem.W.keepIn K (.ref f39) = true)
    (a40 : PySem.W.nsIn K mainGlobals "floor_height" = some (some (.ref f40))) (l40 : K.lookup f40 = some ⟨oc40, od40, .func (PySem.W.fnOf "floor_height" "floor_height" (defArgs s_floor_height) (defBody s_floor_height) (defScope s_floor_height) .none kV40 dc40 pm40 an40 cd40 ct40), sl40⟩) (c40 : PySem.W.codeIn K cd40 "floor_height" = true) (k40 : PySem.W.keepIn K (.ref f40) = true)
    (a42 : PySem.W.nsIn K mainGlobals "_law_purse" = some (some (.ref f42))) (l42 : K.lookup f42 = some ⟨oc42, od42, .func (PySem.W.fnOf "_law_purse" "_law_purse" (defArgs s_law_purse) (defBody s_law_purse) (defScope s_law_purse) .none kV42 dc42 pm42 an42 cd42 ct42), sl42⟩) (c42 : PySem.W.codeIn K cd42 "_law_purse" = true) (k42 : PySem.W.keepIn K (.ref f42) = true)
    (a43 : PySem.W.nsIn K mainGlobals "_law_take" = some (some (.ref f43))) (l43 : K.lookup f43 = some ⟨oc43, od43, .func (PySem.W.fnOf "_law_take" "_law_take" (defArgs s_law_take) (defBody s_law_take) (defScope s_law_take) .none kV43 dc43 pm43 an43 cd43 ct43), sl43⟩) (c43 : PySem.W.codeIn K cd43 "_law_take" = true) (k43 : PySem.W.keepIn K (.ref f43) = true)
    (a44 : PySem.W.nsIn K mainGlobals "_law_order" = some (some (.ref f44))) (l44 : K.lookup f44 = some ⟨oc44, od44, .func (PySem.W.fnOf "_law_order" "_law_order" (defArgs s_law_order) (defBody s_law_order) (defScope s_law_order) .none kV44 dc44 pm44 an44 cd44 ct44), sl44⟩) (c44 : PySem.W.codeIn K cd44 "_law_order" = true) (k44 : PySem.W.keepIn K (.ref f44) = true)
    (a45 : PySem.W.nsIn K mainGlobals "_law_pairs" = some (some (.ref f45))) (l45 : K.lookup f45 = some ⟨oc45, od45, .func (PySem.W.fnOf "_law_pairs" "_law_pairs" (defArgs s_law_pairs) (defBody s_law_pairs) (defScope s_law_pairs) .none kV45 dc45 pm45 an45 cd45 ct45), sl45⟩) (c45 : PySem.W.codeIn K cd45 "_law_pairs" = true) (k45 : PySem.W.keepIn K (.ref f45) = true)
    (a46 : PySem.W.nsIn K mainGlobals "_law_web" = some (some (.ref f46))) (l46 : K.lookup f46 = some ⟨oc46, od46, .func (PySem.W.fnOf "_law_web" "_law_web" (defArgs s_law_web) (defBody s_law_web) (defScope s_law_web) .none kV46 dc46 pm46 an46 cd46 ct46), sl46⟩) (c46 : PySem.W.codeIn K cd46 "_law_web" = true) (k46 : PySem.W.keepIn K (.ref f46) = true)
    (a47 : PySem.W.nsIn K mainGlobals "_law_table" = some (some (.ref f47))) (l47 : K.lookup f47 = some ⟨oc47, od47, .func (PySem.W.fnOf "_law_table" "_law_table" (defArgs s_law_table) (defBody s_law_table) (defScope s_law_table) .none kV47 dc47 pm47 an47 cd47 ct47), sl47⟩) (c47 : PySem.W.codeIn K cd47 "_law_table" = true) (k47 : PySem.W.keepIn K (.ref f47) = true)
    (a48 : PySem.W.nsIn K mainGlobals "_law_things" = some (some (.ref f48))) (l48 : K.lookup f48 = some ⟨oc48, od48, .func (PySem.W.fnOf "_law_things" "_law_things" (defArgs s_law_things) (defBody s_law_things) (defScope s_law_things) .none kV48 dc48 pm48 an48 cd48 ct48), sl48⟩) (c48 : PySem.W.codeIn K cd48 "_law_things" = true) (k48 : PySem.W.keepIn K (.ref f48) = true)
    (a49 : PySem.W.nsIn K mainGlobals "_law_far" = some (some (.ref f49))) (l49 : K.lookup f49 = some ⟨oc49, od49, .func (PySem.W.fnOf "_law_far" "_law_far" (defArgs s_law_far) (defBody s_law_far) (defScope s_law_far) .none kV49 dc49 pm49 an49 cd49 ct49), sl49⟩) (c49 : PySem.W.codeIn K cd49 "_law_far" = true) (k49 : PySem.W.keepIn K (.ref f49) = true)
    (a50 : PySem.W.nsIn K mainGlobals "_law_parters" = some (some (.ref f50))) (l50 : K.lookup f50 = some ⟨oc50, od50, .func (PySem.W.fnOf "_law_parters" "_law_parters" (defArgs s_law_parters) (defBody s_law_parters) (defScope s_law_parters) .none kV50 dc50 pm50 an50 cd50 ct50), sl50⟩) (c50 : PySem.W.codeIn K cd50 "_law_parters" = true) (k50 : PySem.W.keepIn K (.ref f50) = true)
    (a51 : PySem.W.nsIn K mainGlobals "_law_parted" = some (some (.ref f51))) (l51 : K.lookup f51 = some ⟨oc51, od51, .func (PySem.W.fnOf "_law_parted" "_law_parted" (defArgs s_law_parted) (defBody s_law_parted) (defScope s_law_parted) .none kV51 dc51 pm51 an51 cd51 ct51), sl51⟩) (c51 : PySem.W.codeIn K cd51 "_law_parted" = true) (k51 : PySem.W.keepIn K (.ref f51) = true)
    (a52 : PySem.W.nsIn K mainGlobals "_law_floor" = some (some (.ref f52))) (l52 : K.lookup f52 = some ⟨oc52, od52, .func (PySem.W.fnOf "_law_floor" "_law_floor" (defArgs s_law_floor) (defBody s_law_floor) (defScope s_law_floor) .none kV52 dc52 pm52 an52 cd52 ct52), sl52⟩) (c52 : PySem.W.codeIn K cd52 "_law_floor" = true) (k52 : PySem.W.keepIn K (.ref f52) = true)
    (a53 : PySem.W.nsIn K mainGlobals "law" = some (some (.ref f53))) (l53 : K.lookup f53 = some ⟨oc53, od53, .func (PySem.W.fnOf "law" "law" (defArgs s_law) (defBody s_law) (defScope s_law) .none kV53 dc53 pm53 an53 cd53 ct53), sl53⟩) (c53 : PySem.W.codeIn K cd53 "law" = true) (k53 : PySem.W.keepIn K (.ref f53) = true)
    (a30000 : PySem.W.findIn K (.ref g29) "__init__" = some (some (.ref f30000))) (i30000 : PySem.W.isFn K (.ref f30000) = true) (l30000 : K.lookup f30000 = some ⟨oc30000, od30000, .func (PySem.W.fnOf "__init__" "Search.__init__" (defArgs s_Search_init) (defBody s_Search_init) (defScope s_Search_init) .none kV30000 dc30000 pm30000 an30000 cd30000 ct30000), sl30000⟩) (c30000 : PySem.W.codeIn K cd30000 "Search.__init__" = true) (k30000 : PySem.W.keepIn K (.ref f30000) = true)
    (a30001 : PySem.W.findIn K (.ref g29) "tree_of" = some (some (.ref f30001))) (i30001 : PySem.W.isFn K (.ref f30001) = true) (l30001 : K.lookup f30001 = some ⟨oc30001, od30001, .func (PySem.W.fnOf "tree_of" "Search.tree_of" (defArgs s_Search_tree_of) (defBody s_Search_tree_of) (defScope s_Search_tree_of) .none kV30001 dc30001 pm30001 an30001 cd30001 ct30001), sl30001⟩) (c30001 : PySem.W.codeIn K cd30001 "Search.tree_of" = true) (k30001 : PySem.W.keepIn K (.ref f30001) = true)
    (ns_Search : PySem.W.nsIn K mainGlobals "Search" = some (some (.ref g29)))
    (op_Search : PySem.W.plainGet K g29 Str.empty = true)
    (oh_Search : PySem.W.hasDictIn K g29 = true)
    (oo_Search : PySem.W.plainOver K g29 = true)
    (os_Search : PySem.W.findIn K (.ref g29) "__setattr__" = some (some (.builtin "object.__setattr__")))
    (om_Search : PySem.W.makesIn K g29 = true)
    (ok_Search : PySem.W.keepIn K (.ref g29) = true)
    (of_Search_pairs : PySem.W.findIn K (.ref g29) "pairs" = some none)
    (of_Search_strength : PySem.W.findIn K (.ref g29) "strength" = some none)
    (of_Search_many : PySem.W.findIn K (.ref g29) "many" = some none)
    (of_Search_looks : PySem.W.findIn K (.ref g29) "looks" = some none)
    (kc_MOST_SEARCHED : PySem.W.nsIn K mainGlobals "MOST_SEARCHED" = some (some (.int 8 tk_MOST_SEARCHED)))
    (z_all : PySem.W.nsIn K mainGlobals "all" = some none)
    (z_enumerate : PySem.W.nsIn K mainGlobals "enumerate" = some none)
    (z_int : PySem.W.nsIn K mainGlobals "int" = some none)
    (z_isinstance : PySem.W.nsIn K mainGlobals "isinstance" = some none)
    (z_len : PySem.W.nsIn K mainGlobals "len" = some none)
    (z_list : PySem.W.nsIn K mainGlobals "list" = some none)
    (z_max : PySem.W.nsIn K mainGlobals "max" = some none)
    (z_min : PySem.W.nsIn K mainGlobals "min" = some none)
    (z_range : PySem.W.nsIn K mainGlobals "range" = some none)
    (z_set : PySem.W.nsIn K mainGlobals "set" = some none)
    (z_sorted : PySem.W.nsIn K mainGlobals "sorted" = some none)
    (z_sum : PySem.W.nsIn K mainGlobals "sum" = some none)
    (z_tuple : PySem.W.nsIn K mainGlobals "tuple" = some none) :
    ∃ fd : FuncData, (∀ (s : Shared) (v : Value), BindsTo s fd ⟨[v], []⟩ [("_law_script", v)]) ∧ ∀ base : Heap, K.In base → base.Ns mainGlobals mg → FnOk l.prog w K mg base CX0 24 fa fd ["_law_script"] (sp_law K) := by
  have e := hfa.symm.trans (PySem.W.mg_of X G a53)
  cases e
  let A : Nat → Addr := fun i => match i with | 6 => f6 | 8 => f8 | 9 => f9 | 10 => f10 | 11 => f11 | 13 => f13 | 14 => f14 | 15 => f15 | 16 => f16 | 18 => f18 | 19 => f19 | 20 => f20 | 23 => f23 | 24 => f24 | 25 => f25 | 26 => f26 | 27 => f27 | 28 => f28 | 30 => f30 | 32 => f32 | 34 => f34 | 36 => f36 | 37 => f37 | 38 => f38 | 39 => f39 | 40 => f40 | 42 => f42 | 43 => f43 | 44 => f44 | 45 => f45 | 46 => f46 | 47 => f47 | 48 => f48 | 49 => f49 | 50 => f50 | 51 => f51 | 52 => f52 | 53 => fa | 30000 => f30000 | 30001 => f30001 | 29 => g29 | _ => fa
  let FD : Nat → FuncData := fun i => match i with | 6 => (PySem.W.fnOf "near_lists" "near_lists" (defArgs s_near_lists) (defBody s_near_lists) (defScope s_near_lists) .none kV6 dc6 pm6 an6 cd6 ct6) | 8 => (PySem.W.fnOf "fars_by" "fars_by" (defArgs s_fars_by) (defBody s_fars_by) (defScope s_fars_by) .none kV8 dc8 pm8 an8 cd8 ct8) | 9 => (PySem.W.fnOf "place_asked" "place_asked" (defArgs s_place_asked) (defBody s_place_asked) (defScope s_place_asked) .none kV9 dc9 pm9 an9 cd9 ct9) | 10 => (PySem.W.fnOf "neighbours_of" "neighbours_of" (defArgs s_neighbours_of) (defBody s_neighbours_of) (defScope s_neighbours_of) .none kV10 dc10 pm10 an10 cd10 ct10) | 11 => (PySem.W.fnOf "fars_from" "fars_from" (defArgs s_fars_from) (defBody s_fars_from) (defScope s_fars_from) .none kV11 dc11 pm11 an11 cd11 ct11) | 13 => (PySem.W.fnOf "table_of" "table_of" (defArgs s_table_of) (defBody s_table_of) (defScope s_table_of) .none kV13 dc13 pm13 an13 cd13 ct13) | 14 => (PySem.W.fnOf "things_of" "things_of" (defArgs s_things_of) (defBody s_things_of) (defScope s_things_of) .none kV14 dc14 pm14 an14 cd14 ct14) | 15 => (PySem.W.fnOf "looks_asked" "looks_asked" (defArgs s_looks_asked) (defBody s_looks_asked) (defScope s_looks_asked) .none kV15 dc15 pm15 an15 cd15 ct15) | 16 => (PySem.W.fnOf "far_by" "far_by" (defArgs s_far_by) (defBody s_far_by) (defScope s_far_by) .none kV16 dc16 pm16 an16 cd16 ct16) | 18 => (PySem.W.fnOf "by_code" "by_code" (defArgs s_by_code) (defBody s_by_code) (defScope s_by_code) .none kV18 dc18 pm18 an18 cd18 ct18) | 19 => (PySem.W.fnOf "likes_by" "likes_by" (defArgs s_likes_by) (defBody s_likes_by) (defScope s_likes_by) .none kV19 dc19 pm19 an19 cd19 ct19) | 20 => (PySem.W.fnOf "is_known" "is_known" (defArgs s_is_known) (defBody s_is_known) (defScope s_is_known) .none kV20 dc20 pm20 an20 cd20 ct20) | 23 => (PySem.W.fnOf "fars_of" "fars_of" (defArgs s_fars_of) (defBody s_fars_of) (defScope s_fars_of) .none kV23 dc23 pm23 an23 cd23 ct23) | 24 => (PySem.W.fnOf "far_in" "far_in" (defArgs s_far_in) (defBody s_far_in) (defScope s_far_in) .none kV24 dc24 pm24 an24 cd24 ct24) | 25 => (PySem.W.fnOf "parters_in" "parters_in" (defArgs s_parters_in) (defBody s_parters_in) (defScope s_parters_in) .none kV25 dc25 pm25 an25 cd25 ct25) | 26 => (PySem.W.fnOf "pairs_of" "pairs_of" (defArgs s_pairs_of) (defBody s_pairs_of) (defScope s_pairs_of) .none kV26 dc26 pm26 an26 cd26 ct26) | 27 => (PySem.W.fnOf "leanest_pairs" "leanest_pairs" (defArgs s_leanest_pairs) (defBody s_leanest_pairs) (defScope s_leanest_pairs) .none kV27 dc27 pm27 an27 cd27 ct27) | 28 => (PySem.W.fnOf "too_seldom" "too_seldom" (defArgs s_too_seldom) (defBody s_too_seldom) (defScope s_too_seldom) .none kV28 dc28 pm28 an28 cd28 ct28) | 30 => (PySem.W.fnOf "fewest_looks" "fewest_looks" (defArgs s_fewest_looks) (defBody s_fewest_looks) (defScope s_fewest_looks) .none kV30 dc30 pm30 an30 cd30 ct30) | 32 => (PySem.W.fnOf "near_lists" "near_lists" (defArgs s_near_lists_floors) (defBody s_near_lists_floors) (defScope s_near_lists_floors) .none kV32 dc32 pm32 an32 cd32 ct32) | 34 => (PySem.W.fnOf "far_by" "far_by" (defArgs s_far_by_floors) (defBody s_far_by_floors) (defScope s_far_by_floors) .none kV34 dc34 pm34 an34 cd34 ct34) | 36 => (PySem.W.fnOf "are_twins" "are_twins" (defArgs s_are_twins) (defBody s_are_twins) (defScope s_are_twins) .none kV36 dc36 pm36 an36 cd36 ct36) | 37 => (PySem.W.fnOf "twins_of" "twins_of" (defArgs s_twins_of) (defBody s_twins_of) (defScope s_twins_of) .none kV37 dc37 pm37 an37 cd37 ct37) | 38 => (PySem.W.fnOf "is_lot" "is_lot" (defArgs s_is_lot) (defBody s_is_lot) (defScope s_is_lot) .none kV38 dc38 pm38 an38 cd38 ct38) | 39 => (PySem.W.fnOf "lot_parters" "lot_parters" (defArgs s_lot_parters) (defBody s_lot_parters) (defScope s_lot_parters) .none kV39 dc39 pm39 an39 cd39 ct39) | 40 => (PySem.W.fnOf "floor_height" "floor_height" (defArgs s_floor_height) (defBody s_floor_height) (defScope s_floor_height) .none kV40 dc40 pm40 an40 cd40 ct40) | 42 => (PySem.W.fnOf "_law_purse" "_law_purse" (defArgs s_law_purse) (defBody s_law_purse) (defScope s_law_purse) .none kV42 dc42 pm42 an42 cd42 ct42) | 43 => (PySem.W.fnOf "_law_take" "_law_take" (defArgs s_law_take) (defBody s_law_take) (defScope s_law_take) .none kV43 dc43 pm43 an43 cd43 ct43) | 44 => (PySem.W.fnOf "_law_order" "_law_order" (defArgs s_law_order) (defBody s_law_order) (defScope s_law_order) .none kV44 dc44 pm44 an44 cd44 ct44) | 45 => (PySem.W.fnOf "_law_pairs" "_law_pairs" (defArgs s_law_pairs) (defBody s_law_pairs) (defScope s_law_pairs) .none kV45 dc45 pm45 an45 cd45 ct45) | 46 => (PySem.W.fnOf "_law_web" "_law_web" (defArgs s_law_web) (defBody s_law_web) (defScope s_law_web) .none kV46 dc46 pm46 an46 cd46 ct46) | 47 => (PySem.W.fnOf "_law_table" "_law_table" (defArgs s_law_table) (defBody s_law_table) (defScope s_law_table) .none kV47 dc47 pm47 an47 cd47 ct47) | 48 => (PySem.W.fnOf "_law_things" "_law_things" (defArgs s_law_things) (defBody s_law_things) (defScope s_law_things) .none kV48 dc48 pm48 an48 cd48 ct48) | 49 => (PySem.W.fnOf "_law_far" "_law_far" (defArgs s_law_far) (defBody s_law_far) (defScope s_law_far) .none kV49 dc49 pm49 an49 cd49 ct49) | 50 => (PySem.W.fnOf "_law_parters" "_law_parters" (defArgs s_law_parters) (defBody s_law_parters) (defScope s_law_parters) .none kV50 dc50 pm50 an50 cd50 ct50) | 51 => (PySem.W.fnOf "_law_parted" "_law_parted" (defArgs s_law_parted) (defBody s_law_parted) (defScope s_law_parted) .none kV51 dc51 pm51 an51 cd51 ct51) | 52 => (PySem.W.fnOf "_law_floor" "_law_floor" (defArgs s_law_floor) (defBody s_law_floor) (defScope s_law_floor) .none kV52 dc52 pm52 an52 cd52 ct52) | 53 => (PySem.W.fnOf "law" "law" (defArgs s_law) (defBody s_law) (defScope s_law) .none kV53 dc53 pm53 an53 cd53 ct53) | 30000 => (PySem.W.fnOf "__init__" "Search.__init__" (defArgs s_Search_init) (defBody s_Search_init) (defScope s_Search_init) .none kV30000 dc30000 pm30000 an30000 cd30000 ct30000) | 30001 => (PySem.W.fnOf "tree_of" "Search.tree_of" (defArgs s_Search_tree_of) (defBody s_Search_tree_of) (defScope s_Search_tree_of) .none kV30001 dc30001 pm30001 an30001 cd30001 ct30001) | _ => (PySem.W.fnOf "law" "law" (defArgs s_law) (defBody s_law) (defScope s_law) .none kV53 dc53 pm53 an53 cd53 ct53)
  have T : Tx K mg A FD := {
    d6 := dn_mk (st := s_near_lists) (ps := ["web"]) X G a6 l6 c6 k6 fun _ _ _ _ _ _ us hl => match us, hl with | [_], _ => rfl
    d8 := dn_mk (st := s_fars_by) (ps := ["near", "place"]) X G a8 l8 c8 k8 fun _ _ _ _ _ _ us hl => match us, hl with | [_, _], _ => rfl
    d9 := dn_mk (st := s_place_asked) (ps := ["web", "place"]) X G a9 l9 c9 k9 fun _ _ _ _ _ _ us hl => match us, hl with | [_, _], _ => rfl
    d10 := dn_mk (st := s_neighbours_of) (ps := ["web", "place"]) X G a10 l10 c10 k10 fun _ _ _ _ _ _ us hl => match us, hl with | [_, _], _ => rfl
    d11 := dn_mk (st := s_fars_from) (ps := ["web", "place"]) X G a11 l11 c11 k11 fun _ _ _ _ _ _ us hl => match us, hl with | [_, _], _ => rfl
    d13 := dn_mk (st := s_table_of) (ps := ["web"]) X G a13 l13 c13 k13 fun _ _ _ _ _ _ us hl => match us, hl with | [_], _ => rfl
    d14 := dn_mk (st := s_things_of) (ps := ["web", "kind"]) X G a14 l14 c14 k14 fun _ _ _ _ _ _ us hl => match us, hl with | [_, _], _ => rfl
    d15 := dn_mk (st := s_looks_asked) (ps := ["web", "looks"]) X G a15 l15 c15 k15 fun _ _ _ _ _ _ us hl => match us, hl with | [_, _], _ => rfl
    d16 := dn_mk (st := s_far_by) (ps := ["table", "look", "thing"]) X G a16 l16 c16 k16 fun _ _ _ _ _ _ us hl => match us, hl with | [_, _, _], _ => rfl
    d18 := dn_mk (st := s_by_code) (ps := ["web", "looks", "kind"]) X G a18 l18 c18 k18 fun _ _ _ _ _ _ us hl => match us, hl with | [_, _, _], _ => rfl
    d19 := dn_mk (st := s_likes_by) (ps := ["web", "looks", "kind"]) X G a19 l19 c19 k19 fun _ _ _ _ _ _ us hl => match us, hl with | [_, _, _], _ => rfl
    d20 := dn_mk (st := s_is_known) (ps := ["web", "looks", "kind"]) X G a20 l20 c20 k20 fun _ _ _ _ _ _ us hl => match us, hl with | [_, _, _], _ => rfl
    d23 := dn_mk (st := s_fars_of) (ps := ["web"]) X G a23 l23 c23 k23 fun _ _ _ _ _ _ us hl => match us, hl with | [_], _ => rfl
    d24 := dn_mk (st := s_far_in) (ps := ["fars", "thing"]) X G a24 l24 c24 k24 fun _ _ _ _ _ _ us hl => match us, hl with | [_, _], _ => rfl
    d25 := dn_mk (st := s_parters_in) (ps := ["table", "one", "other"]) X G a25 l25 c25 k25 fun _ _ _ _ _ _ us hl => match us, hl with | [_, _, _], _ => rfl
    d26 := dn_mk (st := s_pairs_of) (ps := ["web", "kind"]) X G a26 l26 c26 k26 fun _ _ _ _ _ _ us hl => match us, hl with | [_, _], _ => rfl
    d27 := dn_mk (st := s_leanest_pairs) (ps := ["pairs"]) X G a27 l27 c27 k27 fun _ _ _ _ _ _ us hl => match us, hl with | [_], _ => rfl
    d28 := dn_mk (st := s_too_seldom) (ps := ["pairs", "strength", "within"]) X G a28 l28 c28 k28 fun _ _ _ _ _ _ us hl => match us, hl with | [_, _, _], _ => rfl
    d30 := dn_mk (st := s_fewest_looks) (ps := ["web", "kind", "strength"]) X G a30 l30 c30 k30 fun _ _ _ _ _ _ us hl => match us, hl with | [_, _, _], _ => rfl
    d32 := dn_mk (st := s_near_lists_floors) (ps := ["web"]) X G a32 l32 c32 k32 fun _ _ _ _ _ _ us hl => match us, hl with | [_], _ => rfl
    d34 := dn_mk (st := s_far_by_floors) (ps := ["fars", "thing"]) X G a34 l34 c34 k34 fun _ _ _ _ _ _ us hl => match us, hl with | [_, _], _ => rfl
    d36 := dn_mk (st := s_are_twins) (ps := ["near", "one", "other"]) X G a36 l36 c36 k36 fun _ _ _ _ _ _ us hl => match us, hl with | [_, _, _], _ => rfl
    d37 := dn_mk (st := s_twins_of) (ps := ["web"]) X G a37 l37 c37 k37 fun _ _ _ _ _ _ us hl => match us, hl with | [_], _ => rfl
    d38 := dn_mk (st := s_is_lot) (ps := ["web", "kind", "lot"]) X G a38 l38 c38 k38 fun _ _ _ _ _ _ us hl => match us, hl with | [_, _, _], _ => rfl
    d39 := dn_mk (st := s_lot_parters) (ps := ["table", "lot"]) X G a39 l39 c39 k39 fun _ _ _ _ _ _ us hl => match us, hl with | [_, _], _ => rfl
    d40 := dn_mk (st := s_floor_height) (ps := ["web", "kind", "lots"]) X G a40 l40 c40 k40 fun _ _ _ _ _ _ us hl => match us, hl with | [_, _, _], _ => rfl
    d42 := dn_mk (st := s_law_purse) (ps := ["_law_script", "_law_k"]) X G a42 l42 c42 k42 fun _ _ _ _ _ _ us hl => match us, hl with | [_, _], _ => rfl
    d43 := dn_mk (st := s_law_take) (ps := ["_law_purse_here", "_law_many"]) X G a43 l43 c43 k43 fun _ _ _ _ _ _ us hl => match us, hl with | [_, _], _ => rfl
    d44 := dn_mk (st := s_law_order) (ps := ["_law_purse_here", "_law_many"]) X G a44 l44 c44 k44 fun _ _ _ _ _ _ us hl => match us, hl with | [_, _], _ => rfl
    d45 := dn_mk (st := s_law_pairs) (ps := ["_law_purse_here", "_law_many", "_law_way"]) X G a45 l45 c45 k45 fun _ _ _ _ _ _ us hl => match us, hl with | [_, _, _], _ => rfl
    d46 := dn_mk (st := s_law_web) (ps := ["_law_purse_here", "_law_least", "_law_most"]) X G a46 l46 c46 k46 fun _ _ _ _ _ _ us hl => match us, hl with | [_, _, _], _ => rfl
    d47 := dn_mk (st := s_law_table) (ps := ["_law_web_here"]) X G a47 l47 c47 k47 fun _ _ _ _ _ _ us hl => match us, hl with | [_], _ => rfl
    d48 := dn_mk (st := s_law_things) (ps := ["_law_web_here", "_law_kind"]) X G a48 l48 c48 k48 fun _ _ _ _ _ _ us hl => match us, hl with | [_, _], _ => rfl
    d49 := dn_mk (st := s_law_far) (ps := ["_law_fars", "_law_look", "_law_thing"]) X G a49 l49 c49 k49 fun _ _ _ _ _ _ us hl => match us, hl with | [_, _, _], _ => rfl
    d50 := dn_mk (st := s_law_parters) (ps := ["_law_fars", "_law_one", "_law_other"]) X G a50 l50 c50 k50 fun _ _ _ _ _ _ us hl => match us, hl with | [_, _, _], _ => rfl
    d51 := dn_mk (st := s_law_parted) (ps := ["_law_web_here", "_law_kind"]) X G a51 l51 c51 k51 fun _ _ _ _ _ _ us hl => match us, hl with | [_, _], _ => rfl
    d52 := dn_mk (st := s_law_floor) (ps := ["_law_web_here", "_law_kind", "_law_lots", "_law_purse_here"]) X G a52 l52 c52 k52 fun _ _ _ _ _ _ us hl => match us, hl with | [_, _, _, _], _ => rfl
    d53 := dn_mk (st := s_law) (ps := ["_law_script"]) X G a53 l53 c53 k53 fun _ _ _ _ _ _ us hl => match us, hl with | [_], _ => rfl
    d30000 := ⟨fun_mk (st := s_Search_init) l30000 c30000 k30000, ⟨a30000, i30000, k30000⟩, (fun_mk (st := s_Search_init) l30000 c30000 k30000).binds (ps := ["self", "pairs", "strength", "many"]) fun _ _ _ _ _ _ us hl => match us, hl with | [_, _, _, _], _ => rfl⟩
    d30001 := ⟨fun_mk (st := s_Search_tree_of) l30001 c30001 k30001, ⟨a30001, i30001, k30001⟩, (fun_mk (st := s_Search_tree_of) l30001 c30001 k30001).binds (ps := ["self", "within", "without"]) fun _ _ _ _ _ _ us hl => match us, hl with | [_, _, _], _ => rfl⟩
    n_all := PySem.W.mg_none_of X G z_all
    n_enumerate := PySem.W.mg_none_of X G z_enumerate
    n_int := PySem.W.mg_none_of X G z_int
    n_isinstance := PySem.W.mg_none_of X G z_isinstance
    n_len := PySem.W.mg_none_of X G z_len
    n_list := PySem.W.mg_none_of X G z_list
    n_max := PySem.W.mg_none_of X G z_max
    n_min := PySem.W.mg_none_of X G z_min
    n_range := PySem.W.mg_none_of X G z_range
    n_set := PySem.W.mg_none_of X G z_set
    n_sorted := PySem.W.mg_none_of X G z_sorted
    n_sum := PySem.W.mg_none_of X G z_sum
    n_tuple := PySem.W.mg_none_of X G z_tuple
    c_MOST_SEARCHED := ⟨_, PySem.W.mg_of X G kc_MOST_SEARCHED⟩
    cl_Search := ⟨op_Search, oh_Search, oo_Search, os_Search⟩
    nm_Search := ns_Search
    mg_Search := PySem.W.mg_of X G ns_Search
    mk_Search := ⟨om_Search, a30000, i30000, ok_Search⟩
    na_Search_pairs := of_Search_pairs
    na_Search_strength := of_Search_strength
    na_Search_many := of_Search_many
    na_Search_looks := of_Search_looks }
  exact ⟨(PySem.W.fnOf "law" "law" (defArgs s_law) (defBody s_law) (defScope s_law) .none kV53 dc53 pm53 an53 cd53 ct53), fun s v => .of_eq rfl, fun base _ _ => ok_law (A := A) (FD := FD) T⟩
theorem walk {l : PySem.W.OpenLaw} {q : Program} {loose : List Str} {XP : (Str → Option Value) → Heap → Prop} {YP : World → Heap → Prop} {d : DefRec} {K : Params → PySem.W.Frag} (hn : l.most = some 63) (hdf : d.params.defaults = [])
    (hY : ∀ (w : World) (h : Heap), YP w h → (K w.params).In h)
    (F : ∀ (w : World) (mg : Str → Option Value) (fa : Addr) (h : Heap), (K w.params).In h → h.Ns mainGlobals mg → mg d.name = some (.ref fa) →
      ∃ fd : FuncData, (∀ (s : Shared) (u : Value), BindsTo s fd ⟨[u], []⟩ [("_law_script", u)]) ∧ ∀ base : Heap, (K w.params).In base → base.Ns mainGlobals mg → FnOk l.prog w (K w.params) mg base CX0 24 fa fd ["_law_script"] (sp_law (K w.params))) :
    PySem.W.WalkO q loose XP YP l.row.toRowW d [] (fun f vs => PySem.call f vs) :=
  L2.walk_of (n := 63) (k := 24) (x := "_law_script") (CX := fun _ => CX0) (sp := fun w => sp_law (K w.params)) hn (by decide) hdf ⟨rfl, by decide, by decide⟩ hY F
    (fun _ H a ns hl _ hS => ⟨H, [], .ref a, ⟨ns⟩, rfl, ⟨Same.refl _, (fun _ z => nomatch z), List.Pairwise.nil, (fun _ z => nomatch z)⟩, ⟨a, rfl, hS⟩, by rw [law_true ns hl]; exact fun v F2 H2 w s r => r⟩) fun _ _ _ _ _ z => z
end G
open PySem PySem.W PyProof.Rows
set_option maxRecDepth 100000 in
set_option maxHeartbeats 0 in
theorem PySem.Challenge.cw_farhail_k41_whole_floors_below_the_fewes_holds : PySem.Challenge.rw_farhail_k41_whole_floors_below_the_fewes.Holds := by
  w_on; o_law; k_head; (case hw => w_witness2)
  k_fill
  refine G.walk (l := PySem.Challenge.rw_farhail_k41_whole_floors_below_the_fewes) rfl rfl (fun w h Y => PySem.W.kIn_of Y) ?F
  case F =>
    intro w mg fa h KX Gn hmg
    refine' G.all_mk KX Gn hmg ?a6 ?l6 ?c6 ?k6 ?a8 ?l8 ?c8 ?k8 ?a9 ?l9 ?c9 ?k9 ?a10 ?l10 ?c10 ?k10 ?a11 ?l11 ?c11 ?k11 ?a13 ?l13 ?c13 ?k13 ?a14 ?l14 ?c14 ?k14 ?a15 ?l15 ?c15 ?k15 ?a16 ?l16 ?c16 ?k16 ?a18 ?l18 ?c18 ?k18 ?a19 ?l19 ?c19 ?k19 ?a20 ?l20 ?c20 ?k20 ?a23 ?l23 ?c23 ?k23 ?a24 ?l24 ?c24 ?k24 ?a25 ?l25 ?c25 ?k25 ?a26 ?l26 ?c26 ?k26 ?a27 ?l27 ?c27 ?k27 ?a28 ?l28 ?c28 ?k28 ?a30 ?l30 ?c30 ?k30 ?a32 ?l32 ?c32 ?k32 ?a34 ?l34 ?c34 ?k34 ?a36 ?l36 ?c36 ?k36 ?a37 ?l37 ?c37 ?k37 ?a38 ?l38 ?c38 ?k38 ?a39 ?l39 ?c39 ?k39 ?a40 ?l40 ?c40 ?k40 ?a42 ?l42 ?c42 ?k42 ?a43 ?l43 ?c43 ?k43 ?a44 ?l44 ?c44 ?k44 ?a45 ?l45 ?c45 ?k45 ?a46 ?l46 ?c46 ?k46 ?a47 ?l47 ?c47 ?k47 ?a48 ?l48 ?c48 ?k48 ?a49 ?l49 ?c49 ?k49 ?a50 ?l50 ?c50 ?k50 ?a51 ?l51 ?c51 ?k51 ?a52 ?l52 ?c52 ?k52 ?a53 ?l53 ?c53 ?k53 ?a30000 ?i30000 ?l30000 ?c30000 ?k30000 ?a30001 ?i30001 ?l30001 ?c30001 ?k30001 ?ns_Search ?op_Search ?oh_Search ?oo_Search ?os_Search ?om_Search ?ok_Search ?of_Search_pairs ?of_Search_strength ?of_Search_many ?of_Search_looks ?kc_MOST_SEARCHED ?z_all ?z_enumerate ?z_int ?z_isinstance ?z_len ?z_list ?z_max ?z_min ?z_range ?z_set ?z_sorted ?z_sum ?z_tuple
    (case a6 => k_is); (case l6 => k_is); (case c6 => k_is); (case k6 => k_is)
    (case a8 => k_is); (case l8 => k_is); (case c8 => k_is); (case k8 => k_is)
    (case a9 => k_is); (case l9 => k_is); (case c9 => k_is); (case k9 => k_is)
    (case a10 => k_is); (case l10 => k_is); (case c10 => k_is); (case k10 => k_is)
    (case a11 => k_is); (case l11 => k_is); (case c11 => k_is); (case k11 => k_is)
    (case a13 => k_is); (case l13 => k_is); (case c13 => k_is); (case k13 => k_is)
    (case a14 => k_is); (case l14 => k_is); (case c14 => k_is); (case k14 => k_is)
    (case a15 => k_is); (case l15 => k_is); (case c15 => k_is); (case k15 => k_is)
    (case a16 => k_is); (case l16 => k_is); (case c16 => k_is); (case k16 => k_is)
    (case a18 => k_is); (case l18 => k_is); (case c18 => k_is); (case k18 => k_is)
    (case a19 => k_is); (case l19 => k_is); (case c19 => k_is); (case k19 => k_is)
    (case a20 => k_is); (case l20 => k_is); (case c20 => k_is); (case k20 => k_is)
    (case a23 => k_is); (case l23 => k_is); (case c23 => k_is); (case k23 => k_is)
    (case a24 => k_is); (case l24 => k_is); (case c24 => k_is); (case k24 => k_is)
    (case a25 => k_is); (case l25 => k_is); (case c25 => k_is); (case k25 => k_is)
    (case a26 => k_is); (case l26 => k_is); (case c26 => k_is); (case k26 => k_is)
    (case a27 => k_is); (case l27 => k_is); (case c27 => k_is); (case k27 => k_is)
    (case a28 => k_is); (case l28 => k_is); (case c28 => k_is); (case k28 => k_is)
    (case a30 => k_is); (case l30 => k_is); (case c30 => k_is); (case k30 => k_is)
    (case a32 => k_is); (case l32 => k_is); (case c32 => k_is); (case k32 => k_is)
    (case a34 => k_is); (case l34 => k_is); (case c34 => k_is); (case k34 => k_is)
    (case a36 => k_is); (case l36 => k_is); (case c36 => k_is); (case k36 => k_is)
    (case a37 => k_is); (case l37 => k_is); (case c37 => k_is); (case k37 => k_is)
    (case a38 => k_is); (case l38 => k_is); (case c38 => k_is); (case k38 => k_is)
    (case a39 => k_is); (case l39 => k_is); (case c39 => k_is); (case k39 => k_is)
    (case a40 => k_is); (case l40 => k_is); (case c40 => k_is); (case k40 => k_is)
    (case a42 => k_is); (case l42 => k_is); (case c42 => k_is); (case k42 => k_is)
    (case a43 => k_is); (case l43 => k_is); (case c43 => k_is); (case k43 => k_is)
    (case a44 => k_is); (case l44 => k_is); (case c44 => k_is); (case k44 => k_is)
    (case a45 => k_is); (case l45 => k_is); (case c45 => k_is); (case k45 => k_is)
    (case a46 => k_is); (case l46 => k_is); (case c46 => k_is); (case k46 => k_is)
    (case a47 => k_is); (case l47 => k_is); (case c47 => k_is); (case k47 => k_is)
    (case a48 => k_is); (case l48 => k_is); (case c48 => k_is); (case k48 => k_is)
    (case a49 => k_is); (case l49 => k_is); (case c49 => k_is); (case k49 => k_is)
    (case a50 => k_is); (case l50 => k_is); (case c50 => k_is); (case k50 => k_is)
    (case a51 => k_is); (case l51 => k_is); (case c51 => k_is); (case k51 => k_is)
    (case a52 => k_is); (case l52 => k_is); (case c52 => k_is); (case k52 => k_is)
    (case a53 => k_is); (case l53 => k_is); (case c53 => k_is); (case k53 => k_is)
    (case ns_Search => k_is)
    (case a30000 => k_is); (case i30000 => k_is); (case l30000 => k_is); (case c30000 => k_is); (case k30000 => k_is)
    (case a30001 => k_is); (case i30001 => k_is); (case l30001 => k_is); (case c30001 => k_is); (case k30001 => k_is)
    (case op_Search => k_is)
    (case oh_Search => k_is)
    (case oo_Search => k_is)
    (case os_Search => k_is)
    (case om_Search => k_is)
    (case ok_Search => k_is)
    (case of_Search_pairs => k_is)
    (case of_Search_strength => k_is)
    (case of_Search_many => k_is)
    (case of_Search_looks => k_is)
    (case kc_MOST_SEARCHED => k_is)
    (case z_all => k_is)
    (case z_enumerate => k_is)
    (case z_int => k_is)
    (case z_isinstance => k_is)
    (case z_len => k_is)
    (case z_list => k_is)
    (case z_max => k_is)
    (case z_min => k_is)
    (case z_range => k_is)
    (case z_set => k_is)
    (case z_sorted => k_is)
    (case z_sum => k_is)
    (case z_tuple => k_is)
#print axioms PySem.Challenge.cw_farhail_k41_whole_floors_below_the_fewes_holds
