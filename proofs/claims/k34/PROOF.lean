import PyProof.Rows.All
import Wide.All
import OpenK.AllK
import Wide.FinOn
import HandS.ForMost
import HandS.Wide
import HandS.Walk
import HandS.Deep
import HandS.SortInts
import HandS.Flow
import HandS.IsInst
import PyProof.P3In
import HandS.TupSets
import HandS.Dict
import HandS.Conv
import HandS.SortRule
import KE.KIsAll
import HandS.Base
import HandS.Call
import HandS.Exc
import HandS.ExcOwn
import HandS.ExcIs
import HandS.ExcValue
import HandS.TryOnly
import HandS.WordsExc
import HandS.TupAny
import HandS.DictTup
import KE.KDictWalk
import HandS.Iter
import KE.IntBitsLaws
import PyProof.AutoSeq1
import HandS.NoneIn
import HandS.SetFor
import HandS.Strs
import HandS.More
import HandS.CallLocal
import PySem.Challenge.RW_farhail_k34_whole_shapes_are_webs
set_option Elab.async false
set_option linter.all false
set_option maxRecDepth 100000
set_option maxHeartbeats 4000000
/-! Z0: results with refusals, data as it stands in a heap, the heap in a frozen part and cells of one's own -/
namespace Z
open PySem L2

abbrev Fg := PySem.W.Frag

/-! ### results -/
structure Exn where
  cls : Str
  arg : Int
  deriving DecidableEq

inductive R (α : Type) where
  | ok (a : α)
  | exc (e : Exn)
  | bad

def R.bind {α β : Type} (m : R α) (f : α → R β) : R β :=
  match m with
  | .ok a => f a
  | .exc e => .exc e
  | .bad => .bad
instance : Monad R where
  pure := R.ok
  bind := R.bind
section
variable {α β γ : Type}
theorem ok_bind (a : α) (f : α → R β) : (R.ok a >>= f) = f a := rfl
theorem pure_bind' (a : α) (f : α → R β) : ((pure a : R α) >>= f) = f a := rfl
theorem exc_bind (e : Exn) (f : α → R β) : ((R.exc e : R α) >>= f) = R.exc e := rfl
theorem bad_bind (f : α → R β) : ((R.bad : R α) >>= f) = R.bad := rfl
theorem pure_ok (a : α) : (pure a : R α) = R.ok a := rfl
theorem bind_bind (m : R α) (f : α → R β) (g : β → R γ) : ((m >>= f) >>= g) = (m >>= fun a => f a >>= g) := by
  cases m <;> rfl
theorem bind_ok_iff {m : R α} {f : α → R β} {b : β} : (m >>= f) = R.ok b ↔ ∃ a, m = R.ok a ∧ f a = R.ok b := by
  cases m with
  | ok a => exact ⟨fun h => ⟨a, rfl, h⟩, fun ⟨_, h1, h2⟩ => by cases h1; exact h2⟩
  | exc e => exact ⟨fun h => (nomatch (show R.exc e = R.ok b from h)), fun ⟨_, h1, _⟩ => nomatch h1⟩
  | bad => exact ⟨fun h => (nomatch (show R.bad = R.ok b from h)), fun ⟨_, h1, _⟩ => nomatch h1⟩
def grd (b : Bool) : R Unit := if b = true then .ok () else .bad
theorem grd_t {b : Bool} (h : b = true) : grd b = R.ok () := by rw [h]; rfl
def ofO (o : Option α) : R α :=
  match o with
  | some a => .ok a
  | none => .bad
theorem ofO_some (a : α) : ofO (some a) = R.ok a := rfl
/-- the item at an index of any sign -/
def getI (xs : List α) (i : Int) : R α := ofO (atI xs i)
/-- the list with another item at an index -/
def setI (xs : List α) (i : Int) (x : α) : R (List α) :=
  match ixN xs.length i with
  | some j => .ok (xs.set j x)
  | none => .bad
/-- a list of at most a thousand items grows by one -/
def app (xs : List α) (x : α) : R (List α) := if xs.length < 100000 then .ok (xs ++ [x]) else .bad
def extend (xs ys : List α) : R (List α) := if xs.length + ys.length < 100000 then .ok (xs ++ ys) else .bad
@[irreducible] def mulI (i j : Int) : R Int := if (-(2 ^ 64) < i ∧ i < 2 ^ 64) ∨ (-(2 ^ 64) < j ∧ j < 2 ^ 64) then .ok (i * j) else .bad
@[irreducible] def modI (i j : Int) : R Int := if 0 < j then .ok (i % j) else .bad
@[irreducible] def divI (i j : Int) : R Int := if 0 < j ∧ j.natAbs.log2 < 9000 then .ok (i / j) else .bad
@[irreducible] def powI (i j : Int) : R Int := if 0 ≤ j ∧ j ≤ 1000000 ∧ i.natAbs < 2 ^ 64 then .ok (i ^ j.toNat) else .bad
/-- the ints from i on below j -/
def rng (i j : Int) : List Int := (List.range (j - i).toNat).map fun (k : Nat) => i + (k : Int)
@[irreducible] def rngI (i j : Int) : R (List Int) := if -(2 ^ 62) ≤ i ∧ i < 2 ^ 62 ∧ -(2 ^ 62) ≤ j ∧ j < 2 ^ 62 then .ok (rng i j) else .bad
/-- items for items -/
def mapR (f : α → R β) : List α → R (List β)
  | [] => .ok []
  | x :: xs => do
    let y ← f x
    let ys ← mapR f xs
    pure (y :: ys)
/-- a fold whose turn may leave -/
def foldR (f : β → α → R β) : β → List α → R β
  | s, [] => .ok s
  | s, x :: xs => f s x >>= fun s' => foldR f s' xs
/-- a fold whose turn may end the whole with a value (inl), or the loop alone (inr inl) -/
def foldX {ρ : Type} (f : β → α → R (Sum ρ (Bool × β))) : β → List α → R (Sum ρ β)
  | s, [] => .ok (.inr s)
  | s, x :: xs => f s x >>= fun r =>
    match r with
    | .inl z => .ok (.inl z)
    | .inr (true, s') => foldX f s' xs
    | .inr (false, s') => .ok (.inr s')
/-- what holds of a result -/
def Post (m : R α) (P : α → Prop) (E : Exn → Prop) : Prop :=
  match m with
  | .ok a => P a
  | .exc e => E e
  | .bad => False
variable {P P' : α → Prop} {Q : β → Prop} {E E' : Exn → Prop}
theorem Post.mono {m : R α} (h : Post m P E) (hP : ∀ a, P a → P' a) (hE : ∀ e, E e → E' e) : Post m P' E' := by
  cases m with
  | ok a => exact hP a h
  | exc e => exact hE e h
  | bad => exact h
theorem post_bind {m : R α} {f : α → R β} (h : Post (m >>= f) Q E) : Post m (fun a => Post (f a) Q E) E := by
  cases m <;> exact h
theorem post_ok {a : α} (h : Post (R.ok a) P E) : P a := h
theorem pb_ok {a : α} {f : α → R β} (h : Post (R.ok a >>= f) Q E) : Post (f a) Q E := h
theorem pb_pure {a : α} {f : α → R β} (h : Post ((pure a : R α) >>= f) Q E) : Post (f a) Q E := h
theorem pb_assoc {m : R α} {f : α → R β} {g : β → R γ} {Q : γ → Prop} (h : Post ((m >>= f) >>= g) Q E) : Post (m >>= fun a => f a >>= g) Q E := by
  rw [bind_bind] at h
  exact h
theorem pb_grd {b : Bool} {f : Unit → R β} (h : Post (grd b >>= f) Q E) : b = true ∧ Post (f ()) Q E := by
  cases b with
  | true => exact ⟨rfl, h⟩
  | false => exact (show False from h).elim
theorem pb_ofO {o : Option α} {f : α → R β} (h : Post (ofO o >>= f) Q E) : ∃ a, o = some a ∧ Post (f a) Q E := by
  cases o with
  | some a => exact ⟨a, rfl, h⟩
  | none => exact (show False from h).elim
theorem pb_get {xs : List α} {i : Int} {f : α → R β} (h : Post (getI xs i >>= f) Q E) : ∃ a, atI xs i = some a ∧ Post (f a) Q E := pb_ofO h
theorem pb_set {xs : List α} {i : Int} {x : α} {f : List α → R β} (h : Post (setI xs i x >>= f) Q E) : ∃ j, ixN xs.length i = some j ∧ Post (f (xs.set j x)) Q E := by
  unfold setI at h
  cases e : ixN xs.length i with
  | some j => rw [e] at h; exact ⟨j, rfl, h⟩
  | none => rw [e] at h; exact (show False from h).elim
theorem pb_if {c : Prop} [Decidable c] {a : α} {f : α → R β} (h : Post ((if c then R.ok a else R.bad) >>= f) Q E) : c ∧ Post (f a) Q E := by
  by_cases hc : c
  · rw [if_pos hc] at h
    exact ⟨hc, h⟩
  · rw [if_neg hc] at h
    exact (show False from h).elim
theorem line5 : 100000 ≤ sizeLine := by decide
theorem pb_app {xs : List α} {x : α} {f : List α → R β} (h : Post (app xs x >>= f) Q E) : xs.length < sizeLine ∧ Post (f (xs ++ [x])) Q E :=
  let ⟨a, b⟩ := pb_if h
  ⟨Nat.lt_of_lt_of_le a line5, b⟩
theorem pb_extend {xs ys : List α} {f : List α → R β} (h : Post (extend xs ys >>= f) Q E) : xs.length + ys.length ≤ sizeLine ∧ Post (f (xs ++ ys)) Q E :=
  let ⟨a, b⟩ := pb_if h
  ⟨Nat.le_of_lt (Nat.lt_of_lt_of_le a line5), b⟩
theorem pb_mul {i j : Int} {f : Int → R β} (h : Post (mulI i j >>= f) Q E) : CMul i j ∧ Post (f (i * j)) Q E := by
  unfold mulI at h
  exact let ⟨a, b⟩ := pb_if (c := (-(2 ^ 64) < i ∧ i < 2 ^ 64) ∨ (-(2 ^ 64) < j ∧ j < 2 ^ 64)) h
  ⟨a, b⟩
theorem pb_mod {i j : Int} {f : Int → R β} (h : Post (modI i j >>= f) Q E) : 0 < j ∧ Post (f (i % j)) Q E := by
  unfold modI at h
  exact pb_if h
theorem pb_div {i j : Int} {f : Int → R β} (h : Post (divI i j >>= f) Q E) : CDivW i j ∧ Post (f (i / j)) Q E := by
  unfold divI at h
  exact let ⟨a, b⟩ := pb_if (c := 0 < j ∧ j.natAbs.log2 < 9000) h
  ⟨a, b⟩
theorem pb_pow {i j : Int} {f : Int → R β} (h : Post (powI i j >>= f) Q E) : CPow i j ∧ Post (f (i ^ j.toNat)) Q E := by
  unfold powI at h
  exact let ⟨a, b⟩ := pb_if (c := 0 ≤ j ∧ j ≤ 1000000 ∧ i.natAbs < 2 ^ 64) h
  ⟨a, b⟩
theorem pb_rng {i j : Int} {f : List Int → R β} (h : Post (rngI i j >>= f) Q E) : (-(2 ^ 62) ≤ i ∧ i < 2 ^ 62 ∧ -(2 ^ 62) ≤ j ∧ j < 2 ^ 62) ∧ Post (f (rng i j)) Q E := by
  unfold rngI at h
  exact pb_if h
theorem post_ite {c : Bool} {m n : R α} {A B : Prop} (h : Post (if c = true then m else n) P E) (ht : c = true → Post m P E → A) (hf : c = false → Post n P E → B) : if c = true then A else B := by
  cases c with
  | true => exact ht rfl h
  | false => exact hf rfl h
theorem post_ite2 {c : Bool} {m n : R α} {A : Prop} (h : Post (if c = true then m else n) P E) (ht : c = true → Post m P E → A) (hf : c = false → Post n P E → A) : A := by
  cases c with
  | true => exact ht rfl h
  | false => exact hf rfl h
theorem pb_ite {c : Bool} {m n : R α} {f : α → R β} (h : Post ((if c = true then m else n) >>= f) Q E) : Post (if c = true then m >>= f else n >>= f) Q E := by
  cases c <;> exact h
theorem pb_foldR {f : γ → α → R γ} {s : γ} {x : α} {xs : List α} {g : γ → R β} (h : Post (foldR f s (x :: xs) >>= g) Q E) : Post (f s x >>= fun s' => foldR f s' xs >>= g) Q E := by
  have h' : Post ((f s x >>= fun s' => foldR f s' xs) >>= g) Q E := h
  rw [bind_bind] at h'
  exact h'
end

/-! ### lists of values and what they stand for -/
inductive A2 {α : Type} (r : V → α → Prop) : List V → List α → Prop
  | nil : A2 r [] []
  | cons {v : V} {x : α} {vs : List V} {xs : List α} : r v x → A2 r vs xs → A2 r (v :: vs) (x :: xs)
section
variable {α : Type} {r r' : V → α → Prop} {vs us : List V} {xs ys : List α} {v : V} {x : α}
theorem A2.length : ∀ {vs : List V} {xs : List α}, A2 r vs xs → vs.length = xs.length
  | _, _, .nil => rfl
  | _, _, .cons _ t => by rw [List.length_cons, List.length_cons, A2.length t]
theorem A2.imp (f : ∀ v x, r v x → r' v x) : ∀ {vs : List V} {xs : List α}, A2 r vs xs → A2 r' vs xs
  | _, _, .nil => .nil
  | _, _, .cons h t => .cons (f _ _ h) (A2.imp f t)
theorem A2.append : ∀ {vs us : List V} {xs ys : List α}, A2 r vs xs → A2 r us ys → A2 r (vs ++ us) (xs ++ ys)
  | _, _, _, _, .nil, h => h
  | _, _, _, _, .cons a t, h => .cons a (A2.append t h)
theorem A2.snoc (h : A2 r vs xs) (a : r v x) : A2 r (vs ++ [v]) (xs ++ [x]) := h.append (.cons a .nil)
theorem A2.get : ∀ {vs : List V} {xs : List α} {i : Nat} {x : α}, A2 r vs xs → xs[i]? = some x → ∃ v, vs[i]? = some v ∧ r v x
  | _, _, _, _, .nil, e => by simp at e
  | _, _, 0, _, .cons a _, e => by simp at e; subst e; exact ⟨_, rfl, a⟩
  | _, _, i + 1, x, .cons _ t, e => by
    obtain ⟨v, h1, h2⟩ := A2.get (i := i) (x := x) t (by simpa using e)
    exact ⟨v, by simpa using h1, h2⟩
theorem A2.getV : ∀ {vs : List V} {xs : List α} {i : Nat} {v : V}, A2 r vs xs → vs[i]? = some v → ∃ x, xs[i]? = some x ∧ r v x
  | _, _, _, _, .nil, e => by simp at e
  | _, _, 0, _, .cons a _, e => by simp at e; subst e; exact ⟨_, rfl, a⟩
  | _, _, i + 1, x, .cons _ t, e => by
    obtain ⟨v, h1, h2⟩ := A2.getV (i := i) (v := x) t (by simpa using e)
    exact ⟨v, by simpa using h1, h2⟩
theorem A2.at {i : Int} (h : A2 r vs xs) (e : atI xs i = some x) : ∃ v, atI vs i = some v ∧ r v x := by
  unfold atI at e ⊢
  rw [h.length]
  cases q : ixN xs.length i with
  | none => rw [q] at e; cases e
  | some j =>
    rw [q] at e
    exact h.get e
theorem A2.set (a : r v x) : ∀ {vs : List V} {xs : List α} (i : Nat), A2 r vs xs → A2 r (vs.set i v) (xs.set i x)
  | _, _, _, .nil => .nil
  | _, _, 0, .cons _ t => .cons a t
  | _, _, i + 1, .cons q t => .cons q (A2.set a i t)
theorem A2.take : ∀ {vs : List V} {xs : List α} (n : Nat), A2 r vs xs → A2 r (vs.take n) (xs.take n)
  | _, _, 0, _ => .nil
  | _, _, _ + 1, .nil => .nil
  | _, _, n + 1, .cons a t => .cons a (A2.take n t)
theorem A2.drop : ∀ {vs : List V} {xs : List α} (n : Nat), A2 r vs xs → A2 r (vs.drop n) (xs.drop n)
  | _, _, 0, h => h
  | _, _, _ + 1, .nil => .nil
  | _, _, n + 1, .cons _ t => A2.drop n t
theorem A2.reverse : ∀ {vs : List V} {xs : List α}, A2 r vs xs → A2 r vs.reverse xs.reverse
  | _, _, .nil => .nil
  | _, _, .cons a t => by
    rw [List.reverse_cons, List.reverse_cons]
    exact (A2.reverse t).snoc a
theorem A2.eraseIdx : ∀ {vs : List V} {xs : List α} (i : Nat), A2 r vs xs → A2 r (vs.eraseIdx i) (xs.eraseIdx i)
  | _, _, _, .nil => .nil
  | _, _, 0, .cons _ t => t
  | _, _, i + 1, .cons a t => .cons a (A2.eraseIdx i t)
theorem A2.dropLast : ∀ {vs : List V} {xs : List α}, A2 r vs xs → A2 r vs.dropLast xs.dropLast
  | _, _, .nil => .nil
  | _, _, .cons _ .nil => .nil
  | _, _, .cons a (.cons b t) => .cons a (A2.dropLast (.cons b t))
theorem A2.repl {n : Nat} (a : r v x) : A2 r (List.replicate n v) (List.replicate n x) := by
  induction n with
  | zero => exact .nil
  | succ n ih => exact .cons a ih
end

/-! ### data in a heap -/
theorem Same.seqT {K : Fg} {H H' : Hp} {a : Addr} {xs : List V} (e : Same H H') (h : SqT K H a xs) : SqT K H' a xs := by
  rcases h with (h | ⟨o, h⟩) | h
  · exact .inl (.inl (e _ _ h))
  · exact .inl (.inr ⟨o, e _ _ h⟩)
  · exact .inr h
class Rep (α : Type) where
  rep : Fg → Hp → V → α → Prop
  mono : ∀ {K : Fg} {H H' : Hp} {v : V} {x : α}, Same H H' → rep K H v x → rep K H' v x
open Rep (rep)
section
variable {α β : Type} [Rep α] [Rep β] {K : Fg} {H H' : Hp} {v : V}
theorem A2.mono {vs : List V} {xs : List α} (s : Same H H') (h : A2 (rep K H) vs xs) : A2 (rep K H') vs xs := h.imp fun _ _ => Rep.mono s
instance : Rep Int := ⟨fun _ _ v x => v = .int x, fun _ h => h⟩
instance : Rep Bool := ⟨fun _ _ v x => v = .bl x, fun _ h => h⟩
instance : Rep Unit := ⟨fun _ _ v _ => v = .non, fun _ h => h⟩
instance : Rep Str := ⟨fun _ _ v x => v = .str x, fun _ h => h⟩
instance repOpt : Rep (Option α) := ⟨fun K H v x => match x with
  | none => v = .non
  | some y => rep K H v y, fun {_ _ _ _ x} s h => by
    cases x with
    | none => exact h
    | some y => exact Rep.mono (α := α) s h⟩
instance repPair : Rep (α × β) := ⟨fun K H v x => ∃ a u w, v = .ref a ∧ H a = some (.tup [u, w]) ∧ rep K H u x.1 ∧ rep K H w x.2,
  fun s ⟨a, u, w, e, q, h1, h2⟩ => ⟨a, u, w, e, s _ _ q, Rep.mono s h1, Rep.mono s h2⟩⟩
instance repList : Rep (List α) := ⟨fun K H v xs => ∃ a vs, v = .ref a ∧ H a = some (.lst vs) ∧ A2 (rep K H) vs xs,
  fun s ⟨a, vs, e, q, h⟩ => ⟨a, vs, e, s _ _ q, h.mono s⟩⟩
/-- the script -/
structure Scr where
  l : List Int
  deriving DecidableEq
instance repScr : Rep Scr := ⟨fun K H v xs => ∃ a, v = .ref a ∧ SqL K H a (xs.l.map V.int), fun s ⟨a, e, q⟩ => ⟨a, e, s.seq q⟩⟩
/-- a tuple of any number of like things -/
structure Tup (α : Type) where
  l : List α
  deriving DecidableEq
instance repTup : Rep (Tup α) := ⟨fun K H v xs => ∃ a vs, v = .ref a ∧ H a = some (.tup vs) ∧ A2 (rep K H) vs xs.l,
  fun s ⟨a, vs, e, q, h⟩ => ⟨a, vs, e, s _ _ q, h.mono s⟩⟩
/-- a place, or a pair -/
inductive Thing where
  | pl (i : Int)
  | ti (a b : Int)
  deriving DecidableEq
instance repThing : Rep Thing := ⟨fun K H v x => match x with
  | .pl i => v = .int i
  | .ti a b => rep K H v (a, b), fun {_ _ _ _ x} s h => by
    cases x with
    | pl i => exact h
    | ti a b => exact Rep.mono (α := Int × Int) s h⟩
theorem A2.ints {vs : List V} {xs : List Int} (h : A2 (rep K H) vs xs) : vs = xs.map V.int := by
  induction h with
  | nil => rfl
  | cons a _ ih =>
    have a' : _ = V.int _ := a
    rw [a', ih]
    rfl
theorem A2.of_ints {xs : List Int} : A2 (rep K H) (xs.map V.int) xs := by
  induction xs with
  | nil => exact .nil
  | cons x xs ih => exact .cons rfl ih
theorem A2.bools {vs : List V} {xs : List Bool} (h : A2 (rep K H) vs xs) : vs = xs.map V.bl := by
  induction h with
  | nil => rfl
  | cons a _ ih =>
    have a' : _ = V.bl _ := a
    rw [a', ih]
    rfl
end

/-! ### the heap: F, frozen, is read alone; the cells os are one's own, not in F -/
structure W (F H : Hp) (os : List (Addr × HO)) : Prop where
  same : Same F H
  own : ∀ p ∈ os, H p.1 = some p.2 ∧ F p.1 = none
  nd : os.Pairwise fun p q => p.1 ≠ q.1
  nt : ∀ p ∈ os, ∀ vs, p.2 ≠ .tup vs
theorem same_new {H : Hp} {p : Addr} {o : HO} (h : H p = none) : Same H (upd H p o) := fun a u e => by
  rw [upd_ne (ne_of_none e h)]
  exact e
section
variable {F H : Hp} {os pre post : List (Addr × HO)} {a p : Addr} {o o' : HO}
theorem W.free (w : W F H os) (n : H p = none) : F p = none := w.same.free n
theorem W.get (w : W F H (pre ++ (a, o) :: post)) : H a = some o := (w.own (a, o) (List.mem_append_right _ List.mem_cons_self)).1
theorem W.no (w : W F H (pre ++ (a, o) :: post)) : F a = none := (w.own (a, o) (List.mem_append_right _ List.mem_cons_self)).2
theorem W.ne (w : W F H os) (n : H p = none) : ∀ q ∈ os, q.1 ≠ p := fun q hq e => by
  have h := (w.own q hq).1
  rw [e, n] at h
  cases h
/-- a new thing, never to be written -/
theorem W.frz (w : W F H os) (n : H p = none) : W (upd F p o) (upd H p o) os where
  same := fun b u e => by
    by_cases hb : b = p
    · subst hb
      rw [upd_same] at e ⊢
      exact e
    · rw [upd_ne hb] at e ⊢
      exact w.same b u e
  own := fun q hq => by
    have hne := w.ne n q hq
    rw [upd_ne hne, upd_ne hne]
    exact w.own q hq
  nd := w.nd
  nt := w.nt
theorem W.frzS (w : W F H os) (n : H p = none) : Same F (upd F p o) := same_new (w.free n)
/-- a new cell of one's own -/
theorem W.new (w : W F H os) (n : H p = none) (ho : ∀ vs, o ≠ .tup vs := by exact fun _ h => nomatch h) : W F (upd H p o) ((p, o) :: os) where
  same := w.same.trans (same_new n)
  own := fun q hq => by
    rcases List.mem_cons.mp hq with rfl | hq
    · exact ⟨upd_same, w.free n⟩
    · rw [upd_ne (w.ne n q hq)]
      exact w.own q hq
  nd := List.pairwise_cons.mpr ⟨fun q hq => fun e => w.ne n q hq e.symm, w.nd⟩
  nt := fun q hq => by
    rcases List.mem_cons.mp hq with rfl | hq
    · exact ho
    · exact w.nt q hq
/-- a cell of one's own is written -/
theorem W.set (w : W F H (pre ++ (a, o) :: post)) (ho : ∀ vs, o' ≠ .tup vs := by exact fun _ h => nomatch h) : W F (upd H a o') (pre ++ (a, o') :: post) where
  same := fun b u e => by
    have hn := w.no
    rw [upd_ne (ne_of_none e hn)]
    exact w.same b u e
  own := fun q hq => by
    have nd := w.nd
    rw [List.pairwise_append] at nd
    obtain ⟨_, n2, n3⟩ := nd
    rw [List.pairwise_cons] at n2
    rcases List.mem_append.mp hq with hq | hq
    · have hne : q.1 ≠ a := n3 q hq (a, o) List.mem_cons_self
      rw [upd_ne hne]
      exact w.own q (List.mem_append_left _ hq)
    · rcases List.mem_cons.mp hq with rfl | hq
      · exact ⟨upd_same, w.no⟩
      · have hne : q.1 ≠ a := fun e => n2.1 q hq e.symm
        rw [upd_ne hne]
        exact w.own q (List.mem_append_right _ (List.mem_cons_of_mem _ hq))
  nd := by
    have nd := w.nd
    rw [List.pairwise_append] at nd ⊢
    obtain ⟨n1, n2, n3⟩ := nd
    rw [List.pairwise_cons] at n2 ⊢
    refine ⟨n1, ⟨n2.1, n2.2⟩, fun x hx y hy => ?_⟩
    rcases List.mem_cons.mp hy with rfl | hy
    · exact n3 x hx (a, o) List.mem_cons_self
    · exact n3 x hx y (List.mem_cons_of_mem _ hy)
  nt := fun q hq => by
    rcases List.mem_append.mp hq with hq | hq
    · exact w.nt q (List.mem_append_left _ hq)
    · rcases List.mem_cons.mp hq with rfl | hq
      · exact ho
      · exact w.nt q (List.mem_append_right _ (List.mem_cons_of_mem _ hq))
/-- a cell is forgotten -/
theorem W.drop (w : W F H (pre ++ (a, o) :: post)) : W F H (pre ++ post) where
  same := w.same
  own := fun q hq => w.own q (by
    rcases List.mem_append.mp hq with h | h
    · exact List.mem_append_left _ h
    · exact List.mem_append_right _ (List.mem_cons_of_mem _ h))
  nd := by
    have nd := w.nd
    rw [List.pairwise_append] at nd ⊢
    obtain ⟨n1, n2, n3⟩ := nd
    rw [List.pairwise_cons] at n2
    exact ⟨n1, n2.2, fun x hx y hy => n3 x hx y (List.mem_cons_of_mem _ hy)⟩
  nt := fun q hq => w.nt q (by
    rcases List.mem_append.mp hq with h | h
    · exact List.mem_append_left _ h
    · exact List.mem_append_right _ (List.mem_cons_of_mem _ h))
/-- a cell of one's own is never written again -/
theorem W.freeze (w : W F H (pre ++ (a, o) :: post)) : W (upd F a o) H (pre ++ post) where
  same := fun b u e => by
    by_cases hb : b = a
    · subst hb
      rw [upd_same] at e
      rw [← e]
      exact w.get
    · rw [upd_ne hb] at e
      exact w.same b u e
  own := fun q hq => by
    have nd := w.nd
    rw [List.pairwise_append] at nd
    obtain ⟨n1, n2, n3⟩ := nd
    rw [List.pairwise_cons] at n2
    have hne : q.1 ≠ a := by
      rcases List.mem_append.mp hq with h | h
      · exact n3 q h (a, o) List.mem_cons_self
      · exact fun e => n2.1 q h e.symm
    have h := w.drop.own q hq
    rw [upd_ne hne]
    exact h
  nd := w.drop.nd
  nt := w.drop.nt
theorem W.freezeS (w : W F H (pre ++ (a, o) :: post)) : Same F (upd F a o) := same_new w.no
/-- a cell is told first -/
theorem W.front (w : W F H (pre ++ (a, o) :: post)) : W F H ((a, o) :: (pre ++ post)) where
  same := w.same
  own := fun x hx => w.own x (by
    rcases List.mem_cons.mp hx with rfl | h
    · exact List.mem_append_right _ List.mem_cons_self
    · rcases List.mem_append.mp h with h | h
      · exact List.mem_append_left _ h
      · exact List.mem_append_right _ (List.mem_cons_of_mem _ h))
  nd := by
    have nd := w.nd
    have nd' := w.drop.nd
    rw [List.pairwise_append] at nd
    obtain ⟨n1, n2, n3⟩ := nd
    rw [List.pairwise_cons] at n2
    refine List.pairwise_cons.mpr ⟨fun x hx => ?_, nd'⟩
    rcases List.mem_append.mp hx with h | h
    · exact fun e => n3 x h (a, o) List.mem_cons_self e.symm
    · exact n2.1 x h
  nt := fun x hx => w.nt x (by
    rcases List.mem_cons.mp hx with rfl | h
    · exact List.mem_append_right _ List.mem_cons_self
    · rcases List.mem_append.mp h with h | h
      · exact List.mem_append_left _ h
      · exact List.mem_append_right _ (List.mem_cons_of_mem _ h))
end

/-! ### what a call hands back -/
section
variable {α β : Type} [Rep α] [Rep β]
/-- a value of the frozen part -/
def Ret (K : Fg) (F : Hp) (os : List (Addr × HO)) (Q : VK) (y : α) : Prop := ∀ v F' H', W F' H' os → Same F F' → rep K F' v y → Q v H'
/-- a new list, the caller's own -/
def RetL (K : Fg) (F : Hp) (os : List (Addr × HO)) (Q : VK) (ys : List α) : Prop := ∀ p vs F' H', W F' H' ((p, .lst vs) :: os) → Same F F' → A2 (rep K F') vs ys → Q (.ref p) H'
/-- a value, and what the list at a holds now -/
def RetM (K : Fg) (F : Hp) (a : Addr) (os : List (Addr × HO)) (Q : VK) (y : α × List β) : Prop :=
  ∀ v vs F' H', W F' H' ((a, .lst vs) :: os) → Same F F' → rep K F' v y.1 → A2 (rep K F') vs y.2 → Q v H'
/-- a new list, the caller's own, and what the list at a holds now -/
def RetLM (K : Fg) (F : Hp) (a : Addr) (os : List (Addr × HO)) (Q : VK) (y : List α × List β) : Prop :=
  ∀ p us vs F' H', W F' H' ((p, .lst us) :: (a, .lst vs) :: os) → Same F F' → A2 (rep K F') us y.1 → A2 (rep K F') vs y.2 → Q (.ref p) H'
def noX : Exn → Prop := fun _ => False
end
end Z
/-! Z1: loops, comprehensions and joins against their mirrors; calls by typed data -/
namespace Z
open PySem L2
open Rep (rep)

/-! ### ways that join -/
section
variable {γ δ : Type} {m : R γ} {k : γ → R δ} {P : δ → Prop} {X : Exn → Prop}
theorem joinS {t u : TS} {D : Ends} {σ : St} {H : Hp} (hm : Post (m >>= k) P X) (J : γ → St → Hp → Prop)
    (h : ∀ (N : St → Hp → Prop) (P' : γ → Prop), (∀ g, P' g → ∀ σ' H', J g σ' H' → N σ' H') → Post m P' X → t { D with nx := N } σ H)
    (h2 : ∀ g σ' H', J g σ' H' → Post (k g) P X → u D σ' H') : tSeq t u D σ H :=
  h _ _ (fun g p σ' H' j => h2 g σ' H' j p) (post_bind hm)
theorem joinT {t : TT} {σ : St} {H : Hp} {Q : Bool → Hp → Prop} (hm : Post (m >>= k) P X) (J : γ → Bool → Hp → Prop)
    (h : ∀ (Q' : Bool → Hp → Prop) (P' : γ → Prop), (∀ g, P' g → ∀ c H', J g c H' → Q' c H') → Post m P' X → t σ H Q')
    (h2 : ∀ g c H', J g c H' → Post (k g) P X → Q c H') : t σ H Q :=
  h _ _ (fun g p c H' j => h2 g c H' j p) (post_bind hm)
theorem joinE {t : TE} {σ : St} {H : Hp} {Q : VK} (hm : Post (m >>= k) P X) (J : γ → V → Hp → Prop)
    (h : ∀ (Q' : VK) (P' : γ → Prop), (∀ g, P' g → ∀ c H', J g c H' → Q' c H') → Post m P' X → t σ H Q')
    (h2 : ∀ g c H', J g c H' → Post (k g) P X → Q c H') : t σ H Q :=
  h _ _ (fun g p c H' j => h2 g c H' j p) (post_bind hm)
/-- a test of a value that is told -/
theorem cutT {t : TT} {σ : St} {H : Hp} {Q : Bool → Hp → Prop} (J : Bool → Hp → Prop) (h : ∀ Q' : Bool → Hp → Prop, (∀ c H', J c H' → Q' c H') → t σ H Q') (h2 : ∀ c H', J c H' → Q c H') : t σ H Q := h _ h2
theorem cutE {t : TE} {σ : St} {H : Hp} {Q : VK} (J : V → Hp → Prop) (h : ∀ Q' : VK, (∀ c H', J c H' → Q' c H') → t σ H Q') (h2 : ∀ c H', J c H' → Q c H') : t σ H Q := h _ h2
theorem ifB {c : Bool} {A B : Prop} (h1 : c = true → A) (h2 : c = false → B) : if c = true then A else B := by
  cases c with
  | true => exact h1 rfl
  | false => exact h2 rfl
end

/-! ### what is walked, typed -/
structure TW (J : It) {β : Type} (items : List β) (G : Hp → Prop) (Y : β → Hp → V → Hp → Prop) : Prop where
  walk : Walk J items.length G (fun i H x H' => ∃ b, items[i]? = some b ∧ Y b H x H')
section
variable {K : Fg} {F : Hp} {a : Addr} {α β : Type} [Rep α] [Rep β] {vs us : List V} {xs : List α} {ys : List β}
theorem tw_list (h : A2 (rep K F) vs xs) : TW (Itl K a) xs (fun H => SqL K H a vs) (fun b H x H' => H' = H ∧ rep K F x b) := ⟨by
  rw [← h.length]
  exact walk_list.mono (fun _ g => g) fun i H x H' _ _ y => by
    obtain ⟨y1, y2⟩ := y
    obtain ⟨b, h1, h2⟩ := h.getV y2
    exact ⟨b, h1, y1, h2⟩⟩
theorem tw_tup (h : A2 (rep K F) vs xs) : TW (Itt K a) xs (fun H => SqT K H a vs) (fun b H x H' => H' = H ∧ rep K F x b) := ⟨by
  rw [← h.length]
  exact walk_tup.mono (fun _ g => g) fun i H x H' _ _ y => by
    obtain ⟨y1, y2⟩ := y
    obtain ⟨b, h1, h2⟩ := h.getV y2
    exact ⟨b, h1, y1, h2⟩⟩
theorem rng_length (i j : Int) : (rng i j).length = (j - i).toNat := by
  unfold rng
  rw [List.length_map, List.length_range]
theorem rng_get {i j : Int} {n : Nat} (h : n < (j - i).toNat) : (rng i j)[n]? = some (i + (n : Int)) := by
  unfold rng
  rw [List.getElem?_map, List.getElem?_range h]
  rfl
theorem tw_rng {i j : Int} : TW (Itr i (j - i).toNat) (rng i j) (fun _ => True) (fun b H x H' => H' = H ∧ x = .int b) := ⟨by
  rw [rng_length]
  exact walk_range.mono (fun _ g => g) fun n H x H' hn _ y => ⟨_, rng_get hn, y.1, y.2⟩⟩
theorem tw_rng0 {j : Int} : TW (Itr 0 j.toNat) (rng 0 j) (fun _ => True) (fun b H x H' => H' = H ∧ x = .int b) := by
  have h := tw_rng (i := 0) (j := j)
  rw [Int.sub_zero] at h
  exact h
/-- pairs of a place and the item there -/
def enum (xs : List α) : List (Int × α) := (rng 0 xs.length).zip xs
theorem enum_length (xs : List α) : (enum xs).length = xs.length := by
  unfold enum
  rw [List.length_zip, rng_length]
  omega
theorem enum_get {xs : List α} {i : Nat} {x : α} (h : xs[i]? = some x) : (enum xs)[i]? = some ((i : Int), x) := by
  have hl := (List.getElem?_eq_some_iff.mp h).1
  unfold enum
  rw [List.getElem?_zip_eq_some]
  refine ⟨?_, h⟩
  rw [rng_get (by omega)]
  simp
theorem tw_enum (h : A2 (rep K F) vs xs) : TW (Ite K a) (enum xs) (fun H => SqL K H a vs) (fun b H v H' => ∃ T x, v = .ref T ∧ H T = none ∧ H' = upd H T (.tup [.int b.1, x]) ∧ rep K F x b.2) := ⟨by
  rw [enum_length, ← h.length]
  exact walk_enum.mono (fun _ g => g) fun i H x H' _ _ y => by
    obtain ⟨T, u, w, e1, e2, e3, e4, e5⟩ := y
    obtain ⟨b, h1, h2⟩ := h.getV e5
    cases e4
    exact ⟨((i : Int), b), enum_get h1, T, w, e1, e2, e3, h2⟩⟩
theorem tw_zip {b : Addr} (h : A2 (rep K F) vs xs) (h' : A2 (rep K F) us ys) : TW (Itz K a b) (xs.zip ys) (fun H => SqL K H a vs ∧ SqL K H b us) (fun p H v H' => ∃ T x y, v = .ref T ∧ H T = none ∧ H' = upd H T (.tup [x, y]) ∧ rep K F x p.1 ∧ rep K F y p.2) := ⟨by
  rw [List.length_zip, ← h.length, ← h'.length]
  exact (walk_zip rfl).mono (fun _ g => g) fun i H x H' _ _ y => by
    obtain ⟨T, u, w, e1, e2, e3, e4, e5⟩ := y
    obtain ⟨c, h1, h2⟩ := h.getV e4
    obtain ⟨d, h3, h4⟩ := h'.getV e5
    refine ⟨(c, d), ?_, T, u, w, e1, e2, e3, h2, h4⟩
    rw [List.getElem?_zip_eq_some]
    exact ⟨h1, h3⟩⟩
end

/-! ### for -/
section
variable {J : It} {β γ δ ρ : Type} {items : List β} {G : Hp → Prop} {Y : β → Hp → V → Hp → Prop} {g : TG} {tb : TS} {D : Ends} {σ : St} {H : Hp} {P : δ → Prop} {X : Exn → Prop}
theorem drop_cons {l : List β} {i : Nat} {b : β} (h : l[i]? = some b) : l.drop i = b :: l.drop (i + 1) := by
  obtain ⟨hl, e⟩ := List.getElem?_eq_some_iff.mp h
  rw [List.drop_eq_getElem_cons hl, e]
theorem forS (tw : TW J items G Y) {body : γ → β → R γ} {s0 : γ} {k : γ → R δ} (hm : Post (foldR body s0 items >>= k) P X) (I : γ → St → Hp → Prop) (h0 : I s0 σ H) (hG : ∀ c σ H, I c σ H → G H)
    (hs : ∀ (b : β) (c : γ) (x : V) (σ : St) (H H' : Hp) (N : St → Hp → Prop) (P' : γ → Prop), I c σ H → Y b H x H' → (∀ c', P' c' → ∀ σ' H', I c' σ' H' → N σ' H') → Post (body c b) P' X → g x σ H' fun σ2 H2 => tb { D with nx := N, ct := N, bk := D.nx } σ2 H2)
    (hd : ∀ c σ H, I c σ H → Post (k c) P X → D.nx σ H) :
    ∃ W : Nat → Nat → St → Hp → Prop, (∃ m, W 0 m σ H) ∧ ∀ i m σ H, W i m σ H →
      (J.stop i H ∧ D.nx σ H) ∨ (J.go i H ∧ ∃ N : St → Hp → Prop, (∀ σ' H', N σ' H' → ∃ m', m' < m ∧ W (i + 1) m' σ' H') ∧ ∀ x H', J.yld i H x H' → g x σ H' fun σ2 H2 => tb { D with nx := N, ct := N, bk := D.nx } σ2 H2) := by
  refine for_it tw.walk (fun i σ H => ∃ c, I c σ H ∧ Post (foldR body c (items.drop i) >>= k) P X) ⟨s0, h0, hm⟩ (fun i σ H _ ⟨c, h, _⟩ => hG c σ H h) ?_ ?_
  · rintro i x σ H H' hi ⟨c, h, hm⟩ ⟨b, hb, y⟩
    rw [drop_cons hb] at hm
    exact hs b c x σ H H' _ _ h y (fun c' p' σ' H' h' => ⟨c', h', p'⟩) (post_bind (pb_foldR hm))
  · rintro σ H ⟨c, h, hm⟩
    rw [List.drop_length] at hm
    exact hd c σ H h hm
/-- a for that may end the whole, or itself -/
theorem forX (tw : TW J items G Y) {body : γ → β → R (Sum ρ (Bool × γ))} {s0 : γ} {k : Sum ρ γ → R δ} (hm : Post (foldX body s0 items >>= k) P X) (I : γ → St → Hp → Prop) (h0 : I s0 σ H) (hG : ∀ c σ H, I c σ H → G H)
    (hs : ∀ (b : β) (c : γ) (x : V) (σ : St) (H H' : Hp) (N B : St → Hp → Prop) (P' : Sum ρ (Bool × γ) → Prop), I c σ H → Y b H x H' → (∀ c', P' (.inr (true, c')) → ∀ σ' H', I c' σ' H' → N σ' H') → (∀ c', P' (.inr (false, c')) → ∀ σ' H', I c' σ' H' → B σ' H') →
      (∀ z, P' (.inl z) → Post (k (.inl z)) P X) → Post (body c b) P' X → g x σ H' fun σ2 H2 => tb { D with nx := N, ct := N, bk := B } σ2 H2)
    (hd : ∀ c σ H, I c σ H → Post (k (.inr c)) P X → D.nx σ H) :
    ∃ W : Nat → Nat → St → Hp → Prop, (∃ m, W 0 m σ H) ∧ ∀ i m σ H, W i m σ H →
      (J.stop i H ∧ D.nx σ H) ∨ (J.go i H ∧ ∃ N : St → Hp → Prop, (∀ σ' H', N σ' H' → ∃ m', m' < m ∧ W (i + 1) m' σ' H') ∧ ∀ x H', J.yld i H x H' → g x σ H' fun σ2 H2 => tb { D with nx := N, ct := N, bk := D.nx } σ2 H2) := by
  refine for_it tw.walk (fun i σ H => ∃ c, I c σ H ∧ Post (foldX body c (items.drop i) >>= k) P X) ⟨s0, h0, hm⟩ (fun i σ H _ ⟨c, h, _⟩ => hG c σ H h) ?_ ?_
  · rintro i x σ H H' hi ⟨c, h, hm⟩ ⟨b, hb, y⟩
    rw [drop_cons hb] at hm
    have hm' : Post ((body c b >>= fun r => match r with
      | .inl z => (R.ok (.inl z) : R (Sum ρ γ))
      | .inr (true, s') => foldX body s' (items.drop (i + 1))
      | .inr (false, s') => R.ok (.inr s')) >>= k) P X := hm
    rw [bind_bind] at hm'
    exact hs b c x σ H H' _ _ _ h y (fun c' p' σ' H' h' => ⟨c', h', p'⟩) (fun c' p' σ' H' h' => hd c' σ' H' h' p') (fun z p' => p') (post_bind hm')
  · rintro σ H ⟨c, h, hm⟩
    rw [List.drop_length] at hm
    exact hd c σ H h hm
end
/-! ### comprehensions -/
/-- items for items, of a list that is not too long -/
def mapG {α β : Type} (f : α → R β) (xs : List α) : R (List β) := grd (decide (xs.length < 100000)) >>= fun _ => mapR f xs
/-- items for some items -/
def filR {α β : Type} (f : α → R (Option β)) : List α → R (List β)
  | [] => .ok []
  | x :: xs => f x >>= fun o => filR f xs >>= fun ys => match o with
    | some y => .ok (y :: ys)
    | none => .ok ys
def filG {α β : Type} (f : α → R (Option β)) (xs : List α) : R (List β) := grd (decide (xs.length < 100000)) >>= fun _ => filR f xs
/-- items for items, by a state that turns -/
def mapSt {α β γ : Type} (f : γ → α → R (β × γ)) : γ → List α → R (List β × γ)
  | s, [] => .ok ([], s)
  | s, x :: xs => f s x >>= fun p => mapSt f p.2 xs >>= fun q => .ok (p.1 :: q.1, q.2)
def mapStG {α β γ : Type} (f : γ → α → R (β × γ)) (s : γ) (xs : List α) : R (List β × γ) := grd (decide (xs.length < 100000)) >>= fun _ => mapSt f s xs
/-- items for some items, by a state that turns -/
def filSt {α β γ : Type} (f : γ → α → R (Option β × γ)) : γ → List α → R (List β × γ)
  | s, [] => .ok ([], s)
  | s, x :: xs => f s x >>= fun p => filSt f p.2 xs >>= fun q => match p.1 with
    | some y => .ok (y :: q.1, q.2)
    | none => .ok q
def filStG {α β γ : Type} (f : γ → α → R (Option β × γ)) (s : γ) (xs : List α) : R (List β × γ) := grd (decide (xs.length < 100000)) >>= fun _ => filSt f s xs
section
variable {J : It} {β γ δ ε : Type} {items : List β} {G : Hp → Prop} {Y : β → Hp → V → Hp → Prop} {g : TG} {tt : TT} {te : TE} {P : ε → Prop} {X : Exn → Prop} {K : Fg} {vs : List Nat} {σ : St} {F H1 : Hp} {os : List (Addr × HO)} {D : Addr} {Qd : Hp → Prop}
/-- what is asked of a comprehension's list D behind its walk J: by the readings' own words -/
abbrev LcAsk (J : It) (g : TG) (tt : TT) (te : TE) (vs : List Nat) (σ : St) (H1 : Hp) (D : Addr) (Qd : Hp → Prop) : Prop :=
  ∃ W : Nat → Nat → Hp → Prop, (∃ m, W 0 m (upd H1 D (.lst []))) ∧ ∀ i m H, W i m H →
      (J.stop i H ∧ Qd H) ∨ (J.go i H ∧ ∃ Nx : Hp → Prop, (∀ H', Nx H' → ∃ m', m' < m ∧ W (i + 1) m' H') ∧ ∀ x H', J.yld i H x H' → g x (wipe σ vs) H' fun σ2 H2 => wipe σ2 vs = wipe σ vs ∧ tt σ2 H2 fun b H3 =>
        if b = true then te σ2 H3 fun y H4 => ∃ acc, H4 D = some (.lst acc) ∧ acc.length < sizeLine ∧ Nx (upd H4 D (.lst (acc ++ [y]))) else Nx H3)
/-- the state and the items told of a comprehension: os by the state -/
theorem lcFil [Rep δ] (tw : TW J items G Y) {f : γ → β → R (Option δ × γ)} {s0 : γ} {k : List δ × γ → R ε} (hm : Post (filStG f s0 items >>= k) P X) (O : γ → Hp → List (Addr × HO) → Prop) (w : W F H1 os) (o0 : O s0 F os) (nD : H1 D = none)
    (hG : ∀ c F' H' os' acc, Same F F' → W F' H' ((D, .lst acc) :: os') → O c F' os' → G H')
    (hs : ∀ (b : β) (c : γ) (x : V) (F' H' H'' : Hp) (os' : List (Addr × HO)) (acc : List V) (N : V → Hp → Prop) (N0 : Hp → Prop) (P' : Option δ × γ → Prop), Same F F' → W F' H' ((D, .lst acc) :: os') → O c F' os' → Y b H' x H'' →
      (∀ d c', P' (some d, c') → ∀ y F'' H'' os'', W F'' H'' ((D, .lst acc) :: os'') → Same F' F'' → O c' F'' os'' → rep K F'' y d → N y H'') →
      (∀ c', P' (none, c') → ∀ F'' H'' os'', W F'' H'' ((D, .lst acc) :: os'') → Same F' F'' → O c' F'' os'' → N0 H'') → Post (f c b) P' X →
      g x (wipe σ vs) H'' fun σ2 H2 => wipe σ2 vs = wipe σ vs ∧ tt σ2 H2 fun b H3 => if b = true then te σ2 H3 N else N0 H3)
    (hd : ∀ c us F' H' os' ys, Same F F' → W F' H' ((D, .lst us) :: os') → O c F' os' → A2 (rep K F') us ys → Post (k (ys, c)) P X → Qd H') : LcAsk J g tt te vs σ H1 D Qd := by
  obtain ⟨hlen, hm⟩ := pb_grd (pb_assoc hm)
  have hlen : items.length < sizeLine := Nat.lt_of_lt_of_le (of_decide_eq_true hlen) line5
  refine lc_it tw.walk (fun i H => ∃ c F' os' us ys, i ≤ items.length ∧ Same F F' ∧ W F' H ((D, .lst us) :: os') ∧ O c F' os' ∧ A2 (rep K F') us ys ∧ ys.length ≤ i ∧ Post (filSt f c (items.drop i) >>= fun q => k (ys ++ q.1, q.2)) P X) ?_ ?_ ?_ ?_
  · exact ⟨s0, F, os, [], [], Nat.zero_le _, Same.refl _, w.new nD, o0, .nil, Nat.le_refl _, hm⟩
  · rintro i H _ ⟨c, F', os', us, ys, _, s, w', o, _⟩
    exact hG c F' H os' us s w' o
  · rintro i x H H' hi ⟨c, F', os', us, ys, _, s, w', o, h, hl, hm⟩ ⟨b, hb, y⟩
    rw [drop_cons hb] at hm
    have hm' : Post ((f c b >>= fun p => filSt f p.2 (items.drop (i + 1)) >>= fun q => match p.1 with
      | some y => (R.ok (y :: q.1, q.2) : R (List δ × γ))
      | none => R.ok q) >>= fun q => k (ys ++ q.1, q.2)) P X := hm
    rw [bind_bind] at hm'
    have hm2 := post_bind hm'
    have hul : us.length = ys.length := h.length
    refine hs b c x F' H H' os' us (fun y H4 => ∃ acc, H4 D = some (.lst acc) ∧ acc.length < sizeLine ∧ _) _ _ s w' o y ?_ ?_ hm2
    · intro d c' p2 y F'' H'' os'' w2 s2 o2 r2
      refine ⟨us, w2.get (pre := []), by omega, c', F'', os'', us ++ [y], ys ++ [d], hi, s.trans s2, w2.set (pre := []), o2, (h.mono s2).snoc r2, by rw [List.length_append, List.length_singleton]; omega, ?_⟩
      have p3 : Post ((filSt f c' (items.drop (i + 1)) >>= fun q => (R.ok (d :: q.1, q.2) : R (List δ × γ))) >>= fun q => k (ys ++ q.1, q.2)) P X := p2
      rw [bind_bind] at p3
      have e : (fun q : List δ × γ => (R.ok (d :: q.1, q.2) : R (List δ × γ)) >>= fun q => k (ys ++ q.1, q.2)) = fun q => k (ys ++ [d] ++ q.1, q.2) := by
        funext q
        show k (ys ++ (d :: q.1), q.2) = k (ys ++ [d] ++ q.1, q.2)
        rw [List.append_assoc]
        rfl
      rw [e] at p3
      exact p3
    · intro c' p2 F'' H'' os'' w2 s2 o2
      refine ⟨c', F'', os'', us, ys, hi, s.trans s2, w2, o2, h.mono s2, by omega, ?_⟩
      have p3 : Post ((filSt f c' (items.drop (i + 1)) >>= fun q => (R.ok q : R (List δ × γ))) >>= fun q => k (ys ++ q.1, q.2)) P X := p2
      rw [bind_bind] at p3
      exact p3
  · rintro H ⟨c, F', os', us, ys, _, s, w', o, h, _, hm⟩
    rw [List.drop_length] at hm
    have hm' : Post (k (ys ++ [], c)) P X := hm
    rw [List.append_nil] at hm'
    exact hd c us F' H os' ys s w' o h hm'
/-- without a test -/
theorem lcMap [Rep δ] (tw : TW J items G Y) {f : γ → β → R (δ × γ)} {s0 : γ} {k : List δ × γ → R ε} (hm : Post (mapStG f s0 items >>= k) P X) (O : γ → Hp → List (Addr × HO) → Prop) (w : W F H1 os) (o0 : O s0 F os) (nD : H1 D = none)
    (hG : ∀ c F' H' os' acc, Same F F' → W F' H' ((D, .lst acc) :: os') → O c F' os' → G H')
    (hs : ∀ (b : β) (c : γ) (x : V) (F' H' H'' : Hp) (os' : List (Addr × HO)) (acc : List V) (N : V → Hp → Prop) (P' : δ × γ → Prop), Same F F' → W F' H' ((D, .lst acc) :: os') → O c F' os' → Y b H' x H'' →
      (∀ d c', P' (d, c') → ∀ y F'' H'' os'', W F'' H'' ((D, .lst acc) :: os'') → Same F' F'' → O c' F'' os'' → rep K F'' y d → N y H'') → Post (f c b) P' X →
      g x (wipe σ vs) H'' fun σ2 H2 => wipe σ2 vs = wipe σ vs ∧ te σ2 H2 N)
    (hd : ∀ c us F' H' os' ys, Same F F' → W F' H' ((D, .lst us) :: os') → O c F' os' → A2 (rep K F') us ys → Post (k (ys, c)) P X → Qd H') : LcAsk J g tYes te vs σ H1 D Qd := by
  have e : ∀ (s : γ) (l : List β), filSt (fun c b => f c b >>= fun p => R.ok (some p.1, p.2)) s l = mapSt f s l := by
    intro s l
    induction l generalizing s with
    | nil => rfl
    | cons b l ih =>
      show ((f s b >>= fun p => R.ok (some p.1, p.2)) >>= fun p => filSt (fun c b => f c b >>= fun p => R.ok (some p.1, p.2)) p.2 l >>= fun q => match p.1 with
        | some y => (R.ok (y :: q.1, q.2) : R (List δ × γ))
        | none => R.ok q) = (f s b >>= fun p => mapSt f p.2 l >>= fun q => .ok (p.1 :: q.1, q.2))
      rw [bind_bind]
      refine congrArg (f s b >>= ·) ?_
      funext p
      show (filSt (fun c b => f c b >>= fun p => R.ok (some p.1, p.2)) p.2 l >>= fun q => (R.ok (p.1 :: q.1, q.2) : R (List δ × γ))) = _
      rw [ih]
  have hm' : Post (filStG (fun c b => f c b >>= fun p => R.ok (some p.1, p.2)) s0 items >>= k) P X := by
    unfold filStG
    simp only [e]
    exact hm
  refine lcFil tw hm' O w o0 nD hG (fun b c x F' H' H'' os' acc N N0 P' s w' o y hN hN0 hp => ?_) hd
  exact hs b c x F' H' H'' os' acc N _ s w' o y (fun d c' p2 y F'' H'' os'' w2 s2 o2 r2 => hN d c' p2 y F'' H'' os'' w2 s2 o2 r2) (post_bind hp)
/-- without a state -/
theorem lcM [Rep δ] (tw : TW J items G Y) {f : β → R δ} {k : List δ → R ε} (hm : Post (mapG f items >>= k) P X) (w : W F H1 os) (nD : H1 D = none)
    (hG : ∀ F' H' acc, Same F F' → W F' H' ((D, .lst acc) :: os) → G H')
    (hs : ∀ (b : β) (x : V) (F' H' H'' : Hp) (acc : List V) (N : V → Hp → Prop) (P' : δ → Prop), Same F F' → W F' H' ((D, .lst acc) :: os) → Y b H' x H'' →
      (∀ d, P' d → ∀ y F'' H'', W F'' H'' ((D, .lst acc) :: os) → Same F' F'' → rep K F'' y d → N y H'') → Post (f b) P' X →
      g x (wipe σ vs) H'' fun σ2 H2 => wipe σ2 vs = wipe σ vs ∧ te σ2 H2 N)
    (hd : ∀ us F' H' ys, Same F F' → W F' H' ((D, .lst us) :: os) → A2 (rep K F') us ys → Post (k ys) P X → Qd H') : LcAsk J g tYes te vs σ H1 D Qd := by
  have e : ∀ (l : List β), (mapSt (fun (_ : Unit) b => f b >>= fun d => R.ok (d, ())) () l >>= fun q => R.ok q.1) = mapR f l := by
    intro l
    induction l with
    | nil => rfl
    | cons b l ih =>
      show (((f b >>= fun d => R.ok (d, ())) >>= fun p => mapSt (fun (_ : Unit) b => f b >>= fun d => R.ok (d, ())) p.2 l >>= fun q => (R.ok (p.1 :: q.1, q.2) : R (List δ × Unit))) >>= fun q => R.ok q.1) = (f b >>= fun y => mapR f l >>= fun ys => R.ok (y :: ys))
      rw [bind_bind, bind_bind]
      refine congrArg (f b >>= ·) ?_
      funext d
      show ((mapSt (fun (_ : Unit) b => f b >>= fun d => R.ok (d, ())) () l >>= fun q => (R.ok (d :: q.1, q.2) : R (List δ × Unit))) >>= fun q => R.ok q.1) = _
      rw [bind_bind, ← ih, bind_bind]
      rfl
  have hm' : Post (mapStG (fun (_ : Unit) b => f b >>= fun d => R.ok (d, ())) () items >>= fun q => k q.1) P X := by
    have e2 : (mapStG (fun (_ : Unit) b => f b >>= fun d => R.ok (d, ())) () items >>= fun q => R.ok q.1) = mapG f items := by
      unfold mapStG mapG
      rw [bind_bind]
      simp only [e]
    have h2 : Post ((mapStG (fun (_ : Unit) b => f b >>= fun d => R.ok (d, ())) () items >>= fun q => R.ok q.1) >>= k) P X := by
      rw [e2]
      exact hm
    rw [bind_bind] at h2
    exact h2
  refine lcMap tw hm' (fun _ _ os' => os = os') w rfl nD (fun c F' H' os' acc s w' o => by subst o; exact hG F' H' acc s w') (fun b c x F' H' H'' os' acc N P' s w' o y hN hp => ?_) (fun c us F' H' os' ys s w' o h hm => by subst o; exact hd us F' H' ys s w' h hm)
  subst o
  exact hs b x F' H' H'' acc N _ s w' y (fun d p2 y F'' H'' w2 s2 r2 => hN d () p2 y F'' H'' _ w2 s2 rfl r2) (post_bind hp)
/-- .. with a test -/
theorem lcF [Rep δ] (tw : TW J items G Y) {f : β → R (Option δ)} {k : List δ → R ε} (hm : Post (filG f items >>= k) P X) (w : W F H1 os) (nD : H1 D = none)
    (hG : ∀ F' H' acc, Same F F' → W F' H' ((D, .lst acc) :: os) → G H')
    (hs : ∀ (b : β) (x : V) (F' H' H'' : Hp) (acc : List V) (N : V → Hp → Prop) (N0 : Hp → Prop) (P' : Option δ → Prop), Same F F' → W F' H' ((D, .lst acc) :: os) → Y b H' x H'' →
      (∀ d, P' (some d) → ∀ y F'' H'', W F'' H'' ((D, .lst acc) :: os) → Same F' F'' → rep K F'' y d → N y H'') →
      (P' none → ∀ F'' H'', W F'' H'' ((D, .lst acc) :: os) → Same F' F'' → N0 H'') → Post (f b) P' X →
      g x (wipe σ vs) H'' fun σ2 H2 => wipe σ2 vs = wipe σ vs ∧ tt σ2 H2 fun b H3 => if b = true then te σ2 H3 N else N0 H3)
    (hd : ∀ us F' H' ys, Same F F' → W F' H' ((D, .lst us) :: os) → A2 (rep K F') us ys → Post (k ys) P X → Qd H') : LcAsk J g tt te vs σ H1 D Qd := by
  have e : ∀ (l : List β), (filSt (fun (_ : Unit) b => f b >>= fun d => R.ok (d, ())) () l >>= fun q => R.ok q.1) = filR f l := by
    intro l
    induction l with
    | nil => rfl
    | cons b l ih =>
      show (((f b >>= fun d => R.ok (d, ())) >>= fun p => filSt (fun (_ : Unit) b => f b >>= fun d => R.ok (d, ())) p.2 l >>= fun q => match p.1 with
        | some y => (R.ok (y :: q.1, q.2) : R (List δ × Unit))
        | none => R.ok q) >>= fun q => R.ok q.1) = (f b >>= fun o => filR f l >>= fun ys => match o with
        | some y => .ok (y :: ys)
        | none => .ok ys)
      rw [bind_bind, bind_bind]
      refine congrArg (f b >>= ·) ?_
      funext d
      show ((filSt (fun (_ : Unit) b => f b >>= fun d => R.ok (d, ())) () l >>= fun q => match d with
        | some y => (R.ok (y :: q.1, q.2) : R (List δ × Unit))
        | none => R.ok q) >>= fun q => R.ok q.1) = _
      rw [bind_bind, ← ih, bind_bind]
      cases d <;> rfl
  have hm' : Post (filStG (fun (_ : Unit) b => f b >>= fun d => R.ok (d, ())) () items >>= fun q => k q.1) P X := by
    have e2 : (filStG (fun (_ : Unit) b => f b >>= fun d => R.ok (d, ())) () items >>= fun q => R.ok q.1) = filG f items := by
      unfold filStG filG
      rw [bind_bind]
      simp only [e]
    have h2 : Post ((filStG (fun (_ : Unit) b => f b >>= fun d => R.ok (d, ())) () items >>= fun q => R.ok q.1) >>= k) P X := by
      rw [e2]
      exact hm
    rw [bind_bind] at h2
    exact h2
  refine lcFil tw hm' (fun _ _ os' => os = os') w rfl nD (fun c F' H' os' acc s w' o => by subst o; exact hG F' H' acc s w') (fun b c x F' H' H'' os' acc N N0 P' s w' o y hN hN0 hp => ?_) (fun c us F' H' os' ys s w' o h hm => by subst o; exact hd us F' H' ys s w' h hm)
  subst o
  exact hs b x F' H' H'' acc N N0 _ s w' y (fun d p2 y F'' H'' w2 s2 r2 => hN d () p2 y F'' H'' _ w2 s2 rfl r2) (fun p2 F'' H'' w2 s2 => hN0 () p2 F'' H'' _ w2 s2 rfl) (post_bind hp)
end
end Z
namespace Z
open PySem L2
open Rep (rep)
/-! ### short words for a walk -/
section
variable {F F1 F2 H H1 : Hp} {os os' pre post : List (Addr × HO)} {a p : Addr} {o o' : HO} {K : Fg}
theorem W.frzE (w : W F H os) (n : H p = none) : ∃ F', Same F F' ∧ W F' (upd H p o) os ∧ F' p = some o := ⟨_, w.frzS n, w.frz n, upd_same⟩
theorem W.freezeE (w : W F H (pre ++ (a, o) :: post)) : ∃ F', Same F F' ∧ W F' H (pre ++ post) ∧ F' a = some o := ⟨_, w.freezeS, w.freeze, upd_same⟩
/-- a cell that was lent to a call as frozen comes back -/
theorem W.unfreeze (w : W F1 H os) (s : Same F F1) (n : F a = none) (k : F1 a = some o) (ho : ∀ vs, o ≠ .tup vs := by exact fun _ h => nomatch h) : ∃ F', Same F F' ∧ W F' H ((a, o) :: os) := by
  refine ⟨fun b => if b = a then none else F1 b, fun b u e => ?_, fun b u e => ?_, fun q hq => ?_, ?_, fun q hq => ?_⟩
  · have hb : b ≠ a := ne_of_none e n
    show (if b = a then none else F1 b) = some u
    rw [if_neg hb]
    exact s b u e
  · by_cases hb : b = a
    · have e' : (if b = a then none else F1 b) = some u := e
      rw [if_pos hb] at e'
      cases e'
    · have e' : (if b = a then none else F1 b) = some u := e
      rw [if_neg hb] at e'
      exact w.same b u e'
  · rcases List.mem_cons.mp hq with rfl | hq
    · exact ⟨w.same _ _ k, if_pos rfl⟩
    · have h := w.own q hq
      have hb : q.1 ≠ a := fun e => by
        rw [e, k] at h
        cases h.2
      exact ⟨h.1, by show (if q.1 = a then none else F1 q.1) = none; rw [if_neg hb]; exact h.2⟩
  · refine List.pairwise_cons.mpr ⟨fun q hq e => ?_, w.nd⟩
    have h := (w.own q hq).2
    have e' : a = q.1 := e
    rw [← e', k] at h
    cases h
  · rcases List.mem_cons.mp hq with rfl | hq
    · exact ho
    · exact w.nt q hq
theorem rep_own {α : Type} [Rep α] {vs : List V} {xs : List α} (w : W F H (pre ++ (a, .lst vs) :: post)) (h : A2 (rep K F) vs xs) : rep K H (.ref a) xs := ⟨a, vs, rfl, w.get, h.mono w.same⟩
theorem rep_lst {α : Type} [Rep α] {vs : List V} {xs : List α} (q : F a = some (.lst vs)) (h : A2 (rep K F) vs xs) : rep K F (.ref a) xs := ⟨a, vs, rfl, q, h⟩
theorem rep_tup {α : Type} [Rep α] {vs : List V} {xs : List α} (q : F a = some (.tup vs)) (h : A2 (rep K F) vs xs) : rep K F (.ref a) (Tup.mk xs) := ⟨a, vs, rfl, q, h⟩
theorem rep_pair {α β : Type} [Rep α] [Rep β] {u v : V} {x : α} {y : β} (q : F a = some (.tup [u, v])) (h1 : rep K F u x) (h2 : rep K F v y) : rep K F (.ref a) (x, y) := ⟨a, u, v, rfl, q, h1, h2⟩
theorem ints_q {vs : List V} {xs : List Int} (q : SqL K H a vs) (h : A2 (rep K F) vs xs) : SqL K H a (xs.map V.int) := h.ints ▸ q
theorem Room.units65 {k : Nat} {A : Around} (r : Room k A) : A.units + 65 < cLine := by
  have := r.un
  omega
theorem sl_cut {α : Type} {r : V → α → Prop} {vs : List V} {xs : List α} (h : A2 r vs xs) (lo hi : Option Int) : A2 r (cutV vs lo hi) (((xs.drop (HT.sIx xs.length 0 lo)).take (HT.sIx xs.length xs.length hi - HT.sIx xs.length 0 lo))) := by
  unfold cutV
  rw [h.length]
  exact (h.drop _).take _
/-- xs[lo:hi] -/
def cutL {α : Type} (xs : List α) (lo hi : Option Int) : List α := (xs.drop (HT.sIx xs.length 0 lo)).take (HT.sIx xs.length xs.length hi - HT.sIx xs.length 0 lo)
end
end Z
namespace Z
open PySem L2
open Rep (rep)
/-- a while by its fuel -/
def whileR {γ : Type} (c : γ → R Bool) (b : γ → R γ) : Nat → γ → R γ
  | 0, _ => .bad
  | n + 1, s => c s >>= fun t => if t = true then b s >>= fun s' => whileR c b n s' else .ok s
section
variable {γ δ : Type} {P : δ → Prop} {X : Exn → Prop} {tc : TT} {tb : TS} {D : Ends} {σ : St} {H : Hp}
theorem whileS {c : γ → R Bool} {b : γ → R γ} {n : Nat} {s0 : γ} {k : γ → R δ} (hm : Post (whileR c b n s0 >>= k) P X) (I : γ → St → Hp → Prop) (h0 : I s0 σ H)
    (hc : ∀ (g : γ) (σ : St) (H : Hp) (Q' : Bool → Hp → Prop) (P' : Bool → Prop), I g σ H → (∀ t, P' t → ∀ H', I g σ H' → Q' t H') → Post (c g) P' X → tc σ H Q')
    (hs : ∀ (g : γ) (σ : St) (H : Hp) (N : St → Hp → Prop) (P' : γ → Prop), I g σ H → (∀ g', P' g' → ∀ σ' H', I g' σ' H' → N σ' H') → Post (b g) P' X → tb { D with nx := N, ct := N, bk := D.nx } σ H)
    (hd : ∀ g σ H, I g σ H → Post (k g) P X → D.nx σ H) : tWhile tc tb D σ H := by
  refine ⟨fun m σ H => ∃ g, I g σ H ∧ Post (whileR c b m g >>= k) P X, ⟨n, s0, h0, hm⟩, ?_⟩
  rintro m σ H ⟨g, h, hm⟩
  cases m with
  | zero => exact (show False from hm).elim
  | succ m =>
    have hm' : Post ((c g >>= fun t => if t = true then b g >>= fun s' => whileR c b m s' else .ok g) >>= k) P X := hm
    rw [bind_bind] at hm'
    refine hc g σ H _ _ h (fun t p H' h' => ?_) (post_bind hm')
    cases t with
    | false => exact iteF (hd g σ H' h' p)
    | true =>
      refine iteT ?_
      have p' : Post ((b g >>= fun s' => whileR c b m s') >>= k) P X := p
      rw [bind_bind] at p'
      exact ⟨fun σ' H' => ∃ g', I g' σ' H' ∧ Post (whileR c b m g' >>= k) P X, fun σ' H' ⟨g', h1, h2⟩ => ⟨m, Nat.lt_succ_self m, g', h1, h2⟩, hs g σ H' _ _ h' (fun g' p2 σ' H' h2 => ⟨g', h2, p2⟩) (post_bind p')⟩
end
section
variable {α β : Type} {Q : β → Prop} {E : Exn → Prop}
theorem pn_set {xs : List α} {i : Int} {x : α} {f : List α → R β} (h : Post (setI xs i x >>= f) Q E) : ∃ j ys, ixN xs.length i = some j ∧ ys = xs.set j x ∧ Post (f ys) Q E :=
  let ⟨j, a, b⟩ := pb_set h
  ⟨j, _, a, rfl, b⟩
theorem pn_app {xs : List α} {x : α} {f : List α → R β} (h : Post (app xs x >>= f) Q E) : ∃ ys, xs.length < sizeLine ∧ ys = xs ++ [x] ∧ Post (f ys) Q E :=
  let ⟨a, b⟩ := pb_app h
  ⟨_, a, rfl, b⟩
theorem pn_extend {xs ys : List α} {f : List α → R β} (h : Post (extend xs ys >>= f) Q E) : ∃ zs, xs.length + ys.length ≤ sizeLine ∧ zs = xs ++ ys ∧ Post (f zs) Q E :=
  let ⟨a, b⟩ := pb_extend h
  ⟨_, a, rfl, b⟩
theorem A2.lt {r : V → α → Prop} {vs : List V} {xs : List α} {n : Nat} (h : A2 r vs xs) (z : xs.length < n) : vs.length < n := by rw [h.length]; exact z
theorem A2.ix {r : V → α → Prop} {vs : List V} {xs : List α} {i : Int} {j : Nat} (h : A2 r vs xs) (z : ixN xs.length i = some j) : ixN vs.length i = some j := by rw [h.length]; exact z
theorem A2.le2 {γ : Type} {r : V → α → Prop} {r' : V → γ → Prop} {vs us : List V} {xs : List α} {ys : List γ} {n : Nat} (h : A2 r vs xs) (h' : A2 r' us ys) (z : xs.length + ys.length ≤ n) : vs.length + us.length ≤ n := by rw [h.length, h'.length]; exact z
/-- the last item, and the rest -/
def popI (xs : List α) : R (α × List α) := match xs.getLast? with
  | some x => .ok (x, xs.dropLast)
  | none => .bad
def popAt (xs : List α) (i : Int) : R (α × List α) := match ixN xs.length i with
  | some j => match xs[j]? with
    | some x => .ok (x, xs.eraseIdx j)
    | none => .bad
  | none => .bad
theorem pn_popAt {xs : List α} {i : Int} {f : α × List α → R β} (h : Post (popAt xs i >>= f) Q E) : ∃ j x ys, ixN xs.length i = some j ∧ xs[j]? = some x ∧ ys = xs.eraseIdx j ∧ Post (f (x, ys)) Q E := by
  unfold popAt at h
  cases e : ixN xs.length i with
  | none => rw [e] at h; exact (show False from h).elim
  | some j =>
    rw [e] at h
    cases e2 : xs[j]? with
    | none =>
      have h' : Post ((match xs[j]? with
        | some x => (R.ok (x, xs.eraseIdx j) : R (α × List α))
        | none => .bad) >>= f) Q E := h
      rw [e2] at h'
      exact (show False from h').elim
    | some x =>
      have h' : Post ((match xs[j]? with
        | some x => (R.ok (x, xs.eraseIdx j) : R (α × List α))
        | none => .bad) >>= f) Q E := h
      rw [e2] at h'
      exact ⟨j, x, _, rfl, e2, rfl, h'⟩
end
section
variable {K : Fg} {F : Hp}
theorem rep_i {i : Int} : rep K F (.int i) i := rfl
theorem rep_b {i : Bool} : rep K F (.bl i) i := rfl
theorem rep_s {i : Str} : rep K F (.str i) i := rfl
theorem rep_n : rep K F .non () := rfl
end
end Z
namespace Z
open PySem L2
section
variable {X : Cx} {D : Ends} {σ : L2.St} {H : Hp}
def tC1 (v : V) : TE := fun _ H Q => True ∧ Q v H
theorem pe_int1 {i j pos} : PE X (.Constant (.int i) j pos) (tC1 (.int i)) := ⟨fun pins s σ H Q I h => pe_int.run pins s σ H Q I h.2⟩
theorem pe_bl1 {i j pos} : PE X (.Constant (.bool i) j pos) (tC1 (.bl i)) := ⟨fun pins s σ H Q I h => pe_bl.run pins s σ H Q I h.2⟩
theorem pe_str1 {i j pos} : PE X (.Constant (.str i) j pos) (tC1 (.str i)) := ⟨fun pins s σ H Q I h => pe_str.run pins s σ H Q I h.2⟩
theorem pe_non1 {j pos} : PE X (.Constant .none j pos) (tC1 .non) := ⟨fun pins s σ H Q I h => pe_non.run pins s σ H Q I h.2⟩
theorem stepN {i : Nat} {v : V} {Q : L2.St → Hp → Prop} (h : Q (σ.set i (some v)) H) : gName i v σ H Q := h
theorem stepX (h : D.nx σ H) : tNext D σ H := h
theorem stepSeq {t u : TS} (h : t { D with nx := u D } σ H) : tSeq t u D σ H := h
theorem stepIf {c : TT} {a b : TS} (h : c σ H fun t H1 => if t = true then a D σ H1 else b D σ H1) : tIfS c a b D σ H := h
theorem stepRet {te : TE} (h : te σ H D.rt) : tRet te D σ H := h
theorem stepAsg {te : TE} {g : TG} (h : te σ H fun x H1 => g x σ H1 D.nx) : tAsg te g D σ H := h
theorem stepDrop {te : TE} (h : te σ H fun _ H1 => D.nx σ H1) : tDrop te D σ H := h
end
end Z
namespace Z
open PySem L2
open Rep (rep)
section
variable {α : Type} [Rep α] {K : Fg} {F : Hp} {v : V} {x : α}
theorem rep_none : rep K F .non (none : Option α) := rfl
theorem rep_some (h : rep K F v x) : rep K F v (some x) := h
theorem rep_pl {i : Int} : rep K F (.int i) (Thing.pl i) := rfl
theorem rep_ti {a b : Int} (h : rep K F v (a, b)) : rep K F v (Thing.ti a b) := h
end
end Z
/-! Z2: rules by typed data -/
namespace Z
open PySem L2 PySem.Spec PyProof.Rows
open Rep (rep)

/-! ### data that is compared -/
class Dat (α : Type) extends Rep α where
  toD : α → PyData
  dmax : Nat
  dp : ∀ {K : Fg} {H : Hp} {v : V} {x : α}, rep K H v x → Dp K H v (toD x)
  lay : ∀ x : α, (toD x).canLay0 = true
  dep : ∀ x : α, (toD x).depth ≤ dmax
  eqv : ∀ x y : α, PyData.eqv (toD x) (toD y) = true ↔ x = y
section
variable {α β : Type} {K : Fg} {H : Hp}
instance : Dat Int where
  toD := .int
  dmax := 0
  dp := fun h => by
    have h' : _ = V.int _ := h
    subst h'
    exact .int _
  lay := fun x => by simp only [PyData.canLay0]
  dep := fun x => by simp only [PyData.depth, Nat.le_refl]
  eqv := fun x y => by simp [PyData.eqv]
instance : Dat Bool where
  toD := .bool
  dmax := 0
  dp := fun h => by
    have h' : _ = V.bl _ := h
    subst h'
    exact .bl _
  lay := fun x => by simp only [PyData.canLay0]
  dep := fun x => by simp only [PyData.depth, Nat.le_refl]
  eqv := fun x y => by simp [PyData.eqv]
instance datOptInt : Dat (Option Int) where
  toD := fun x => match x with
    | none => .none
    | some i => .int i
  dmax := 0
  dp := fun {K H v x} h => by
    cases x with
    | none =>
      have h' : v = V.non := h
      subst h'
      exact .non
    | some i =>
      have h' : v = V.int i := h
      subst h'
      exact .int _
  lay := fun x => by cases x <;> simp only [PyData.canLay0]
  dep := fun x => by cases x <;> simp only [PyData.depth, Nat.le_refl]
  eqv := fun x y => by cases x <;> cases y <;> simp [PyData.eqv]
instance datPair [Dat α] [Dat β] : Dat (α × β) where
  toD := fun x => .tuple [Dat.toD x.1, Dat.toD x.2]
  dmax := max (Dat.dmax α) (Dat.dmax β) + 1
  dp := fun {K H v x} h => by
    obtain ⟨a, u, w, rfl, q, h1, h2⟩ := h
    exact .tup (SqT.of q) (.cons (Dat.dp h1) (.cons (Dat.dp h2) .nil))
  lay := fun x => by simp only [PyData.canLay0, PyData.canLayAll0, Dat.lay, Bool.and_true]
  dep := fun x => by
    have h1 := Dat.dep x.1
    have h2 := Dat.dep x.2
    simp only [PyData.depth, PyData.depthAll]
    omega
  eqv := fun x y => by
    obtain ⟨x1, x2⟩ := x
    obtain ⟨y1, y2⟩ := y
    simp only [PyData.eqv, PyData.eqvAll, Bool.and_true, Bool.and_eq_true, Dat.eqv, Prod.mk.injEq]
theorem dp_all [Dat α] : ∀ {vs : List V} {xs : List α}, A2 (rep K H) vs xs → DpAll K H vs (xs.map Dat.toD)
  | _, _, .nil => .nil
  | _, _, .cons h t => .cons (Dat.dp h) (dp_all t)
theorem lay_all [Dat α] : ∀ xs : List α, PyData.canLayAll0 (xs.map Dat.toD) = true
  | [] => by simp only [List.map_nil, PyData.canLayAll0]
  | x :: xs => by simp only [List.map_cons, PyData.canLayAll0, Dat.lay, lay_all xs, Bool.and_true]
theorem dep_all [Dat α] : ∀ xs : List α, PyData.depthAll (xs.map Dat.toD) ≤ Dat.dmax α
  | [] => by simp only [List.map_nil, PyData.depthAll, Nat.zero_le]
  | x :: xs => by
    have h1 := dep_all xs
    have h2 := Dat.dep x
    simp only [List.map_cons, PyData.depthAll]
    omega
theorem eqv_all [Dat α] : ∀ xs ys : List α, PyData.eqvAll (xs.map Dat.toD) (ys.map Dat.toD) = true ↔ xs = ys
  | [], [] => by simp [PyData.eqvAll]
  | x :: xs, [] => by simp [PyData.eqvAll]
  | [], y :: ys => by simp [PyData.eqvAll]
  | x :: xs, y :: ys => by simp only [List.map_cons, PyData.eqvAll, Bool.and_eq_true, Dat.eqv, eqv_all xs ys, List.cons.injEq]
instance datList [Dat α] : Dat (List α) where
  toD := fun xs => .list (xs.map Dat.toD)
  dmax := Dat.dmax α + 1
  dp := fun {K H v x} h => by
    obtain ⟨a, vs, rfl, q, h⟩ := h
    exact .lst (SqL.of q) (dp_all h)
  lay := fun x => by
    simp only [PyData.canLay0]
    exact lay_all x
  dep := fun x => by
    have h := dep_all x
    simp only [PyData.depth]
    omega
  eqv := fun x y => by
    simp only [PyData.eqv]
    exact eqv_all x y
instance datTup [Dat α] : Dat (Tup α) where
  toD := fun xs => .tuple (xs.l.map Dat.toD)
  dmax := Dat.dmax α + 1
  dp := fun {K H v x} h => by
    obtain ⟨a, vs, rfl, q, h⟩ := h
    exact .tup (SqT.of q) (dp_all h)
  lay := fun x => by
    simp only [PyData.canLay0]
    exact lay_all x.l
  dep := fun x => by
    have h := dep_all x.l
    simp only [PyData.depth]
    omega
  eqv := fun x y => by
    obtain ⟨x⟩ := x
    obtain ⟨y⟩ := y
    simp only [PyData.eqv, Tup.mk.injEq]
    exact eqv_all x y
instance datThing : Dat Thing where
  toD := fun x => match x with
    | .pl i => .int i
    | .ti a b => .tuple [.int a, .int b]
  dmax := 1
  dp := fun {K H v x} h => by
    cases x with
    | pl i =>
      have h' : v = V.int i := h
      subst h'
      exact .int _
    | ti a b =>
      obtain ⟨p, u, w, rfl, q, h1, h2⟩ := (show rep K H v (a, b) from h)
      have h1' : u = V.int a := h1
      have h2' : w = V.int b := h2
      subst h1' h2'
      exact .tup (SqT.of q) (.cons (.int _) (.cons (.int _) .nil))
  lay := fun x => by cases x <;> simp [PyData.canLay0, PyData.canLayAll0]
  dep := fun x => by cases x <;> simp [PyData.depth, PyData.depthAll]
  eqv := fun x y => by cases x <;> cases y <;> simp [PyData.eqv, PyData.eqvAll]
instance datScr : Dat Scr where
  toD := fun xs => .list (xs.l.map PyData.int)
  dmax := 1
  dp := fun {K H v x} h => by
    obtain ⟨a, rfl, q⟩ := h
    have e : ∀ l : List Int, DpAll K H (l.map V.int) (l.map PyData.int) := fun l => by
      induction l with
      | nil => exact .nil
      | cons x l ih => exact .cons (.int _) ih
    exact .lst q (e x.l)
  lay := fun x => by
    simp only [PyData.canLay0]
    exact lay_all (α := Int) x.l
  dep := fun x => by
    have h := dep_all (α := Int) x.l
    have h' : PyData.depthAll (x.l.map PyData.int) ≤ 0 := h
    simp only [PyData.depth]
    omega
  eqv := fun x y => by
    obtain ⟨x⟩ := x
    obtain ⟨y⟩ := y
    simp only [PyData.eqv, Scr.mk.injEq]
    exact eqv_all (α := Int) x y
theorem shapedD [Dat α] (hd : Dat.dmax α ≤ 60) (x : α) : SeqAt.shaped (Dat.toD x) = true := by
  have h := Dat.dep x
  show ((Dat.toD x).canLay0 && decide ((Dat.toD x).depth ≤ 64)) = true
  rw [Bool.and_eq_true]
  exact ⟨Dat.lay x, decide_eq_true (by omega)⟩
theorem eqvD [Dat α] [DecidableEq α] (x y : α) : PyData.eqv (Dat.toD x) (Dat.toD y) = decide (x = y) := by
  by_cases h : x = y
  · rw [decide_eq_true h]
    exact (Dat.eqv x y).mpr h
  · rw [decide_eq_false h]
    exact Bool.eq_false_iff.mpr fun e => h ((Dat.eqv x y).mp e)
theorem anyD [Dat α] [DecidableEq α] (x : α) : ∀ ys : List α, ((ys.map Dat.toD).any fun z => PyData.eqv z (Dat.toD x)) = decide (x ∈ ys)
  | [] => by simp
  | y :: ys => by
    rw [List.map_cons, List.any_cons, anyD x ys, eqvD]
    by_cases h : y = x
    · subst h; simp
    · have h' : ¬ x = y := fun e => h e.symm
      simp [h, h']
end

section
variable {X : Cx} {α β : Type} {K : Fg}
/-- ==, != of data -/
theorem op_eqDt (hK : X.K = K) (α : Type) [Dat α] [DecidableEq α] (hd : Dat.dmax α ≤ 60) (hu : X.A.units + 64 < cLine) : OpR X (compareOp .Eq) (fun x y H Q => ∃ a b : α, rep K H x a ∧ rep K H y b ∧ Q (.bl (decide (a = b))) H) := by
  subst hK
  intro pins s σ H x y v u Q I rx ry ⟨a, b, h1, h2, q⟩
  exact op_eqD hu pins s σ H x y v u Q I rx ry ⟨Dat.toD a, Dat.toD b, Dat.dp h1, Dat.dp h2, shapedD hd a, shapedD hd b, by rw [eqvD]; exact q⟩
theorem op_neDt (hK : X.K = K) (α : Type) [Dat α] [DecidableEq α] (hd : Dat.dmax α ≤ 60) (hu : X.A.units + 64 < cLine) : OpR X (compareOp .NotEq) (fun x y H Q => ∃ a b : α, rep K H x a ∧ rep K H y b ∧ Q (.bl (!decide (a = b))) H) := by
  subst hK
  intro pins s σ H x y v u Q I rx ry ⟨a, b, h1, h2, q⟩
  exact op_neD hu pins s σ H x y v u Q I rx ry ⟨Dat.toD a, Dat.toD b, Dat.dp h1, Dat.dp h2, shapedD hd a, shapedD hd b, by rw [eqvD]; exact q⟩
/-- in, not in a list, a tuple of data -/
theorem op_inL (hK : X.K = K) (α : Type) [Dat α] [DecidableEq α] (hd : Dat.dmax α ≤ 50) (hu : X.A.units + 65 < cLine) : OpR X (compareOp .In) (fun x y H Q => ∃ (a : α) (b : List α), rep K H x a ∧ rep K H y b ∧ Q (.bl (decide (a ∈ b))) H) := by
  subst hK
  intro pins s σ H x y v u Q I rx ry ⟨a, b, h1, h2, q⟩
  exact op_inD hu pins s σ H x y v u Q I rx ry ⟨Dat.toD a, b.map Dat.toD, Dat.dp h1, Dat.dp h2, shapedD (by omega) a, shapedD (α := List α) (by show Dat.dmax α + 1 ≤ 60; omega) b, by rw [anyD]; exact q⟩
theorem op_notInL (hK : X.K = K) (α : Type) [Dat α] [DecidableEq α] (hd : Dat.dmax α ≤ 50) (hu : X.A.units + 65 < cLine) : OpR X (compareOp .NotIn) (fun x y H Q => ∃ (a : α) (b : List α), rep K H x a ∧ rep K H y b ∧ Q (.bl (!decide (a ∈ b))) H) := by
  subst hK
  intro pins s σ H x y v u Q I rx ry ⟨a, b, h1, h2, q⟩
  exact op_notInD hu pins s σ H x y v u Q I rx ry ⟨Dat.toD a, b.map Dat.toD, Dat.dp h1, Dat.dp h2, shapedD (by omega) a, shapedD (α := List α) (by show Dat.dmax α + 1 ≤ 60; omega) b, by rw [anyD]; exact q⟩
theorem op_inT (hK : X.K = K) (α : Type) [Dat α] [DecidableEq α] (hd : Dat.dmax α ≤ 50) (hu : X.A.units + 65 < cLine) : OpR X (compareOp .In) (fun x y H Q => ∃ (a : α) (b : Tup α), rep K H x a ∧ rep K H y b ∧ Q (.bl (decide (a ∈ b.l))) H) := by
  subst hK
  intro pins s σ H x y v u Q I rx ry ⟨a, b, h1, h2, q⟩
  have sd := shapedD (by omega : Dat.dmax α ≤ 60) a
  have se : SeqAt.shaped (.tuple (b.l.map Dat.toD)) = true := shapedD (α := Tup α) (by show Dat.dmax α + 1 ≤ 60; omega) b
  obtain ⟨as, r1⟩ := Dp.reads I (Dat.toD a) x v (Dat.dp h1) rx
  obtain ⟨bs, r2⟩ := Dp.reads I (.tuple (b.l.map Dat.toD)) y u (Dat.dp h2) ry
  refine SeqAt.in_tuple_reads r2 r1 (SeqAt.canLay_of_shaped se) (SeqAt.canLay_of_shaped sd) (room_in_shaped sd hu) ?_
  rw [anyD]
  exact ⟨.bl _, H, I, rfl, q⟩
theorem op_notInT (hK : X.K = K) (α : Type) [Dat α] [DecidableEq α] (hd : Dat.dmax α ≤ 50) (hu : X.A.units + 65 < cLine) : OpR X (compareOp .NotIn) (fun x y H Q => ∃ (a : α) (b : Tup α), rep K H x a ∧ rep K H y b ∧ Q (.bl (!decide (a ∈ b.l))) H) := by
  subst hK
  intro pins s σ H x y v u Q I rx ry ⟨a, b, h1, h2, q⟩
  have sd := shapedD (by omega : Dat.dmax α ≤ 60) a
  have se : SeqAt.shaped (.tuple (b.l.map Dat.toD)) = true := shapedD (α := Tup α) (by show Dat.dmax α + 1 ≤ 60; omega) b
  obtain ⟨as, r1⟩ := Dp.reads I (Dat.toD a) x v (Dat.dp h1) rx
  obtain ⟨bs, r2⟩ := Dp.reads I (.tuple (b.l.map Dat.toD)) y u (Dat.dp h2) ry
  refine SeqAt.notIn_tuple_reads r2 r1 (SeqAt.canLay_of_shaped se) (SeqAt.canLay_of_shaped sd) (room_in_shaped sd hu) ?_
  rw [anyD]
  exact ⟨.bl _, H, I, rfl, q⟩
/-- == of texts -/
theorem decS (x y : Str) : decide (V.str x = V.str y) = decide (x = y) := by
  by_cases h : x = y
  · subst h; simp
  · rw [decide_eq_false h, decide_eq_false (fun e => h (V.str.inj e))]
theorem op_eqS : OpR X (compareOp .Eq) (fun x y H Q => ∃ a b : Str, x = .str a ∧ y = .str b ∧ Q (.bl (decide (a = b))) H) := by
  intro pins s σ H x y v u Q I rx ry ⟨a, b, h1, h2, q⟩
  subst h1 h2
  exact op_eq pins s σ H _ _ v u Q I rx ry ⟨rfl, by rw [decS]; exact q⟩
theorem op_neS : OpR X (compareOp .NotEq) (fun x y H Q => ∃ a b : Str, x = .str a ∧ y = .str b ∧ Q (.bl (!decide (a = b))) H) := by
  intro pins s σ H x y v u Q I rx ry ⟨a, b, h1, h2, q⟩
  subst h1 h2
  exact op_ne pins s σ H _ _ v u Q I rx ry ⟨rfl, by rw [decS]; exact q⟩
/-- == of truths -/
theorem decB (x y : Bool) : decide (V.bl x = V.bl y) = decide (x = y) := by
  cases x <;> cases y <;> rfl
theorem op_eqB : OpR X (compareOp .Eq) (fun x y H Q => ∃ a b : Bool, x = .bl a ∧ y = .bl b ∧ Q (.bl (decide (a = b))) H) := by
  intro pins s σ H x y v u Q I rx ry ⟨a, b, h1, h2, q⟩
  subst h1 h2
  exact op_eq pins s σ H _ _ v u Q I rx ry ⟨rfl, by rw [decB]; exact q⟩
theorem op_neB : OpR X (compareOp .NotEq) (fun x y H Q => ∃ a b : Bool, x = .bl a ∧ y = .bl b ∧ Q (.bl (!decide (a = b))) H) := by
  intro pins s σ H x y v u Q I rx ry ⟨a, b, h1, h2, q⟩
  subst h1 h2
  exact op_ne pins s σ H _ _ v u Q I rx ry ⟨rfl, by rw [decB]; exact q⟩

/-! ### built-ins -/
theorem call_lenN (hK : X.K = K) : CallR X (.builtin "len") (fun xs H Q => ∃ (p : Addr) (ys : List V) (n : Nat), xs = [.ref p] ∧ (SqL K H p ys ∨ SqT K H p ys) ∧ ys.length = n ∧ Q (.int (n : Int)) H) := by
  subst hK
  intro pins s σ H xs us Q I r ⟨p, ys, n, e, h, hn, q⟩
  subst hn
  exact call_len_seq pins s σ H xs us Q I r ⟨p, ys, e, h, q⟩
def absI (i : Int) : Int := if i < 0 then -i else i
def max2 (i j : Int) : Int := if j > i then j else i
def min2 (i j : Int) : Int := if j < i then j else i
/-- the greatest, the least of a list -/
def maxL (xs : List Int) : R Int := ofO xs.max?
def minL (xs : List Int) : R Int := ofO xs.min?
theorem pb_max {δ : Type} {xs : List Int} {f : Int → R δ} {P : δ → Prop} {E : Exn → Prop} (h : Post (maxL xs >>= f) P E) : ∃ m, xs.max? = some m ∧ Post (f m) P E := pb_ofO h
theorem pb_min {δ : Type} {xs : List Int} {f : Int → R δ} {P : δ → Prop} {E : Exn → Prop} (h : Post (minL xs >>= f) P E) : ∃ m, xs.min? = some m ∧ Post (f m) P E := pb_ofO h
theorem cr_maxI (hK : X.K = K) (hc : X.calm = true) : CallR X (.builtin "max") (fun vs H Q => ∃ (a : Addr) (ns : List Int) (m : Int), vs = [V.ref a] ∧ SqL K H a (ns.map V.int) ∧ ns.max? = some m ∧ Q (.int m) H) := by
  subst hK
  intro pins s σ H xs us Q I r ⟨a, ns, m, e, h, hm, q⟩
  obtain ⟨h1, h2⟩ := List.max?_eq_some_iff.mp hm
  refine cr_max hc pins s σ H xs us Q I r ⟨a, ns, e, h, ?_, fun k h3 h4 => ?_⟩
  · exact List.length_pos_of_mem h1
  · have e1 : k = m := Int.le_antisymm (h2 k h3) (h4 m h1)
    subst e1
    exact q
theorem cr_minI (hK : X.K = K) (hc : X.calm = true) : CallR X (.builtin "min") (fun vs H Q => ∃ (a : Addr) (ns : List Int) (m : Int), vs = [V.ref a] ∧ SqL K H a (ns.map V.int) ∧ ns.min? = some m ∧ Q (.int m) H) := by
  subst hK
  intro pins s σ H xs us Q I r ⟨a, ns, m, e, h, hm, q⟩
  obtain ⟨h1, h2⟩ := List.min?_eq_some_iff.mp hm
  refine cr_min hc pins s σ H xs us Q I r ⟨a, ns, e, h, ?_, fun k h3 h4 => ?_⟩
  · exact List.length_pos_of_mem h1
  · have e1 : k = m := Int.le_antisymm (h4 m h1) (h2 k h3)
    subst e1
    exact q
/-- the ints in order -/
def sortI (xs : List Int) : List Int := xs.mergeSort fun a b => decide (a ≤ b)
theorem sortI_perm (xs : List Int) : (sortI xs).Perm xs := List.mergeSort_perm xs _
theorem sortI_sorted (xs : List Int) : (sortI xs).Pairwise (· ≤ ·) := by
  have h := List.pairwise_mergeSort (le := fun a b : Int => decide (a ≤ b)) (fun a b c h1 h2 => by simp only [decide_eq_true_eq] at *; omega) (fun a b => by simp only [Bool.or_eq_true, decide_eq_true_eq]; omega) xs
  exact h.imp fun h => by simpa using h
theorem sort_uniq {xs ys : List Int} (h : xs.Perm ys) (hx : xs.Pairwise (· ≤ ·)) (hy : ys.Pairwise (· ≤ ·)) : xs = ys := by
  induction xs generalizing ys with
  | nil => exact (List.nil_perm.mp h).symm
  | cons x xs ih =>
    cases ys with
    | nil => exact absurd h.symm (by simp)
    | cons y ys =>
      rw [List.pairwise_cons] at hx hy
      have e : x = y := by
        have h1 : x ∈ y :: ys := h.mem_iff.mp List.mem_cons_self
        have h2 : y ∈ x :: xs := h.mem_iff.mpr List.mem_cons_self
        rcases List.mem_cons.mp h1 with h1 | h1
        · exact h1
        · rcases List.mem_cons.mp h2 with h2 | h2
          · exact h2.symm
          · have := hx.1 y h2
            have := hy.1 x h1
            omega
      subst e
      rw [ih (List.perm_cons x |>.mp h) hx.2 hy.2]
theorem sortI_eq {xs ys : List Int} (h : ys.Perm xs) (hy : ys.Pairwise (· ≤ ·)) : ys = sortI xs := sort_uniq (h.trans (sortI_perm xs).symm) hy (sortI_sorted xs)
theorem cr_sortI (hK : X.K = K) : CallR X (.builtin "sorted") (fun vs H Q => ∃ (a : Addr) (ns : List Int), vs = [V.ref a] ∧ SqL K H a (ns.map V.int) ∧ ∀ p, H p = none → Q (.ref p) (upd H p (.lst ((sortI ns).map V.int)))) := by
  subst hK
  intro pins s σ H xs us Q I r ⟨a, ns, e, h, q⟩
  refine cr_sortedI pins s σ H xs us Q I r ⟨a, ns, e, h, fun ns' p h1 h2 hp => ?_⟩
  rw [sortI_eq h1 h2]
  exact q p hp
theorem ix_listK (hK : X.K = K) : IxR X (rIxL K) := hK ▸ ix_list
theorem ix_tupK (hK : X.K = K) : IxR X (rIxT K) := hK ▸ ix_tup
theorem sl_listK (hK : X.K = K) : SlR X (rSlL K) := hK ▸ sl_list
theorem cr_sumK (hK : X.K = K) (hc : X.calm = true) : CallR X (.builtin "sum") (rSum K) := hK ▸ cr_sum hc
theorem call_list_ofK (hK : X.K = K) : CallR X (.type "list") (fun xs H Q => ∃ p ys, xs = [.ref p] ∧ (SqL K H p ys ∨ SqT K H p ys) ∧ ∀ l, H l = none → Q (.ref l) (upd H l (.lst ys))) := hK ▸ call_list_of
theorem call_tuple_ofK (hK : X.K = K) : CallR X (.type "tuple") (fun xs H Q => ∃ p ys, xs = [.ref p] ∧ ((SqL K H p ys ∧ ∀ l, H l = none → Q (.ref l) (upd H l (.tup ys))) ∨ (SqT K H p ys ∧ Q (.ref p) H))) := hK ▸ call_tuple_of
theorem pi_listK {tg l : Expr} {tl : TE} (hK : X.K = K) (hl : PE X l tl) : PI X tg l (iList K tl) := hK ▸ pi_list hl
theorem pi_tupK {tg l : Expr} {tl : TE} (hK : X.K = K) (hl : PE X l tl) : PI X tg l (iTup K tl) := hK ▸ pi_tup hl
theorem pi_k {tg l : Expr} {wi : Fg → TI} (hK : X.K = K) (h : PI X tg l (wi X.K)) : PI X tg l (wi K) := hK ▸ h
theorem pe_k {e : Expr} {t : Fg → TE} (hK : X.K = K) (h : PE X e (t X.K)) : PE X e (t K) := hK ▸ h
theorem pg_k {tg : Expr} {t : Fg → TG} (hK : X.K = K) (h : PG X tg (t X.K)) : PG X tg (t K) := hK ▸ h
end
end Z
/-! Z3: sets of tuples by their number, isinstance -/
namespace Z
open PySem L2 PySem.Spec PyProof.Rows
open Rep (rep)
/-- each once -/
def nub {α : Type} [DecidableEq α] : List α → List α
  | [] => []
  | x :: xs => if x ∈ xs then nub xs else x :: nub xs
section
variable {α : Type} [DecidableEq α]
theorem nub_mem {y : α} : ∀ {xs : List α}, y ∈ nub xs ↔ y ∈ xs
  | [] => Iff.rfl
  | x :: xs => by
    unfold nub
    by_cases h : x ∈ xs
    · rw [if_pos h, nub_mem]
      exact ⟨List.mem_cons_of_mem _, fun q => (List.mem_cons.mp q).elim (fun e => e ▸ h) id⟩
    · rw [if_neg h, List.mem_cons, List.mem_cons, nub_mem]
theorem nub_nodup : ∀ (xs : List α), (nub xs).Nodup
  | [] => List.nodup_nil
  | x :: xs => by
    unfold nub
    by_cases h : x ∈ xs
    · rw [if_pos h]
      exact nub_nodup xs
    · rw [if_neg h]
      exact List.nodup_cons.mpr ⟨fun q => h (nub_mem.mp q), nub_nodup xs⟩
theorem nub_le : ∀ (xs : List α), (nub xs).length ≤ xs.length
  | [] => Nat.le_refl _
  | x :: xs => by
    unfold nub
    have := nub_le xs
    by_cases h : x ∈ xs
    · rw [if_pos h, List.length_cons]
      omega
    · rw [if_neg h, List.length_cons, List.length_cons]
      omega
theorem nub_len : ∀ {xs : List α}, (nub xs).length = xs.length ↔ xs.Nodup
  | [] => by simp [nub]
  | x :: xs => by
    unfold nub
    by_cases h : x ∈ xs
    · rw [if_pos h, List.length_cons]
      have := nub_le xs
      constructor
      · intro e
        omega
      · intro e
        exact absurd h (List.nodup_cons.mp e).1
    · rw [if_neg h, List.length_cons, List.length_cons, List.nodup_cons]
      constructor
      · intro e
        exact ⟨h, nub_len.mp (by omega)⟩
      · intro e
        rw [nub_len.mpr e.2]
theorem nodup_le : ∀ {xs ys : List α}, xs.Nodup → (∀ y ∈ xs, y ∈ ys) → xs.length ≤ ys.length
  | [], _, _, _ => Nat.zero_le _
  | x :: xs, ys, h, hs => by
    obtain ⟨h1, h2⟩ := List.nodup_cons.mp h
    have hx : x ∈ ys := hs x List.mem_cons_self
    have := nodup_le (xs := xs) (ys := ys.erase x) h2 fun y hy => (List.mem_erase_of_ne (show y ≠ x from fun e => by subst e; exact h1 hy)).mpr (hs y (List.mem_cons_of_mem _ hy))
    rw [List.length_erase_of_mem hx] at this
    have := List.length_pos_of_mem hx
    rw [List.length_cons]
    omega
theorem nodup_len {xs ys : List α} (h1 : xs.Nodup) (h2 : ys.Nodup) (h : ∀ y, y ∈ xs ↔ y ∈ ys) : xs.length = ys.length := by
  refine Nat.le_antisymm ?_ ?_
  · exact nodup_le h1 fun y hy => (h y).mp hy
  · exact nodup_le h2 fun y hy => (h y).mpr hy
end
section
variable {X : Cx} {K : Fg} {P : Program} {w : World} {F H : Hp}
/-- tuples of ints by their places -/
theorem tups_ks : ∀ {vs : List V} {xs : List (Tup Int)}, A2 (rep K H) vs xs → ∃ ks : List (Addr × List Int), vs = ks.map (fun p => V.ref p.1) ∧ ks.map (·.2) = xs.map (·.l) ∧ ∀ p ∈ ks, H p.1 = some (.tup (p.2.map V.int))
  | _, _, .nil => ⟨[], rfl, rfl, fun _ h => nomatch h⟩
  | _, _, .cons (x := x) h t => by
    obtain ⟨ks, h1, h2, h3⟩ := tups_ks t
    obtain ⟨a, us, rfl, q, hu⟩ := h
    refine ⟨(a, x.l) :: ks, by rw [h1]; rfl, by rw [List.map_cons, List.map_cons, h2], fun p hp => ?_⟩
    rcases List.mem_cons.mp hp with rfl | hp
    · rw [← hu.ints]
      exact q
    · exact h3 p hp
theorem setT0_len {pins : List (Addr × Obj)} {σ : L2.St} {s : Shared} {a : Addr} {L : List (Addr × List Int)} {Q : VK} (I : Inv X pins σ H s) (R : SetT0 X.prog X.w s.heap a L) (q : (L.map (·.2)).Nodup → Q (.int (L.length : Nat)) H) :
    wpAny (model X.prog X.w) X.A (call (.builtin "len") [.ref a]) (EP X pins σ Q) X.xe s := by
  obtain ⟨es, ep, t, ⟨o, ho, hex, hd⟩, hr, ht, hn, _, _, _, hf⟩ := R.ex
  have hsz : es.size = L.length := by
    have h := congrArg List.length hr
    unfold rowsOf at h
    rw [Array.length_toList, List.length_map] at h
    exact h
  have hps : t.place.size = L.length := by
    have := ht.sz
    rw [List.length_map] at this
    exact this
  have hroom := R.ex
  obtain ⟨_, _, t', ⟨o', ho', _, hd'⟩, _, _, _, _, _, hm, _⟩ := hroom
  rw [ho] at ho'
  cases ho'
  rw [hd] at hd'
  cases hd'
  have hfit : t.fits es.size = true := by
    unfold SetTable.fits SetTable.fill
    rw [ht.dm, hps, hsz]
    simp
    omega
  exact call_len_set ho hex hd hfit (by rw [hsz]; omega) ⟨.int (L.length : Nat), H, I.tok _, ⟨_, by rw [hsz]⟩, q hn⟩
/-- set(xs) of tuples, then len of it -/
theorem cr_setT (hK : X.K = K) (hP : X.prog = P) (hw : X.w = w) (hc : X.calm = true) (hu : X.A.units + 64 < cLine) : CallR X (.type "set") (fun xs H Q => ∃ (ys : List (Tup Int)) (v : V), xs = [v] ∧ rep K H v ys ∧ ys.length < 64 ∧
    ∀ a L, H a = none → ((L.map (·.2)).Nodup → L.length = (nub ys).length) → Q (.ref a) (upd H a (SetTO P w a L))) := by
  subst hK hP hw
  intro pins s σ H xs us Q I r ⟨ys, v, e, hr, hl, q⟩
  obtain ⟨a, vs, rfl, hq, h⟩ := hr
  obtain ⟨ks, h1, h2, h3⟩ := tups_ks h
  subst h1
  have hks : ks.length = ys.length := by
    have := congrArg List.length h2
    simpa using this
  refine cr_setOfT hc hu pins s σ H xs us Q I r ⟨a, ks, e, SqL.of hq, fun p hp => SqT.of (h3 p hp), by omega, fun b L hb hsub hall => q b L hb fun hn => ?_⟩
  have key : (L.map (·.2)).length = ((nub ys).map (·.l)).length := by
    refine nodup_len hn ?_ fun y => ?_
    · have inj : ∀ x y : Tup Int, x.l = y.l → x = y := fun x y e => by cases x; cases y; simp at e; rw [e]
      refine List.Pairwise.map (R := (· ≠ ·)) _ (fun x y hxy e => hxy (inj x y e)) (nub_nodup ys)
    · constructor
      · intro hy
        obtain ⟨p, hp, rfl⟩ := List.mem_map.mp hy
        have h4 : p.2 ∈ ks.map (·.2) := List.mem_map.mpr ⟨p, hsub p hp, rfl⟩
        rw [h2] at h4
        obtain ⟨z, hz, e⟩ := List.mem_map.mp h4
        exact List.mem_map.mpr ⟨z, nub_mem.mpr hz, e⟩
      · intro hy
        obtain ⟨z, hz, rfl⟩ := List.mem_map.mp hy
        have h4 : z.l ∈ ks.map (·.2) := by
          rw [h2]
          exact List.mem_map.mpr ⟨z, nub_mem.mp hz, rfl⟩
        obtain ⟨p, hp, e⟩ := List.mem_map.mp h4
        rw [← e]
        exact hall p hp
  rw [List.length_map, List.length_map] at key
  exact key
theorem call_lenT (hP : X.prog = P) (hw : X.w = w) : CallR X (.builtin "len") (fun xs H Q => ∃ (a : Addr) (L : List (Addr × List Int)) (n : Nat), xs = [.ref a] ∧ H a = some (SetTO P w a L) ∧ ((L.map (·.2)).Nodup → L.length = n) ∧ Q (.int (n : Nat)) H) := by
  subst hP hw
  intro pins s σ H xs us Q I r ⟨a, L, n, e, ha, hn, q⟩
  subst e
  rw [Vals.ref1 r]
  have R : SetT0 X.prog X.w s.heap a L := (show ObjOk X.prog X.w H s.heap a (SetTO X.prog X.w a L) from I.hok a _ ha).1
  exact setT0_len I R fun nd => by rw [hn nd]; exact q
/-- isinstance of a plain value and a built-in class -/
theorem call_isB (hK : X.K = K) : CallR X (.builtin "isinstance") (fun xs H Q => ∃ (x : V) (a b : String) (r : Bool), xs = [x, .ty b] ∧ TyOf K H x (.type a) ∧ kitB a b = some r ∧ Q (.bl r) H) := by
  subst hK
  intro pins s σ H xs us Q I r ⟨x, a, b, c, e, h1, h2, q⟩
  exact call_isi pins s σ H xs us Q I r ⟨x, .ty b, .type a, .type b, c, e, .ty b, .base h1, kit_ty h2, q⟩
end
end Z
namespace Z
open PySem L2 PySem.Spec PyProof.Rows
open Rep (rep)
section
variable {α : Type}
/-- the first place of an item -/
def fidx [DecidableEq α] (y : α) : List α → Option Nat
  | [] => none
  | x :: xs => if x = y then some 0 else (fidx y xs).map (· + 1)
def idxR [DecidableEq α] (xs : List α) (y : α) : R Int := ofO ((fidx y xs).map fun j => ((j : Nat) : Int))
theorem fidx_spec [DecidableEq α] {y : α} : ∀ {xs : List α} {j : Nat}, fidx y xs = some j → xs[j]? = some y ∧ ∀ m z, m < j → xs[m]? = some z → z ≠ y
  | [], j, h => nomatch h
  | x :: xs, j, h => by
    unfold fidx at h
    by_cases e : x = y
    · rw [if_pos e] at h
      cases h
      subst e
      exact ⟨rfl, fun m z hm => absurd hm (Nat.not_lt_zero _)⟩
    · rw [if_neg e] at h
      cases q : fidx y xs with
      | none => rw [q] at h; cases h
      | some k =>
        rw [q] at h
        cases h
        obtain ⟨h1, h2⟩ := fidx_spec q
        refine ⟨by simpa using h1, fun m z hm hz => ?_⟩
        cases m with
        | zero =>
          simp at hz
          subst hz
          exact e
        | succ m => exact h2 m z (Nat.lt_of_succ_lt_succ hm) (by simpa using hz)
variable {δ : Type} {P : δ → Prop} {E : Exn → Prop}
theorem pb_idx [DecidableEq α] {xs : List α} {y : α} {f : Int → R δ} (h : Post (idxR xs y >>= f) P E) : ∃ j : Nat, fidx y xs = some j ∧ Post (f (j : Int)) P E := by
  unfold idxR at h
  cases q : fidx y xs with
  | none => rw [q] at h; exact (show False from h).elim
  | some j => rw [q] at h; exact ⟨j, rfl, h⟩
end
section
variable {X : Cx} {K : Fg} {F H : Hp}
theorem A2.strs {vs : List V} {xs : List Str} (h : A2 (rep K H) vs xs) : vs = xs.map V.str := by
  induction h with
  | nil => rfl
  | cons a _ ih =>
    have a' : _ = V.str _ := a
    rw [a', ih]
    rfl
theorem bools_q {a : Addr} {vs : List V} {xs : List Bool} (q : SqL K H a vs) (h : A2 (rep K F) vs xs) : SqL K H a (xs.map V.bl) := h.bools ▸ q
theorem strs_q {a : Addr} {vs : List V} {xs : List Str} (q : SqL K H a vs) (h : A2 (rep K F) vs xs) : SqL K H a (xs.map V.str) := h.strs ▸ q
theorem mt_indexS (hK : X.K = K) : MtR X "list.index" (fun x xs H Q => ∃ (a : Addr) (ys : List Str) (y : Str) (j : Nat), x = V.ref a ∧ xs = [.str y] ∧ SqL K H a (ys.map V.str) ∧ fidx y ys = some j ∧ Q (.int (j : Int)) H) := by
  subst hK
  intro pins s σ H x xs v us Q I rx rxs ⟨a, ys, y, j, e1, e2, hs, hj, q⟩
  obtain ⟨h1, h2⟩ := fidx_spec hj
  refine mt_index pins s σ H x xs v us Q I rx rxs ⟨a, _, .str y, j, .str y, e1, e2, hs, rfl, ?_, ?_, ?_, fun m z hm hz => ?_, q⟩
  · rw [List.all_eq_true]
    intro z hz
    obtain ⟨t, _, rfl⟩ := List.mem_map.mp hz
    rfl
  · rw [List.getElem?_map, h1]
    rfl
  · show (y == y) = true
    simp
  · rw [List.getElem?_map] at hz
    cases e : ys[m]? with
    | none => rw [e] at hz; cases hz
    | some t =>
      rw [e] at hz
      cases hz
      have := h2 m t hm e
      show (t == y) = false
      simpa using this
theorem mt_indexI (hK : X.K = K) : MtR X "list.index" (fun x xs H Q => ∃ (a : Addr) (ys : List Int) (y : Int) (j : Nat), x = V.ref a ∧ xs = [.int y] ∧ SqL K H a (ys.map V.int) ∧ fidx y ys = some j ∧ Q (.int (j : Int)) H) := by
  subst hK
  intro pins s σ H x xs v us Q I rx rxs ⟨a, ys, y, j, e1, e2, hs, hj, q⟩
  obtain ⟨h1, h2⟩ := fidx_spec hj
  refine mt_index pins s σ H x xs v us Q I rx rxs ⟨a, _, .int y, j, .int y, e1, e2, hs, rfl, ?_, ?_, ?_, fun m z hm hz => ?_, q⟩
  · rw [List.all_eq_true]
    intro z hz
    obtain ⟨t, _, rfl⟩ := List.mem_map.mp hz
    rfl
  · rw [List.getElem?_map, h1]
    rfl
  · show (y == y) = true
    simp
  · rw [List.getElem?_map] at hz
    cases e : ys[m]? with
    | none => rw [e] at hz; cases hz
    | some t =>
      rw [e] at hz
      cases hz
      have := h2 m t hm e
      show (t == y) = false
      simpa using this
theorem cr_allK (hK : X.K = K) (hc : X.calm = true) : CallR X (.builtin "all") (rAll K) := hK ▸ cr_all hc
theorem cr_anyK (hK : X.K = K) (hc : X.calm = true) : CallR X (.builtin "any") (rAny K) := hK ▸ cr_any hc
end
end Z
namespace HT
open PySem PySem.Spec PyProof.Rows
section
variable {prog : Program} {w : World} {A : Around} {E : Value → Shared → Prop} {s : Shared}
/-- t[::-1] of a tuple of two -/
theorem zrev_two {t sl : Addr} {x y vs : Value} {Q : Value → Shared → Prop} (ht : IsTup s.heap t #[x, y]) (hs : s.heap.IsSliceOf sl .none .none vs) (pl : IsPart .none none) (ps : IsPart vs (some (-1)))
    (h : Q (.ref s.heap.objs.size) { s with heap := s.heap.push { cls := .type "tuple", data := .seq #[y, x] } }) : wpAny (model prog w) A (getItem (.ref t) (.ref sl)) Q E s := by
  have htake : sizeOk (.seq #[y, x]) := by
    show 2 ≤ sizeLine
    decide
  obtain ⟨os, hos, hcs, hds⟩ := id hs
  have hTs : s.TypeIs (.ref sl) "slice" := ⟨os, hos, hcs⟩
  unfold getItem
  try with_reducible refine wpAny_holding ?_
  first | refine wpAny_bind (wpAny_pure ?_) | skip
  refine wpAny_bind (wpAny_sequenceKey ht.typeIs (by decide) ?_)
  refine wpAny_bind (wpAny_callSpecial?_slot (name := Str.ofString "__getitem__") ht.typeIs PyProof.Rows.slot_tuple_getitem
    (wpAny_call_entry PyProof.Rows.slot_tuple_getitem ht.typeIs entry_tuple_getitem ?_ (args_tuple_getitem _ _)))
  show wpAny _ _ (Builtin.Tuple.tupleItemsOf (.ref t) >>= _) _ _ s
  refine wpAny_bind (tupleItemsOf_ ht ?_)
  refine wpAny_bind (wpAny_typeOf hTs ?_)
  rw [if_pos (by decide)]
  have key : ∀ {A' : Around} {E' : Value → Shared → Prop} {R : Int × Int × Nat → Shared → Prop}, R ((1 : Int), -1, 2) s → wpAny (model prog w) A' (Builtin.Slice.sliceApplied (.ref sl) (pure (2 : Int))) R E' s := by
    intro A' E' R hR
    unfold Builtin.Slice.sliceApplied Builtin.Slice.sliceFields
    refine wpAny_bind (wpAny_bind (wpAny_field hos hds (x := .none) rfl (wpAny_bind (wpAny_field hos hds (x := .none) rfl (wpAny_bind (wpAny_field hos hds (x := vs) rfl (wpAny_pure ?_)))))))
    refine wpAny_bind (slicePart_ ps ?_)
    show wpAny _ _ (if ((-1 : Int) == 0) = true then _ else _) _ _ s
    rw [if_neg (by decide)]
    refine wpAny_bind (slicePart_ pl (wpAny_bind (slicePart_ pl (wpAny_bind (wpAny_pure ?_)))))
    show wpAny _ _ (match Builtin.Slice.sliceAdjust none none (-1) (2 : Int) with | (lo, hi) => pure (lo, (-1 : Int), Builtin.Slice.slicePlaces lo hi (-1))) _ _ s
    exact wpAny_pure hR
  refine wpAny_bind (key ?_)
  show wpAny _ _ (if ((1 : Int) == 0 && (-1 : Int) == 1 && (2 : Nat) == 2) = true then _ else _) _ _ s
  rw [if_neg (by decide)]
  first
    | exact wpAny_bind (m := Builtin.Tuple.tupleExact _) (wpAny_newObj_type (wpAny_pure ⟨_, rfl, wpAny_pure h⟩) htake)
    | exact wpAny_bind (m := Builtin.Tuple.tupleExact _) (wpAny_newObj_type (wpAny_bind (wpAny_pure (wpAny_pure ⟨_, rfl, wpAny_pure h⟩))) htake)
    | exact wpAny_bind (wpAny_bind (m := Builtin.Tuple.tupleExact _) (wpAny_newObj_type (wpAny_pure (wpAny_pure ⟨_, rfl, wpAny_pure h⟩)) htake))
    | exact wpAny_bind (wpAny_bind (m := Builtin.Tuple.tupleExact _) (wpAny_newObj_type (wpAny_pure ⟨_, rfl, wpAny_pure h⟩) htake))
end
end HT
namespace Z
open PySem L2 PySem.Spec PyProof.Rows
open Rep (rep)
section
variable {X : Cx} {K : Fg} {F H : Hp}
def tRev2 (te : TE) : TE := fun σ H Q => te σ H fun x H1 => ∃ a u w, x = .ref a ∧ H1 a = some (.tup [u, w]) ∧ ∀ p, H1 p = none → Q (.ref p) (upd H1 p (.tup [w, u]))
theorem pe_rev2 {e : Expr} {te : TE} {k : Nat} {p1 p2 p3 pos : Pos} (he : PE X e te) : PE X (.Subscript e (.Slice none none (some (.UnaryOp .USub (.Constant (.int 1) k p1) p2)) p3) pos) (tRev2 te) := by
  refine ⟨fun pins s σ H Q I h => ?_⟩
  refine Subscript_ (thn (he.run pins s σ H _ I h) fun v s1 ⟨x, H1, I1, r1, q1⟩ => ?_)
  obtain ⟨a, c, d, ex, hx, q⟩ := q1
  subst ex
  cases r1
  have hst : PO X (some (.UnaryOp .USub (.Constant (.int 1) k p1) p2)) (tPart (tUn (rU fun i => .int (-i)) (tC (.int 1)))) := po_some (pe_un un_neg pe_int)
  refine wpAny_Slice (thn (po_none.run pins s1 σ H1 (fun o H2 => o = none ∧ H2 = H1) I1 ⟨rfl, rfl⟩) fun vl s2 ⟨l, H2, I2, pl, el, e2⟩ => ?_)
  subst el e2
  refine thn (po_none.run pins s2 σ H2 (fun o H3 => o = none ∧ H3 = H2) I2 ⟨rfl, rfl⟩) fun vu s3 ⟨u, H3, I3, pu, eu, e3⟩ => ?_
  subst eu e3
  refine thn (hst.run pins s3 σ H3 (fun o H4 => o = some (-1) ∧ H4 = H3) I3 ⟨1, rfl, -1, rfl, rfl, rfl⟩) fun vs s4 ⟨o, H4, I4, ps, eo, e4⟩ => ?_
  subst eo e4
  have I5 : Inv X pins σ H4 { s4 with heap := s4.heap.push { cls := .type "slice", data := .fields #[vl, vu, vs] } } := I4.kept (t' := s4.toks) fun b ob q => Heap.get?_push_of_some _ q
  obtain ⟨its, r, ht, hz⟩ := I5.tuple (SqT.of hx)
  cases r with
  | cons r1 r' =>
    rename_i uu us
    cases r' with
    | cons r2 r'' =>
      rename_i ww ws
      cases r''
      cases pl
      cases pu
      show wpAny (model X.prog X.w) X.A (subscriptTail e (.Slice none none (some (.UnaryOp .USub (.Constant (.int 1) k p1) p2)) p3) (.ref a) (.ref s4.heap.objs.size)) (EP X pins σ Q) X.xe { s4 with heap := s4.heap.push { cls := .type "slice", data := .fields #[.none, .none, vs] } }
      refine tail_any (ops := [.ref a, .ref s4.heap.objs.size]) ht.typeIs (PyProof.Rows.slot_tuple_getitem.lookup) ?_ (by with_unfolding_all rfl)
      refine HT.zrev_two ht (Heap.IsSliceOf.new _ .none .none vs) .none ps ?_
      exact ⟨.ref _, _, I5.laid (t' := s4.toks) (o := .tup [d, c]) (fun b ob q => Heap.get?_push_of_some _ q) (Nat.le_refl _) ⟨by show 2 ≤ sizeLine; decide, [ww, uu], .cons r2 (.cons r1 .nil), IsTup.new _ _⟩, rfl, q _ (I5.hok.fresh (Nat.le_refl _))⟩
/-- two things turned about -/
def rev2 {α : Type} (xs : List α) : R (List α) := match xs with
  | [x, y] => .ok [y, x]
  | _ => .bad
theorem pb_rev2 {α δ : Type} {xs : List α} {f : List α → R δ} {P : δ → Prop} {E : Exn → Prop} (h : Post (rev2 xs >>= f) P E) : ∃ x y, xs = [x, y] ∧ Post (f [y, x]) P E := by
  cases xs with
  | nil => exact (show False from h).elim
  | cons x xs =>
    cases xs with
    | nil => exact (show False from h).elim
    | cons y xs =>
      cases xs with
      | nil => exact ⟨x, y, rfl, h⟩
      | cons z xs => exact (show False from h).elim
theorem A2.two {α : Type} {r : V → α → Prop} {vs : List V} {x y : α} (h : A2 r vs [x, y]) : ∃ u w, vs = [u, w] ∧ r u x ∧ r w y := by
  cases h with
  | cons a t =>
    cases t with
    | cons b t =>
      cases t
      exact ⟨_, _, rfl, a, b⟩
/-- xs * k -/
def repL {α : Type} (xs : List α) (k : Int) : List α := (List.replicate k.toNat xs).flatten
@[irreducible] def repR {α : Type} (xs : List α) (k : Int) : R (List α) := if -(2 ^ 62) ≤ k ∧ k < 2 ^ 62 ∧ xs.length * k.toNat < 100000 then .ok (repL xs k) else .bad
theorem pb_rep {α δ : Type} {xs : List α} {k : Int} {f : List α → R δ} {P : δ → Prop} {E : Exn → Prop} (h : Post (repR xs k >>= f) P E) : ∃ ys, (-(2 ^ 63) ≤ k ∧ k < 2 ^ 63 ∧ xs.length * k.toNat ≤ sizeLine) ∧ ys = repL xs k ∧ Post (f ys) P E := by
  unfold repR at h
  obtain ⟨⟨a, b, c⟩, d⟩ := pb_if h
  exact ⟨_, ⟨by omega, by omega, Nat.le_of_lt (Nat.lt_of_lt_of_le c line5)⟩, rfl, d⟩
theorem A2.flat {α : Type} {r : V → α → Prop} {vs : List V} {xs : List α} (h : A2 r vs xs) (n : Nat) : A2 r (List.replicate n vs).flatten (List.replicate n xs).flatten := by
  induction n with
  | zero => exact .nil
  | succ n ih =>
    rw [List.replicate_succ, List.replicate_succ, List.flatten_cons, List.flatten_cons]
    exact h.append ih
/-! ### None -/
class NonN (α : Type) extends Rep α where
  no : ∀ {K : Fg} {H : Hp} {v : V} {x : α}, rep K H v x → v ≠ .non
instance : NonN Int := ⟨fun h e => by have h' : _ = V.int _ := h; rw [h'] at e; cases e⟩
instance : NonN Bool := ⟨fun h e => by have h' : _ = V.bl _ := h; rw [h'] at e; cases e⟩
instance {α β : Type} [Rep α] [Rep β] : NonN (α × β) := ⟨fun {K H v x} h q => by
  obtain ⟨a, u, w, e, _⟩ := h
  rw [e] at q
  cases q⟩
instance {α : Type} [Rep α] : NonN (List α) := ⟨fun {K H v x} h q => by
  obtain ⟨a, u, e, _⟩ := h
  rw [e] at q
  cases q⟩
instance {α : Type} [Rep α] : NonN (Tup α) := ⟨fun {K H v x} h q => by
  obtain ⟨a, u, e, _⟩ := h
  rw [e] at q
  cases q⟩
theorem isN_eq {α : Type} [NonN α] {v : V} {o : Option α} (h : rep K F v o) : decide (v = .non) = o.isNone := by
  cases o with
  | none =>
    have h' : v = V.non := h
    rw [h']
    rfl
  | some x => exact decide_eq_false (NonN.no (α := α) h)
theorem op_isN2 : OpR X (compareOp .Is) (fun x y H Q => y = V.non ∧ ∃ b, decide (x = .non) = b ∧ Q (.bl b) H) := by
  intro pins s σ H x y v u Q I rx ry ⟨e, b, hb, q⟩
  exact op_isN pins s σ H x y v u Q I rx ry ⟨e, by rw [hb]; exact q⟩
theorem op_notN2 : OpR X (compareOp .IsNot) (fun x y H Q => y = V.non ∧ ∃ b, decide (x = .non) = b ∧ Q (.bl (!b)) H) := by
  intro pins s σ H x y v u Q I rx ry ⟨e, b, hb, q⟩
  exact op_notN pins s σ H x y v u Q I rx ry ⟨e, by rw [hb]; exact q⟩
instance datOptBool : Dat (Option Bool) where
  toD := fun x => match x with
    | none => .none
    | some i => .bool i
  dmax := 0
  dp := fun {K H v x} h => by
    cases x with
    | none =>
      have h' : v = V.non := h
      subst h'
      exact .non
    | some i =>
      have h' : v = V.bl i := h
      subst h'
      exact .bl _
  lay := fun x => by cases x <;> simp only [PyData.canLay0]
  dep := fun x => by cases x <;> simp only [PyData.depth, Nat.le_refl]
  eqv := fun x y => by cases x <;> cases y <;> simp [PyData.eqv]
end
end Z
/-! Z4: statements never reached, tuples into the frozen part, pairs sorted, dicts of scalars, list(range), pop -/
namespace Z
open PySem L2
open Rep (rep)
section
variable {X : Cx}
theorem ps_absurd {st : Stmt} : PS X st (fun _ _ _ => False) := ⟨fun _ _ _ _ _ _ h => h.elim⟩
theorem stepAnd {t u : TT} {σ : L2.St} {H : Hp} {Q : Bool → Hp → Prop} (h : t σ H fun c H1 => if c = true then u σ H1 Q else Q false H1) : tAnd t u σ H Q := h
theorem stepOr {t u : TT} {σ : L2.St} {H : Hp} {Q : Bool → Hp → Prop} (h : t σ H fun c H1 => if c = true then Q true H1 else u σ H1 Q) : tOr t u σ H Q := h
theorem stepNot {t : TT} {σ : L2.St} {H : Hp} {Q : Bool → Hp → Prop} (h : t σ H fun c H1 => Q (!c) H1) : tNot t σ H Q := h
/-- every tuple there is may be read -/
def tupF (F H : Hp) : Hp := fun b => match F b with
  | some u => some u
  | none => match H b with
    | some (.tup vs) => some (.tup vs)
    | _ => none
theorem tupF_some {F H : Hp} {b : Addr} {u : HO} (e : F b = some u) : tupF F H b = some u := by
  unfold tupF
  rw [e]
theorem tupF_none {F H : Hp} {b : Addr} {u : HO} (e : F b = none) (h : tupF F H b = some u) : H b = some u ∧ ∃ vs, u = .tup vs := by
  unfold tupF at h
  rw [e] at h
  dsimp only at h
  split at h
  · rename_i vs e'
    cases h
    exact ⟨e', _, rfl⟩
  · cases h
theorem tupF_tup {F H : Hp} {b : Addr} {vs : List V} (e : F b = none) (h : H b = some (.tup vs)) : tupF F H b = some (.tup vs) := by
  unfold tupF
  rw [e, h]
theorem W.tups {F H : Hp} {os : List (Addr × HO)} (w : W F H os) : ∃ F', Same F F' ∧ W F' H os ∧ ∀ b vs, H b = some (.tup vs) → F' b = some (.tup vs) := by
  refine ⟨tupF F H, fun b u e => tupF_some e, ⟨fun b u e => ?_, fun p hp => ?_, w.nd, w.nt⟩, fun b vs e => ?_⟩
  · cases q : F b with
    | some u' =>
      rw [tupF_some q] at e
      cases e
      exact w.same b _ q
    | none => exact (tupF_none q e).1
  · obtain ⟨h1, h2⟩ := w.own p hp
    refine ⟨h1, ?_⟩
    cases q : tupF F H p.1 with
    | none => rfl
    | some u =>
      obtain ⟨k, vs, rfl⟩ := tupF_none h2 q
      rw [h1] at k
      exact absurd (Option.some.inj k) (w.nt p hp vs)
  · cases q : F b with
    | some u' =>
      have := w.same b _ q
      rw [e] at this
      cases this
      exact tupF_some q
    | none => exact tupF_tup q e
/-! ### sorted, of pairs -/
def leP (p q : Int × Int) : Bool := decide (p.1 < q.1 ∨ (p.1 = q.1 ∧ p.2 ≤ q.2))
def sortP (xs : List (Int × Int)) : List (Int × Int) := xs.mergeSort leP
theorem sortP_perm (xs : List (Int × Int)) : (sortP xs).Perm xs := List.mergeSort_perm xs _
theorem sortP_sorted (xs : List (Int × Int)) : (sortP xs).Pairwise fun p q => leP p q = true := by
  refine List.pairwise_mergeSort (le := leP) (fun a b c h1 h2 => ?_) (fun a b => ?_) xs
  · unfold leP at *
    simp only [decide_eq_true_eq] at *
    omega
  · unfold leP
    simp only [Bool.or_eq_true, decide_eq_true_eq]
    omega
theorem sortP_uniq {xs ys : List (Int × Int)} (h : xs.Perm ys) (hx : xs.Pairwise fun p q => leP p q = true) (hy : ys.Pairwise fun p q => leP p q = true) : xs = ys := by
  induction xs generalizing ys with
  | nil => exact (List.nil_perm.mp h).symm
  | cons x xs ih =>
    cases ys with
    | nil => exact absurd h.length_eq (by simp)
    | cons y ys =>
      rw [List.pairwise_cons] at hx hy
      have e : x = y := by
        have h1 : y ∈ x :: xs := h.mem_iff.mpr List.mem_cons_self
        have h2 : x ∈ y :: ys := h.mem_iff.mp List.mem_cons_self
        rcases List.mem_cons.mp h1 with e | h1
        · exact e.symm
        · rcases List.mem_cons.mp h2 with e | h2
          · exact e
          · have a := hx.1 y h1
            have b := hy.1 x h2
            unfold leP at a b
            simp only [decide_eq_true_eq] at a b
            exact Prod.ext (by omega) (by omega)
      subst e
      rw [ih h.cons_inv hx.2 hy.2]
theorem sortP_eq {xs ys : List (Int × Int)} (h : ys.Perm xs) (hy : ys.Pairwise fun p q => leP p q = true) : ys = sortP xs := sortP_uniq (h.trans (sortP_perm xs).symm) hy (sortP_sorted xs)
/-- which pair stands at a reference -/
def keyP (H : Hp) (v : V) : Int × Int := match v with
  | .ref t => match H t with
    | some (.tup [.int i, .int j]) => (i, j)
    | _ => (0, 0)
  | _ => (0, 0)
theorem keyP_of {K : Fg} {F H : Hp} {v : V} {x : Int × Int} (s : Same F H) (r : rep K F v x) : ∃ t, v = .ref t ∧ F t = some (.tup [.int x.1, .int x.2]) ∧ keyP H v = x := by
  obtain ⟨t, u, z, rfl, q, r1, r2⟩ := r
  obtain rfl : u = V.int x.1 := r1
  obtain rfl : z = V.int x.2 := r2
  refine ⟨t, rfl, q, ?_⟩
  have h := s _ _ q
  unfold keyP
  dsimp only
  rw [h]
theorem keyP_all {K : Fg} {F H : Hp} {vs : List V} {xs : List (Int × Int)} (s : Same F H) (h : A2 (rep K F) vs xs) : xs = vs.map (keyP H) ∧ ∀ v ∈ vs, ∃ t, v = .ref t ∧ F t = some (.tup [.int (keyP H v).1, .int (keyP H v).2]) := by
  induction h with
  | nil => exact ⟨rfl, fun _ z => nomatch z⟩
  | cons a b ih =>
    obtain ⟨t, e, q, k⟩ := keyP_of s a
    refine ⟨by rw [List.map_cons, k, ← ih.1], fun v hv => ?_⟩
    rcases List.mem_cons.mp hv with rfl | hv
    · exact ⟨t, e, by rw [k]; exact q⟩
    · exact ih.2 v hv
theorem rep_keys {K : Fg} {F H : Hp} : ∀ {ys : List V}, (∀ v ∈ ys, ∃ t, v = V.ref t ∧ F t = some (.tup [.int (keyP H v).1, .int (keyP H v).2])) → A2 (rep K F) ys (ys.map (keyP H))
  | [], _ => .nil
  | v :: ys, h => by
    obtain ⟨t, e, q⟩ := h v List.mem_cons_self
    refine .cons ?_ (rep_keys fun y hy => h y (List.mem_cons_of_mem _ hy))
    subst e
    exact ⟨t, _, _, rfl, q, rfl, rfl⟩
theorem cr_sortP {K : Fg} (hK : X.K = K) : CallR X (.builtin "sorted") (fun vs H Q => ∃ (a : Addr) (us : List V) (F : Hp) (xs : List (Int × Int)), vs = [V.ref a] ∧ SqL K H a us ∧ Same F H ∧ A2 (rep K F) us xs ∧
    ∀ p ys, H p = none → A2 (rep K F) ys (sortP xs) → Q (.ref p) (upd H p (.lst ys))) := by
  subst hK
  intro pins s σ H vs us Q I r h
  obtain ⟨a, us', F, xs, rfl, hs, sF, hA, q⟩ := h
  obtain ⟨e1, e2⟩ := keyP_all sF hA
  refine cr_sortedPO pins s σ H _ us Q I r ⟨a, us', keyP H, rfl, hs, fun x hx => ?_, fun ys p h1 h2 hp => q p ys hp ?_⟩
  · obtain ⟨t, e, k⟩ := e2 x hx
    exact ⟨t, e, sF _ _ k⟩
  · have e : ys.map (keyP H) = sortP xs := by
      refine sortP_eq ?_ ?_
      · rw [e1]
        exact h2.perm.map _
      · rw [List.pairwise_map]
        refine h1.imp fun {x y} h => ?_
        have h := SrtO.lexB_no.mp h
        unfold leP
        rw [decide_eq_true_eq]
        omega
    rw [← e]
    exact rep_keys fun v hv => e2 v (h2.perm.mem_iff.mp hv)
end
/-! ### dicts of scalars -/
section
variable {κ β γ δ : Type} [DecidableEq κ]
def mput (m : List (κ × β)) (k : κ) (v : β) : List (κ × β) := if (m.any fun p => decide (p.1 = k)) = true then m.map (fun p => if p.1 = k then (p.1, v) else p) else m ++ [(k, v)]
def mhas (m : List (κ × β)) (k : κ) : Bool := m.any fun p => decide (p.1 = k)
def mget (m : List (κ × β)) (k : κ) : Option β := (m.find? fun p => decide (p.1 = k)).map (·.2)
def mputR (m : List (κ × β)) (k : κ) (v : β) : R (List (κ × β)) := if m.length < 100000 then .ok (mput m k v) else .bad
def mgetR (m : List (κ × β)) (k : κ) : R β := ofO (mget m k)
/-- as the dict stands -/
def encM (e : κ → γ) (ev : β → V) (m : List (κ × β)) : List (γ × V) := m.map fun p => (e p.1, ev p.2)
variable [DecidableEq γ] {e : κ → γ} {ev : β → V}
theorem any_enc (he : ∀ a b, e a = e b → a = b) (m : List (κ × β)) (k : κ) : ((encM e ev m).any fun p => decide (p.1 = e k)) = m.any fun p => decide (p.1 = k) := by
  unfold encM
  rw [List.any_map]
  congr 1
  funext p
  show decide (e p.1 = e k) = decide (p.1 = k)
  by_cases h : p.1 = k
  · rw [h]; simp
  · rw [decide_eq_false h, decide_eq_false fun z => h (he _ _ z)]
theorem put_enc (he : ∀ a b, e a = e b → a = b) (m : List (κ × β)) (k : κ) (v : β) : putK (encM e ev m) (e k) (ev v) = encM e ev (mput m k v) := by
  unfold putK mput
  rw [any_enc he]
  by_cases h : (m.any fun p => decide (p.1 = k)) = true
  · rw [if_pos h, if_pos h]
    unfold encM
    rw [List.map_map, List.map_map]
    refine List.map_congr_left fun p _ => ?_
    show (if e p.1 = e k then (e p.1, ev v) else (e p.1, ev p.2)) = (fun q : κ × β => (e q.1, ev q.2)) (if p.1 = k then (p.1, v) else p)
    by_cases h : p.1 = k
    · rw [if_pos h, if_pos (congrArg e h)]
    · rw [if_neg h, if_neg fun z => h (he _ _ z)]
  · rw [if_neg h, if_neg h]
    unfold encM
    rw [List.map_append]
    rfl
theorem val_enc (he : ∀ a b, e a = e b → a = b) (k : κ) : ∀ m : List (κ × β), valV (encM e ev m) (e k) = (mget m k).map ev
  | [] => rfl
  | p :: m => by
    show valV ((e p.1, ev p.2) :: encM e ev m) (e k) = _
    unfold mget
    by_cases h : p.1 = k
    · rw [valV_pos (congrArg e h), List.find?_cons_of_pos (by simpa using h)]
      rfl
    · rw [valV_neg (fun z => h (he _ _ z)), List.find?_cons_of_neg (by simpa using h), val_enc he k m]
      rfl
theorem has_enc (he : ∀ a b, e a = e b → a = b) (m : List (κ × β)) (k : κ) : (valV (encM e ev m) (e k)).isSome = mhas m k := by
  rw [← valV_any, any_enc he]
  rfl
theorem enc_length (m : List (κ × β)) : (encM e ev m).length = m.length := List.length_map _
end
abbrev kI : Int → Key := .inl
theorem kI_inj : ∀ a b, kI a = kI b → a = b := fun _ _ h => Sum.inl.inj h
def kP (p : Int × Int) : List Key := [.inl p.1, .inl p.2]
theorem kP_inj : ∀ a b, kP a = kP b → a = b := fun a b h => by
  unfold kP at h
  injection h with h1 h2
  injection h2 with h2 _
  exact Prod.ext (Sum.inl.inj h1) (Sum.inl.inj h2)
section
variable {β : Type} {ev : β → V} {H : Hp} {a b : Addr}
theorem dget_k {m : List (Int × β)} {k : Int} (e : H a = some (.dK (encM kI ev m))) : DGet H a (.int k) ((mget m k).map ev) := by
  rw [← val_enc kI_inj]
  exact DGet.k (k := kI k) e
theorem dget_p {m : List ((Int × Int) × β)} {k : Int × Int} (e : H a = some (.dT (encM kP ev m))) (eb : H b = some (.tup [.int k.1, .int k.2])) : DGet H a (.ref b) ((mget m k).map ev) := by
  rw [← val_enc kP_inj]
  exact DGet.t (k := kP k) e eb
theorem get_has {κ : Type} [DecidableEq κ] (m : List (κ × β)) (k : κ) (f : β → V) : ((mget m k).map f).isSome = mhas m k := by
  rw [Option.isSome_map]
  unfold mget mhas
  rw [Option.isSome_map, List.isSome_find?]
theorem dput_k {m : List (Int × β)} {k : Int} {v : β} (e : H a = some (.dK (encM kI ev m))) (hl : m.length < sizeLine) : DPut H a (.int k) (ev v) (upd H a (.dK (encM kI ev (mput m k v)))) := by
  rw [← put_enc kI_inj]
  exact DPut.k (k := kI k) e (by rw [enc_length]; exact hl)
theorem dput_p {m : List ((Int × Int) × β)} {k : Int × Int} {v : β} (e : H a = some (.dT (encM kP ev m))) (eb : H b = some (.tup [.int k.1, .int k.2])) (hl : m.length < sizeLine) : DPut H a (.ref b) (ev v) (upd H a (.dT (encM kP ev (mput m k v)))) := by
  rw [← put_enc kP_inj]
  exact DPut.t (k := kP k) e eb (by rw [enc_length]; exact hl)
end
/-- the keys of a dict, as tuples that may be read -/
theorem keys_rep {β : Type} {ev : β → V} {K : Fg} {F H : Hp} (hF : ∀ b vs, H b = some (.tup vs) → F b = some (.tup vs)) : ∀ {m : List ((Int × Int) × β)} {bs : List Addr}, IsKeys H (encM kP ev m) bs → A2 (rep K F) (bs.map V.ref) (m.map (·.1))
  | [], [], _ => .nil
  | [], _ :: _, h => nomatch h
  | _ :: _, [], h => nomatch h
  | p :: m, b :: bs, .cons h1 h2 => .cons ⟨b, _, _, rfl, hF _ _ h1, rfl, rfl⟩ (keys_rep hF h2)
theorem pn_mput {κ β δ : Type} [DecidableEq κ] {m : List (κ × β)} {k : κ} {v : β} {f : List (κ × β) → R δ} {P : δ → Prop} {E : Exn → Prop} (h : Post (mputR m k v >>= f) P E) : ∃ m', m.length < sizeLine ∧ m' = mput m k v ∧ Post (f m') P E := by
  unfold mputR at h
  by_cases hl : m.length < 100000
  · rw [if_pos hl] at h
    exact ⟨_, Nat.lt_of_lt_of_le hl line5, rfl, h⟩
  · rw [if_neg hl] at h
    exact (show False from h).elim
/-! ### list(range(n)) -/
@[irreducible] def listRng (i j : Int) : R (List Int) := if -(2 ^ 62) ≤ i ∧ i < 2 ^ 62 ∧ -(2 ^ 62) ≤ j ∧ j < 2 ^ 62 ∧ (j - i).toNat ≤ 100000 then .ok (rng i j) else .bad
theorem rgV_eq (i j : Int) : rgV i j = (rng i j).map V.int := by
  unfold rgV rng
  rw [List.map_map]
  rfl
theorem pb_lrng {δ : Type} {i j : Int} {f : List Int → R δ} {P : δ → Prop} {E : Exn → Prop} (h : Post (listRng i j >>= f) P E) : ∃ l, RgOk i j ∧ l = rng i j ∧ Post (f l) P E := by
  unfold listRng at h
  by_cases hl : -(2 ^ 62) ≤ i ∧ i < 2 ^ 62 ∧ -(2 ^ 62) ≤ j ∧ j < 2 ^ 62 ∧ (j - i).toNat ≤ 100000
  · rw [if_pos hl] at h
    obtain ⟨a, b, c, d, e⟩ := hl
    exact ⟨_, ⟨a, b, c, d, by omega⟩, rfl, h⟩
  · rw [if_neg hl] at h
    exact (show False from h).elim
/-! ### a list of perhaps nothing, where nothing is nothing -/
def allS {α : Type} : List (Option α) → R (List α)
  | [] => .ok []
  | none :: _ => .bad
  | some x :: xs => allS xs >>= fun ys => .ok (x :: ys)
theorem allS_iff {α : Type} : ∀ {xs : List (Option α)} {ys : List α}, allS xs = R.ok ys ↔ xs = ys.map some
  | [], ys => by
    constructor
    · intro h; cases h; rfl
    · intro h
      cases ys with
      | nil => rfl
      | cons => cases h
  | none :: xs, ys => by
    constructor
    · intro h; cases h
    · intro h
      cases ys <;> cases h
  | some x :: xs, ys => by
    constructor
    · intro h
      obtain ⟨zs, e, h⟩ := bind_ok_iff.mp h
      cases h
      rw [allS_iff.mp e]
      rfl
    · intro h
      cases ys with
      | nil => cases h
      | cons y ys =>
        rw [List.map_cons] at h
        injection h with h1 h2
        cases h1
        show (allS xs >>= fun ys => R.ok (x :: ys)) = _
        rw [allS_iff.mpr h2]
        rfl
theorem pb_allS {α δ : Type} {xs : List (Option α)} {f : List α → R δ} {P : δ → Prop} {E : Exn → Prop} (h : Post (allS xs >>= f) P E) : ∃ ys, xs = ys.map some ∧ Post (f ys) P E := by
  cases e : allS xs with
  | ok ys =>
    rw [e] at h
    exact ⟨ys, allS_iff.mp e, h⟩
  | exc x =>
    rw [e] at h
    exfalso
    clear h
    induction xs with
    | nil => cases e
    | cons x xs ih =>
      cases x with
      | none => cases e
      | some x =>
        have e' : (allS xs >>= fun ys => R.ok (x :: ys)) = R.exc _ := e
        cases e2 : allS xs with
        | ok y => rw [e2] at e'; cases e'
        | exc y => rw [e2] at e'; cases e'; exact ih e2
        | bad => rw [e2] at e'; cases e'
  | bad =>
    rw [e] at h
    exact (show False from h).elim
theorem A2.unsome {α : Type} [Rep α] {K : Fg} {F : Hp} : ∀ {vs : List V} {ys : List α}, A2 (rep K F) vs (ys.map some) → A2 (rep K F) vs ys
  | [], [], _ => .nil
  | _ :: _, [], h => nomatch h
  | [], _ :: _, h => nomatch h
  | _ :: _, _ :: _, .cons a b => .cons a (A2.unsome b)
/-! ### pop -/
@[irreducible] def popB {α : Type} (xs : List α) (i : Int) : R (α × List α) := if -(2 ^ 62) ≤ i ∧ i < 2 ^ 62 then popAt xs i else .bad
theorem pn_popB {α β : Type} {xs : List α} {i : Int} {f : α × List α → R β} {Q : β → Prop} {E : Exn → Prop} (h : Post (popB xs i >>= f) Q E) : ∃ j x ys, (-(2 ^ 63) ≤ i ∧ i < 2 ^ 63) ∧ ixN xs.length i = some j ∧ xs[j]? = some x ∧ ys = xs.eraseIdx j ∧ Post (f (x, ys)) Q E := by
  unfold popB at h
  by_cases hi : -(2 ^ 62) ≤ i ∧ i < 2 ^ 62
  · rw [if_pos hi] at h
    obtain ⟨j, x, ys, a, b, c, d⟩ := pn_popAt h
    exact ⟨j, x, ys, by omega, a, b, c, d⟩
  · rw [if_neg hi] at h
    exact (show False from h).elim
theorem pn_popI {α β : Type} {xs : List α} {f : α × List α → R β} {Q : β → Prop} {E : Exn → Prop} (h : Post (popI xs >>= f) Q E) : ∃ x ys, xs[xs.length - 1]? = some x ∧ ys = xs.dropLast ∧ Post (f (x, ys)) Q E := by
  unfold popI at h
  rw [List.getLast?_eq_getElem?] at h
  cases e : xs[xs.length - 1]? with
  | none =>
    rw [e] at h
    exact (show False from h).elim
  | some x =>
    rw [e] at h
    exact ⟨x, _, rfl, rfl, h⟩
theorem A2.lastV {α : Type} {r : V → α → Prop} {vs : List V} {xs : List α} {x : α} (h : A2 r vs xs) (e : xs[xs.length - 1]? = some x) : ∃ u, vs[vs.length - 1]? = some u ∧ r u x := by
  rw [h.length]
  exact h.get e
/-! ### in, of a dict of scalars -/
def tDInH (ty td : TE) : TE := fun σ H Q => ty σ H fun y H1 => td σ H1 fun x H2 => ∃ a o b, x = .ref a ∧ DGet H2 a y o ∧ o.isSome = b ∧ Q (.bl b) H2
def tDNotInH (ty td : TE) : TE := fun σ H Q => ty σ H fun y H1 => td σ H1 fun x H2 => ∃ a o b, x = .ref a ∧ DGet H2 a y o ∧ o.isSome = b ∧ Q (.bl (!b)) H2
section
variable {X : Cx} {o i : Expr} {td ty : TE}
theorem pc_dinH (hu : X.A.units + 1 < cLine) (hi : PE X i ty) (ho : PE X o td) : PC X .In i o (tDInH ty td) := by
  refine ⟨fun pins s σ H Q I h => ?_⟩
  refine thn (hi.run pins s σ H _ I h) fun iv s1 ⟨y, H1, I1, ry, q1⟩ => thn (ho.run pins s1 σ H1 _ I1 q1) fun u s2 ⟨x, H2, I2, rx, a, ov, b, ex, g, eb, q2⟩ => ?_
  subst ex
  subst eb
  obtain rfl : u = Value.ref a := rx
  exact d_in hu I2 g ry fun s3 I3 => ⟨.bl ov.isSome, H2, I3, rfl, q2⟩
theorem pc_dnotinH (hu : X.A.units + 1 < cLine) (hi : PE X i ty) (ho : PE X o td) : PC X .NotIn i o (tDNotInH ty td) := by
  refine ⟨fun pins s σ H Q I h => ?_⟩
  refine thn (hi.run pins s σ H _ I h) fun iv s1 ⟨y, H1, I1, ry, q1⟩ => thn (ho.run pins s1 σ H1 _ I1 q1) fun u s2 ⟨x, H2, I2, rx, a, ov, b, ex, g, eb, q2⟩ => ?_
  subst ex
  subst eb
  obtain rfl : u = Value.ref a := rx
  exact d_notIn hu I2 g ry fun s3 I3 => ⟨.bl (!ov.isSome), H2, I3, rfl, q2⟩
end
theorem Room.units1 {k : Nat} {A : Around} (r : Room k A) : A.units + 1 < cLine := by
  have := r.un
  omega
end Z
/-! ZX: an exception caught by its class, held behind the suite as a thing of its own -/
namespace L2
open PySem PySem.Spec PyProof.Rows
/-- a caught exception of the class cls at a -/
def ExH (cls : Value) (a : Addr) : HO := .ext fun h => ∃ (oe : Obj), h.get? a = some oe ∧ Zc cls none oe ∧ ∃ vs, oe.data = .fields vs
theorem exH_ok {P : Program} {w : World} {H : Hp} {h : Heap} {a : Addr} {cls : Value} {oe : Obj} (e : h.get? a = some oe) (z : Zc cls none oe) (d : ∃ vs, oe.data = .fields vs) : ObjOk P w H h a (ExH cls a) :=
  ⟨⟨oe, e, z, d⟩, ⟨oe, e⟩, fun _ _ ⟨o, q, r⟩ k => ⟨o, k o q, r⟩⟩
section
variable {X : Cx} {pins : List (Addr × Obj)} {σ : St} {H : Hp} {s : Shared}
/-- what is pinned, and new since the def began, may be tracked -/
theorem Inv.track {a : Addr} {oe : Obj} {cls : Value} (I : Inv X ((a, oe) :: pins) σ H s) (n0 : X.s_0.heap.get? a = none) (hz : Zc cls none oe) (hd : ∃ vs, oe.data = .fields vs) (hp : ∀ p ∈ X.pn ++ pins, p.1 ≠ a) : Inv X pins σ (upd H a (ExH cls a)) s := by
  obtain ⟨ha, na, nL, nF, _⟩ := I.pin (a, oe) (List.mem_append_right _ List.mem_cons_self)
  dsimp only at ha na nL nF
  have ne0 : ∀ b o, X.s_0.heap.get? b = some o → b ≠ a := fun b o e z => by
    rw [z, n0] at e
    cases e
  refine ⟨I.ok, I.os, I.bare, ⟨I.base.keep, I.base.slot, fun b o e n hq => ?_, I.base.there, fun b xs e => ?_, fun b o u e => ?_, fun b ps e => ?_⟩, I.loc, I.cell, ?_, fun x c e => ?_, fun p hp' => ?_, fun b u e => ?_, I.len⟩
  · rw [upd_ne (ne0 b o e)]
    exact I.base.free b o e n hq
  · have q := I.base.tups b xs e
    rw [upd_ne (ne_of_none q na)]
    exact q
  · have q := I.base.frzs b o u e
    rw [upd_ne (ne_of_none q na)]
    exact q
  · obtain ⟨m, q⟩ := I.base.tbls b ps e
    exact ⟨m, by rw [upd_ne (ne_of_none q na)]; exact q⟩
  · rw [upd_ne (Ne.symm nL)]
    exact I.free
  · have hne : c ≠ a := fun z => by
      obtain ⟨v, o, ho, hc⟩ := I.cell x c e
      rw [z, ha] at ho
      cases ho
      obtain ⟨vs, hd⟩ := hd
      rw [hd] at hc
      cases hc
    rw [upd_ne hne]
    exact I.freeC x c e
  · have hp2 : p ∈ X.pn ++ ((a, oe) :: pins) := by
      rcases List.mem_append.mp hp' with z | z
      · exact List.mem_append_left _ z
      · exact List.mem_append_right _ (List.mem_cons_of_mem _ z)
    obtain ⟨e, n, ne, nf, d⟩ := I.pin p hp2
    exact ⟨e, by rw [upd_ne (hp p hp')]; exact n, ne, nf, d⟩
  · by_cases hb : b = a
    · subst hb
      rw [upd_same] at e
      cases e
      exact exH_ok ha hz hd
    · rw [upd_ne hb] at e
      refine (I.hok b u e).stay (fun c v _ q => q) (fun c q => ?_) fun c xs q => ?_
      · rw [upd_ne (ne_of_none q na)]
        exact q
      · rw [upd_ne (ne_of_none q na)]
        exact q
theorem Inv.unsuiteK {a : Addr} {q : Addr × Obj} {pn' : List (Addr × Obj)} (I : Inv (X.suite a (q :: (X.pn ++ pins))) pn' σ H s) (ok : X.Ok) : Inv X (q :: pins) σ H s :=
  ⟨ok, I.os, I.bare, I.base, I.loc, I.cell, I.free, I.freeC, fun p hp => I.pin p (List.mem_append_left _ (by
    rcases List.mem_append.mp hp with z | z
    · exact List.mem_cons_of_mem _ (List.mem_append_left _ z)
    · rcases List.mem_cons.mp z with z | z
      · rw [z]; exact List.mem_cons_self
      · exact List.mem_cons_of_mem _ (List.mem_append_right _ z))), I.hok, I.len⟩
/-- what the clause 'except x as n' wishes, where the exception is held behind the suite: slot i is n's -/
def wHold (K : PySem.W.Frag) (c : Value) (i : Nat) (ts : Addr → Value → TS) (Wout : WX) (D : Ends) : WX := fun cls d σ H =>
  ∃ b, PySem.W.exmOne K cls c = some b ∧ (b = true → d = none ∧ ∀ a, H a = none → ts a cls { nx := fun σ' H' => H' a = none → D.nx (σ'.set i none) (upd H' a (ExH cls a)), rt := fun _ _ => False, bk := fun _ _ => False, ct := fun _ _ => False } (σ.set i (some (.ref a))) H) ∧
    (b = false → Wout cls d σ H)
variable {x n : Str} {c : Value} {i : Nat} {body suite : List Stmt} {b₀ : Stmt} {np pos pos' : Pos} {tb : WX → TS} {ts : Addr → Value → TS} {Wout : WX}
theorem ps_try_hold (hs : X.stack = X.env :: X.outer) (hf : X.env.frame = some X.env.locals) (hex : X.ex = []) (hN : X.N.Nodup) (hi : X.N[i]? = some n) (hln : X.env.kindOf n = some .local) (hc : Names X x c) (tk : Takes X Wout)
    (hb : ∀ (W : WX) (pn : List (Addr × Obj)) (xe : Value → Shared → Prop), Takes (X.tr pn xe) W → PassesOwn (model X.prog X.w) X.A X.env xe → PSs (X.tr pn xe) body (tb W))
    (hsu : ∀ (a : Addr) (oe : Obj) (cls : Value) (pn : List (Addr × Obj)), PSs (X.suite a ((a, oe) :: pn)) (b₀ :: suite) (ts a cls)) :
    PS X (.Try body [.ExceptHandler (some (.Name x np)) (some n) (b₀ :: suite) pos'] [] [] pos) (fun D σ H => tb (wHold X.K c i ts Wout D) D σ H) := by
  refine ⟨fun pins s σ H D I h => ?_⟩
  have ok := I.ok
  have hfr : X.A.frames = some (X.env :: X.outer) := by rw [ok.frames, hs]
  have hloc : Loc X.env.scope n := .inl hln
  refine wpAny_Try_except ?_
  refine wpAny_mono ((hb (wHold X.K c i ts Wout D) (X.pn ++ pins) (fun e s₁ => wpAny (model X.prog X.w) X.A (noteFrame e X.env) (fun _ s₂ => wpAny (model X.prog X.w) X.A (setFlight e none) (fun _ s₃ =>
    wpAny (model X.prog X.w) X.A (handleBy e X.env [.ExceptHandler (some (.Name x np)) (some n) (b₀ :: suite) pos']) (SP X pins D) X.xe s₃) X.xe s₂) X.xe s₁) (fun u s' xx => ?_) PassesOwn.looking).run [] s σ H D (I.toTry _) h) (fun f s1 hsp => ?_) (fun e s1 he => he)
  · -- the catch
    obtain ⟨a, B, sI, pins', σ', H', cls, d, rfl, J', nb, up, sky, na, os, ag, b, hb1, hyes, hno⟩ := xx
    have J : Inv X pins σ' H' sI := J'.ofTry ok
    have sky' : Sky B (X.env :: X.outer) a (Zc cls d) X.env.locals s'.heap := by rw [← hs]; exact sky
    show wpAny (model X.prog X.w) X.A (noteFrame (.ref a) X.env) _ _ _
    refine Sky.land Zc.steady hfr hf sky' fun h3 fl3 up3 => ?_
    have J3 : Inv X pins σ' H' { s' with heap := h3 } := J.landed nb fl3.1 (up.trans up3) os ag
    obtain ⟨oe3, vs3, he3, hz3, hd3⟩ := fl3.there
    have notFr : ∀ {h : Heap} {o : Obj} {vs : Array Value}, h.FunFrames B (X.env :: X.outer) → h.get? a = some o → o.data = .fields vs → a ∉ frs (X.env :: X.outer) := fun {h o vs} ff e dd hm => by
      obtain ⟨_, o', e', hnf⟩ := ff.mem hm
      rw [e] at e'; cases e'
      exact hnf _ dd
    have nfr := notFr fl3.2.2.1 he3 hd3
    have nL : a ≠ X.env.locals := fun z => nfr (List.mem_filterMap.mpr ⟨X.env, List.mem_cons_self, by rw [hf, z]⟩)
    have nF : a ∉ X.fs := fun hm => by
      obtain ⟨e, he, q⟩ := List.mem_filterMap.mp hm
      exact nfr (List.mem_filterMap.mpr ⟨e, List.mem_cons_of_mem _ he, q⟩)
    have nB : B.get? a = none := fl3.2.1
    have nI : sI.heap.get? a = none := by
      cases e : sI.heap.get? a with
      | none => rfl
      | some o =>
        have z := nb a o e (by rw [hs]; exact nfr)
        rw [nB] at z
        cases z
    have n0 : X.s_0.heap.get? a = none := by
      cases e : X.s_0.heap.get? a with
      | none => rfl
      | some o =>
        obtain ⟨o', z⟩ := J.base.there a o e (by rw [hex]; exact fun z => nomatch z)
        rw [nI] at z
        cases z
    have hpin : ∀ p ∈ X.pn ++ pins, p.1 ≠ a := fun p hp z => by
      have e := (J.pin p hp).1
      rw [z, nI] at e
      cases e
    have S3 := J3.suite he3 hd3 na nL nF
    refine wpAny_handleBy_cons (codeAny_handlers_test ?_) (by intro q; cases q)
    have LT : PySem.W.Looks (model X.prog X.w) h3 (typeOf (.ref a)) cls := fun A Q E s k q => wpAny_typeOf_ref (k _ _ he3) (by rw [hz3.1]; exact q)
    have LM := PySem.W.exm_one (M := model X.prog X.w) (J3.kIn) LT hb1
    have test : ∀ {Q : Value → Shared → Prop} {E : Value → Shared → Prop}, Q c { s' with heap := h3 } → wpAny (model X.prog X.w) (X.A.mark (some (.ref a))) (eval (.Name x np) X.env) Q E { s' with heap := h3 } := fun {Q E} q => by
      obtain ⟨hg, hdbg, hm | ⟨hm, hv, hnn⟩⟩ := hc
      · exact ld_glob (X := X.suite a ((a, oe3) :: (X.pn ++ pins))) S3 hg hm q hdbg
      · exact ld_blt (X := X.suite a ((a, oe3) :: (X.pn ++ pins))) S3 hg hm hv q hnn hdbg
    refine test (LM.here ?_)
    cases b with
    | true =>
      obtain ⟨rfl, hyes2⟩ := hyes rfl
      refine codeAny_handlers_suite_as ?_
      refine HandSPX.lands_againZ fl3 fun h4 fl4 up4 => ?_
      have J4 : Inv X pins σ' H' { s' with heap := h4 } := J.landed nb fl4.1 ((up.trans up3).trans up4) os ag
      obtain ⟨oe4, vs4, he4, hz4, hd4⟩ := fl4.there
      have S4 := J4.suite he4 hd4 na nL nF
      refine store_ok (X := X.suite a ((a, oe4) :: (X.pn ++ pins))) (v := .ref a) S4 hN hi hloc rfl (fun s5 S5 => ?_) (.inr hln)
      refine wpAny_mono ((hsu a oe4 cls (X.pn ++ pins)).run [] s5 _ H' _ S5 (hyes2 a na)) (fun f s6 hsp => ?_) (fun _ _ z => False.elim z)
      cases f with
      | next =>
        obtain ⟨σ6, H6, S6, q6⟩ := hsp
        refine gone_ok (S6.unsuiteK ok) hN hi hln fun s7 J7 => ?_
        have na6 : H6 a = none := (J7.pin (a, oe4) (List.mem_append_right _ List.mem_cons_self)).2.1
        exact ⟨_, _, J7.track n0 hz4 ⟨_, hd4⟩ hpin, q6 na6⟩
      | brk =>
        obtain ⟨σ6, H6, S6, q6⟩ := hsp
        exact q6.elim
      | cont =>
        obtain ⟨σ6, H6, S6, q6⟩ := hsp
        exact q6.elim
      | ret u =>
        obtain ⟨v6, σ6, H6, S6, r6, q6⟩ := hsp
        exact q6.elim
    | false =>
      show wpAny _ X.A (handleBy (.ref a) X.env []) _ _ _
      refine wpAny_handleBy_nil ?_
      obtain ⟨k1, k2, k3, oe, vs, T, oT, ts', he, hz, hd, h1, hr⟩ := id fl3
      unfold PySem.passOn
      refine wpAny_bind (wpAny_field he hd h1 ?_)
      rw [if_neg (show ¬ ((Value.ref T == Value.none) = true) from by simp)]
      have fin : wpAny (model X.prog X.w) X.A (setFlight (.ref a) X.env.frame) (fun _ s4 => wpAny (model X.prog X.w) X.A (throw (.ref a) : Sem Flow) (SP X pins D) X.xe s4) X.xe { s' with heap := h3 } := by
        rw [hf]
        refine HandSPX.setFlight_upZ fl3 fun h4 hh4 up4 => wpAny_throw (tk _ _ ?_)
        exact ⟨a, B, sI, pins, σ', H', cls, d, rfl, J, nb, (up.trans up3).trans up4, .inr (.inr (by rw [hs]; exact hh4)), na, os, ag, hno rfl⟩
      first
        | exact wpAny_bind (wpAny_pure (wpAny_bind fin))
        | exact wpAny_bind fin
  · cases f with
    | next =>
      obtain ⟨σ', H', J', q⟩ := hsp
      exact wpAny_execs_nil ⟨σ', H', J'.ofTry ok, q⟩
    | brk =>
      obtain ⟨σ', H', J', q⟩ := hsp
      exact ⟨σ', H', J'.ofTry ok, q⟩
    | cont =>
      obtain ⟨σ', H', J', q⟩ := hsp
      exact ⟨σ', H', J'.ofTry ok, q⟩
    | ret u =>
      obtain ⟨v, σ', H', J', r, q⟩ := hsp
      exact ⟨v, σ', H', J'.ofTry ok, r, q⟩
/-- isinstance(e, c) of a held exception e: c one class, or a tuple of classes -/
def rIsH (K : PySem.W.Frag) (D : Addr) : List V → Hp → VK → Prop := fun xs H Q => ∃ (a : Addr) (c : V) (b : Bool), xs = [.ref a, c] ∧ H a = some (ExH (.ref D) a) ∧
  ((∃ cv, (∀ u, RelV c u → u = cv) ∧ PySem.W.kitOne K (.ref D) cv = some b) ∨ (∃ p vs its, c = .ref p ∧ H p = some (.tup vs) ∧ (∀ us, Vals vs us → us = its) ∧ PySem.W.kitAny K (.ref D) its = some b)) ∧ Q (.bl b) H
theorem call_isH {D : Addr} (C : ExcC X.K D) : CallR X (.builtin "isinstance") (rIsH X.K D) := by
  intro pins s σ H xs us Q I r h
  obtain ⟨a, c, b, rfl, hH, hc, q⟩ := h
  cases r with
  | cons rx rr =>
    cases rr with
    | cons rt rr =>
      cases rr
      cases rx
      obtain ⟨⟨oe, hget, ⟨h1, h2⟩, vs, hv⟩, _, _⟩ := I.hok a _ hH
      have J : PySem.W.InstAt s.heap a oe D none := by
        obtain ⟨oc, od, oda, osl⟩ := oe
        dsimp only at h1 h2 hv
        subst h1 h2 hv
        exact ⟨hget, rfl, rfl, trivial⟩
      have fin : ∀ tk, EP X pins σ Q (.bool b) { s with toks := tk } := fun tk => ⟨.bl b, H, I.kept (t' := tk) fun _ _ z => z, rfl, q⟩
      rcases hc with ⟨cv, hcv, e⟩ | ⟨p, vs, its, rfl, hp, hu, e⟩
      · have ec := hcv _ rt
        subst ec
        exact PySem.W.kia_one (PySem.W.handS_kitx_exc C.hg C.hk C.hs C.hd C.ha C.hn C.ht C.hm) I.kIn J e (fun z => nomatch z) fin
      · cases rt
        obtain ⟨_, its', r', ob, ho, hob1, n, hob2⟩ := I.hok p _ hp
        have := hu _ r'
        subst this
        obtain ⟨oc, od, oda, osl⟩ := ob
        dsimp only at hob1 hob2
        subst hob1 hob2
        exact PySem.W.kia_tup (PySem.W.handS_kitx_exc C.hg C.hk C.hs C.hd C.ha C.hn C.ht C.hm) I.kIn J ho e (fun z => nomatch z) fin
/-- isinstance(e, c) of a handled exception, in its suite -/
def rIsEX (K : PySem.W.Frag) (cls : Value) (d : Option Addr) (a : Addr) : List V → Hp → VK → Prop := fun xs H Q => ∃ D, cls = .ref D ∧ d = none ∧ ExcC K D ∧ ∃ (c : V) (cv : Value) (b : Bool), xs = [.ref a, c] ∧ (∀ u, RelV c u → u = cv) ∧ PySem.W.kitOne K (.ref D) cv = some b ∧ Q (.bl b) H
theorem call_isEX {K : PySem.W.Frag} {a : Addr} {cls : Value} {d : Option Addr} {oe : Obj} {pn : List (Addr × Obj)} (hK : X.K = K) (hz : Zc cls d oe) (hf : ∃ vs, oe.data = .fields vs) : CallR (X.suite a ((a, oe) :: pn)) (.builtin "isinstance") (rIsEX K cls d a) := by
  subst hK
  intro pins s σ H xs us Q I r ⟨D, e1, e2, C, h⟩
  subst e1 e2
  exact call_isE C hz hf pins s σ H xs us Q I r h
theorem call_isH' : CallR X (.builtin "isinstance") (fun xs H Q => ∃ D, ExcC X.K D ∧ rIsH X.K D xs H Q) := fun pins s σ H xs us Q I r ⟨_, C, h⟩ => call_isH C pins s σ H xs us Q I r h
theorem call_isHK {K : PySem.W.Frag} (hK : X.K = K) : CallR X (.builtin "isinstance") (fun xs H Q => ∃ D, ExcC K D ∧ rIsH K D xs H Q) := by
  subst hK
  exact call_isH'
end
end L2
namespace Z
open PySem L2
open Rep (rep)
/-- the class that a name of the text names -/
def Nm (K : Fg) (x : Str) (C : Addr) : Prop := PySem.W.nsIn K mainGlobals x = some (some (.ref C))
theorem Nm.uniq {K : Fg} {x : Str} {C D : Addr} (a : Nm K x C) (b : Nm K x D) : C = D := by
  have h := a.symm.trans b
  injection h with h
  injection h with h
  injection h
instance repExn : Rep Exn := ⟨fun K F v e => ∃ a C, v = .ref a ∧ Nm K e.cls C ∧ F a = some (ExH (.ref C) a), fun s ⟨a, C, h, n, q⟩ => ⟨a, C, h, n, s _ _ q⟩⟩
/-- what a call that lets an error out leaves -/
def RetX (K : Fg) (F : Hp) (os : List (Addr × HO)) (E : XK) : Exn → Prop := fun e => ∀ C F' H', Nm K e.cls C → W F' H' os → Same F F' → E (.ref C) none H'
/-- all that the body lets out is caught -/
def tryR {α : Type} (names : List Str) (b : R α) : R (Option Exn) := match b with
  | .ok _ => .ok none
  | .exc e => if e.cls ∈ names then .ok (some e) else .bad
  | .bad => .bad
/-- .. with a suite -/
def tryWith {α : Type} (names : List Str) (b : R α) (h : Exn → R α) : R α := match b with
  | .ok x => .ok x
  | .exc e => if e.cls ∈ names then h e else .bad
  | .bad => .bad
theorem post_tryWith {α : Type} {names : List Str} {b : R α} {h : Exn → R α} {P : α → Prop} {X : Exn → Prop} (q : Post (tryWith names b h) P X) : Post b P (fun e => e.cls ∈ names ∧ Post (h e) P X) := by
  cases b with
  | ok a => exact q
  | exc e =>
    have q' : Post (if e.cls ∈ names then h e else R.bad) P X := q
    by_cases c : e.cls ∈ names
    · rw [if_pos c] at q'
      exact ⟨c, q'⟩
    · rw [if_neg c] at q'
      exact (show False from q').elim
  | bad => exact q
theorem post_try {α : Type} {names : List Str} {b : R α} {P : Option Exn → Prop} {X : Exn → Prop} (h : Post (tryR names b) P X) : Post b (fun _ => P none) (fun e => e.cls ∈ names ∧ P (some e)) := by
  cases b with
  | ok a => exact h
  | exc e =>
    have h' : Post (if e.cls ∈ names then R.ok (some e) else R.bad) P X := h
    by_cases c : e.cls ∈ names
    · rw [if_pos c] at h'
      exact ⟨c, h'⟩
    · rw [if_neg c] at h'
      exact (show False from h').elim
  | bad => exact h
/-- isinstance of a caught error: tn, the names under the classes asked -/
def isC (names tn : List Str) (e : Exn) : R Bool := if e.cls ∈ names then .ok (decide (e.cls ∈ tn)) else .bad
theorem pb_isC {δ : Type} {names tn : List Str} {e : Exn} {f : Bool → R δ} {P : δ → Prop} {X : Exn → Prop} (h : Post (isC names tn e >>= f) P X) : e.cls ∈ names ∧ Post (f (decide (e.cls ∈ tn))) P X := by
  unfold isC at h
  by_cases c : e.cls ∈ names
  · rw [if_pos c] at h
    exact ⟨c, h⟩
  · rw [if_neg c] at h
    exact (show False from h).elim
def raiseR {α : Type} (x : Str) : R α := .exc ⟨x, 0⟩
/-- a call that lets no error out -/
def nx {α : Type} (m : R α) : R α := match m with
  | .ok a => .ok a
  | .exc _ => .bad
  | .bad => .bad
theorem post_nx {α δ : Type} {m : R α} {k : α → R δ} {P : δ → Prop} {X : Exn → Prop} (h : Post (nx m >>= k) P X) : Post m (fun a => Post (k a) P X) noX := by
  cases m with
  | ok a => exact h
  | exc e => exact (show False from h).elim
  | bad => exact (show False from h).elim
theorem kit_ref {K : Fg} {x y : Addr} {b : Bool} (h1 : PySem.W.isClsIn K y = true) (h2 : PySem.W.typeIn K (.ref y) = some (.type "type")) (h3 : PySem.W.subIn K (.ref x) (.ref y) = some b) (h4 : b = true ∨ (Value.ref x == Value.ref y) = false) : PySem.W.kitOne K (.ref x) (.ref y) = some b := by
  have e : PySem.W.kitCls K (.ref x) (.ref y) = some b := by
    have h1' : (PySem.W.clsIn K y).isSome = true := h1
    have e2 : ((PySem.W.clsIn K y).isSome && PySem.W.typeIn K (.ref y) == some (.type "type")) = true := by rw [h1', h2] <;> rfl
    show (if ((PySem.W.clsIn K y).isSome && PySem.W.typeIn K (.ref y) == some (.type "type")) = true then PySem.W.subIn K (.ref x) (.ref y) else none) = some b
    rw [if_pos e2]
    exact h3
  unfold PySem.W.kitOne
  rcases h4 with rfl | h4
  · rw [e]
    split <;> rfl
  · rw [h4, if_neg (by decide)]
    exact e
theorem kit_ty {K : Fg} {x : Addr} {T : String} {b : Bool} (h1 : PySem.W.kitMeta T = true) (h3 : PySem.W.subIn K (.ref x) (.type T) = some b) : PySem.W.kitOne K (.ref x) (.type T) = some b := by
  have e : PySem.W.kitCls K (.ref x) (.type T) = some b := by
    show (if PySem.W.kitMeta T = true then PySem.W.subIn K (.ref x) (.type T) else none) = some b
    rw [if_pos h1]
    exact h3
  unfold PySem.W.kitOne
  have h4 : (Value.ref x == Value.type T) = false := rfl
  rw [h4, if_neg (by decide)]
  exact e
/-- what is known of an own error class -/
structure XC (K : Fg) (mg : Str → Option Value) (x : Str) (C : Addr) : Prop where
  ns : Nm K x C
  gm : mg x = some (.ref C)
  xc : PySem.W.excIn K C [.type "ValueError", .type "Exception", .type "BaseException", .type "object"] "ValueError.__new__" = true
  kp : PySem.W.keepIn K (.ref C) = true
  b : PySem.W.subIn K (.ref C) (.type "BaseException") = some true
  t : PySem.W.typeIn K (.ref C) = some (.type "type")
  ex : ExcC K C
end Z
/-! Z5: regions: lists of one's own by their number in a store -/
namespace Z
open PySem L2
open Rep (rep)
/-! ### two lists, item by item -/
inductive F2 {α β : Type} (r : α → β → Prop) : List α → List β → Prop
  | nil : F2 r [] []
  | cons {a : α} {b : β} {as : List α} {bs : List β} : r a b → F2 r as bs → F2 r (a :: as) (b :: bs)
section
variable {α β : Type} {r r' : α → β → Prop} {as : List α} {bs : List β}
theorem F2.length : ∀ {as : List α} {bs : List β}, F2 r as bs → as.length = bs.length
  | _, _, .nil => rfl
  | _, _, .cons _ t => by rw [List.length_cons, List.length_cons, F2.length t]
theorem F2.imp (f : ∀ a b, r a b → r' a b) : ∀ {as : List α} {bs : List β}, F2 r as bs → F2 r' as bs
  | _, _, .nil => .nil
  | _, _, .cons h t => .cons (f _ _ h) (F2.imp f t)
theorem F2.get : ∀ {as : List α} {bs : List β} {i : Nat} {b : β}, F2 r as bs → bs[i]? = some b → ∃ a, as[i]? = some a ∧ r a b
  | _, _, _, _, .nil, e => by simp at e
  | _, _, 0, _, .cons h _, e => by simp at e; subst e; exact ⟨_, rfl, h⟩
  | _, _, i + 1, b, .cons _ t, e => by
    obtain ⟨v, h1, h2⟩ := F2.get (i := i) (b := b) t (by simpa using e)
    exact ⟨v, by simpa using h1, h2⟩
theorem F2.set {a : α} {b : β} (h : r a b) : ∀ {as : List α} {bs : List β} (i : Nat), F2 r as bs → F2 r (as.set i a) (bs.set i b)
  | _, _, _, .nil => .nil
  | _, _, 0, .cons _ t => .cons h t
  | _, _, i + 1, .cons q t => .cons q (F2.set h i t)
theorem F2.append : ∀ {as as' : List α} {bs bs' : List β}, F2 r as bs → F2 r as' bs' → F2 r (as ++ as') (bs ++ bs')
  | _, _, _, _, .nil, h => h
  | _, _, _, _, .cons a t, h => .cons a (F2.append t h)
theorem F2.snoc {a : α} {b : β} (h : F2 r as bs) (q : r a b) : F2 r (as ++ [a]) (bs ++ [b]) := h.append (.cons q .nil)
end
/-! ### a store's lists: cells -/
def nz : List Addr → List (List V) → List (Addr × HO)
  | a :: as, vs :: vss => (a, .lst vs) :: nz as vss
  | _, _ => []
theorem nz_split : ∀ {as : List Addr} {vss : List (List V)} {j : Nat} {a : Addr} {vs : List V}, as[j]? = some a → vss[j]? = some vs →
    ∃ x y, nz as vss = x ++ (a, .lst vs) :: y ∧ ∀ us, nz as (vss.set j us) = x ++ (a, .lst us) :: y
  | [], _, j, _, _, h, _ => by simp at h
  | _ :: _, [], j, _, _, _, h => by simp at h
  | b :: as, ws :: vss, 0, a, vs, h1, h2 => by
    simp at h1 h2
    subst h1 h2
    exact ⟨[], nz as vss, rfl, fun _ => rfl⟩
  | b :: as, ws :: vss, j + 1, a, vs, h1, h2 => by
    obtain ⟨x, y, e1, e2⟩ := nz_split (as := as) (vss := vss) (j := j) (a := a) (vs := vs) (by simpa using h1) (by simpa using h2)
    exact ⟨(b, .lst ws) :: x, y, by show (b, HO.lst ws) :: nz as vss = _; rw [e1]; rfl, fun us => by show (b, HO.lst ws) :: nz as (vss.set j us) = _; rw [e2]; rfl⟩
theorem nz_snoc : ∀ {as : List Addr} {vss : List (List V)} {a : Addr} {vs : List V}, as.length = vss.length → nz (as ++ [a]) (vss ++ [vs]) = nz as vss ++ [(a, .lst vs)]
  | [], [], _, _, _ => rfl
  | [], _ :: _, _, _, h => by simp at h
  | _ :: _, [], _, _, h => by simp at h
  | b :: as, ws :: vss, a, vs, h => by
    show (b, HO.lst ws) :: nz (as ++ [a]) (vss ++ [vs]) = (b, HO.lst ws) :: (nz as vss ++ [(a, .lst vs)])
    rw [nz_snoc (by simpa using h)]
section
variable {F H : Hp} {os os' pre post : List (Addr × HO)} {a p : Addr} {o : HO} {as : List Addr} {vss : List (List V)} {j : Nat} {vs : List V}
theorem W.perm (h : os.Perm os') (w : W F H os) : W F H os' where
  same := w.same
  own := fun q hq => w.own q (h.mem_iff.mpr hq)
  nd := h.pairwise_iff (fun e q => e q.symm) |>.mp w.nd
  nt := fun q hq => w.nt q (h.mem_iff.mpr hq)
/-- the j-th list of a store -/
theorem W.nget (w : W F H (pre ++ (nz as vss ++ post))) (h1 : as[j]? = some a) (h2 : vss[j]? = some vs) : H a = some (.lst vs) := by
  obtain ⟨x, y, e, _⟩ := nz_split h1 h2
  rw [e] at w
  exact (w.own (a, .lst vs) (by simp)).1
theorem W.nset (w : W F H (pre ++ (nz as vss ++ post))) (us : List V) (h1 : as[j]? = some a) (h2 : vss[j]? = some vs) : W F (upd H a (.lst us)) (pre ++ (nz as (vss.set j us) ++ post)) := by
  obtain ⟨x, y, e, e2⟩ := nz_split h1 h2
  rw [e] at w
  rw [e2]
  have w' : W F H ((pre ++ x) ++ (a, .lst vs) :: (y ++ post)) := by
    have e3 : pre ++ (x ++ (a, HO.lst vs) :: y ++ post) = (pre ++ x) ++ (a, HO.lst vs) :: (y ++ post) := by simp
    rw [← e3]
    exact w
  have w2 := w'.set (o' := .lst us)
  have e3 : pre ++ (x ++ (a, HO.lst us) :: y ++ post) = (pre ++ x) ++ (a, HO.lst us) :: (y ++ post) := by simp
  rw [e3]
  exact w2
/-- a cell goes into a store -/
theorem W.nadd (w : W F H ((p, .lst vs) :: (pre ++ (nz as vss ++ post)))) (hl : as.length = vss.length) : W F H (pre ++ (nz (as ++ [p]) (vss ++ [vs]) ++ post)) := by
  rw [nz_snoc hl]
  refine w.perm ?_
  have e : pre ++ (nz as vss ++ [(p, HO.lst vs)] ++ post) = (pre ++ nz as vss) ++ (p, HO.lst vs) :: post := by simp
  have e2 : (p, HO.lst vs) :: (pre ++ (nz as vss ++ post)) = (p, HO.lst vs) :: ((pre ++ nz as vss) ++ post) := by simp
  rw [e, e2]
  exact List.perm_middle.symm
theorem W.dropL (w : W F H (pre ++ (os ++ post))) : W F H (pre ++ post) where
  same := w.same
  own := fun q hq => w.own q (by
    rcases List.mem_append.mp hq with h | h
    · exact List.mem_append_left _ h
    · exact List.mem_append_right _ (List.mem_append_right _ h))
  nd := by
    have nd := w.nd
    rw [List.pairwise_append] at nd ⊢
    obtain ⟨n1, n2, n3⟩ := nd
    rw [List.pairwise_append] at n2
    exact ⟨n1, n2.2.1, fun x hx y hy => n3 x hx y (List.mem_append_right _ hy)⟩
  nt := fun q hq => w.nt q (by
    rcases List.mem_append.mp hq with h | h
    · exact List.mem_append_left _ h
    · exact List.mem_append_right _ (List.mem_append_right _ h))
/-- the j-th list of a store, taken out as a cell; the others forgotten -/
theorem W.ntake (w : W F H (pre ++ (nz as vss ++ post))) (h1 : as[j]? = some a) (h2 : vss[j]? = some vs) : W F H ((a, .lst vs) :: (pre ++ post)) := by
  obtain ⟨x, y, e, _⟩ := nz_split h1 h2
  rw [e] at w
  have w' : W F H ((pre ++ x) ++ (a, .lst vs) :: (y ++ post)) := by
    have e3 : pre ++ (x ++ (a, HO.lst vs) :: y ++ post) = (pre ++ x) ++ (a, HO.lst vs) :: (y ++ post) := by simp
    rw [← e3]
    exact w
  have w2 := w'.front
  have e4 : (a, HO.lst vs) :: (pre ++ x ++ (y ++ post)) = ((a, HO.lst vs) :: pre) ++ ((x ++ y) ++ post) := by simp
  rw [e4] at w2
  exact w2.dropL
/-- a whole store is never written again -/
theorem W.nfreeze : ∀ {as : List Addr} {vss : List (List V)} {F : Hp}, W F H (pre ++ (nz as vss ++ post)) → ∃ F', Same F F' ∧ W F' H (pre ++ post) ∧ ∀ (j : Nat) (a : Addr) (vs : List V), as[j]? = some a → vss[j]? = some vs → F' a = some (.lst vs)
  | [], _, F, w => ⟨F, Same.refl _, w, fun j a vs h => by simp at h⟩
  | _ :: _, [], F, w => ⟨F, Same.refl _, w, fun j a vs _ h => by simp at h⟩
  | b :: as, ws :: vss, F, w => by
    have w' : W F H (pre ++ (b, .lst ws) :: (nz as vss ++ post)) := w
    obtain ⟨F1, s1, w1, q1⟩ := w'.freezeE
    obtain ⟨F2, s2, w2, q2⟩ := W.nfreeze (as := as) (vss := vss) w1
    refine ⟨F2, s1.trans s2, w2, fun j a vs h1 h2 => ?_⟩
    cases j with
    | zero =>
      simp at h1 h2
      subst h1 h2
      exact s2 _ _ q1
    | succ j => exact q2 j a vs (by simpa using h1) (by simpa using h2)
end
/-! ### what stands in a store -/
section
variable {α β δ : Type} [Rep α] [Rep β] {K : Fg} {F F' H : Hp} {as as' : List Addr} {vss : List (List V)} {st : List (List α)}
structure Sto (K : Fg) (F : Hp) (as : List Addr) (vss : List (List V)) (st : List (List α)) : Prop where
  len : as.length = vss.length
  all : F2 (A2 (rep K F)) vss st
theorem Sto.nil : Sto K F [] [] ([] : List (List α)) := ⟨rfl, .nil⟩
theorem Sto.mono (s : Same F F') (h : Sto K F as vss st) : Sto K F' as vss st := ⟨h.len, h.all.imp fun _ _ q => q.mono s⟩
theorem Sto.len2 (h : Sto K F as vss st) : as.length = st.length := h.len.trans h.all.length
theorem Sto.get {j : Nat} {xs : List α} (h : Sto K F as vss st) (e : st[j]? = some xs) : ∃ a vs, as[j]? = some a ∧ vss[j]? = some vs ∧ A2 (rep K F) vs xs := by
  obtain ⟨vs, h1, h2⟩ := h.all.get e
  have hj := (List.getElem?_eq_some_iff.mp e).1
  rw [← h.len2] at hj
  exact ⟨as[j], vs, List.getElem?_eq_getElem hj, h1, h2⟩
theorem Sto.set {j : Nat} {vs : List V} {xs : List α} (h : Sto K F as vss st) (q : A2 (rep K F) vs xs) : Sto K F as (vss.set j vs) (st.set j xs) := ⟨by rw [List.length_set]; exact h.len, h.all.set q j⟩
theorem Sto.snoc {p : Addr} {vs : List V} {xs : List α} (h : Sto K F as vss st) (q : A2 (rep K F) vs xs) : Sto K F (as ++ [p]) (vss ++ [vs]) (st ++ [xs]) := ⟨by simp [h.len], h.all.snoc q⟩
/-- a number in a store -/
abbrev Ix := Nat
def RX (as : List Addr) (v : V) (j : Ix) : Prop := ∃ a, v = .ref a ∧ as[j]? = some a
theorem RX.mono (h : as <+: as') {v : V} {j : Ix} (q : RX as v j) : RX as' v j := by
  obtain ⟨a, e, q⟩ := q
  obtain ⟨t, rfl⟩ := h
  refine ⟨a, e, ?_⟩
  rw [List.getElem?_append_left (List.getElem?_eq_some_iff.mp q).1]
  exact q
theorem RX.new (h : as.length = n) {p : Addr} : RX (as ++ [p]) (.ref p) n := ⟨p, rfl, by rw [List.getElem?_append_right (by omega), ← h]; simp⟩
theorem IQ.mono (h : as <+: as') {a : Addr} {j : Nat} (q : as[j]? = some a) : as'[j]? = some a := by
  obtain ⟨t, rfl⟩ := h
  rw [List.getElem?_append_left (List.getElem?_eq_some_iff.mp q).1]
  exact q
theorem IQ.new {n : Nat} (h : as.length = n) {p : Addr} : (as ++ [p])[n]? = some p := by
  rw [List.getElem?_append_right (by omega), ← h]
  simp
theorem pfx_trans {as2 : List Addr} (h : as <+: as') (h' : as' <+: as2) : as <+: as2 := h.trans h'
theorem Sto.getq {j : Nat} {xs : List α} {a : Addr} (h : Sto K F as vss st) (e : st[j]? = some xs) (q : as[j]? = some a) : ∃ vs, vss[j]? = some vs ∧ A2 (rep K F) vs xs := h.all.get e
theorem pfx_refl : as <+: as := List.prefix_refl _
theorem pfx_snoc {p : Addr} : as <+: as ++ [p] := List.prefix_append _ _
/-- the list of a number -/
def getS (st : List (List α)) (j : Ix) : R (List α) := ofO st[j]?
theorem pb_getS {st : List (List α)} {j : Ix} {f : List α → R δ} {P : δ → Prop} {E : Exn → Prop} (h : Post (getS st j >>= f) P E) : ∃ xs, st[j]? = some xs ∧ Post (f xs) P E := pb_ofO h
/-- .. another list in its place -/
def setS (st : List (List α)) (j : Ix) (ys : List α) : R (List (List α)) := .ok (st.set j ys)
theorem pn_setS {st : List (List α)} {j : Ix} {ys : List α} {f : List (List α) → R δ} {P : δ → Prop} {E : Exn → Prop} (h : Post (setS st j ys >>= f) P E) : ∃ st', st' = st.set j ys ∧ Post (f st') P E := ⟨_, rfl, h⟩
/-- .. a new one -/
def newS (st : List (List α)) (ys : List α) : R (Ix × List (List α)) := .ok (st.length, st ++ [ys])
theorem pn_newS {st : List (List α)} {ys : List α} {f : Ix × List (List α) → R δ} {P : δ → Prop} {E : Exn → Prop} (h : Post (newS st ys >>= f) P E) : ∃ j st', j = st.length ∧ st' = st ++ [ys] ∧ Post (f (j, st')) P E := ⟨_, _, rfl, rfl, h⟩
/-- lists by their numbers -/
def deref (st : List (List α)) (js : List Ix) : R (List (List α)) := mapR (getS st) js
theorem deref_rep {vs : List V} {js : List Ix} {xss : List (List α)} (h : Sto K F as vss st) (hf : ∀ (j : Nat) (a : Addr) (vs : List V), as[j]? = some a → vss[j]? = some vs → F' a = some (.lst vs)) (s : Same F F')
    (hv : A2 (RX as) vs js) (e : deref st js = R.ok xss) : A2 (rep K F') vs xss := by
  induction hv generalizing xss with
  | nil =>
    cases e
    exact .nil
  | cons a b ih =>
    obtain ⟨ad, rfl, h1⟩ := a
    obtain ⟨ys, e1, e⟩ := bind_ok_iff.mp e
    obtain ⟨yss, e2, e⟩ := bind_ok_iff.mp e
    cases e
    rename_i j js' _ _
    unfold getS at e1
    cases q : st[j]? with
    | none => rw [q] at e1; cases e1
    | some zs =>
      rw [q] at e1
      cases e1
      obtain ⟨a', ws, h2, h3, h4⟩ := h.get q
      rw [h1] at h2
      cases h2
      exact .cons ⟨ad, ws, rfl, hf _ _ _ h1 h3, h4.mono s⟩ (ih e2)
theorem pb_deref {js : List Ix} {f : List (List α) → R δ} {P : δ → Prop} {E : Exn → Prop} (h : Post (deref st js >>= f) P E) : ∃ xss, deref st js = R.ok xss ∧ Post (f xss) P E := by
  cases e : deref st js with
  | ok xss =>
    rw [e] at h
    exact ⟨xss, rfl, h⟩
  | exc x =>
    exfalso
    clear h
    unfold deref at e
    induction js with
    | nil => cases e
    | cons j js ih =>
      have e' : (getS st j >>= fun y => mapR (getS st) js >>= fun ys => R.ok (y :: ys)) = R.exc x := e
      unfold getS at e'
      cases q : st[j]? with
      | none => rw [q] at e'; cases e'
      | some z =>
        rw [q] at e'
        have e2 : (mapR (getS st) js >>= fun ys => R.ok (z :: ys)) = R.exc x := e'
        cases q2 : mapR (getS st) js with
        | ok y => rw [q2] at e2; cases e2
        | exc y => rw [q2] at e2; cases e2; exact ih q2
        | bad => rw [q2] at e2; cases e2
  | bad =>
    rw [e] at h
    exact (show False from h).elim
end
section
variable {F H : Hp} {os os' pre post x : List (Addr × HO)} {a p : Addr} {o : HO} {as : List Addr} {vss : List (List V)} {j : Nat} {vs : List V}
/-! the second store -/
theorem W.as2 : pre ++ (x ++ (os ++ post)) = (pre ++ x) ++ (os ++ post) := by simp
theorem W.nget2 (w : W F H (pre ++ (x ++ (nz as vss ++ post)))) (h1 : as[j]? = some a) (h2 : vss[j]? = some vs) : H a = some (.lst vs) := (W.as2 ▸ w : W F H ((pre ++ x) ++ (nz as vss ++ post))).nget h1 h2
theorem W.nset2 (w : W F H (pre ++ (x ++ (nz as vss ++ post)))) (us : List V) (h1 : as[j]? = some a) (h2 : vss[j]? = some vs) : W F (upd H a (.lst us)) (pre ++ (x ++ (nz as (vss.set j us) ++ post))) := by
  rw [W.as2] at w ⊢
  exact w.nset us h1 h2
theorem W.nadd2 (w : W F H ((p, .lst vs) :: (pre ++ (x ++ (nz as vss ++ post))))) (hl : as.length = vss.length) : W F H (pre ++ (x ++ (nz (as ++ [p]) (vss ++ [vs]) ++ post))) := by
  rw [W.as2] at w ⊢
  exact w.nadd hl
theorem W.dropL0 (w : W F H (nz as vss ++ post)) : W F H post := W.dropL (pre := []) (os := nz as vss) w
theorem W.dropL2 (w : W F H (pre ++ (x ++ (os ++ post)))) : W F H (pre ++ (x ++ post)) := by
  rw [W.as2] at w
  have h := w.dropL
  rw [List.append_assoc] at h
  exact h
theorem W.nfreeze2 (w : W F H (pre ++ (x ++ (nz as vss ++ post)))) : ∃ F', Same F F' ∧ W F' H (pre ++ (x ++ post)) ∧ ∀ (j : Nat) (a : Addr) (vs : List V), as[j]? = some a → vss[j]? = some vs → F' a = some (.lst vs) := by
  rw [W.as2] at w
  obtain ⟨F', s, w', h⟩ := w.nfreeze
  rw [List.append_assoc] at w'
  exact ⟨F', s, w', h⟩
theorem W.ntake2 (w : W F H (pre ++ (x ++ (nz as vss ++ post)))) (h1 : as[j]? = some a) (h2 : vss[j]? = some vs) : W F H ((a, .lst vs) :: (pre ++ (x ++ post))) := by
  rw [W.as2] at w
  have h := w.ntake h1 h2
  rw [List.append_assoc] at h
  exact h
end
section
variable {K : Fg} {F : Hp} {a : Addr} {β : Type} {vs : List V} {xs : List β} {r : V → β → Prop}
theorem tw_listR (h : A2 r vs xs) : TW (Itl K a) xs (fun H => SqL K H a vs) (fun b H x H' => H' = H ∧ r x b) := ⟨by
  rw [← h.length]
  exact walk_list.mono (fun _ g => g) fun i H x H' _ _ y => by
    obtain ⟨y1, y2⟩ := y
    obtain ⟨b, h1, h2⟩ := h.getV y2
    exact ⟨b, h1, y1, h2⟩⟩
end
section
variable {F H : Hp} {os pre post x : List (Addr × HO)} {q : Addr × HO} {as : List Addr} {vss : List (List V)}
/-- a store behind the cells -/
theorem W.nback (w : W F H (q :: (nz as vss ++ (pre ++ post)))) : W F H (q :: (pre ++ (nz as vss ++ post))) := by
  refine w.perm (List.Perm.cons _ ?_)
  rw [← List.append_assoc, ← List.append_assoc]
  exact List.perm_append_comm.append_right _
variable {α : Type} [Rep α] {K : Fg} {a : Addr} {us : List V} {js : List Ix} {st xss : List (List α)}
theorem rl_all (s : Same F H) (hf : ∀ (j : Nat) (a : Addr) (vs : List V), as[j]? = some a → vss[j]? = some vs → H a = some (.lst vs)) (h : Sto K F as vss st) (hv : A2 (RX as) us js) (e : deref st js = R.ok xss) : A2 (rep K H) us xss := deref_rep h hf s hv e
theorem W.rl (w : W F H (pre ++ (nz as vss ++ post))) (qa : H a = some (.lst us)) (h : Sto K F as vss st) (hv : A2 (RX as) us js) (e : deref st js = R.ok xss) : rep K H (.ref a) xss :=
  ⟨a, us, rfl, qa, rl_all w.same (fun _ _ _ h1 h2 => w.nget h1 h2) h hv e⟩
theorem W.rl2 (w : W F H (pre ++ (x ++ (nz as vss ++ post)))) (qa : H a = some (.lst us)) (h : Sto K F as vss st) (hv : A2 (RX as) us js) (e : deref st js = R.ok xss) : rep K H (.ref a) xss :=
  ⟨a, us, rfl, qa, rl_all w.same (fun _ _ _ h1 h2 => w.nget2 h1 h2) h hv e⟩
end
/-! ### comprehensions, what is made told by the state -/
section
variable {J : It} {β γ δ ε : Type} {items : List β} {G : Hp → Prop} {Y : β → Hp → V → Hp → Prop} {g : TG} {tt : TT} {te : TE} {P : ε → Prop} {X : Exn → Prop} {K : Fg} {vs : List Nat} {σ : St} {F H1 : Hp} {os : List (Addr × HO)} {D : Addr} {Qd : Hp → Prop}
theorem lcG (tw : TW J items G Y) {f : γ → β → R (Option δ × γ)} {s0 : γ} {k : List δ × γ → R ε} (hm : Post (filStG f s0 items >>= k) P X) (O : γ → Hp → List (Addr × HO) → List V → List δ → Prop) (w : W F H1 os) (o0 : O s0 F os [] []) (nD : H1 D = none)
    (hl : ∀ c F' os' us ys, O c F' os' us ys → us.length = ys.length)
    (hG : ∀ c F' H' os' acc ys, Same F F' → W F' H' ((D, .lst acc) :: os') → O c F' os' acc ys → G H')
    (hs : ∀ (b : β) (c : γ) (x : V) (F' H' H'' : Hp) (os' : List (Addr × HO)) (acc : List V) (ys : List δ) (N : V → Hp → Prop) (N0 : Hp → Prop) (P' : Option δ × γ → Prop), Same F F' → W F' H' ((D, .lst acc) :: os') → O c F' os' acc ys → Y b H' x H'' →
      (∀ d c', P' (some d, c') → ∀ y F'' H'' os'', W F'' H'' ((D, .lst acc) :: os'') → Same F' F'' → O c' F'' os'' (acc ++ [y]) (ys ++ [d]) → N y H'') →
      (∀ c', P' (none, c') → ∀ F'' H'' os'', W F'' H'' ((D, .lst acc) :: os'') → Same F' F'' → O c' F'' os'' acc ys → N0 H'') → Post (f c b) P' X →
      g x (wipe σ vs) H'' fun σ2 H2 => wipe σ2 vs = wipe σ vs ∧ tt σ2 H2 fun b H3 => if b = true then te σ2 H3 N else N0 H3)
    (hd : ∀ c us F' H' os' ys, Same F F' → W F' H' ((D, .lst us) :: os') → O c F' os' us ys → Post (k (ys, c)) P X → Qd H') : LcAsk J g tt te vs σ H1 D Qd := by
  obtain ⟨hlen, hm⟩ := pb_grd (pb_assoc hm)
  have hlen : items.length < sizeLine := Nat.lt_of_lt_of_le (of_decide_eq_true hlen) line5
  refine lc_it tw.walk (fun i H => ∃ c F' os' us ys, i ≤ items.length ∧ Same F F' ∧ W F' H ((D, .lst us) :: os') ∧ O c F' os' us ys ∧ ys.length ≤ i ∧ Post (filSt f c (items.drop i) >>= fun q => k (ys ++ q.1, q.2)) P X) ?_ ?_ ?_ ?_
  · exact ⟨s0, F, os, [], [], Nat.zero_le _, Same.refl _, w.new nD, o0, Nat.le_refl _, hm⟩
  · rintro i H _ ⟨c, F', os', us, ys, _, s, w', o, _⟩
    exact hG c F' H os' us ys s w' o
  · rintro i x H H' hi ⟨c, F', os', us, ys, _, s, w', o, hl2, hm⟩ ⟨b, hb, y⟩
    rw [drop_cons hb] at hm
    have hm' : Post ((f c b >>= fun p => filSt f p.2 (items.drop (i + 1)) >>= fun q => match p.1 with
      | some y => (R.ok (y :: q.1, q.2) : R (List δ × γ))
      | none => R.ok q) >>= fun q => k (ys ++ q.1, q.2)) P X := hm
    rw [bind_bind] at hm'
    have hm2 := post_bind hm'
    have hul : us.length = ys.length := hl _ _ _ _ _ o
    refine hs b c x F' H H' os' us ys (fun y H4 => ∃ acc, H4 D = some (.lst acc) ∧ acc.length < sizeLine ∧ _) _ _ s w' o y ?_ ?_ hm2
    · intro d c' p2 y F'' H'' os'' w2 s2 o2
      refine ⟨us, w2.get (pre := []), by omega, c', F'', os'', us ++ [y], ys ++ [d], hi, s.trans s2, w2.set (pre := []), o2, by rw [List.length_append, List.length_singleton]; omega, ?_⟩
      have p3 : Post ((filSt f c' (items.drop (i + 1)) >>= fun q => (R.ok (d :: q.1, q.2) : R (List δ × γ))) >>= fun q => k (ys ++ q.1, q.2)) P X := p2
      rw [bind_bind] at p3
      have e : (fun q : List δ × γ => (R.ok (d :: q.1, q.2) : R (List δ × γ)) >>= fun q => k (ys ++ q.1, q.2)) = fun q => k (ys ++ [d] ++ q.1, q.2) := by
        funext q
        show k (ys ++ (d :: q.1), q.2) = k (ys ++ [d] ++ q.1, q.2)
        rw [List.append_assoc]
        rfl
      rw [e] at p3
      exact p3
    · intro c' p2 F'' H'' os'' w2 s2 o2
      refine ⟨c', F'', os'', us, ys, hi, s.trans s2, w2, o2, by omega, ?_⟩
      have p3 : Post ((filSt f c' (items.drop (i + 1)) >>= fun q => (R.ok q : R (List δ × γ))) >>= fun q => k (ys ++ q.1, q.2)) P X := p2
      rw [bind_bind] at p3
      exact p3
  · rintro H ⟨c, F', os', us, ys, _, s, w', o, _, hm⟩
    rw [List.drop_length] at hm
    have hm' : Post (k (ys ++ [], c)) P X := hm
    rw [List.append_nil] at hm'
    exact hd c us F' H os' ys s w' o hm'
theorem lcGM (tw : TW J items G Y) {f : γ → β → R (δ × γ)} {s0 : γ} {k : List δ × γ → R ε} (hm : Post (mapStG f s0 items >>= k) P X) (O : γ → Hp → List (Addr × HO) → List V → List δ → Prop) (w : W F H1 os) (o0 : O s0 F os [] []) (nD : H1 D = none)
    (hl : ∀ c F' os' us ys, O c F' os' us ys → us.length = ys.length)
    (hG : ∀ c F' H' os' acc ys, Same F F' → W F' H' ((D, .lst acc) :: os') → O c F' os' acc ys → G H')
    (hs : ∀ (b : β) (c : γ) (x : V) (F' H' H'' : Hp) (os' : List (Addr × HO)) (acc : List V) (ys : List δ) (N : V → Hp → Prop) (P' : δ × γ → Prop), Same F F' → W F' H' ((D, .lst acc) :: os') → O c F' os' acc ys → Y b H' x H'' →
      (∀ d c', P' (d, c') → ∀ y F'' H'' os'', W F'' H'' ((D, .lst acc) :: os'') → Same F' F'' → O c' F'' os'' (acc ++ [y]) (ys ++ [d]) → N y H'') → Post (f c b) P' X →
      g x (wipe σ vs) H'' fun σ2 H2 => wipe σ2 vs = wipe σ vs ∧ te σ2 H2 N)
    (hd : ∀ c us F' H' os' ys, Same F F' → W F' H' ((D, .lst us) :: os') → O c F' os' us ys → Post (k (ys, c)) P X → Qd H') : LcAsk J g tYes te vs σ H1 D Qd := by
  have e : ∀ (s : γ) (l : List β), filSt (fun c b => f c b >>= fun p => R.ok (some p.1, p.2)) s l = mapSt f s l := by
    intro s l
    induction l generalizing s with
    | nil => rfl
    | cons b l ih =>
      show ((f s b >>= fun p => R.ok (some p.1, p.2)) >>= fun p => filSt (fun c b => f c b >>= fun p => R.ok (some p.1, p.2)) p.2 l >>= fun q => match p.1 with
        | some y => (R.ok (y :: q.1, q.2) : R (List δ × γ))
        | none => R.ok q) = (f s b >>= fun p => mapSt f p.2 l >>= fun q => .ok (p.1 :: q.1, q.2))
      rw [bind_bind]
      refine congrArg (f s b >>= ·) ?_
      funext p
      show (filSt (fun c b => f c b >>= fun p => R.ok (some p.1, p.2)) p.2 l >>= fun q => (R.ok (p.1 :: q.1, q.2) : R (List δ × γ))) = _
      rw [ih]
  have hm' : Post (filStG (fun c b => f c b >>= fun p => R.ok (some p.1, p.2)) s0 items >>= k) P X := by
    unfold filStG
    simp only [e]
    exact hm
  refine lcG tw hm' O w o0 nD hl hG (fun b c x F' H' H'' os' acc ys N N0 P' s w' o y hN hN0 hp => ?_) hd
  exact hs b c x F' H' H'' os' acc ys N _ s w' o y (fun d c' p2 y F'' H'' os'' w2 s2 o2 => hN d c' p2 y F'' H'' os'' w2 s2 o2) (post_bind hp)
end
end Z
/-! Z6: constants of the module, things, dicts as written and asked -/
namespace Z
open PySem L2
open Rep (rep)
section
variable {X : Cx}
theorem pe_globI {x : Str} {n : Int} {pos : Pos} (hg : Gl X x) (h : ∃ t, X.mg x = some (.int n t)) (hd : (x == ("__debug__" : Str)) = false := by decide) : PE X (.Name x pos) (tC (.int n)) := by
  obtain ⟨t, e⟩ := h
  exact pe_glob hg e ⟨_, rfl⟩ hd
theorem call_intB : CallR X (.type "int") (fun xs H Q => ∃ k, xs = [.bl k] ∧ Q (.int (if k = true then 1 else 0)) H) := by
  intro pins s σ H xs us Q I r ⟨k, e, q⟩
  exact call_int1 pins s σ H xs us Q I r (.inr ⟨k, e, q⟩)
end
theorem call_lenDR {X : Cx} : CallR X (.builtin "len") (fun xs H Q => ∃ (a : Addr) (kvs : List (Key × V)) (n : Nat), xs = [V.ref a] ∧ H a = some (.dK kvs) ∧ kvs.length = n ∧ Q (.int (n : Int)) H) := by
  intro pins s σ H xs us Q I r ⟨a, kvs, n, e, h, hn, q⟩
  subst hn
  exact call_lenD pins s σ H xs us Q I r ⟨a, kvs, e, h, q⟩
/-- a while's fuel, not to be reckoned with -/
@[irreducible] def fu (n : Nat) : Nat := n
theorem fu_eq (n : Nat) : fu n = n := by
  unfold fu
  rfl
/-- x in l -/
abbrev inB {α : Type} [DecidableEq α] (x : α) (l : List α) : Bool := decide (x ∈ l)
theorem inB_t {α : Type} [DecidableEq α] {x : α} {l : List α} : inB x l = true ↔ x ∈ l := decide_eq_true_iff
theorem inB_f {α : Type} [DecidableEq α] {x : α} {l : List α} : inB x l = false ↔ x ∉ l := decide_eq_false_iff_not
def b2i (b : Bool) : Int := if b = true then 1 else 0
/-! ### things -/
def Thing.isPl : Thing → Bool
  | .pl _ => true
  | .ti _ _ => false
def asPl : Thing → R Int
  | .pl i => .ok i
  | .ti _ _ => .bad
def asTi : Thing → R (Int × Int)
  | .pl _ => .bad
  | .ti a b => .ok (a, b)
def mkpl (xs : List Int) : List Thing := xs.map Thing.pl
def mkti (xs : List (Int × Int)) : List Thing := xs.map fun p => Thing.ti p.1 p.2
section
variable {δ : Type} {P : δ → Prop} {E : Exn → Prop} {K : Fg} {F H : Hp}
theorem pb_asPl {t : Thing} {f : Int → R δ} (h : Post (asPl t >>= f) P E) : ∃ i, t = .pl i ∧ Post (f i) P E := by
  cases t with
  | pl i => exact ⟨i, rfl, h⟩
  | ti a b => exact (show False from h).elim
theorem pb_asTi {t : Thing} {f : Int × Int → R δ} (h : Post (asTi t >>= f) P E) : ∃ q : Int × Int, t = .ti q.1 q.2 ∧ Post (f q) P E := by
  cases t with
  | pl i => exact (show False from h).elim
  | ti a b => exact ⟨(a, b), rfl, h⟩
theorem A2.pl : ∀ {vs : List V} {xs : List Int}, A2 (rep K F) vs xs → A2 (rep K F) vs (mkpl xs)
  | _, _, .nil => .nil
  | _, _, .cons h t => .cons h (A2.pl t)
theorem A2.ti : ∀ {vs : List V} {xs : List (Int × Int)}, A2 (rep K F) vs xs → A2 (rep K F) vs (mkti xs)
  | _, _, .nil => .nil
  | _, _, .cons h t => .cons h (A2.ti t)
theorem th_ty (s : Same F H) {v : V} {t : Thing} (r : rep K F v t) : ∃ a, TyOf K H v (.type a) ∧ (a = "int" ∧ t.isPl = true ∨ a = "tuple" ∧ t.isPl = false) := by
  cases t with
  | pl i =>
    have r' : v = V.int i := r
    subst r'
    exact ⟨_, .int i, .inl ⟨rfl, rfl⟩⟩
  | ti a b =>
    obtain ⟨c, u, w, rfl, q, _⟩ := (show rep K F v (a, b) from r)
    exact ⟨_, .tup (s _ _ q), .inr ⟨rfl, rfl⟩⟩
theorem th_int (s : Same F H) {v : V} {t : Thing} (r : rep K F v t) : ∃ a, TyOf K H v (.type a) ∧ kitB a "int" = some t.isPl := by
  obtain ⟨a, h, z⟩ := th_ty s r
  rcases z with ⟨rfl, e⟩ | ⟨rfl, e⟩
  · exact ⟨_, h, by rw [e]; decide +kernel⟩
  · exact ⟨_, h, by rw [e]; decide +kernel⟩
theorem th_tuple (s : Same F H) {v : V} {t : Thing} (r : rep K F v t) : ∃ a, TyOf K H v (.type a) ∧ kitB a "tuple" = some (!t.isPl) := by
  obtain ⟨a, h, z⟩ := th_ty s r
  rcases z with ⟨rfl, e⟩ | ⟨rfl, e⟩
  · exact ⟨_, h, by rw [e]; decide +kernel⟩
  · exact ⟨_, h, by rw [e]; decide +kernel⟩
theorem th_bool (s : Same F H) {v : V} {t : Thing} (r : rep K F v t) : ∃ a, TyOf K H v (.type a) ∧ kitB a "bool" = some false := by
  obtain ⟨a, h, z⟩ := th_ty s r
  rcases z with ⟨rfl, e⟩ | ⟨rfl, e⟩
  · exact ⟨_, h, by decide +kernel⟩
  · exact ⟨_, h, by decide +kernel⟩
end
/-! ### dicts of scalars: as written, asked -/
section
variable {κ β γ : Type} [DecidableEq κ]
/-- as a display makes it -/
def mmk (l : List (κ × β)) : List (κ × β) := l.foldl (fun m p => mput m p.1 p.2) []
theorem merge_enc {ev : β → V} (l m : List (Int × β)) : mergeK (encM kI ev m) (encM kI ev l) = encM kI ev (l.foldl (fun m p => mput m p.1 p.2) m) := by
  induction l generalizing m with
  | nil => rfl
  | cons p l ih =>
    show mergeK (putK (encM kI ev m) (kI p.1) (ev p.2)) (encM kI ev l) = _
    rw [put_enc kI_inj, ih]
    rfl
end
section
variable {β δ : Type} {ev : β → V} {H : Hp} {a b : Addr} {P : δ → Prop} {E : Exn → Prop}
theorem dgets_k {m : List (Int × β)} {k : Int} {t : β} (e : H a = some (.dK (encM kI ev m))) (q : mget m k = some t) : DGet H a (.int k) (some (ev t)) := by
  have h := dget_k (k := k) e
  rw [q] at h
  exact h
theorem dgets_p {m : List ((Int × Int) × β)} {k : Int × Int} {t : β} (e : H a = some (.dT (encM kP ev m))) (eb : H b = some (.tup [.int k.1, .int k.2])) (q : mget m k = some t) : DGet H a (.ref b) (some (ev t)) := by
  have h := dget_p (k := k) e eb
  rw [q] at h
  exact h
theorem pb_mget {κ : Type} [DecidableEq κ] {m : List (κ × β)} {k : κ} {f : β → R δ} (h : Post (mgetR m k >>= f) P E) : ∃ t, mget m k = some t ∧ Post (f t) P E := pb_ofO h
theorem getD_ev (f : β → V) (o : Option β) (d : β) : (o.map f).getD (f d) = f (o.getD d) := by cases o <;> rfl
theorem isD_k {kvs : List (Key × V)} (e : H a = some (.dK kvs)) : IsD H a := .inl ⟨kvs, .inl e⟩
theorem isD_t {kvs : List (List Key × V)} (e : H a = some (.dT kvs)) : IsD H a := .inr ⟨kvs, .inl e⟩
end
def tDGet2R (td ty tx : TE) : TE := fun σ H Q => td σ H fun x H1 => ∃ a, x = .ref a ∧ IsD H1 a ∧ ty σ H1 fun y H2 => tx σ H2 fun z H3 => ∃ o r, DGet H3 a y o ∧ o.getD z = r ∧ Q r H3
section
variable {X : Cx} {o e f : Expr} {apos cpos : Pos} {td ty tx : TE}
theorem pe_dget2R (hu : X.A.units + 1 < cLine) (ho : PE X o td) (he : PE X e ty) (hf : PE X f tx) (m : M2 X o "get" apos e f cpos) : PE X (.Call (.Attribute o "get" apos) [e, f] [] cpos) (tDGet2R td ty tx) := by
  refine ⟨fun pins s σ H Q I h => ?_⟩
  refine wpAny_Call_method m.base m.few m.line PySem.F.plainAttrs_dict PySem.F.slot_dict_get PySem.F.type_dict_get (thn (ho.run pins s σ H _ I h) fun u s1 ⟨x, H1, I1, rx, a, ex, d, q1⟩ => ?_)
  subst ex
  obtain rfl : u = Value.ref a := rx
  obtain ⟨t1, t2, _⟩ := isD_at I1 d
  refine ⟨t1, t2, ?_⟩
  rw [m.trees]
  refine Calls.callWith_builtin rfl (Calls.evalArgs_plain (Calls.spliced_cons (thn (he.run pins s1 σ H1 _ I1 q1) fun iv s2 ⟨y, H2, I2, ry, q2⟩ =>
    Calls.spliced_cons (thn (hf.run pins s2 σ H2 _ I2 q2) fun fv s3 ⟨z, H3, I3, rz, ov, r, g, er, q3⟩ => Calls.spliced_nil ?_))))
  subst er
  exact d_get2 hu I3 g ry rz fun w' s4 I4 rw' => ⟨_, H3, I4, rw', q3⟩
end
/-! ### tuples cut and joined -/
section
variable {X : Cx} {K : Fg}
theorem sl_tupU (hK : X.K = K) : SlR X (fun x lo hi H Q => ∃ (a : Addr) (xs : List V) (F : Hp) (os : List (Addr × HO)), x = .ref a ∧ W F H os ∧ F a = some (.tup xs) ∧ ∀ p F' H', Same F F' → W F' H' os → F' p = some (.tup (cutV xs lo hi)) → Q (.ref p) H') := by
  subst hK
  intro pins s σ H x v vl vu lo hi sl Q I rx hs pl pu ⟨a, xs, F, os, e, w, q, h⟩
  refine sl_tupA pins s σ H x v vl vu lo hi sl Q I rx hs pl pu ⟨a, xs, e, SqT.of (w.same _ _ q), fun c => ?_, fun _ p hp => ?_⟩
  · refine h a F H (Same.refl _) w ?_
    have ec : cutV xs lo hi = xs := by
      unfold cutV
      rw [c.1, c.2]
      simp
    rw [ec]
    exact q
  · obtain ⟨F', s', w', q'⟩ := w.frzE (o := .tup (cutV xs lo hi)) hp
    exact h p F' _ s' w' q'
theorem op_catU (hK : X.K = K) : OpR X (binaryOp .Add) (fun x y H Q => ∃ (a b : Addr) (xs ys : List V) (F : Hp) (os : List (Addr × HO)), x = .ref a ∧ y = .ref b ∧ W F H os ∧ F a = some (.tup xs) ∧ F b = some (.tup ys) ∧ xs.length + ys.length ≤ sizeLine ∧
    ∀ p F' H', Same F F' → W F' H' os → F' p = some (.tup (xs ++ ys)) → Q (.ref p) H') := by
  subst hK
  intro pins s σ H x y v u Q I rx ry ⟨a, b, xs, ys, F, os, e1, e2, w, qa, qb, hl, h⟩
  refine op_catA pins s σ H x y v u Q I rx ry ⟨a, b, xs, ys, e1, e2, SqT.of (w.same _ _ qa), SqT.of (w.same _ _ qb), hl, fun c => ?_, fun c d => ?_, fun _ _ p hp => ?_⟩
  · subst c
    exact h b F H (Same.refl _) w qb
  · subst d
    exact h a F H (Same.refl _) w (by rw [List.append_nil]; exact qa)
  · obtain ⟨F', s', w', q'⟩ := w.frzE (o := .tup (xs ++ ys)) hp
    exact h p F' _ s' w' q'
end
end Z
/-! Z7: dicts of tuple keys whose values are lists of a store; their values walked -/
namespace L2
open PySem PySem.Spec PyProof.Rows
/-- the values of the locked dict at d, of tuple keys -/
def ItdT (d : Addr) (o : Obj) (kvs : List (List Key × V)) : It :=
  ⟨fun i H => H d = some (.frz o (.dT kvs)) ∧ i < kvs.length, fun i H x H' => H' = H ∧ ∃ k, kvs[i]? = some (k, x), fun i H => H d = some (.frz o (.dT kvs)) ∧ kvs.length ≤ i⟩
section
variable {X : Cx} {pins : List (Addr × Obj)} {σ : St} {H : Hp} {s : Shared} {d : Addr} {o : Obj}
theorem Inv.frzTV {kvs : List (List Key × V)} (I : Inv X pins σ H s) (h : H d = some (.frz o (.dT kvs))) :
    (d == sysModules) = false ∧ s.heap.get? d = some o ∧ o.ExactDict ∧ ∃ (es : Array DictEntry) (ep : Nat), o.data = .dict es ep ∧ es.size = kvs.length ∧
      ∀ (i : Nat) (k : List Key) (v : V), kvs[i]? = some (k, v) → ∃ en : DictEntry, es[i]? = some en ∧ RelV v en.val := by
  obtain ⟨hd, z, hs, xs, pr, o', es, ep, ho, hx, hdt, he, _⟩ := I.hok d _ h
  rw [hd] at ho
  cases ho
  refine ⟨hs, hd, hx, es, ep, hdt, ?_, fun i k v e => ?_⟩
  · have l1 : es.size = xs.length := size_of_entries he
    have l2 : kvs.length = xs.length := Paired.length pr
    omega
  · obtain ⟨b, hb, e1, e2, e3⟩ := paired_get pr e
    have q := entry_at he i
    rw [hb] at q
    exact ⟨_, q, e3⟩
end
section
variable {P : Program} {w : World} {K : PySem.W.Frag} {tg : Expr} {d : Addr} {o : Obj} {es : Array DictEntry} {ep : Nat}
theorem turn_valsT {kvs : List (List Key × V)} (it : Addr) (hod : o.data = .dict es ep) : Turn P w K tg (ItdT d o kvs) [it] it (fun i h => h.IsValIter it d i kvs.length ep) where
  mem := by simp
  obj := fun i h st b hb => by
    have e : b = it := by simpa using hb
    subst e
    obtain ⟨oi, e, c, dd⟩ := st
    exact ⟨oi, e, fun v z => by rw [dd] at z; cases z⟩
  keep := fun i h h' st k => st.at fun oi e => k it (by simp) oi e
  item := by
    intro X hP hw hK hc i pins s σ H E I hf st hg
    subst hP hw hK
    obtain ⟨hd, hi⟩ := hg
    obtain ⟨f0, f1, f2, f3, f4, f5⟩ := hf it (by simp)
    obtain ⟨hs, hgd, hx, es', ep', hdt, hsz, ent⟩ := I.frzTV hd
    obtain ⟨rfl, rfl⟩ := dict_ep hod hdt
    obtain ⟨⟨k, v⟩, hkv⟩ : ∃ p, kvs[i]? = some p := ⟨kvs[i], List.getElem?_eq_getElem hi⟩
    obtain ⟨en, hen, ru⟩ := ent i k v hkv
    have hil : i < es'.size := by omega
    have een : es'[i] = en := by
      rw [Array.getElem?_eq_getElem hil] at hen
      exact Option.some.inj hen
    rw [← hsz] at st
    refine wpAny_pyNext_values_item_raw st ⟨o, hgd, hx, hdt⟩ hil fun h' st' sb => ?_
    have I1 : Inv X pins σ H { s with heap := h' } := I.turned (t' := s.toks) (fun b ob hb e => (sb.2 b hb).trans e) f0 f1 f3 f4 f5
    obtain ⟨oi, e, c, dd⟩ := id st'
    refine ⟨_, rfl, go_of (s := { s with heap := h' }) e c dd (by decide) ⟨v, H, I1, by rw [een]; exact ru, ⟨rfl, k, hkv⟩, ?_, fun b hb => (hf b hb).1⟩⟩
    show h'.IsValIter it d (i + 1) kvs.length _
    rw [← hsz]
    exact st'
  done := by
    intro X hP hw hK hc i pins s σ H E I hf st hg
    subst hP hw hK
    obtain ⟨hd, hi⟩ := hg
    obtain ⟨f0, f1, f2, f3, f4, f5⟩ := hf it (by simp)
    obtain ⟨hs, hgd, hx, es', ep', hdt, hsz, ent⟩ := I.frzTV hd
    obtain ⟨rfl, rfl⟩ := dict_ep hod hdt
    rw [← hsz] at st
    exact wpAny_pyNext_values_end_raw (I.ok.hd hc) st ⟨o, hgd, hx, hdt⟩ (by omega) fun h' eb => ⟨rfl, I.turned (t' := s.toks) (fun b ob hb e => eb b ob hb e) f0 f1 f3 f4 f5⟩
  self := fun A i s Q E st h => wpAny_pyIter_valiter st h
end
/-- d.values() of a dict that is locked from there on -/
def iValsT (td : TE) : TI := fun σ H R => td σ H fun x H1 => ∃ d kvs, x = .ref d ∧ H1 d = some (.dT kvs) ∧ ∀ od, R (ItdT d od kvs) (upd H1 d (.frz od (.dT kvs)))
section
variable {X : Cx} {tg e : Expr} {td : TE} {apos cpos : Pos}
theorem pi_valuesT (he : PE X e td) (hbase : attributeBase e "values" X.env (eval e X.env) = eval e X.env := by rfl) (hline : (apos.endLine == cpos.line) = true := by rfl) : PI X tg (.Call (.Attribute e "values" apos) [] [] cpos) (iValsT td) := by
  refine ⟨fun pins s σ H R I h => ?_⟩
  refine wpAny_Call_method (T := "dict") (id := "dict.values") hbase rfl hline F.plainAttrs_dict F.slot_dict_values F.type_dict_values (thn (he.run pins s σ H _ I h) fun u s1 ⟨x, H0, I0, rx, d, kvs, ex, hd0, q0⟩ => ?_)
  subst ex
  obtain rfl : u = Value.ref d := rx
  obtain ⟨od, I1⟩ := I0.lock hd0 (by exact True.intro)
  have q := q0 od
  have hd : upd H0 d (.frz od (.dT kvs)) d = some (.frz od (.dT kvs)) := upd_same
  obtain ⟨hs, hgd, hx, es, ep, hdt, hsz, ent⟩ := I1.frzTV hd
  have hm : s1.heap.DictRaw d es ep := ⟨od, hgd, hx, hdt⟩
  refine ⟨hm.typeIs, fun b hb => ?_, ?_⟩
  · cases hb
    exact ⟨od, hgd, hx.2.1⟩
  have I2 : Inv X pins σ (upd H0 d (.frz od (.dT kvs))) { s1 with heap := s1.heap.push { cls := .type "dict_values", data := .fields #[.ref d] } } := I1.kept (t' := s1.toks) fun b ob q => Heap.get?_push_of_some _ q
  have fin : wpAny (model X.prog X.w) X.A (pyIter (.ref s1.heap.objs.size)) (PIE X pins σ tg R) X.xe { s1 with heap := s1.heap.push { cls := .type "dict_values", data := .fields #[.ref d] } } := by
    refine wpAny_pyIter_values_raw (d := d) (es := es) (ep := ep) ⟨_, Heap.get?_push_size _ rfl, rfl, rfl⟩ (hm.at fun o q => Heap.get?_push_of_some _ q) (pi_one (tk := s1.toks) I2 _ (turn_valsT _ hdt) ⟨_, Heap.get?_push_size _ rfl, rfl, ?_⟩ q)
    rw [hsz] <;> rfl
  show wpAny _ _ (callWith cpos (.builtin "dict.values") [.ref d] [] []) _ X.xe s1
  exact method_meetsIn F.slot_dict_values F.entry_dict_values rfl (PySem.evalArgs_none ⟨rfl, hm.typeIs, F.args_dict_values_1 _, _, meets_dict_values_raw d hs, ⟨es, ep, hm⟩, fin⟩)
end
end L2
namespace Z
open PySem L2
open Rep (rep)
/-! ### dicts by what their values stand for -/
section
variable {κ β γ : Type} [DecidableEq κ] [DecidableEq γ] {e : κ → γ} {r r' : V → β → Prop}
inductive AD (e : κ → γ) (r : V → β → Prop) : List (γ × V) → List (κ × β) → Prop
  | nil : AD e r [] []
  | cons {k : κ} {v : V} {x : β} {kvs : List (γ × V)} {m : List (κ × β)} : r v x → AD e r kvs m → AD e r ((e k, v) :: kvs) ((k, x) :: m)
theorem AD.length : ∀ {kvs : List (γ × V)} {m : List (κ × β)}, AD e r kvs m → kvs.length = m.length
  | _, _, .nil => rfl
  | _, _, .cons _ t => by rw [List.length_cons, List.length_cons, AD.length t]
theorem AD.imp (f : ∀ v x, r v x → r' v x) : ∀ {kvs : List (γ × V)} {m : List (κ × β)}, AD e r kvs m → AD e r' kvs m
  | _, _, .nil => .nil
  | _, _, .cons h t => .cons (f _ _ h) (AD.imp f t)
theorem AD.no (he : ∀ a b, e a = e b → a = b) {k : κ} : ∀ {kvs : List (γ × V)} {m : List (κ × β)}, AD e r kvs m → (valV kvs (e k)).isSome = mhas m k
  | _, _, .nil => rfl
  | _, _, .cons (k := j) (v := v) (x := x) (kvs := kvs) (m := m) h t => by
    show _ = (decide (j = k) || mhas m k)
    by_cases q : j = k
    · rw [valV_pos (congrArg e q), decide_eq_true q]; rfl
    · rw [valV_neg (fun z => q (he _ _ z)), decide_eq_false q, AD.no he t]; rfl
theorem AD.get (he : ∀ a b, e a = e b → a = b) {k : κ} {y : β} : ∀ {kvs : List (γ × V)} {m : List (κ × β)}, AD e r kvs m → mget m k = some y → ∃ v, valV kvs (e k) = some v ∧ r v y
  | _, _, .nil, h => by cases h
  | _, _, .cons (k := j) (v := v) (x := x) (kvs := kvs) (m := m) h t, g => by
    unfold mget at g
    by_cases q : j = k
    · rw [List.find?_cons_of_pos (by simpa using q)] at g
      cases g
      exact ⟨v, valV_pos (congrArg e q), h⟩
    · rw [List.find?_cons_of_neg (by simpa using q)] at g
      obtain ⟨u, h1, h2⟩ := AD.get he (k := k) t g
      exact ⟨u, by rw [valV_neg (fun z => q (he _ _ z))]; exact h1, h2⟩
theorem AD.snoc {k : κ} {v : V} {x : β} (h : r v x) : ∀ {kvs : List (γ × V)} {m : List (κ × β)}, AD e r kvs m → AD e r (kvs ++ [(e k, v)]) (m ++ [(k, x)])
  | _, _, .nil => .cons h .nil
  | _, _, .cons a t => .cons a (AD.snoc h t)
theorem AD.upd (he : ∀ a b, e a = e b → a = b) {k : κ} {v : V} {x : β} (h : r v x) : ∀ {kvs : List (γ × V)} {m : List (κ × β)}, AD e r kvs m → AD e r (kvs.map fun p => if p.1 = e k then (p.1, v) else p) (m.map fun p => if p.1 = k then (p.1, x) else p)
  | _, _, .nil => .nil
  | _, _, .cons (k := j) (v := u) (x := y) (kvs := kvs) (m := m) a t => by
    rw [List.map_cons, List.map_cons]
    by_cases q : j = k
    · subst q
      rw [if_pos rfl, if_pos rfl]
      exact .cons h (AD.upd he h t)
    · rw [if_neg q, if_neg (fun z => q (he _ _ z))]
      exact .cons a (AD.upd he h t)
theorem AD.any (he : ∀ a b, e a = e b → a = b) {k : κ} : ∀ {kvs : List (γ × V)} {m : List (κ × β)}, AD e r kvs m → (kvs.any fun p => decide (p.1 = e k)) = m.any fun p => decide (p.1 = k)
  | _, _, .nil => rfl
  | _, _, .cons (k := j) (kvs := kvs) (m := m) a t => by
    rw [List.any_cons, List.any_cons, AD.any he t]
    congr 1
    by_cases q : j = k
    · rw [q]; simp
    · rw [decide_eq_false q, decide_eq_false (fun z => q (he _ _ z))]
theorem AD.put (he : ∀ a b, e a = e b → a = b) {k : κ} {v : V} {x : β} {kvs : List (γ × V)} {m : List (κ × β)} (t : AD e r kvs m) (h : r v x) : AD e r (putK kvs (e k) v) (mput m k x) := by
  unfold putK mput
  rw [t.any he]
  by_cases q : (m.any fun p => decide (p.1 = k)) = true
  · rw [if_pos q, if_pos q]
    exact t.upd he h
  · rw [if_neg q, if_neg q]
    exact t.snoc h
theorem AD.vals : ∀ {kvs : List (γ × V)} {m : List (κ × β)}, AD e r kvs m → ∀ {i : Nat} {k : γ} {v : V}, kvs[i]? = some (k, v) → ∃ x, (m.map (·.2))[i]? = some x ∧ r v x
  | _, _, .nil, i, k, v, h => by simp at h
  | _, _, .cons (k := j) (v := u) (x := x) a t, 0, k, v, h => by
    simp at h
    obtain ⟨_, rfl⟩ := h
    exact ⟨x, rfl, a⟩
  | _, _, .cons a t, i + 1, k, v, h => by
    obtain ⟨x, h1, h2⟩ := AD.vals t (i := i) (k := k) (v := v) (by simpa using h)
    exact ⟨x, by simpa using h1, h2⟩
end
/-- a tuple of ints as a key -/
def kT (t : Tup Int) : List Key := t.l.map Sum.inl
theorem kT_inj : ∀ a b, kT a = kT b → a = b := fun a b h => by
  have g : ∀ xs ys : List Int, (xs.map Sum.inl : List Key) = ys.map Sum.inl → xs = ys := by
    intro xs
    induction xs with
    | nil => intro ys e; cases ys <;> first | rfl | cases e
    | cons x xs ih =>
      intro ys e
      cases ys with
      | nil => cases e
      | cons y ys =>
        rw [List.map_cons, List.map_cons] at e
        injection e with e1 e2
        rw [Sum.inl.inj e1, ih ys e2]
  have : a.l = b.l := g _ _ h
  cases a
  cases b
  simp at this
  rw [this]
section
variable {K : Fg} {F H : Hp} {a b : Addr} {kvs : List (List Key × V)} {vs : List V} {t : Tup Int} {β : Type} {r : V → β → Prop} {m : List (Tup Int × β)}
theorem key_tup (s : Same F H) (q : F b = some (.tup vs)) (h : A2 (rep K F) vs t.l) : H b = some (.tup ((kT t).map kV)) := by
  have e : vs = (kT t).map kV := by
    rw [h.ints]
    unfold kT
    rw [List.map_map]
    rfl
  rw [← e]
  exact s _ _ q
theorem dgetA (e : H a = some (.dT kvs)) (eb : H b = some (.tup ((kT t).map kV))) : DGet H a (.ref b) (valV kvs (kT t)) := DGet.t e eb
theorem dgetsA {v : V} (e : H a = some (.dT kvs)) (eb : H b = some (.tup ((kT t).map kV))) (q : valV kvs (kT t) = some v) : DGet H a (.ref b) (some v) := by
  have h := dgetA (t := t) e eb
  rw [q] at h
  exact h
theorem dputA {v : V} (e : H a = some (.dT kvs)) (eb : H b = some (.tup ((kT t).map kV))) (h : AD kT r kvs m) (hl : m.length < sizeLine) : DPut H a (.ref b) v (upd H a (.dT (putK kvs (kT t) v))) := DPut.t e eb (by rw [h.length]; exact hl)
theorem tw_valsT {d : Addr} {o : Obj} (h : AD kT r kvs m) : TW (ItdT d o kvs) (m.map (·.2)) (fun H => H d = some (.frz o (.dT kvs))) (fun b H x H' => H' = H ∧ r x b) := ⟨by
  rw [List.length_map, ← h.length]
  refine ⟨fun _ _ hi q => ⟨q, hi⟩, fun _ q => ⟨q, Nat.le_refl _⟩, fun i H x H' _ _ y => ?_⟩
  obtain ⟨e, k, hk⟩ := y
  obtain ⟨b, h1, h2⟩ := h.vals hk
  exact ⟨b, h1, e, h2⟩⟩
end
section
variable {X : Cx} {K : Fg}
/-- l.index(x), of data -/
theorem mt_indexDt (hK : X.K = K) (α : Type) [Dat α] [DecidableEq α] (hd : Dat.dmax α ≤ 50) (hu : X.A.units + 65 < cLine) : MtR X "list.index" (fun x xs H Q => ∃ (a : Addr) (u : V) (ys : List α) (y : α) (j : Nat), x = V.ref a ∧ xs = [u] ∧ rep K H (V.ref a) ys ∧ rep K H u y ∧ fidx y ys = some j ∧ Q (.int (j : Int)) H) := by
  subst hK
  intro pins s σ H x xs v us Q I rx rxs ⟨a, u, ys, y, j, e1, e2, hs, hy, hj, q⟩
  obtain ⟨h1, h2⟩ := fidx_spec hj
  refine mt_indexD hu pins s σ H x xs v us Q I rx rxs ⟨a, u, Dat.toD y, ys.map Dat.toD, j, Dat.toD y, e1, e2, Dat.dp hs, Dat.dp hy, shapedD (α := List α) (by show Dat.dmax α + 1 ≤ 60; omega) ys, shapedD (by omega) y, ?_, ?_, fun m z hm hz => ?_, q⟩
  · rw [List.getElem?_map, h1]
    rfl
  · rw [eqvD]
    exact decide_eq_true rfl
  · rw [List.getElem?_map] at hz
    cases e : ys[m]? with
    | none => rw [e] at hz; cases hz
    | some t =>
      rw [e] at hz
      cases hz
      rw [eqvD]
      exact decide_eq_false (h2 m t hm e)
end
end Z
/-! ZE: tuples item by item (Nt), objects of an own class (Oj), trees of tuples (Tr) -/
namespace Z
open PySem L2 PySem.Spec PyProof.Rows
open Rep (rep)
class RepL (α : Type) where
  repTs : Fg → Hp → List V → α → Prop
  mono : ∀ {K : Fg} {H H' : Hp} {vs : List V} {x : α}, Same H H' → repTs K H vs x → repTs K H' vs x
open RepL (repTs)
instance repLU : RepL Unit := ⟨fun _ _ vs _ => vs = [], fun _ h => h⟩
instance repLP {α β : Type} [Rep α] [RepL β] : RepL (α × β) := ⟨fun K H vs x => ∃ v us, vs = v :: us ∧ rep K H v x.1 ∧ repTs K H us x.2, fun s ⟨v, us, e, h1, h2⟩ => ⟨v, us, e, Rep.mono s h1, RepL.mono s h2⟩⟩
/-- a tuple, item by item -/
structure Nt (α : Type) where
  v : α
  deriving DecidableEq
instance decNtL {α : Type} [DecidableEq α] : DecidableEq (List (Nt α)) := inferInstance
instance repNt {α : Type} [RepL α] : Rep (Nt α) := ⟨fun K H v x => ∃ a vs, v = .ref a ∧ H a = some (.tup vs) ∧ repTs K H vs x.v, fun s ⟨a, vs, e, q, h⟩ => ⟨a, vs, e, s _ _ q, RepL.mono s h⟩⟩
section
variable {α β γ δ : Type} [Rep α] [Rep β] [Rep γ] [Rep δ] {K : Fg} {H H' : Hp} {v u1 u2 u3 u4 : V} {a : Addr}
theorem nt3 {x : Nt (α × β × γ × Unit)} (h : rep K H v x) : ∃ a u1 u2 u3, v = .ref a ∧ H a = some (.tup [u1, u2, u3]) ∧ rep K H u1 x.v.1 ∧ rep K H u2 x.v.2.1 ∧ rep K H u3 x.v.2.2.1 := by
  obtain ⟨a, vs, e, q, u1, _, rfl, h1, u2, _, rfl, h2, u3, _, rfl, h3, rfl⟩ := h
  exact ⟨a, u1, u2, u3, e, q, h1, h2, h3⟩
theorem nt4 {x : Nt (α × β × γ × δ × Unit)} (h : rep K H v x) : ∃ a u1 u2 u3 u4, v = .ref a ∧ H a = some (.tup [u1, u2, u3, u4]) ∧ rep K H u1 x.v.1 ∧ rep K H u2 x.v.2.1 ∧ rep K H u3 x.v.2.2.1 ∧ rep K H u4 x.v.2.2.2.1 := by
  obtain ⟨a, vs, e, q, u1, _, rfl, h1, u2, _, rfl, h2, u3, _, rfl, h3, u4, _, rfl, h4, rfl⟩ := h
  exact ⟨a, u1, u2, u3, u4, e, q, h1, h2, h3, h4⟩
theorem nt2 {x : Nt (α × β × Unit)} (h : rep K H v x) : ∃ a u1 u2, v = .ref a ∧ H a = some (.tup [u1, u2]) ∧ rep K H u1 x.v.1 ∧ rep K H u2 x.v.2.1 := by
  obtain ⟨a, vs, e, q, u1, _, rfl, h1, u2, _, rfl, h2, rfl⟩ := h
  exact ⟨a, u1, u2, e, q, h1, h2⟩
theorem rep_nt2 {x1 : α} {x2 : β} (q : H a = some (.tup [u1, u2])) (h1 : rep K H u1 x1) (h2 : rep K H u2 x2) : rep K H (.ref a) (⟨(x1, x2, ())⟩ : Nt (α × β × Unit)) := ⟨a, _, rfl, q, u1, _, rfl, h1, u2, _, rfl, h2, rfl⟩
theorem rep_nt3 {x1 : α} {x2 : β} {x3 : γ} (q : H a = some (.tup [u1, u2, u3])) (h1 : rep K H u1 x1) (h2 : rep K H u2 x2) (h3 : rep K H u3 x3) : rep K H (.ref a) (⟨(x1, x2, x3, ())⟩ : Nt (α × β × γ × Unit)) := ⟨a, _, rfl, q, u1, _, rfl, h1, u2, _, rfl, h2, u3, _, rfl, h3, rfl⟩
theorem rep_nt4 {x1 : α} {x2 : β} {x3 : γ} {x4 : δ} (q : H a = some (.tup [u1, u2, u3, u4])) (h1 : rep K H u1 x1) (h2 : rep K H u2 x2) (h3 : rep K H u3 x3) (h4 : rep K H u4 x4) : rep K H (.ref a) (⟨(x1, x2, x3, x4, ())⟩ : Nt (α × β × γ × δ × Unit)) := ⟨a, _, rfl, q, u1, _, rfl, h1, u2, _, rfl, h2, u3, _, rfl, h3, u4, _, rfl, h4, rfl⟩
end
/-! ### as data -/
class DatL (α : Type) extends RepL α where
  toDs : α → List PyData
  dmaxL : Nat
  dpL : ∀ {K : Fg} {H : Hp} {vs : List V} {x : α}, repTs K H vs x → DpAll K H vs (toDs x)
  layL : ∀ x : α, PyData.canLayAll0 (toDs x) = true
  depL : ∀ x : α, PyData.depthAll (toDs x) ≤ dmaxL
  eqvL : ∀ x y : α, PyData.eqvAll (toDs x) (toDs y) = true ↔ x = y
instance datLU : DatL Unit where
  toDs := fun _ => []
  dmaxL := 0
  dpL := fun h => by
    have h' : _ = [] := h
    subst h'
    exact .nil
  layL := fun _ => by simp only [PyData.canLayAll0]
  depL := fun _ => by simp only [PyData.depthAll, Nat.le_refl]
  eqvL := fun _ _ => by simp [PyData.eqvAll]
instance datLP {α β : Type} [Dat α] [DatL β] : DatL (α × β) where
  toDs := fun x => Dat.toD x.1 :: DatL.toDs x.2
  dmaxL := max (Dat.dmax α) (DatL.dmaxL β)
  dpL := fun {K H vs x} h => by
    obtain ⟨v, us, rfl, h1, h2⟩ := h
    exact .cons (Dat.dp h1) (DatL.dpL h2)
  layL := fun x => by simp only [PyData.canLayAll0, Dat.lay, DatL.layL, Bool.and_true]
  depL := fun x => by
    have h1 := Dat.dep x.1
    have h2 := DatL.depL x.2
    simp only [PyData.depthAll]
    omega
  eqvL := fun x y => by
    obtain ⟨x1, x2⟩ := x
    obtain ⟨y1, y2⟩ := y
    simp only [PyData.eqvAll, Bool.and_eq_true, Dat.eqv, DatL.eqvL, Prod.mk.injEq]
instance datNt {α : Type} [DatL α] : Dat (Nt α) where
  toD := fun x => .tuple (DatL.toDs x.v)
  dmax := DatL.dmaxL α + 1
  dp := fun {K H v x} h => by
    obtain ⟨a, vs, rfl, q, h⟩ := h
    exact .tup (SqT.of q) (DatL.dpL h)
  lay := fun x => by
    simp only [PyData.canLay0]
    exact DatL.layL x.v
  dep := fun x => by
    have h := DatL.depL x.v
    simp only [PyData.depth]
    omega
  eqv := fun x y => by
    obtain ⟨x⟩ := x
    obtain ⟨y⟩ := y
    simp only [PyData.eqv, Nt.mk.injEq]
    exact DatL.eqvL x y
/-! ### objects of an own class -/
def mkfs (fs : List Str) (us : List V) : List (Str × V) := (fs.zip us).foldl (fun l p => putF p.1 p.2 l) []
structure Oj (nm : Str) (fs : List Str) (α : Type) where
  v : α
instance repOj {nm : Str} {fs : List Str} {α : Type} [RepL α] : Rep (Oj nm fs α) := ⟨fun K H v x => ∃ a C dx us, v = .ref a ∧ Nm K nm C ∧ H a = some (.ins C dx (mkfs fs us)) ∧ repTs K H us x.v, fun s ⟨a, C, dx, us, e, n, q, h⟩ => ⟨a, C, dx, us, e, n, s _ _ q, RepL.mono s h⟩⟩
section
variable {α β γ δ : Type} [Rep α] [Rep β] [Rep γ] [Rep δ] {K : Fg} {H H' : Hp} {u1 u2 u3 u4 : V} {us : List V}
theorem rl1 {x : α × Unit} (h : repTs K H us x) : ∃ u1, us = [u1] ∧ rep K H u1 x.1 := by
  obtain ⟨u1, _, rfl, h1, rfl⟩ := h
  exact ⟨u1, rfl, h1⟩
theorem rl2 {x : α × β × Unit} (h : repTs K H us x) : ∃ u1 u2, us = [u1, u2] ∧ rep K H u1 x.1 ∧ rep K H u2 x.2.1 := by
  obtain ⟨u1, _, rfl, h1, u2, _, rfl, h2, rfl⟩ := h
  exact ⟨u1, u2, rfl, h1, h2⟩
theorem rl3 {x : α × β × γ × Unit} (h : repTs K H us x) : ∃ u1 u2 u3, us = [u1, u2, u3] ∧ rep K H u1 x.1 ∧ rep K H u2 x.2.1 ∧ rep K H u3 x.2.2.1 := by
  obtain ⟨u1, _, rfl, h1, u2, _, rfl, h2, u3, _, rfl, h3, rfl⟩ := h
  exact ⟨u1, u2, u3, rfl, h1, h2, h3⟩
theorem rl4 {x : α × β × γ × δ × Unit} (h : repTs K H us x) : ∃ u1 u2 u3 u4, us = [u1, u2, u3, u4] ∧ rep K H u1 x.1 ∧ rep K H u2 x.2.1 ∧ rep K H u3 x.2.2.1 ∧ rep K H u4 x.2.2.2.1 := by
  obtain ⟨u1, _, rfl, h1, u2, _, rfl, h2, u3, _, rfl, h3, u4, _, rfl, h4, rfl⟩ := h
  exact ⟨u1, u2, u3, u4, rfl, h1, h2, h3, h4⟩
theorem mk_rl1 {x1 : α} (h1 : rep K H u1 x1) : repTs K H [u1] (x1, ()) := ⟨u1, _, rfl, h1, rfl⟩
theorem mk_rl2 {x1 : α} {x2 : β} (h1 : rep K H u1 x1) (h2 : rep K H u2 x2) : repTs K H [u1, u2] (x1, x2, ()) := ⟨u1, _, rfl, h1, u2, _, rfl, h2, rfl⟩
theorem mk_rl3 {x1 : α} {x2 : β} {x3 : γ} (h1 : rep K H u1 x1) (h2 : rep K H u2 x2) (h3 : rep K H u3 x3) : repTs K H [u1, u2, u3] (x1, x2, x3, ()) := ⟨u1, _, rfl, h1, u2, _, rfl, h2, u3, _, rfl, h3, rfl⟩
theorem mk_rl4 {x1 : α} {x2 : β} {x3 : γ} {x4 : δ} (h1 : rep K H u1 x1) (h2 : rep K H u2 x2) (h3 : rep K H u3 x3) (h4 : rep K H u4 x4) : repTs K H [u1, u2, u3, u4] (x1, x2, x3, x4, ()) := ⟨u1, _, rfl, h1, u2, _, rfl, h2, u3, _, rfl, h3, u4, _, rfl, h4, rfl⟩
end
/-! ### trees: (a thing, a thing, a tuple of trees) -/
inductive Tr where
  | n (a b : Thing) (ts : List Tr)
def Tr.a : Tr → Thing
  | .n a _ _ => a
def Tr.b : Tr → Thing
  | .n _ b _ => b
def Tr.ts : Tr → List Tr
  | .n _ _ ts => ts
mutual
def trRep (K : Fg) (H : Hp) : Tr → V → Prop
  | .n a b ts, v => ∃ p u w q vs, v = .ref p ∧ H p = some (.tup [u, w, .ref q]) ∧ rep K H u a ∧ rep K H w b ∧ H q = some (.tup vs) ∧ trsRep K H ts vs
def trsRep (K : Fg) (H : Hp) : List Tr → List V → Prop
  | [], vs => vs = []
  | t :: ts, vs => ∃ v us, vs = v :: us ∧ trRep K H t v ∧ trsRep K H ts us
end
mutual
theorem trRep_mono {K : Fg} {H H' : Hp} (s : Same H H') : ∀ (t : Tr) (v : V), trRep K H t v → trRep K H' t v
  | .n a b ts, v, h => by
    rw [trRep] at h ⊢
    obtain ⟨p, u, w, q, vs, e, h1, h2, h3, h4, h5⟩ := h
    exact ⟨p, u, w, q, vs, e, s _ _ h1, Rep.mono s h2, Rep.mono s h3, s _ _ h4, trsRep_mono s ts vs h5⟩
theorem trsRep_mono {K : Fg} {H H' : Hp} (s : Same H H') : ∀ (ts : List Tr) (vs : List V), trsRep K H ts vs → trsRep K H' ts vs
  | [], vs, h => by
    rw [trsRep] at h ⊢
    exact h
  | t :: ts, vs, h => by
    rw [trsRep] at h ⊢
    obtain ⟨v, us, e, h1, h2⟩ := h
    exact ⟨v, us, e, trRep_mono s t v h1, trsRep_mono s ts us h2⟩
end
instance repTr : Rep Tr := ⟨fun K H v t => trRep K H t v, fun {_ _ _ v t} s h => trRep_mono s t v h⟩
theorem trs_a2 {K : Fg} {H : Hp} : ∀ (ts : List Tr) (vs : List V), trsRep K H ts vs ↔ A2 (rep K H) vs ts
  | [], vs => by
    rw [trsRep]
    exact ⟨fun e => by rw [e]; exact .nil, fun h => by cases h; rfl⟩
  | t :: ts, vs => by
    rw [trsRep]
    constructor
    · rintro ⟨v, us, rfl, h1, h2⟩
      exact .cons h1 ((trs_a2 ts us).mp h2)
    · intro h
      cases h with
      | cons h1 h2 => exact ⟨_, _, rfl, h1, (trs_a2 ts _).mpr h2⟩
abbrev TrN := Nt (Thing × Thing × Tup Tr × Unit)
def Tr.nt (t : Tr) : TrN := ⟨(t.a, t.b, ⟨t.ts⟩, ())⟩
def Tr.of (x : TrN) : Tr := .n x.v.1 x.v.2.1 x.v.2.2.1.l
theorem tr_nt {K : Fg} {H : Hp} {v : V} : ∀ {t : Tr}, rep K H v t → rep K H v t.nt
  | .n a b ts, h => by
    have h' : trRep K H (.n a b ts) v := h
    rw [trRep] at h'
    obtain ⟨p, u, w, q, vs, rfl, h1, h2, h3, h4, h5⟩ := h'
    exact rep_nt3 h1 h2 h3 ⟨q, vs, rfl, h4, (trs_a2 ts vs).mp h5⟩
theorem rep_tr {K : Fg} {H : Hp} {v : V} {x : TrN} (h : rep K H v x) : rep K H v (Tr.of x) := by
  obtain ⟨p, u, w, z, rfl, h1, h2, h3, h4⟩ := nt3 h
  obtain ⟨q, vs, rfl, h5, h6⟩ := h4
  show trRep K H (.n _ _ _) _
  rw [trRep]
  exact ⟨p, u, w, q, vs, rfl, h1, h2, h3, h5, (trs_a2 _ vs).mpr h6⟩
theorem nt_tr {K : Fg} {H : Hp} {v : V} : ∀ {t : Tr}, rep K H v t.nt → rep K H v t
  | .n a b ts, h => rep_tr h
/-! ### a tuple and the empty one -/
theorem A2.emp {α : Type} {r : V → α → Prop} {vs : List V} {xs : List α} (h : A2 r vs xs) : vs.isEmpty = xs.isEmpty := by
  cases h <;> rfl
theorem op_eqE {X : Cx} {K : Fg} (hK : X.K = K) (hu : X.A.units + 64 < cLine) : OpR X (compareOp .Eq) (fun x y H Q => ∃ (a b : Addr) (vs : List V) (k : Bool), x = .ref a ∧ y = .ref b ∧ SqT K H a vs ∧ SqT K H b [] ∧ vs.isEmpty = k ∧ Q (.bl k) H) := by
  subst hK
  intro pins s σ H x y v u Q I rx ry ⟨a, b, vs, k, e1, e2, h1, h2, ek, q⟩
  subst e1 e2 ek
  cases rx
  cases ry
  obtain ⟨its, r1, p1, _⟩ := I.tuple h1
  obtain ⟨its2, r2, p2, _⟩ := I.tuple h2
  cases r2
  have l1 : its.length = vs.length := (Vals.length r1).symm
  refine PySem.SeqAt.eq_tupleAt (e := fun _ => false) p1 p2 (by omega) (fun j _ z => absurd z (by simp)) ⟨.bl _, H, I, rfl, ?_⟩
  have e : ((List.range (min its.toArray.size ([] : List Value).toArray.size)).all (fun _ => false) && its.toArray.size == ([] : List Value).toArray.size) = vs.isEmpty := by
    cases vs with
    | nil =>
      have : its = [] := List.length_eq_zero_iff.mp l1
      subst this
      rfl
    | cons v vs =>
      cases its with
      | nil => cases l1
      | cons i its => simp
  rw [e]
  exact q
/-! ### great powers and products -/
@[irreducible] def sqR (i : Int) : R Int := if i.natAbs < 2 ^ 400 then .ok (i ^ (2 : Int).toNat) else .bad
@[irreducible] def mulW (i j : Int) : R Int := if i.natAbs < 2 ^ 400 ∧ j.natAbs < 2 ^ 400 then .ok (i * j) else .bad
theorem pb_sq {β : Type} {Q : β → Prop} {E : Exn → Prop} {i : Int} {f : Int → R β} (h : Post (sqR i >>= f) Q E) : i.natAbs < 2 ^ 400 ∧ Post (f (i ^ (2 : Int).toNat)) Q E := by
  unfold sqR at h
  exact pb_if h
theorem pb_mulW {β : Type} {Q : β → Prop} {E : Exn → Prop} {i j : Int} {f : Int → R β} (h : Post (mulW i j >>= f) Q E) : (i.natAbs < 2 ^ 400 ∧ j.natAbs < 2 ^ 400) ∧ Post (f (i * j)) Q E := by
  unfold mulW at h
  exact pb_if h
theorem po_sq {i : Int} (h : i.natAbs < 2 ^ 400) : sqR i = R.ok (i * i) := by
  unfold sqR
  rw [if_pos h]
  have e : i ^ (2 : Int).toNat = i * i := by
    show i ^ 2 = i * i
    rw [Int.pow_succ, Int.pow_succ, Int.pow_zero, Int.one_mul]
  rw [e]
theorem po_mulW {i j : Int} (h : i.natAbs < 2 ^ 400) (h2 : j.natAbs < 2 ^ 400) : mulW i j = R.ok (i * j) := by
  unfold mulW
  rw [if_pos ⟨h, h2⟩]
section
variable {X : Cx}
theorem op_sq : OpR X (binaryOp .Pow) (rI (fun i j => j = 2 ∧ i.natAbs < 2 ^ 400) fun i j => .int (i ^ j.toNat)) := opI fun i j _ _ _ _ _ hc q => by
  obtain ⟨rfl, h⟩ := hc
  refine PyProof.Rows.pow_int (by decide) ?_ q
  have := intBits_le_iff.mpr h
  omega
theorem op_mulW4 : OpR X (binaryOp .Mult) (rI (fun i j => i.natAbs < 2 ^ 400 ∧ j.natAbs < 2 ^ 400) fun i j => .int (i * j)) := opI fun _ _ _ _ _ _ _ hc q =>
  mul_int q (IntMulOk.of_le (intBits_le_iff.mpr hc.1) (intBits_le_iff.mpr hc.2) (by decide))
end
/-! ### min, max of a tuple of two ints -/
section
variable {prog : Program} {w : World} {A : Around} {E : Value → Shared → Prop} {s : Shared} {l : Addr} {xs : Array (Int × Tok)} {Q : Value → Shared → Prop}
theorem iter_intTup (hl : s.heap.IsTuple l (intItems xs))
    (h : ∀ s₂ : Shared, s₂ = { s with heap := s.heap.push { cls := .type "tuple_iterator", data := .fields #[.ref l, .int 0 0] } } →
      (s₂.heap.IsTupleIter s.heap.objs.size l 0 ∧ s₂.heap.IsTuple l (intItems xs)) → (∀ b ∈ [s.heap.objs.size, l], b < s₂.heap.objs.size) → l ≠ s.heap.objs.size → Q (.ref s.heap.objs.size) s₂) :
    wpAny (model prog w) A (pyIter (.ref l)) Q E s := by
  have hlt : l < s.heap.objs.size := by obtain ⟨_, e, _⟩ := hl; exact Heap.lt_size e
  refine wpAny_pyIter_tuple hl (h _ rfl ⟨⟨_, Heap.get?_push_size _ rfl, rfl, rfl⟩, hl.push _⟩ (fun b hb => ?_) (Nat.ne_of_lt hlt))
  show b < (s.heap.push _).objs.size
  rw [Heap.size_push]
  rcases List.mem_cons.mp hb with rfl | hb
  · exact Nat.lt_succ_self _
  · rcases List.mem_cons.mp hb with rfl | hb
    · exact Nat.lt_succ_of_lt hlt
    · cases hb
theorem old_keptT {h' : Heap} (hk : ∀ b o, b ∉ [s.heap.objs.size] → (s.heap.push { cls := .type "tuple_iterator", data := .fields #[.ref l, .int 0 0] }).get? b = some o → h'.get? b = some o) :
    ∀ b o, s.heap.get? b = some o → h'.get? b = some o := fun b o e => by
  refine hk b o (fun hm => ?_) (Heap.get?_push_of_some _ e)
  rcases List.mem_cons.mp hm with e1 | hm
  · exact absurd (e1 ▸ Heap.lt_size e) (Nat.lt_irrefl _)
  · cases hm
theorem max_intTup (hh : A.handled = none) (hl : s.heap.IsTuple l (intItems xs)) (hne : 0 < xs.size)
    (h : ∀ v h' tk, (intItems xs)[argBest (fun i j => decide (numAt xs i > numAt xs j)) (xs.size - 1)]? = some v → (∀ b o, s.heap.get? b = some o → h'.get? b = some o) → Q v { s with heap := h', toks := tk }) :
    wpAny (model prog w) A (call (.builtin "max") [.ref l]) Q E s := by
  refine call_max_walk (iter_intTup hl fun s₂ e st hfp hlI => ?_)
  subst e
  refine ⟨_, _, _, _, _, _, _, rfl, Walks.tuple (A := A.in1) hh _ l hlI (intItems xs), st, hfp, by simpa [intItems] using hne, CmpOf.ints_gt (numAt xs) (fun _ _ => intItems_at), fun v h' tk hP hk => ?_⟩
  exact h v h' tk (by simpa [intItems] using hP) (old_keptT hk)
theorem min_intTup (hh : A.handled = none) (hl : s.heap.IsTuple l (intItems xs)) (hne : 0 < xs.size)
    (h : ∀ v h' tk, (intItems xs)[argBest (fun i j => decide (numAt xs i < numAt xs j)) (xs.size - 1)]? = some v → (∀ b o, s.heap.get? b = some o → h'.get? b = some o) → Q v { s with heap := h', toks := tk }) :
    wpAny (model prog w) A (call (.builtin "min") [.ref l]) Q E s := by
  refine call_min_walk (iter_intTup hl fun s₂ e st hfp hlI => ?_)
  subst e
  refine ⟨_, _, _, _, _, _, _, rfl, Walks.tuple (A := A.in1) hh _ l hlI (intItems xs), st, hfp, by simpa [intItems] using hne, CmpOf.ints_lt (numAt xs) (fun _ _ => intItems_at), fun v h' tk hP hk => ?_⟩
  exact h v h' tk (by simpa [intItems] using hP) (old_keptT hk)
end
section
variable {X : Cx} {K : Fg}
theorem cr_maxT2 (hK : X.K = K) (hc : X.calm = true) : CallR X (.builtin "max") (fun vs H Q => ∃ (a : Addr) (i j : Int), vs = [V.ref a] ∧ SqT K H a [.int i, .int j] ∧ ∃ k, max2 i j = k ∧ Q (.int k) H) := by
  subst hK
  intro pins s σ H vs us Q I r ⟨a, i, j, e, h, k, ek, q⟩
  subst e ek
  obtain ⟨its, rv, hT, _⟩ := I.tuple h
  obtain ⟨t, u, rfl⟩ := Vals.int2 rv
  rw [Vals.ref1 r]
  refine max_intTup (xs := #[(i, t), (j, u)]) (I.ok.hd hc) (by rw [show intItems #[(i, t), (j, u)] = #[Value.int i t, Value.int j u] by simp [intItems]]; exact hT) (show 0 < 2 from by decide) fun v h' tk hv hk => ?_
  have hv' : v = Value.int (max2 i j) (if j > i then u else t) := by
    unfold max2
    by_cases z : j > i
    · have e : argBest (fun x y => decide (numAt #[(i, t), (j, u)] x > numAt #[(i, t), (j, u)] y)) 1 = 1 := by simp [argBest, numAt, z]
      rw [show (#[(i, t), (j, u)] : Array (Int × Tok)).size - 1 = 1 from rfl, e] at hv
      simpa [intItems, z] using hv.symm
    · have e : argBest (fun x y => decide (numAt #[(i, t), (j, u)] x > numAt #[(i, t), (j, u)] y)) 1 = 0 := by simp [argBest, numAt, z]
      rw [show (#[(i, t), (j, u)] : Array (Int × Tok)).size - 1 = 1 from rfl, e] at hv
      simpa [intItems, z] using hv.symm
  rw [hv']
  exact ⟨.int _, H, I.kept hk, ⟨_, rfl⟩, q⟩
theorem cr_minT2 (hK : X.K = K) (hc : X.calm = true) : CallR X (.builtin "min") (fun vs H Q => ∃ (a : Addr) (i j : Int), vs = [V.ref a] ∧ SqT K H a [.int i, .int j] ∧ ∃ k, min2 i j = k ∧ Q (.int k) H) := by
  subst hK
  intro pins s σ H vs us Q I r ⟨a, i, j, e, h, k, ek, q⟩
  subst e ek
  obtain ⟨its, rv, hT, _⟩ := I.tuple h
  obtain ⟨t, u, rfl⟩ := Vals.int2 rv
  rw [Vals.ref1 r]
  refine min_intTup (xs := #[(i, t), (j, u)]) (I.ok.hd hc) (by rw [show intItems #[(i, t), (j, u)] = #[Value.int i t, Value.int j u] by simp [intItems]]; exact hT) (show 0 < 2 from by decide) fun v h' tk hv hk => ?_
  have hv' : v = Value.int (min2 i j) (if j < i then u else t) := by
    unfold min2
    by_cases z : j < i
    · have e : argBest (fun x y => decide (numAt #[(i, t), (j, u)] x < numAt #[(i, t), (j, u)] y)) 1 = 1 := by simp [argBest, numAt, z]
      rw [show (#[(i, t), (j, u)] : Array (Int × Tok)).size - 1 = 1 from rfl, e] at hv
      simpa [intItems, z] using hv.symm
    · have e : argBest (fun x y => decide (numAt #[(i, t), (j, u)] x < numAt #[(i, t), (j, u)] y)) 1 = 0 := by simp [argBest, numAt, z]
      rw [show (#[(i, t), (j, u)] : Array (Int × Tok)).size - 1 = 1 from rfl, e] at hv
      simpa [intItems, z] using hv.symm
  rw [hv']
  exact ⟨.int _, H, I.kept hk, ⟨_, rfl⟩, q⟩
end
/-! ### a list grows by a tuple's items -/
theorem meets_extend_tup (l : Addr) (items : Array Value) (n : Nat) (b : Addr) (items2 : Array Value) (n2 : Nat) (o2 : Obj) (hc2 : o2.cls = .type "tuple") (hd2 : o2.data = .seq items2 n2) (hs0 : ¬(!items.isEmpty && Builtin.List.listTooLong (items.size + items2.size)) = true) (hs1 : items.size ≤ sizeLine) (hs2 : items.size + items2.size ≤ sizeLine + 1) :
    Meets (Builtin.«list.extend» ⟨[.ref l, .ref b], []⟩) (fun _ R s => s.heap.get? l = some { cls := .type "list", dict := none, data := .seq items n, slots := #[] } ∧ s.heap.get? b = some o2 ∧ R (.ok (.ret Value.none)) { s with heap := s.heap.update l (Obj.mapSeq fun x => x ++ items2), toks := s.toks }) :=
  .of_wp fun prog w A R s h => by
    obtain ⟨c2, d2, da2, sl2⟩ := o2
    dsimp only at hc2 hd2
    subst hc2 hd2
    obtain ⟨hp, g, d, tk, os⟩ := s; obtain ⟨hl, hb, h⟩ := h; have f1 := AutoSeq1.idx_int; have f2 := AutoSeq1.sub_tuple_tuple; have f3 := AutoSeq1.sub_list_list; have f4 := AutoSeq1.sub_tuple_list; have f5 := AutoSeq1.sub_list_tuple;
    have hz' : (items ++ items2).size ≤ sizeLine + 1 := by rw [Array.size_append]; exact hs2
    wp_walk using (wpAny_updateSeq hl rfl (hz := hs1) (_hz' := hz')), AutoSeq1.wpAny_loadPart' hl, AutoSeq1.wpAny_loadPart' hb; exact ⟨_, rfl, h⟩
theorem mt_extendT {X : Cx} {K : Fg} (hK : X.K = K) : MtM X "list.extend" (fun x vs H Q => ∃ l b xs zs, x = .ref l ∧ vs = [.ref b] ∧ H l = some (.lst xs) ∧ SqT K H b zs ∧ xs.length + zs.length ≤ sizeLine ∧ Q .non (upd H l (.lst (xs ++ zs)))) := by
  subst hK
  intro pins s σ H x vs v us Q I rx rv h
  obtain ⟨l, b, xs, zs, rfl, rfl, hH, hB, hz, q⟩ := h
  cases rx
  obtain ⟨u, rfl, ru⟩ := rv.one
  cases ru
  obtain ⟨z, its, n, r, hl, e⟩ := I.lstM hH
  obtain ⟨its2, r2, ⟨o2, e2, hc2, n2, hd2⟩, hl2⟩ := I.tuple hB
  have hl3 : zs.length = its2.length := r2.length
  have hsz : its.toArray.size + its2.toArray.size ≤ sizeLine := by rw [List.size_toArray, List.size_toArray]; omega
  have hlong : ¬ (!its.toArray.isEmpty && Builtin.List.listTooLong (its.toArray.size + its2.toArray.size)) = true := by
    rw [notLongL hsz, Bool.and_false]
    exact Bool.false_ne_true
  refine call_meets F.slot_list_extend ⟨_, e, rfl⟩ F.entry_list_extend (F.args_list_extend_2 _ _)
    (meets_extend_tup l its.toArray n b its2.toArray n2 o2 hc2 hd2 hlong (by rw [List.size_toArray]; omega) (by omega)) ⟨e, e2, ?_⟩
  refine ⟨.non, _, I.lset (its' := its ++ its2) hH e (by simp) (r.append r2) ?_, rfl, q⟩
  rw [List.length_append]
  omega
end Z
/-! ZK: a list of two ints, unpacked -/
namespace Z
open PySem L2
open Rep (rep)
def un2 {α : Type} (xs : List α) : R (α × α) := match xs with
  | [a, b] => .ok (a, b)
  | _ => .bad
theorem pb_un2 {α δ : Type} {xs : List α} {f : α × α → R δ} {P : δ → Prop} {E : Exn → Prop} (h : Post (un2 xs >>= f) P E) : ∃ a b, xs = [a, b] ∧ Post (f (a, b)) P E := by
  match xs, h with
  | [], h => exact (show False from h).elim
  | [_], h => exact (show False from h).elim
  | [a, b], h => exact ⟨a, b, rfl, h⟩
  | _ :: _ :: _ :: _, h => exact (show False from h).elim
theorem two_ints {K : Fg} {F : Hp} {vs : List V} {xs : List Int} {a b : Int} (h : A2 (rep K F) vs xs) (e : xs = [a, b]) : vs = [.int a, .int b] := by
  subst e
  cases h with
  | cons h1 t =>
    cases t with
    | cons h2 t =>
      cases t
      have h1' : _ = V.int a := h1
      have h2' : _ = V.int b := h2
      rw [h1', h2']
theorem po_un2 {α δ : Type} {a b : α} {f : α × α → R δ} {P : δ → Prop} {E : Exn → Prop} (h : Post (f (a, b)) P E) : Post (un2 [a, b] >>= f) P E := h
end Z
/-! Z8: set(list of ints), sorted of it; list.count of data; list.insert -/
namespace L2
open PySem PySem.Spec PyProof.Rows
section
variable {P : Program} {w : World} {A : Around} {E : Value → Shared → Prop} {s : Shared}
set_option maxHeartbeats 3200000 in
/-- set(l) of a list of ints (turned from the tuple's, call_set_tupI) -/
theorem set_of_listI {l : Addr} {items : Array Value} (ns : List Int) {Q : Value → Shared → Prop} (hh : A.handled = none) (hl : s.heap.IsList l items) (hit : IntsAre items.toList ns) (hb : ns.length + 1 < scanBound)
    (h : ∀ (h' : Heap) (tk c : Nat), SetR w h' s.heap.objs.size (fun j => decide (j ∈ ns)) c → c ≤ ns.length → (∀ b o, s.heap.get? b = some o → h'.get? b = some o) → Q (.ref s.heap.objs.size) { s with heap := h', toks := tk }) :
    wpAny (model P w) A (call (.type "set") [.ref l]) Q E s := by
  have hisz : items.size = ns.length := by
    have q := IntsAre.length hit
    rw [Array.length_toList] at q
    exact q
  obtain ⟨c, tl, hmro⟩ := F.called_set.mro
  have hmade := F.called_set.made
  have hsub := F.called_set.sub
  refine wpAny_call (codeAny_of_tree ?_)
  show wpAny _ _ (callAny (.type "set") _) _ _ _
  refine wpAny_pure ⟨Code.quiet_builtin _ (by decide +kernel), codeAny_builtin F.entry_type_call ?_⟩
  rw [Around.under_plain (weight_type_call_type "set" [.ref l] []) rfl]
  have h1 := F.called_set.notType
  have h2 := F.called_set.canCreate
  have hct := F.typeCall_set_1 (.ref l)
  repeat (any_goals (first | assumption | wp_step))
  refine codeAny_mono (code_set_led1 (.ref l) (E := E) (Q₁ := fun obj s₁ => obj = .ref s.heap.objs.size ∧ s₁ = { s with heap := s.heap.push { cls := .type "set", dict := none, data := .set #[] 0 (.fresh 0 0 (!w.params.followText "set-order")) } }) ⟨rfl, rfl⟩) fun r s₁ hr => ?_
  cases r with
  | error e => exact hr
  | ok fl =>
    cases fl with
    | ret obj =>
      obtain ⟨rfl, rfl⟩ := hr
      have hS : (s.heap.push { cls := .type "set", dict := none, data := .set #[] 0 (.fresh 0 0 (!w.params.followText "set-order")) }).get? s.heap.objs.size = some { cls := .type "set", dict := none, data := .set #[] 0 (.fresh 0 0 (!w.params.followText "set-order")) } := Heap.get?_push_size _ rfl
      have hT : Shared.TypeIs { s with heap := s.heap.push { cls := .type "set", dict := none, data := .set #[] 0 (.fresh 0 0 (!w.params.followText "set-order")) } } (.ref s.heap.objs.size) "set" := ⟨_, hS, rfl⟩
      have hli := F.called_set.init.lookup
      have hbi := F.called_set.init.bind (.ref s.heap.objs.size)
      repeat (any_goals (first | assumption | wp_step))
      refine codeAny_mono (codeAny_call_builtin (R := wants (fun r s₂ => r = .none ∧ ∃ h' tk c, s₂ = { s with heap := h', toks := tk } ∧ SetR w h' s.heap.objs.size (fun j => decide (j ∈ ns)) c ∧ c ≤ ns.length ∧
          (∀ b o, s.heap.get? b = some o → h'.get? b = some o)) E) F.called_set.init.plain F.entry_set_init (check_set_init_1 hT ?_)) fun r₂ s₂ hr₂ => ?_
      · obtain ⟨ol, hol, hcl, nl, hdl⟩ := hl
        obtain ⟨ocls, odict, odata, oslots⟩ := ol
        simp only at hcl hdl
        subst hcl; subst hdl
        have hol' : (s.heap.push { cls := .type "set", dict := none, data := .set #[] 0 (.fresh 0 0 (!w.params.followText "set-order")) }).get? l = some { cls := .type "list", dict := odict, data := .seq items nl, slots := oslots } := Heap.get?_push_of_some _ hol
        have hsls := F.sub_list_set
        have hslf := F.sub_list_frozenset
        have hne : (Value.type "list" == Value.type "dict") = false := by decide
        have hl1 : (s.heap.push { cls := .type "set", dict := none, data := .set #[] 0 (.fresh 0 0 (!w.params.followText "set-order")) }).IsList l items := ⟨_, hol', rfl, nl, rfl⟩
        unfold Builtin.«set.__init__» noKeywords Builtin.Frozenset.updateFrom
        generalize hPI : pyIter = PI
        wp_walk
        subst hPI
        refine wpAny_pyIter_list hl1 ?_
        refine wpAny_bind (wpAny_runValue ?_)
        have hlS : l < s.heap.objs.size := Heap.lt_size hol
        have hh3 : A.in1.in1.in1.handled = none := by simp [hh]
        have hz1 : (s.heap.push { cls := .type "set", dict := none, data := .set #[] 0 (.fresh 0 0 (!w.params.followText "set-order")) }).objs.size = s.heap.objs.size + 1 := Heap.size_push ..
        have hneI : l ≠ (s.heap.push { cls := .type "set", dict := none, data := .set #[] 0 (.fresh 0 0 (!w.params.followText "set-order")) }).objs.size := by
          rw [Heap.size_push]; exact Nat.ne_of_lt (Nat.lt_succ_of_lt hlS)
        have hSf : s.heap.objs.size ∉ [(s.heap.push { cls := .type "set", dict := none, data := .set #[] 0 (.fresh 0 0 (!w.params.followText "set-order")) }).objs.size, l] := by
          rw [Heap.size_push]; simp only [List.mem_cons, List.mem_singleton, List.not_mem_nil, or_false, not_or]
          exact ⟨Nat.ne_of_lt (Nat.lt_succ_self _), Nat.ne_of_gt hlS⟩
        have hval : ∀ (i : Nat) (v : Value), items[i]? = some v → ∃ k t, ns[i]? = some k ∧ v = .int k t := fun i v hv => by
          have hi : i < ns.length := by rw [← hisz]; exact (Array.getElem?_eq_some_iff.mp hv).1
          obtain ⟨t, e⟩ := PyProof.Rows.IntsAre.int_at hit i v (by rw [Array.getElem?_toList]; exact hv)
          refine ⟨ns[i], t, List.getElem?_eq_getElem hi, ?_⟩
          rw [e, List.getD_eq_getElem?_getD, List.getElem?_eq_getElem hi] <;> rfl
        refine set_update_ints ((Walks.list hh3 _ l hneI items).toS) s.heap.objs.size
          hSf ns hisz hb hval (items.size - 0) 0 _ (by omega) (Nat.zero_le _)
          ⟨⟨_, Heap.get?_push_size _ rfl, rfl, rfl⟩, (hl1.push _)⟩ ?hS0 ?hR
        case hS0 =>
          have hget : ((s.heap.push { cls := .type "set", dict := none, data := .set #[] 0 (.fresh 0 0 (!w.params.followText "set-order")) }).push { cls := .type "list_iterator", data := .fields #[.ref l, .int 0 0] }).get? s.heap.objs.size = some { cls := .type "set", dict := none, data := .set #[] 0 (.fresh 0 0 (!w.params.followText "set-order")) } := Heap.get?_push_of_some _ hS
          exact ⟨0, Nat.le_refl 0, setR_new_at hget⟩
        case hR =>
          intro s' c' hm hc' hS'
          obtain ⟨h', g2, d', tk', os'⟩ := s'
          have eg : g2 = s.gens := hm.gens
          have ed : d' = s.drawn := hm.drawn
          have eo : os' = s.os := hm.os
          subst eg; subst ed; subst eo
          show wpAny _ _ _ _ _ _
          refine wpAny_pure ?_
          show wpAny _ _ (ret Value.none) _ _ _
          rw [hisz] at hc'
          refine wpAny_pure ⟨rfl, h', tk', c', rfl, hS', hc', fun b o e => ?_⟩
          have hb0 : b < s.heap.objs.size := Heap.lt_size e
          have hb1 : b ≠ s.heap.objs.size := Nat.ne_of_lt hb0
          have hb2 : b ≠ (s.heap.push { cls := .type "set", dict := none, data := .set #[] 0 (.fresh 0 0 (!w.params.followText "set-order")) }).objs.size := by
            rw [Heap.size_push]; exact Nat.ne_of_lt (Nat.lt_succ_of_lt hb0)
          exact hm.heap b o (by simp only [List.mem_cons, List.mem_singleton, List.not_mem_nil, or_false, not_or]; exact ⟨hb1, hb2⟩) (Heap.get?_push_of_some _ (Heap.get?_push_of_some _ e))
      · cases r₂ with
        | error e => exact hr₂
        | ok fl₂ =>
          cases fl₂ with
          | ret r =>
            obtain ⟨rfl, h', tk, c', rfl, hS', hc', hk'⟩ := hr₂
            repeat (any_goals (first | assumption | wp_step))
            exact h _ _ _ hS' hc' hk'
          | _ => exact hr₂.elim
    | _ => exact hr.elim
end
end L2
namespace Z
open PySem L2
open Rep (rep)
section
variable {X : Cx} {K : Fg} {w : World}
theorem cr_setLI (hK : X.K = K) (hw : X.w = w) (hc : X.calm = true) : CallR X (.type "set") (fun xs H Q => ∃ (l : Addr) (ns : List Int), xs = [V.ref l] ∧ SqL K H l (ns.map V.int) ∧ ns.length < 4000 ∧ ∀ a, H a = none → Q (.ref a) (upd H a (SetO w a (fun j => decide (j ∈ ns)) (nub ns).length))) := by
  subst hK hw
  intro pins s σ H xs us Q I r h
  obtain ⟨l, ns, rfl, hl, hf, q⟩ := h
  rw [Vals.ref1 r]
  obtain ⟨its, rv, pl, hz⟩ := I.list hl
  have hn : H s.heap.objs.size = none := I.hok.fresh (Nat.le_refl _)
  refine set_of_listI ns (I.ok.hd hc) pl.isList (by simpa using ints_of_vals rv) (by unfold scanBound; omega) fun h' tk c R hcn k => ?_
  have ec : c = (nub ns).length := by
    obtain ⟨o, es, ep, t, ho, hex, hdt, g, nd, hm2, hb, hf, hcs, hr, hl2⟩ := R
    rw [← hcs]
    have e1 : (es.toList.map keyOf).length = (nub ns).length := nodup_len nd (nub_nodup _) fun y => by
      rw [nub_mem, ← hm2 y, decide_eq_true_eq]
    rw [← e1, List.length_map, Array.length_toList]
  subst ec
  exact ⟨.ref s.heap.objs.size, upd H s.heap.objs.size (SetO X.w s.heap.objs.size (fun j => decide (j ∈ ns)) (nub ns).length), I.laid (t' := tk) k (Nat.le_refl _) (setO_new R), rfl, q _ hn⟩
theorem cr_sortSet (hw : X.w = w) (hc : X.calm = true) : CallR X (.builtin "sorted") (rSortedSet w) := by
  subst hw
  exact cr_sortedSet hc
end
/-- sorted(set(xs)) -/
def ssI (xs : List Int) : List Int := sortI (nub xs)
def ssR (xs : List Int) : R (List Int) := grd (decide (xs.length < 4000) && decide ((nub xs).length < 64)) >>= fun _ => .ok (ssI xs)
theorem perm_ints {xs ys : List Int} (h1 : xs.Nodup) (h2 : ys.Nodup) (h : ∀ x, x ∈ xs ↔ x ∈ ys) : xs.Perm ys := by
  rw [List.perm_iff_count]
  intro a
  rw [h1.count, h2.count]
  by_cases q : a ∈ xs
  · rw [if_pos q, if_pos ((h a).mp q)]
  · rw [if_neg q, if_neg (fun z => q ((h a).mpr z))]
theorem ssI_uniq {xs ns : List Int} (h1 : ns.Pairwise (· < ·)) (h2 : ∀ k : Int, k ∈ ns ↔ decide (k ∈ xs) = true) : ns = ssI xs := by
  unfold ssI
  refine sort_uniq ?_ (h1.imp fun h => Int.le_of_lt h) (sortI_sorted _)
  refine List.Perm.trans ?_ (sortI_perm _).symm
  refine perm_ints (h1.imp fun h => Int.ne_of_lt h) (nub_nodup _) fun k => ?_
  rw [h2 k, decide_eq_true_iff, nub_mem]
theorem pb_ss {δ : Type} {xs : List Int} {f : List Int → R δ} {P : δ → Prop} {E : Exn → Prop} (h : Post (ssR xs >>= f) P E) : ∃ l, (xs.length < 4000 ∧ (nub xs).length < 64) ∧ l = ssI xs ∧ Post (f l) P E := by
  unfold ssR at h
  cases q : (decide (xs.length < 4000) && decide ((nub xs).length < 64)) with
  | true =>
    rw [q] at h
    rw [Bool.and_eq_true, decide_eq_true_iff, decide_eq_true_iff] at q
    exact ⟨_, q, rfl, h⟩
  | false =>
    rw [q] at h
    exact (show False from h).elim
/-- xs.insert(i, y), i not below nought -/
def insR {α : Type} (xs : List α) (i : Int) (y : α) : R (List α) := if xs.length < 100000 ∧ 0 ≤ i ∧ i < 9223372036854775808 then .ok (xs.take i.toNat ++ [y] ++ xs.drop i.toNat) else .bad
theorem pn_ins {α δ : Type} {xs : List α} {i : Int} {y : α} {f : List α → R δ} {P : δ → Prop} {E : Exn → Prop} (h : Post (insR xs i y >>= f) P E) : ∃ l, (xs.length < 100000 ∧ 0 ≤ i ∧ i < 9223372036854775808) ∧ l = xs.take i.toNat ++ [y] ++ xs.drop i.toNat ∧ Post (f l) P E := by
  unfold insR at h
  by_cases q : xs.length < 100000 ∧ 0 ≤ i ∧ i < 9223372036854775808
  · rw [if_pos q] at h
    exact ⟨_, q, rfl, h⟩
  · rw [if_neg q] at h
    exact (show False from h).elim
theorem A2.ins {α : Type} {r : V → α → Prop} {v : V} {y : α} (n : Nat) {vs : List V} {xs : List α} (h : A2 r vs xs) (g : r v y) : A2 r (vs.take n ++ [v] ++ vs.drop n) (xs.take n ++ [y] ++ xs.drop n) := A2.append (A2.append (A2.take n h) (.cons g .nil)) (A2.drop n h)
theorem line_ins {α : Type} {r : V → α → Prop} {vs : List V} {xs : List α} (h : A2 r vs xs) (g : xs.length < 100000) : vs.length < sizeLine := by
  rw [h.length]
  exact Nat.lt_of_lt_of_le g line5
/-- l.count(x), of data -/
def cntB {α : Type} [DecidableEq α] (xs : List α) (y : α) : Int := ((xs.countP fun z => decide (z = y) : Nat) : Int)
section
variable {X : Cx} {K : Fg}
theorem mt_countDt (hK : X.K = K) (α : Type) [Dat α] [DecidableEq α] (hd : Dat.dmax α ≤ 50) (hu : X.A.units + 65 < cLine) : MtR X "list.count" (fun x xs H Q => ∃ (a : Addr) (u : V) (ys : List α) (y : α), x = V.ref a ∧ xs = [u] ∧ rep K H (V.ref a) ys ∧ rep K H u y ∧ Q (.int (cntB ys y)) H) := by
  subst hK
  intro pins s σ H x xs v us Q I rx rxs ⟨a, y, ys, k, e1, e2, hs0, hy, q⟩
  subst e1 e2
  cases rx
  cases rxs with
  | cons ry rt =>
    rename_i uy ut
    cases rt
    have sl : SeqAt.shaped (.list (ys.map Dat.toD)) = true := shapedD (α := List α) (by show Dat.dmax α + 1 ≤ 60; omega) ys
    have sd : SeqAt.shaped (Dat.toD k) = true := shapedD (by omega) k
    have hl : Dp X.K H (V.ref a) (.list (ys.map Dat.toD)) := Dat.dp hs0
    obtain ⟨bs, r1⟩ := Dp.reads I (Dat.toD k) y uy (Dat.dp hy) ry
    have hxs : PyData.canLayAll0 (ys.map Dat.toD) = true := SeqAt.canLay_of_shaped sl
    have hroom : X.A.units + 1 + min (PyData.depthAll (ys.map Dat.toD)) (Dat.toD k).depth < cLine := PyProof.Rows.room_in_shaped sd hu
    cases hl with
    | lst hs ha =>
      obtain ⟨its, rv, ⟨⟨cls, dd, data, sls⟩, n, ho, hc, hdn, hdt⟩, hlen⟩ := I.list hs
      simp only at hc hdt
      subst hc hdt
      obtain ⟨as, h4⟩ := Dp.readsAll I _ _ its ha rv
      have hmap : its.map (SeqAt.readOf s.heap) = ys.map Dat.toD := SeqAt.readsAll_map _ its as hxs h4
      have hcount : its.toArray.toList.countP (fun u => PyData.eqv (SeqAt.readOf s.heap u) (Dat.toD k)) = ys.countP fun z => decide (z = k) := by
        have e1 : its.countP (fun u => PyData.eqv (SeqAt.readOf s.heap u) (Dat.toD k)) = (its.map (SeqAt.readOf s.heap)).countP fun z => PyData.eqv z (Dat.toD k) := by rw [List.countP_map]; rfl
        rw [List.toList_toArray, e1, hmap, List.countP_map]
        refine List.countP_congr fun z _ => ?_
        show PyData.eqv (Dat.toD z) (Dat.toD k) = true ↔ _
        rw [eqvD]
      refine call_meets PySem.F.slot_list_count ⟨_, ho, rfl⟩ PySem.F.entry_list_count (PySem.F.args_list_count_2 _ _)
        (SeqAt.list_countAt a its.toArray n dd sls uy (fun u => PyData.eqv (SeqAt.readOf s.heap u) (Dat.toD k))) ⟨ho, SeqAt.items_eqAt (vs := its.toArray) (show ReadsAll s.heap its.toArray.toList _ as from h4) r1 hxs (SeqAt.canLay_of_shaped sd) hroom, ?_⟩
      refine ⟨.int (cntB ys k), H, I.tok _, ⟨s.toks, ?_⟩, q⟩
      show Value.int ((its.toArray.toList.countP _ : Nat) : Int) s.toks = Value.int (cntB ys k) s.toks
      rw [hcount]
      rfl
end
end Z
namespace Z
open PySem L2
open Rep (rep)
/-- a dict that stays as it is -/
structure FzD (κ β : Type) where
  m : List (κ × β)
  deriving DecidableEq
instance repFD : Rep (FzD Int Int) := ⟨fun K H v d => ∃ a, v = .ref a ∧ H a = some (.dK (encM kI V.int d.m)), fun s ⟨a, e, q⟩ => ⟨a, e, s _ _ q⟩⟩
end Z
namespace Z
open PySem L2
open Rep (rep)
/-- a text as a key -/
def kS (s : Str) : Key := Sum.inr s
theorem kS_inj : ∀ a b, kS a = kS b → a = b := fun _ _ h => Sum.inr.inj h
theorem AD.merge {κ β : Type} [DecidableEq κ] {e : κ → Key} {r : V → β → Prop} (he : ∀ a b, e a = e b → a = b) : ∀ {more : List (Key × V)} {l : List (κ × β)}, AD e r more l → ∀ {kvs : List (Key × V)} {m : List (κ × β)}, AD e r kvs m → AD e r (mergeK kvs more) (l.foldl (fun m p => mput m p.1 p.2) m)
  | _, _, .nil, _, _, h => h
  | _, _, .cons a t, _, _, h => AD.merge he t (AD.put he h a)
theorem AD.mmk {κ β : Type} [DecidableEq κ] {e : κ → Key} {r : V → β → Prop} (he : ∀ a b, e a = e b → a = b) {more : List (Key × V)} {l : List (κ × β)} (h : AD e r more l) : AD e r (mergeK [] more) (Z.mmk l) := AD.merge he h .nil
theorem dgetsS {H : Hp} {a : Addr} {kvs : List (Key × V)} {s : Str} {v : V} (e : H a = some (.dK kvs)) (q : valV kvs (kS s) = some v) : DGet H a (.str s) (some v) := by
  have h : DGet H a (.str s) (valV kvs (kS s)) := DGet.k (k := kS s) e
  rw [q] at h
  exact h
end Z
namespace Z
open PySem L2
open Rep (rep)
section
variable {X : Cx} {K : Fg} {F H : Hp}
/-- isinstance(x, (b, c)) -/
theorem call_isBT (hK : X.K = K) : CallR X (.builtin "isinstance") (fun xs H Q => ∃ (x : V) (tp : Addr) (a b c : String) (r q : Bool), xs = [x, .ref tp] ∧ H tp = some (.tup [.ty b, .ty c]) ∧ TyOf K H x (.type a) ∧ kitB a b = some r ∧ kitB a c = some q ∧ Q (.bl (r || q)) H) := by
  subst hK
  intro pins s σ H xs us Q I rx ⟨x, tp, a, b, c, r, q, e, ht, h1, h2, h3, k⟩
  refine call_isiT pins s σ H xs us Q I rx ⟨x, tp, _, .type a, [.type b, .type c], r || q, e, ht, .cons (.ty b) (.cons (.ty c) .nil), .base h1, ?_, k⟩
  refine L2.kitAny_cons (L2.kit_ty h2) (fun e => ?_) fun e => by rw [e]; rfl
  rw [e, Bool.false_or]
  refine L2.kitAny_cons (L2.kit_ty h3) (fun e => ?_) fun e => e
  rw [e]
  exact L2.kitAny_nil
theorem th_it (s : Same F H) {v : V} {t : Thing} (r : rep K F v t) : ∃ a, TyOf K H v (.type a) ∧ kitB a "int" = some t.isPl ∧ kitB a "tuple" = some (!t.isPl) := by
  obtain ⟨a, h, z⟩ := th_ty s r
  rcases z with ⟨rfl, e⟩ | ⟨rfl, e⟩
  · exact ⟨_, h, by rw [e]; decide +kernel, by rw [e]; decide +kernel⟩
  · exact ⟨_, h, by rw [e]; decide +kernel, by rw [e]; decide +kernel⟩
theorem A2.some {α : Type} [Rep α] {vs : List V} {xs : List α} (h : A2 (rep K F) vs xs) : A2 (rep K F) vs (xs.map Option.some) := by
  induction h with
  | nil => exact .nil
  | cons a _ ih => exact .cons (rep_some a) ih
end
end Z
/-! ZM: lemmas about mirrors -/
namespace Z
open PySem L2
section
variable {α β γ : Type}
theorem foldR_inv {f : β → α → R β} (I : β → Prop) : ∀ {xs : List α} {s : β}, I s → (∀ s x, I s → x ∈ xs → ∃ s', f s x = R.ok s' ∧ I s') → ∃ s', foldR f s xs = R.ok s' ∧ I s'
  | [], s, h, _ => ⟨s, rfl, h⟩
  | x :: xs, s, h, hf => by
    obtain ⟨s', e, h'⟩ := hf s x h List.mem_cons_self
    obtain ⟨s2, e2, h2⟩ := foldR_inv I (xs := xs) (s := s') h' fun s y hs hy => hf s y hs (List.mem_cons_of_mem _ hy)
    exact ⟨s2, by show (f s x >>= fun s' => foldR f s' xs) = _; rw [e]; exact e2, h2⟩
/-- with how many items are gone through -/
theorem foldR_invN {f : β → α → R β} (I : Nat → β → Prop) : ∀ {xs : List α} {n : Nat} {s : β}, I n s → (∀ n s x, I n s → x ∈ xs → ∃ s', f s x = R.ok s' ∧ I (n + 1) s') → ∃ s', foldR f s xs = R.ok s' ∧ I (n + xs.length) s'
  | [], n, s, h, _ => ⟨s, rfl, h⟩
  | x :: xs, n, s, h, hf => by
    obtain ⟨s', e, h'⟩ := hf n s x h List.mem_cons_self
    obtain ⟨s2, e2, h2⟩ := foldR_invN I (xs := xs) (n := n + 1) (s := s') h' fun n s y hs hy => hf n s y hs (List.mem_cons_of_mem _ hy)
    refine ⟨s2, by show (f s x >>= fun s' => foldR f s' xs) = _; rw [e]; exact e2, ?_⟩
    rw [List.length_cons, show n + (xs.length + 1) = n + 1 + xs.length by omega]
    exact h2
theorem foldX_inv {ρ : Type} {f : β → α → R (Sum ρ (Bool × β))} (I : β → Prop) : ∀ {xs : List α} {s : β}, I s → (∀ s x, I s → x ∈ xs → ∃ s', f s x = R.ok (.inr (true, s')) ∧ I s') → ∃ s', foldX f s xs = R.ok (.inr s') ∧ I s'
  | [], s, h, _ => ⟨s, rfl, h⟩
  | x :: xs, s, h, hf => by
    obtain ⟨s', e, h'⟩ := hf s x h List.mem_cons_self
    obtain ⟨s2, e2, h2⟩ := foldX_inv I (xs := xs) (s := s') h' fun s y hs hy => hf s y hs (List.mem_cons_of_mem _ hy)
    refine ⟨s2, ?_, h2⟩
    show (f s x >>= fun r => match r with
      | .inl z => R.ok (.inl z)
      | .inr (true, s') => foldX f s' xs
      | .inr (false, s') => R.ok (.inr s')) = _
    rw [e]
    exact e2
/-- a search that never ends the whole -/
theorem foldX_unit {ρ : Type} {f : Unit → α → R (Sum ρ (Bool × Unit))} {xs : List α} (hf : ∀ x ∈ xs, f () x = R.ok (.inr (true, ()))) : foldX f () xs = R.ok (.inr ()) := by
  obtain ⟨s, e, _⟩ := foldX_inv (fun _ => True) (f := f) (xs := xs) (s := ()) trivial fun s x _ hx => ⟨(), hf x hx, trivial⟩
  exact e
theorem mapR_ok {f : α → R β} {g : α → β} : ∀ {xs : List α}, (∀ x ∈ xs, f x = R.ok (g x)) → mapR f xs = R.ok (xs.map g)
  | [], _ => rfl
  | x :: xs, h => by
    show (f x >>= fun y => mapR f xs >>= fun ys => R.ok (y :: ys)) = _
    rw [h x List.mem_cons_self, mapR_ok fun y hy => h y (List.mem_cons_of_mem _ hy)]
    rfl
theorem mapG_ok {f : α → R β} {g : α → β} {xs : List α} (hl : xs.length < 100000) (h : ∀ x ∈ xs, f x = R.ok (g x)) : mapG f xs = R.ok (xs.map g) := by
  unfold mapG
  rw [grd_t (decide_eq_true hl)]
  exact mapR_ok h
theorem mapR_ex {f : α → R β} (p : β → Prop) : ∀ {xs : List α}, (∀ x ∈ xs, ∃ y, f x = R.ok y ∧ p y) → ∃ ys, mapR f xs = R.ok ys ∧ ys.length = xs.length ∧ ∀ y ∈ ys, p y
  | [], _ => ⟨[], rfl, rfl, fun _ h => nomatch h⟩
  | x :: xs, h => by
    obtain ⟨y, e, hy⟩ := h x List.mem_cons_self
    obtain ⟨ys, e2, hl, hp⟩ := mapR_ex p fun y hy => h y (List.mem_cons_of_mem _ hy)
    refine ⟨y :: ys, ?_, by rw [List.length_cons, List.length_cons, hl], fun z hz => ?_⟩
    · show (f x >>= fun y => mapR f xs >>= fun ys => R.ok (y :: ys)) = _
      rw [e, e2]
      rfl
    · rcases List.mem_cons.mp hz with rfl | hz
      · exact hy
      · exact hp z hz
theorem mapG_ex {f : α → R β} (p : β → Prop) {xs : List α} (hl : xs.length < 100000) (h : ∀ x ∈ xs, ∃ y, f x = R.ok y ∧ p y) : ∃ ys, mapG f xs = R.ok ys ∧ ys.length = xs.length ∧ ∀ y ∈ ys, p y := by
  unfold mapG
  rw [grd_t (decide_eq_true hl)]
  exact mapR_ex p h
theorem filR_ok {f : α → R (Option β)} {g : α → Option β} : ∀ {xs : List α}, (∀ x ∈ xs, f x = R.ok (g x)) → filR f xs = R.ok (xs.filterMap g)
  | [], _ => rfl
  | x :: xs, h => by
    show (f x >>= fun o => filR f xs >>= fun ys => match o with
      | some y => R.ok (y :: ys)
      | none => R.ok ys) = _
    rw [h x List.mem_cons_self, filR_ok fun y hy => h y (List.mem_cons_of_mem _ hy)]
    show (match g x with
      | some y => R.ok (y :: xs.filterMap g)
      | none => R.ok (xs.filterMap g)) = R.ok ((x :: xs).filterMap g)
    rw [List.filterMap_cons]
    cases g x <;> rfl
theorem filG_ok {f : α → R (Option β)} {g : α → Option β} {xs : List α} (hl : xs.length < 100000) (h : ∀ x ∈ xs, f x = R.ok (g x)) : filG f xs = R.ok (xs.filterMap g) := by
  unfold filG
  rw [grd_t (decide_eq_true hl)]
  exact filR_ok h
theorem getI_nat {xs : List α} {i : Int} (h0 : 0 ≤ i) (h1 : i < xs.length) : ∃ x, getI xs i = R.ok x ∧ x ∈ xs ∧ xs[i.toNat]? = some x := by
  have hj : i.toNat < xs.length := by omega
  refine ⟨xs[i.toNat], ?_, List.getElem_mem hj, List.getElem?_eq_getElem hj⟩
  unfold getI
  have e : atI xs i = some xs[i.toNat] := by
    have := atI_nat (xs := xs) (j := i.toNat) (v := xs[i.toNat]) (List.getElem?_eq_getElem hj)
    rw [Int.toNat_of_nonneg h0] at this
    exact this
  rw [e]
  rfl
theorem getI_eq {xs : List α} {i : Int} {x : α} (h0 : 0 ≤ i) (h : xs[i.toNat]? = some x) : getI xs i = R.ok x := by
  have h1 := (List.getElem?_eq_some_iff.mp h).1
  obtain ⟨y, e, _, e2⟩ := getI_nat (xs := xs) (i := i) h0 (by omega)
  rw [h] at e2
  cases e2
  exact e
theorem getI_last {xs : List α} (x : α) : getI (xs ++ [x]) (-1) = R.ok x := by
  unfold getI
  rw [atI_last]
  rfl
theorem setI_nat {xs : List α} {i : Int} {x : α} (h0 : 0 ≤ i) (h1 : i < xs.length) : setI xs i x = R.ok (xs.set i.toNat x) := by
  have e : ixN xs.length i = some i.toNat := by
    unfold ixN
    rw [if_pos h0, if_pos h1]
  unfold setI
  rw [e]
theorem app_ok {xs : List α} {x : α} (h : xs.length < 100000) : app xs x = R.ok (xs ++ [x]) := by
  unfold app
  rw [if_pos h]
theorem extend_ok {xs ys : List α} (h : xs.length + ys.length < 100000) : extend xs ys = R.ok (xs ++ ys) := by
  unfold extend
  rw [if_pos h]
theorem modI_ok {i j : Int} (h : 0 < j) : modI i j = R.ok (i % j) := by
  unfold modI
  rw [if_pos h]
theorem divI_okW {i j : Int} (h : 0 < j) (h2 : j.natAbs.log2 < 9000) : divI i j = R.ok (i / j) := by
  unfold divI
  rw [if_pos ⟨h, h2⟩]
theorem divI_ok {i j : Int} (h : 0 < j) (h2 : j < 1073741824) : divI i j = R.ok (i / j) := by
  refine divI_okW h (Nat.lt_of_lt_of_le ((Nat.log2_lt (by omega)).mpr (show j.natAbs < 2 ^ 30 by omega)) (by decide))
theorem mulI_ok {i j : Int} (h : (-(2 ^ 64) < i ∧ i < 2 ^ 64) ∨ (-(2 ^ 64) < j ∧ j < 2 ^ 64)) : mulI i j = R.ok (i * j) := by
  unfold mulI
  rw [if_pos h]
theorem rngI_ok {i j : Int} (h1 : -(2 ^ 62) ≤ i) (h2 : i < 2 ^ 62) (h3 : -(2 ^ 62) ≤ j) (h4 : j < 2 ^ 62) : rngI i j = R.ok (rng i j) := by
  unfold rngI
  rw [if_pos ⟨h1, h2, h3, h4⟩]
theorem rng_mem {i j k : Int} : k ∈ rng i j ↔ i ≤ k ∧ k < j := by
  unfold rng
  rw [List.mem_map]
  constructor
  · rintro ⟨n, hn, rfl⟩
    have := List.mem_range.mp hn
    omega
  · intro h
    exact ⟨(k - i).toNat, List.mem_range.mpr (by omega), by omega⟩
/-! ### what holds of a result, step by step -/
section
variable {P Q : α → Prop} {S : β → Prop} {X : Exn → Prop}
theorem po_bind {m : R α} {k : α → R β} (h : Post m Q X) (hk : ∀ a, Q a → Post (k a) S X) : Post (m >>= k) S X := by
  cases m with
  | ok a => exact hk a h
  | exc e => exact h
  | bad => exact h
theorem po_ok {a : α} (h : P a) : Post (R.ok a) P X := h
theorem po_eq {m : R α} {a : α} (h : m = R.ok a) (hp : P a) : Post m P X := by
  rw [h]
  exact hp
theorem po_if {c : Prop} [Decidable c] {m n : R α} (h1 : c → Post m P X) (h2 : ¬ c → Post n P X) : Post (if c then m else n) P X := by
  by_cases h : c
  · rw [if_pos h]
    exact h1 h
  · rw [if_neg h]
    exact h2 h
theorem po_ex {m : R α} (h : Post m P noX) : ∃ a, m = R.ok a ∧ P a := by
  cases m with
  | ok a => exact ⟨a, rfl, h⟩
  | exc e => exact (show False from h).elim
  | bad => exact (show False from h).elim
theorem po_iff {m : R α} {a : α} (h : Post m (· = a) noX) : m = R.ok a := by
  obtain ⟨b, e, rfl⟩ := po_ex h
  exact e
theorem po_grd {b : Bool} {k : Unit → R β} (h : b = true) (hk : Post (k ()) S X) : Post (grd b >>= k) S X := by
  rw [grd_t h]
  exact hk
theorem po_get {xs : List α} {i : Int} {k : α → R β} (h0 : 0 ≤ i) (h1 : i < xs.length) (hk : ∀ x, x ∈ xs → xs[i.toNat]? = some x → Post (k x) S X) : Post (getI xs i >>= k) S X := by
  obtain ⟨x, e, h2, h3⟩ := getI_nat h0 h1
  rw [e]
  exact hk x h2 h3
theorem po_getE {xs : List α} {i : Int} {x : α} {k : α → R β} (h : getI xs i = R.ok x) (hk : Post (k x) S X) : Post (getI xs i >>= k) S X := by
  rw [h]
  exact hk
theorem po_last {xs : List α} {k : α → R β} (h : xs ≠ []) (hk : ∀ x, x ∈ xs → Post (k x) S X) : Post (getI xs (-1) >>= k) S X := by
  obtain ⟨ys, y, rfl⟩ : ∃ ys y, xs = ys ++ [y] := ⟨xs.dropLast, xs.getLast h, (List.dropLast_concat_getLast h).symm⟩
  rw [getI_last]
  exact hk y (List.mem_append_right _ List.mem_cons_self)
theorem po_set {xs : List α} {i : Int} {x : α} {k : List α → R β} (h0 : 0 ≤ i) (h1 : i < xs.length) (hk : Post (k (xs.set i.toNat x)) S X) : Post (setI xs i x >>= k) S X := by
  rw [setI_nat h0 h1]
  exact hk
theorem po_app {xs : List α} {x : α} {k : List α → R β} (h : xs.length < 100000) (hk : Post (k (xs ++ [x])) S X) : Post (app xs x >>= k) S X := by
  rw [app_ok h]
  exact hk
theorem po_extend {xs ys : List α} {k : List α → R β} (h : xs.length + ys.length < 100000) (hk : Post (k (xs ++ ys)) S X) : Post (extend xs ys >>= k) S X := by
  rw [extend_ok h]
  exact hk
theorem po_mod {i j : Int} {k : Int → R β} (h : 0 < j) (hk : 0 ≤ i % j → i % j < j → Post (k (i % j)) S X) : Post (modI i j >>= k) S X := by
  rw [modI_ok h]
  exact hk (Int.emod_nonneg _ (by omega)) (Int.emod_lt_of_pos _ h)
theorem po_div {i j : Int} {k : Int → R β} (h : 0 < j) (h2 : j < 1073741824) (hk : Post (k (i / j)) S X) : Post (divI i j >>= k) S X := by
  rw [divI_ok h h2]
  exact hk
theorem po_divW {i j : Int} {k : Int → R β} (h : 0 < j) (h2 : j.natAbs.log2 < 9000) (hk : Post (k (i / j)) S X) : Post (divI i j >>= k) S X := by
  rw [divI_okW h h2]
  exact hk
theorem po_mul {i j : Int} {k : Int → R β} (h : (-(2 ^ 64) < i ∧ i < 2 ^ 64) ∨ (-(2 ^ 64) < j ∧ j < 2 ^ 64)) (hk : Post (k (i * j)) S X) : Post (mulI i j >>= k) S X := by
  rw [mulI_ok h]
  exact hk
theorem po_rng {i j : Int} {k : List Int → R β} (h1 : -(2 ^ 62) ≤ i) (h2 : i < 2 ^ 62) (h3 : -(2 ^ 62) ≤ j) (h4 : j < 2 ^ 62) (hk : Post (k (rng i j)) S X) : Post (rngI i j >>= k) S X := by
  rw [rngI_ok h1 h2 h3 h4]
  exact hk
theorem po_fold {f : β → α → R β} {s : β} {xs : List α} (I : β → Prop) (h0 : I s) (hf : ∀ s x, I s → x ∈ xs → Post (f s x) I X) : Post (foldR f s xs) I X := by
  induction xs generalizing s with
  | nil => exact h0
  | cons x xs ih =>
    show Post (f s x >>= fun s' => foldR f s' xs) I X
    exact po_bind (hf s x h0 List.mem_cons_self) fun s' h' => ih h' fun s y hs hy => hf s y hs (List.mem_cons_of_mem _ hy)
/-- .. with the number of turns gone -/
theorem po_foldN {f : β → α → R β} {s : β} {xs : List α} (I : Nat → β → Prop) (h0 : I 0 s) (hf : ∀ n s x, n < xs.length → I n s → xs[n]? = some x → Post (f s x) (I (n + 1)) X) : Post (foldR f s xs) (I xs.length) X := by
  have key : ∀ (l : List α) (n : Nat) (s : β), xs.drop n = l → n ≤ xs.length → I n s → Post (foldR f s l) (I xs.length) X := by
    intro l
    induction l with
    | nil =>
      intro n s e hn h
      have : xs.length ≤ n := by
        have := congrArg List.length e
        rw [List.length_drop, List.length_nil] at this
        omega
      rw [show xs.length = n by omega]
      exact h
    | cons x l ih =>
      intro n s e hn h
      have hlt : n < xs.length := by
        have := congrArg List.length e
        rw [List.length_drop, List.length_cons] at this
        omega
      have e1 : xs[n] :: xs.drop (n + 1) = x :: l := (List.drop_eq_getElem_cons hlt).symm.trans e
      injection e1 with e2 e3
      show Post (f s x >>= fun s' => foldR f s' l) _ X
      exact po_bind (hf n s x hlt h (by rw [List.getElem?_eq_getElem hlt, e2])) fun s' h' => ih (n + 1) s' e3 (by omega) h'
  exact key xs 0 s rfl (Nat.zero_le _) h0
theorem po_foldX {ρ : Type} {f : β → α → R (Sum ρ (Bool × β))} {s : β} {xs : List α} (I : β → Prop) (h0 : I s) (hf : ∀ s x, I s → x ∈ xs → Post (f s x) (fun r => ∃ s', r = .inr (true, s') ∧ I s') X) : Post (foldX f s xs) (fun r => ∃ s', r = .inr s' ∧ I s') X := by
  induction xs generalizing s with
  | nil => exact ⟨s, rfl, h0⟩
  | cons x xs ih =>
    refine po_bind (S := fun r => ∃ s', r = Sum.inr s' ∧ I s') (k := fun r => match r with
      | .inl z => (R.ok (.inl z) : R (Sum ρ β))
      | .inr (true, s') => foldX f s' xs
      | .inr (false, s') => R.ok (.inr s')) (hf s x h0 List.mem_cons_self) fun r hr => ?_
    obtain ⟨s', rfl, h'⟩ := hr
    exact ih h' fun s y hs hy => hf s y hs (List.mem_cons_of_mem _ hy)
theorem po_mapG {f : α → R β} {xs : List α} (p : β → Prop) (hl : xs.length < 100000) (hf : ∀ x ∈ xs, Post (f x) p X) : Post (mapG f xs) (fun ys => ys.length = xs.length ∧ ∀ y ∈ ys, p y) X := by
  unfold mapG
  rw [grd_t (decide_eq_true hl)]
  show Post (mapR f xs) _ X
  clear hl
  induction xs with
  | nil => exact ⟨rfl, fun _ h => nomatch h⟩
  | cons x xs ih =>
    show Post (f x >>= fun y => mapR f xs >>= fun ys => R.ok (y :: ys)) _ X
    refine po_bind (hf x List.mem_cons_self) fun y hy => po_bind (ih fun z hz => hf z (List.mem_cons_of_mem _ hz)) fun ys ⟨h1, h2⟩ => ?_
    refine ⟨by rw [List.length_cons, List.length_cons, h1], fun z hz => ?_⟩
    rcases List.mem_cons.mp hz with rfl | hz
    · exact hy
    · exact h2 z hz
end
theorem cut_head (xs : List α) : cutL xs none (some 1) = xs.take 1 := by
  unfold cutL
  have e : HT.sIx xs.length xs.length (some 1) = min 1 xs.length := HT.sIx_nat xs.length xs.length 1
  have e0 : HT.sIx xs.length 0 none = 0 := rfl
  rw [e, e0, List.drop_zero]
  cases xs with
  | nil => rfl
  | cons x xs => simp
theorem cut_last (xs : List α) : cutL xs (some (-1)) none = xs.drop (xs.length - 1) := by
  unfold cutL
  have e : HT.sIx xs.length 0 (some (-1)) = xs.length - 1 := by
    unfold HT.sIx
    simp only [show ((-1 : Int) < 0) = True from eq_true (by decide), if_true]
    omega
  have e0 : HT.sIx xs.length xs.length none = xs.length := rfl
  rw [e, e0]
  refine List.take_of_length_le ?_
  rw [List.length_drop]
  exact Nat.le_refl _
end
section
variable {α β γ : Type} {X : Exn → Prop}
theorem po_mapStN {f : γ → α → R (β × γ)} {s : γ} {xs : List α} (I : Nat → γ → Prop) (p : β → Prop) (hl : xs.length < 100000) (h0 : I 0 s) (hf : ∀ n s x, n < xs.length → I n s → xs[n]? = some x → Post (f s x) (fun r => p r.1 ∧ I (n + 1) r.2) X) :
    Post (mapStG f s xs) (fun r => r.1.length = xs.length ∧ (∀ y ∈ r.1, p y) ∧ I xs.length r.2) X := by
  unfold mapStG
  rw [grd_t (decide_eq_true hl), ok_bind]
  clear hl
  have key : ∀ (l : List α) (n : Nat) (s : γ), xs.drop n = l → n ≤ xs.length → I n s → Post (mapSt f s l) (fun r => r.1.length = l.length ∧ (∀ y ∈ r.1, p y) ∧ I xs.length r.2) X := by
    intro l
    induction l with
    | nil =>
      intro n s e hn h
      have : xs.length ≤ n := by
        have := congrArg List.length e
        rw [List.length_drop, List.length_nil] at this
        omega
      rw [show n = xs.length by omega] at h
      exact ⟨rfl, by intro y hy; exact absurd hy List.not_mem_nil, h⟩
    | cons x l ih =>
      intro n s e hn h
      have hlt : n < xs.length := by
        have := congrArg List.length e
        rw [List.length_drop, List.length_cons] at this
        omega
      have e1 : xs[n] :: xs.drop (n + 1) = x :: l := (List.drop_eq_getElem_cons hlt).symm.trans e
      injection e1 with e2 e3
      refine po_bind (hf n s x hlt h (by rw [List.getElem?_eq_getElem hlt, e2])) fun r ⟨h1, h2⟩ => po_bind (ih (n + 1) r.2 e3 (by omega) h2) fun q ⟨h3, h4, h5⟩ => ?_
      refine ⟨by rw [List.length_cons, List.length_cons, h3], fun y hy => ?_, h5⟩
      rcases List.mem_cons.mp hy with rfl | hy
      · exact h1
      · exact h4 y hy
  exact key xs 0 s rfl (Nat.zero_le _) h0
end
section
variable {α : Type}
theorem cut_take (xs : List α) (n : Nat) : cutL xs none (some (n : Int)) = xs.take n := by
  unfold cutL
  have e : HT.sIx xs.length xs.length (some (n : Int)) = min n xs.length := HT.sIx_nat xs.length xs.length n
  have e0 : HT.sIx xs.length 0 none = 0 := rfl
  rw [e, e0, List.drop_zero, Nat.sub_zero]
  by_cases h : n ≤ xs.length
  · rw [Nat.min_eq_left h]
  · rw [Nat.min_eq_right (by omega), List.take_of_length_le (Nat.le_refl _), List.take_of_length_le (by omega)]
theorem cut_mid (xs : List α) (m n : Nat) : cutL xs (some (m : Int)) (some (n : Int)) = (xs.drop m).take (n - m) := by
  unfold cutL
  have e : HT.sIx xs.length xs.length (some (n : Int)) = min n xs.length := HT.sIx_nat xs.length xs.length n
  have e0 : HT.sIx xs.length 0 (some (m : Int)) = min m xs.length := HT.sIx_nat xs.length 0 m
  rw [e, e0]
  by_cases h : m ≤ xs.length
  · rw [Nat.min_eq_left h]
    by_cases h2 : n ≤ xs.length
    · rw [Nat.min_eq_left h2]
    · rw [Nat.min_eq_right (by omega), List.take_of_length_le (by rw [List.length_drop]; exact Nat.le_refl _), List.take_of_length_le (by rw [List.length_drop]; omega)]
  · rw [List.drop_of_length_le (by omega), List.drop_of_length_le (by omega), List.take_nil, List.take_nil]
end
/-! ### dicts -/
section
variable {κ β : Type} [DecidableEq κ]
theorem mhas_iff {m : List (κ × β)} {k : κ} : mhas m k = true ↔ ∃ p ∈ m, p.1 = k := by
  unfold mhas
  rw [List.any_eq_true]
  constructor
  · rintro ⟨p, h, e⟩
    exact ⟨p, h, of_decide_eq_true e⟩
  · rintro ⟨p, h, e⟩
    exact ⟨p, h, decide_eq_true e⟩
theorem mput_new {m : List (κ × β)} {k : κ} {v : β} (h : mhas m k = false) : mput m k v = m ++ [(k, v)] := by
  unfold mput
  have h' : (m.any fun p => decide (p.1 = k)) = false := h
  rw [h', if_neg (by decide)]
theorem mput_old {m : List (κ × β)} {k : κ} {v : β} (h : mhas m k = true) : mput m k v = m.map (fun p => if p.1 = k then (p.1, v) else p) := by
  unfold mput
  have h' : (m.any fun p => decide (p.1 = k)) = true := h
  rw [h', if_pos rfl]
theorem mput_keys {m : List (κ × β)} {k j : κ} {v : β} : (∃ p ∈ mput m k v, p.1 = j) ↔ (j = k ∨ ∃ p ∈ m, p.1 = j) := by
  cases h : mhas m k with
  | false =>
    rw [mput_new h]
    constructor
    · rintro ⟨p, hp, rfl⟩
      rcases List.mem_append.mp hp with hp | hp
      · exact .inr ⟨p, hp, rfl⟩
      · rw [List.mem_singleton] at hp
        exact .inl (by rw [hp])
    · rintro (rfl | ⟨p, hp, rfl⟩)
      · exact ⟨(j, v), List.mem_append_right _ List.mem_cons_self, rfl⟩
      · exact ⟨p, List.mem_append_left _ hp, rfl⟩
  | true =>
    rw [mput_old h]
    have fst : ∀ p : κ × β, (if p.1 = k then (p.1, v) else p).1 = p.1 := fun p => by split <;> rfl
    constructor
    · rintro ⟨p, hp, rfl⟩
      obtain ⟨q, hq, rfl⟩ := List.mem_map.mp hp
      rw [fst]
      exact .inr ⟨q, hq, rfl⟩
    · rintro (rfl | ⟨p, hp, rfl⟩)
      · obtain ⟨p, hp, e⟩ := mhas_iff.mp h
        exact ⟨_, List.mem_map.mpr ⟨p, hp, rfl⟩, by rw [fst]; exact e⟩
      · exact ⟨_, List.mem_map.mpr ⟨p, hp, rfl⟩, fst p⟩
theorem mput_length {m : List (κ × β)} {k : κ} {v : β} : (mput m k v).length = m.length + if mhas m k = true then 0 else 1 := by
  cases h : mhas m k with
  | false =>
    rw [mput_new h, List.length_append]
    rfl
  | true =>
    rw [mput_old h, List.length_map]
    rfl
theorem po_mput {δ : Type} {m : List (κ × β)} {k : κ} {v : β} {f : List (κ × β) → R δ} {S : δ → Prop} {X : Exn → Prop} (h : m.length < 100000) (hk : Post (f (mput m k v)) S X) : Post (mputR m k v >>= f) S X := by
  unfold mputR
  rw [if_pos h]
  exact hk
end
end Z
/-! ZG: webs: joined, how far; no program in sight -/
namespace Z
open PySem L2
/-! ### more steps -/
section
variable {α β γ δ : Type} {P Q : α → Prop} {S : β → Prop} {X : Exn → Prop}
/-- a fold, by what is gone through -/
theorem po_foldP {f : β → α → R β} {s : β} {xs : List α} (I : List α → β → Prop) (h0 : I [] s) (hf : ∀ pre s x post, xs = pre ++ x :: post → I pre s → Post (f s x) (I (pre ++ [x])) X) : Post (foldR f s xs) (I xs) X := by
  have key : ∀ (l pre : List α) (s : β), xs = pre ++ l → I pre s → Post (foldR f s l) (I xs) X := by
    intro l
    induction l with
    | nil =>
      intro pre s e h
      rw [List.append_nil] at e
      rw [e]
      exact h
    | cons x l ih =>
      intro pre s e h
      show Post (f s x >>= fun s' => foldR f s' l) _ X
      exact po_bind (hf pre s x l e h) fun s' h' => ih (pre ++ [x]) s' (by rw [e, List.append_assoc]; rfl) h'
  exact key xs [] s rfl h0
/-- items for items with a state, by what is made -/
theorem po_mapStA {f : γ → α → R (β × γ)} {s : γ} {xs : List α} (I : List α → List β → γ → Prop) (hl : xs.length < 100000) (h0 : I [] [] s)
    (hf : ∀ pre acc s x post, xs = pre ++ x :: post → I pre acc s → Post (f s x) (fun r => I (pre ++ [x]) (acc ++ [r.1]) r.2) X) : Post (mapStG f s xs) (fun r => I xs r.1 r.2) X := by
  unfold mapStG
  rw [grd_t (decide_eq_true hl), ok_bind]
  have key : ∀ (l pre : List α) (acc : List β) (s : γ), xs = pre ++ l → I pre acc s → Post (mapSt f s l) (fun r => I xs (acc ++ r.1) r.2) X := by
    intro l
    induction l with
    | nil =>
      intro pre acc s e h
      rw [List.append_nil] at e
      show I xs (acc ++ []) s
      rw [List.append_nil, e]
      exact h
    | cons x l ih =>
      intro pre acc s e h
      refine po_bind (hf pre acc s x l e h) fun r hr => po_bind (ih (pre ++ [x]) (acc ++ [r.1]) r.2 (by rw [e, List.append_assoc]; rfl) hr) fun q hq => ?_
      show I xs (acc ++ (r.1 :: q.1)) q.2
      rw [List.append_assoc] at hq
      exact hq
  exact key xs [] [] s rfl h0
theorem po_mapGE {f : α → R β} {g : α → β} {xs : List α} {k : List β → R γ} {T : γ → Prop} (hl : xs.length < 100000) (h : ∀ x ∈ xs, f x = R.ok (g x)) (hk : Post (k (xs.map g)) T X) : Post (mapG f xs >>= k) T X := by
  rw [mapG_ok hl h]
  exact hk
theorem po_filGE {f : α → R (Option β)} {g : α → Option β} {xs : List α} {k : List β → R γ} {T : γ → Prop} (hl : xs.length < 100000) (h : ∀ x ∈ xs, f x = R.ok (g x)) (hk : Post (k (xs.filterMap g)) T X) : Post (filG f xs >>= k) T X := by
  rw [filG_ok hl h]
  exact hk
/-- a while: an invariant, a measure -/
theorem po_while {c : γ → R Bool} {b : γ → R γ} {T : γ → Prop} (I : γ → Prop) (μ : γ → Nat)
    (hs : ∀ s, I s → Post (c s) (fun t => (t = true → Post (b s) (fun s' => I s' ∧ μ s' < μ s) X) ∧ (t = false → T s)) X) : ∀ {n : Nat} {s : γ}, I s → μ s < n → Post (whileR c b n s) T X
  | 0, s, _, h => absurd h (Nat.not_lt_zero _)
  | n + 1, s, hi, h => by
    refine po_bind (hs s hi) fun t ⟨h1, h2⟩ => ?_
    cases t with
    | false => exact h2 rfl
    | true => exact po_bind (h1 rfl) fun s' ⟨a, d⟩ => po_while I μ hs a (by omega)
theorem po_getS {st : List (List α)} {j : Nat} {xs : List α} {k : List α → R γ} {T : γ → Prop} (h : st[j]? = some xs) (hk : Post (k xs) T X) : Post (getS st j >>= k) T X := by
  unfold getS
  rw [h]
  exact hk
theorem po_setS {st : List (List α)} {j : Nat} {xs : List α} {k : List (List α) → R γ} {T : γ → Prop} (hk : Post (k (st.set j xs)) T X) : Post (setS st j xs >>= k) T X := hk
theorem po_newS {st : List (List α)} {xs : List α} {k : Nat × List (List α) → R γ} {T : γ → Prop} (hk : Post (k (st.length, st ++ [xs])) T X) : Post (newS st xs >>= k) T X := hk
theorem po_listRng {i j : Int} {k : List Int → R γ} {T : γ → Prop} (h1 : -(2 ^ 62) ≤ i) (h2 : i < 2 ^ 62) (h3 : -(2 ^ 62) ≤ j) (h4 : j < 2 ^ 62) (h5 : (j - i).toNat ≤ 100000) (hk : Post (k (rng i j)) T X) : Post (listRng i j >>= k) T X := by
  unfold listRng
  rw [if_pos ⟨h1, h2, h3, h4, h5⟩]
  exact hk
theorem po_rep {xs : List α} {i : Int} {k : List α → R γ} {T : γ → Prop} (h1 : 0 ≤ i) (h2 : i < 1000) (h3 : xs.length < 100) (hk : Post (k (repL xs i)) T X) : Post (repR xs i >>= k) T X := by
  unfold repR
  have h4 : xs.length * i.toNat ≤ 100 * 1000 := Nat.mul_le_mul (by omega) (by omega)
  have h5 : xs.length * i.toNat < 100000 := by
    have h6 : xs.length * i.toNat ≤ 99 * 999 := Nat.mul_le_mul (by omega) (by omega)
    omega
  rw [if_pos ⟨by omega, by omega, h5⟩]
  exact hk
theorem po_ofO {o : Option α} {x : α} {k : α → R γ} {T : γ → Prop} (h : o = some x) (hk : Post (k x) T X) : Post (ofO o >>= k) T X := by
  rw [h]
  exact hk
theorem po_mgetE {κ : Type} [DecidableEq κ] {m : List (κ × α)} {j : κ} {x : α} {k : α → R γ} {T : γ → Prop} (h : mget m j = some x) (hk : Post (k x) T X) : Post (mgetR m j >>= k) T X := po_ofO h hk
theorem po_popB {xs : List α} {i : Int} {k : α × List α → R γ} {T : γ → Prop} (h0 : 0 ≤ i) (h1 : i < xs.length) (h2 : i < 2 ^ 62) (hk : ∀ x, xs[i.toNat]? = some x → Post (k (x, xs.eraseIdx i.toNat)) T X) : Post (popB xs i >>= k) T X := by
  have hj : i.toNat < xs.length := by omega
  have e : popB xs i = R.ok (xs[i.toNat], xs.eraseIdx i.toNat) := by
    unfold popB popAt
    rw [if_pos (by omega)]
    have ei : ixN xs.length i = some i.toNat := by
      unfold ixN
      rw [if_pos h0, if_pos h1]
    rw [ei]
    dsimp only
    rw [List.getElem?_eq_getElem hj]
  rw [e]
  exact hk _ (List.getElem?_eq_getElem hj)
end
theorem rng_len {n : Int} (h : 0 ≤ n) : ((rng 0 n).length : Int) = n := by
  rw [rng_length]
  omega
theorem rng_atE {i j : Int} {k : Nat} (h : k < (j - i).toNat) : (rng i j)[k]? = some (i + k) := rng_get h
theorem rng_nodup (i j : Int) : (rng i j).Nodup := by
  unfold rng
  refine List.Pairwise.map _ (fun a b h => ?_) List.nodup_range
  intro e
  exact h (by omega)
theorem rng_pre {i j x : Int} {pre post : List Int} (h : rng i j = pre ++ x :: post) : x = i + pre.length := by
  have h1 : (rng i j)[pre.length]? = some x := by rw [h]; simp
  have hl : pre.length < (rng i j).length := by rw [h]; simp
  rw [rng_length] at hl
  rw [rng_atE hl] at h1
  cases h1
  rfl
theorem rng_split {i j x : Int} {pre post : List Int} (h : rng i j = pre ++ x :: post) : pre = rng i x ∧ i ≤ x ∧ x < j := by
  have e := rng_pre h
  have hl : (rng i j).length = pre.length + (post.length + 1) := by rw [h]; simp
  rw [rng_length] at hl
  refine ⟨?_, by omega, by omega⟩
  apply List.ext_getElem?
  intro k
  by_cases hk : k < pre.length
  · have h1 : (rng i j)[k]? = pre[k]? := by rw [h, List.getElem?_append_left hk]
    rw [← h1, rng_atE (by omega), rng_atE (by omega)]
  · rw [List.getElem?_eq_none (by omega), List.getElem?_eq_none (by rw [rng_length]; omega)]
theorem rng_snoc {i j : Int} (h : i ≤ j) : rng i (j + 1) = rng i j ++ [j] := by
  apply List.ext_getElem?
  intro k
  by_cases hk : k < (j - i).toNat
  · rw [List.getElem?_append_left (by rw [rng_length]; exact hk), rng_atE hk, rng_atE (by omega)]
  · by_cases hk2 : k = (j - i).toNat
    · rw [List.getElem?_append_right (by rw [rng_length]; omega), rng_atE (by omega), rng_length, hk2]
      simp
      omega
    · rw [List.getElem?_eq_none (by rw [rng_length]; omega), List.getElem?_eq_none (by rw [List.length_append, rng_length]; simp; omega)]
/-! ### joined -/
def Adj (ts : List (Int × Int)) (a b : Int) : Prop := (a, b) ∈ ts ∨ (b, a) ∈ ts
theorem Adj.symm {ts : List (Int × Int)} {a b : Int} (h : Adj ts a b) : Adj ts b a := h.elim .inr .inl
/-- what holds of a place and goes along all ties holds of all places -/
def Conn (n : Int) (ts : List (Int × Int)) : Prop := ∀ S : Int → Prop, S 0 → (∀ p ∈ ts, S p.1 ↔ S p.2) → ∀ k, 0 ≤ k → k < n → S k
theorem Conn.any {n : Int} {ts : List (Int × Int)} (h : Conn n ts) {S : Int → Prop} {r : Int} (r0 : 0 ≤ r) (r1 : r < n) (hr : S r) (hc : ∀ p ∈ ts, S p.1 ↔ S p.2) : ∀ k, 0 ≤ k → k < n → S k := by
  by_cases h0 : S 0
  · exact h S h0 hc
  · exact absurd hr (h (fun k => ¬ S k) h0 (fun p hp => not_congr (hc p hp)) r r0 r1)
theorem Conn.mono {n : Int} {ts us : List (Int × Int)} (h : Conn n ts) (hs : ∀ p ∈ ts, p ∈ us) : Conn n us := fun S h0 hc => h S h0 fun p hp => hc p (hs p hp)
theorem conn_tree {n : Int} {ts : List (Int × Int)} (h : ∀ k, 1 ≤ k → k < n → ∃ j, 0 ≤ j ∧ j < k ∧ Adj ts j k) : Conn n ts := by
  intro S h0 hc
  have key : ∀ (m : Nat) (k : Int), k.toNat ≤ m → 0 ≤ k → k < n → S k := by
    intro m
    induction m with
    | zero =>
      intro k hk k0 _
      rw [show k = 0 by omega]
      exact h0
    | succ m ih =>
      intro k hk k0 k1
      by_cases hz : k = 0
      · rw [hz]; exact h0
      · obtain ⟨j, j0, jk, hj⟩ := h k (by omega) k1
        have hj' := ih j (by omega) j0 (by omega)
        rcases hj with hj | hj
        · exact (hc _ hj).mp hj'
        · exact (hc _ hj).mpr hj'
  exact fun k k0 k1 => key k.toNat k (Nat.le_refl _) k0 k1
/-! ### how far -/
structure IsDist (n : Int) (ts : List (Int × Int)) (p : Int) (f : Int → Int) : Prop where
  zero : f p = 0
  nn : ∀ v, 0 ≤ v → v < n → 0 ≤ f v
  lip : ∀ a b, Adj ts a b → f b ≤ f a + 1
  desc : ∀ v, 0 ≤ v → v < n → v ≠ p → ∃ w, 0 ≤ w ∧ w < n ∧ Adj ts w v ∧ f w + 1 = f v
theorem IsDist.le {n : Int} {ts : List (Int × Int)} {p : Int} {f g : Int → Int} (hf : IsDist n ts p f) (hg : IsDist n ts p g) : ∀ v, 0 ≤ v → v < n → f v ≤ g v := by
  have key : ∀ (m : Nat) (v : Int), (g v).toNat ≤ m → 0 ≤ v → v < n → f v ≤ g v := by
    intro m
    induction m with
    | zero =>
      intro v hm v0 v1
      by_cases hv : v = p
      · rw [hv, hf.zero, hg.zero]; exact Int.le_refl _
      · obtain ⟨w, w0, w1, _, e⟩ := hg.desc v v0 v1 hv
        have := hg.nn w w0 w1
        omega
    | succ m ih =>
      intro v hm v0 v1
      by_cases hv : v = p
      · rw [hv, hf.zero, hg.zero]; exact Int.le_refl _
      · obtain ⟨w, w0, w1, ha, e⟩ := hg.desc v v0 v1 hv
        have h1 := hg.nn w w0 w1
        have h2 := ih w (by omega) w0 w1
        have h3 := hf.lip w v ha
        omega
  exact fun v v0 v1 => key _ v (Nat.le_refl _) v0 v1
theorem IsDist.uniq {n : Int} {ts : List (Int × Int)} {p : Int} {f g : Int → Int} (hf : IsDist n ts p f) (hg : IsDist n ts p g) (v : Int) (v0 : 0 ≤ v) (v1 : v < n) : f v = g v :=
  Int.le_antisymm (hf.le hg v v0 v1) (hg.le hf v v0 v1)
theorem IsDist.level {n : Int} {ts : List (Int × Int)} {p : Int} {f : Int → Int} (hf : IsDist n ts p f) : ∀ (m : Nat) (v : Int), 0 ≤ v → v < n → (f v).toNat = m → ∀ k : Nat, k ≤ m → ∃ w, 0 ≤ w ∧ w < n ∧ f w = k := by
  intro m
  induction m with
  | zero =>
    intro v v0 v1 e k hk
    have := hf.nn v v0 v1
    exact ⟨v, v0, v1, by omega⟩
  | succ m ih =>
    intro v v0 v1 e k hk
    have hv := hf.nn v v0 v1
    by_cases hk2 : k = m + 1
    · exact ⟨v, v0, v1, by omega⟩
    · have hne : v ≠ p := by
        intro e2
        rw [e2, hf.zero] at e
        simp at e
      obtain ⟨w, w0, w1, _, e2⟩ := hf.desc v v0 v1 hne
      exact ih w w0 w1 (by omega) k (by omega)
/-- no place is as far as there are places -/
theorem IsDist.lt {n : Int} {ts : List (Int × Int)} {p : Int} {f : Int → Int} (hf : IsDist n ts p f) (v : Int) (v0 : 0 ≤ v) (v1 : v < n) : f v < n := by
  have hv := hf.nn v v0 v1
  have hl := hf.level _ v v0 v1 rfl
  have key : ∀ m : Nat, m ≤ (f v).toNat + 1 → ∃ ws : List Int, ws.length = m ∧ ws.Nodup ∧ (∀ w ∈ ws, w ∈ rng 0 n ∧ f w < m) := by
    intro m
    induction m with
    | zero => exact fun _ => ⟨[], rfl, List.nodup_nil, fun _ h => nomatch h⟩
    | succ m ih =>
      intro hm
      obtain ⟨ws, h1, h2, h3⟩ := ih (by omega)
      obtain ⟨w, w0, w1, e⟩ := hl m (by omega)
      refine ⟨w :: ws, by rw [List.length_cons, h1], List.nodup_cons.mpr ⟨fun h => ?_, h2⟩, fun u hu => ?_⟩
      · have := (h3 w h).2
        omega
      · rcases List.mem_cons.mp hu with rfl | hu
        · exact ⟨rng_mem.mpr ⟨w0, w1⟩, by omega⟩
        · have := h3 u hu
          exact ⟨this.1, by omega⟩
  obtain ⟨ws, h1, h2, h3⟩ := key _ (Nat.le_refl _)
  have := nodup_le h2 fun w hw => (h3 w hw).1
  rw [h1, rng_length] at this
  omega
/-- how far places are from one, in a web that hangs together -/
noncomputable def dst (n : Int) (ts : List (Int × Int)) (p : Int) : Int → Int := by
  classical
  exact if h : ∃ f, IsDist n ts p f then Classical.choose h else fun _ => 0
theorem dst_is {n : Int} {ts : List (Int × Int)} {p : Int} {f : Int → Int} (h : IsDist n ts p f) : IsDist n ts p (dst n ts p) := by
  have e : ∃ f, IsDist n ts p f := ⟨f, h⟩
  unfold dst
  rw [dif_pos e]
  exact Classical.choose_spec e
theorem dst_eq {n : Int} {ts : List (Int × Int)} {p : Int} {f : Int → Int} (h : IsDist n ts p f) (v : Int) (v0 : 0 ≤ v) (v1 : v < n) : f v = dst n ts p v := h.uniq (dst_is h) v v0 v1
/-! ### there is a distance -/
inductive Rch (ts : List (Int × Int)) (p : Int) : Nat → Int → Prop
  | here : Rch ts p 0 p
  | step {k : Nat} {a b : Int} : Rch ts p k a → Adj ts a b → Rch ts p (k + 1) b
theorem least {P : Nat → Prop} (h : ∃ k, P k) : ∃ k, P k ∧ ∀ j, j < k → ¬ P j := by
  obtain ⟨k, hk⟩ := h
  induction k using Nat.strongRecOn with
  | _ k ih =>
    by_cases q : ∃ j, j < k ∧ P j
    · obtain ⟨j, h1, h2⟩ := q
      exact ih j h1 h2
    · exact ⟨k, hk, fun j hj hp => q ⟨j, hj, hp⟩⟩
theorem conn_ex {n : Int} {ts : List (Int × Int)} {p : Int} (hr : ∀ q ∈ ts, 0 ≤ q.1 ∧ q.1 < n ∧ 0 ≤ q.2 ∧ q.2 < n) (hc : Conn n ts) (p0 : 0 ≤ p) (p1 : p < n) : IsDist n ts p (dst n ts p) := by
  classical
  have all : ∀ v, 0 ≤ v → v < n → ∃ k, Rch ts p k v := hc.any (S := fun v => ∃ k, Rch ts p k v) p0 p1 ⟨0, .here⟩ fun q hq => ⟨fun ⟨k, h⟩ => ⟨k + 1, h.step (.inl hq)⟩, fun ⟨k, h⟩ => ⟨k + 1, h.step (.inr hq)⟩⟩
  have adj : ∀ a b, Adj ts a b → (0 ≤ a ∧ a < n) ∧ (0 ≤ b ∧ b < n) := fun a b h => by
    rcases h with h | h
    · have := hr _ h
      exact ⟨⟨this.1, this.2.1⟩, ⟨this.2.2.1, this.2.2.2⟩⟩
    · have := hr _ h
      exact ⟨⟨this.2.2.1, this.2.2.2⟩, ⟨this.1, this.2.1⟩⟩
  have key : ∀ v, ∃ d : Int, 0 ≤ d ∧ (0 ≤ v → v < n → ∃ k : Nat, d = k ∧ Rch ts p k v ∧ ∀ j, j < k → ¬ Rch ts p j v) := fun v => by
    by_cases hv : 0 ≤ v ∧ v < n
    · obtain ⟨k, h1, h2⟩ := least (all v hv.1 hv.2)
      exact ⟨k, by omega, fun _ _ => ⟨k, rfl, h1, h2⟩⟩
    · exact ⟨0, Int.le_refl 0, fun a b => absurd ⟨a, b⟩ hv⟩
  have hf : ∃ f : Int → Int, ∀ v, 0 ≤ f v ∧ (0 ≤ v → v < n → ∃ k : Nat, f v = k ∧ Rch ts p k v ∧ ∀ j, j < k → ¬ Rch ts p j v) := ⟨fun v => Classical.choose (key v), fun v => Classical.choose_spec (key v)⟩
  obtain ⟨f, hf⟩ := hf
  have lip : ∀ a b, Adj ts a b → f b ≤ f a + 1 := fun a b h => by
    obtain ⟨⟨a0, a1⟩, ⟨b0, b1⟩⟩ := adj a b h
    obtain ⟨k, e1, h1, _⟩ := (hf a).2 a0 a1
    obtain ⟨j, e2, _, h2⟩ := (hf b).2 b0 b1
    have : ¬ k + 1 < j := fun q => h2 (k + 1) q (h1.step h)
    omega
  refine dst_is (f := f) ⟨?_, fun v _ _ => (hf v).1, lip, fun v v0 v1 hne => ?_⟩
  · obtain ⟨k, e, _, h2⟩ := (hf p).2 p0 p1
    have : ¬ 0 < k := fun q => h2 0 q .here
    omega
  · obtain ⟨k, e, h1, h2⟩ := (hf v).2 v0 v1
    cases h1 with
    | here => exact absurd rfl hne
    | step h3 h4 =>
      rename_i j w
      obtain ⟨⟨w0, w1⟩, _⟩ := adj _ _ h4
      refine ⟨w, w0, w1, h4, ?_⟩
      obtain ⟨i, e2, _, h5⟩ := (hf w).2 w0 w1
      have h6 : ¬ j < i := fun q => h5 j q h3
      have := lip w v h4
      omega
end Z
/-! ZN: dicts as lists of pairs -/
namespace Z
open PySem L2
section
variable {κ β γ : Type} [DecidableEq κ]
def mkeys (m : List (κ × β)) : List κ := m.map (·.1)
theorem mget_nil (j : κ) : mget ([] : List (κ × β)) j = none := rfl
theorem mget_cons (p : κ × β) (m : List (κ × β)) (j : κ) : mget (p :: m) j = if p.1 = j then some p.2 else mget m j := by
  unfold mget
  by_cases h : p.1 = j
  · rw [List.find?_cons_of_pos (by simpa using h), if_pos h]
    rfl
  · rw [List.find?_cons_of_neg (by simpa using h), if_neg h]
theorem mget_append (m m' : List (κ × β)) (j : κ) : mget (m ++ m') j = (mget m j).or (mget m' j) := by
  induction m with
  | nil => rfl
  | cons p m ih =>
    rw [List.cons_append, mget_cons, mget_cons, ih]
    by_cases h : p.1 = j
    · rw [if_pos h, if_pos h]; rfl
    · rw [if_neg h, if_neg h]
theorem mhas_mget (m : List (κ × β)) (j : κ) : mhas m j = (mget m j).isSome := by
  unfold mhas mget
  rw [Option.isSome_map, List.isSome_find?]
theorem mhas_keys {m : List (κ × β)} {j : κ} : mhas m j = true ↔ j ∈ mkeys m := by
  rw [mhas_iff]
  unfold mkeys
  rw [List.mem_map]
theorem mget_mput (m : List (κ × β)) (k : κ) (v : β) (j : κ) : mget (mput m k v) j = if j = k then some v else mget m j := by
  cases h : mhas m k with
  | false =>
    rw [mput_new h, mget_append, mget_cons, mget_nil]
    by_cases e : j = k
    · subst e
      rw [if_pos rfl, if_pos rfl]
      rw [mhas_mget] at h
      cases q : mget m j with
      | none => rfl
      | some x => rw [q] at h; cases h
    · rw [if_neg (fun q => e q.symm), if_neg e]
      cases mget m j <;> rfl
  | true =>
    rw [mput_old h]
    by_cases e : j = k
    · subst e
      rw [if_pos rfl]
      induction m with
      | nil => cases h
      | cons p m ih =>
        rw [List.map_cons, mget_cons]
        by_cases q : p.1 = j
        · rw [if_pos q, if_pos q]
        · rw [if_neg q, if_neg q]
          refine ih ?_
          rw [mhas_mget, mget_cons, if_neg q, ← mhas_mget] at h
          exact h
    · rw [if_neg e]
      clear h
      induction m with
      | nil => rfl
      | cons p m ih =>
        rw [List.map_cons, mget_cons, mget_cons, ih]
        by_cases q : p.1 = k
        · rw [if_pos q, if_neg (by rw [q]; exact fun z => e z.symm), if_neg (by rw [q]; exact fun z => e z.symm)]
        · rw [if_neg q]
theorem mkeys_mput (m : List (κ × β)) (k : κ) (v : β) : mkeys (mput m k v) = if k ∈ mkeys m then mkeys m else mkeys m ++ [k] := by
  cases h : mhas m k with
  | false =>
    rw [mput_new h, if_neg (fun q => by rw [mhas_keys.mpr q] at h; cases h)]
    unfold mkeys
    rw [List.map_append]
    rfl
  | true =>
    rw [mput_old h, if_pos (mhas_keys.mp h)]
    unfold mkeys
    rw [List.map_map]
    refine List.map_congr_left fun p _ => ?_
    show (if p.1 = k then (p.1, v) else p).1 = p.1
    split <;> rfl
theorem mkeys_nodup {m : List (κ × β)} {k : κ} {v : β} (h : (mkeys m).Nodup) : (mkeys (mput m k v)).Nodup := by
  rw [mkeys_mput]
  split
  · exact h
  · rename_i q
    rw [List.nodup_append]
    refine ⟨h, by simp, fun a ha c hc e => ?_⟩
    rw [List.mem_singleton] at hc
    rw [e, hc] at ha
    exact q ha
theorem mkeys_length (m : List (κ × β)) : (mkeys m).length = m.length := List.length_map _
theorem mget_keys {m : List (κ × β)} {j : κ} : j ∈ mkeys m ↔ ∃ v, mget m j = some v := by
  rw [← mhas_keys, mhas_mget, Option.isSome_iff_exists]
end
end Z
namespace G
open PySem L2 Z
open Rep (rep)
open RepL (repTs)
def top (i : Nat) : Stmt := PySem.Challenge.pw_farhail_k34_whole_shapes_are_webs.main.body.getD i (.Pass ⟨0, 0, 0, 0⟩)
abbrev s_row_known : Stmt := top 7
abbrev s_gaps_round : Stmt := top 8
abbrev s_ring_known : Stmt := top 9
abbrev s_side_number : Stmt := top 10
abbrev s_grid_known : Stmt := top 11
abbrev s_ring_far : Stmt := top 12
abbrev s_ring_choices : Stmt := top 13
abbrev s_near_lists : Stmt := top 16
abbrev s_fars_by : Stmt := top 17
abbrev s_sorted_ties : Stmt := top 18
abbrev s_made_web : Stmt := top 19
abbrev s_place_asked : Stmt := top 20
abbrev s_fars_from : Stmt := top 21
abbrev s_far_between : Stmt := top 22
abbrev s_table_of : Stmt := top 24
abbrev s_things_of : Stmt := top 25
abbrev s_looks_asked : Stmt := top 26
abbrev s_far_by : Stmt := top 27
abbrev s_by_code : Stmt := top 28
abbrev s_likes_by : Stmt := top 29
abbrev s_is_known : Stmt := top 30
abbrev s_law_cell_at : Stmt := top 32
abbrev s_law_folded : Stmt := top 33
abbrev s_law_state : Stmt := top 34
abbrev s_law_next : Stmt := top 35
abbrev s_law_great : Stmt := top 36
abbrev s_law_looks : Stmt := top 37
abbrev s_law_order : Stmt := top 38
abbrev s_law_named : Stmt := top 39
abbrev s_law_line : Stmt := top 40
abbrev s_law_lines_right : Stmt := top 41
abbrev s_law_grid_right : Stmt := top 42
abbrev s_law_sets : Stmt := top 43
abbrev s_law_choices_right : Stmt := top 44
abbrev s_law : Stmt := top 45
/-! ### the mirrors -/
/-! row_known -/
def row_known (x_many : Int) (x_looks : (List Int)) (x_kind : Str) : R Bool := do
  if (decide (x_many = (1 : Int))) = true then do
    R.ok true
  else do
    if (decide (x_kind = ("all" : Str))) = true then do
      R.ok ((decide ((cutL x_looks none (some (1 : Int))) = ([(0 : Int)] : (List Int)))) && (decide ((cutL x_looks (some (-(1 : Int))) none) = ([(x_many - (1 : Int))] : (List Int)))))
    else do
      if (decide (x_many = (2 : Int))) = true then do
        R.ok ((decide (x_kind = ("ties" : Str))) || (decide ((0 : Int) < (x_looks.length : Int))))
      else do
        R.ok ((decide ((1 : Int) < (x_looks.length : Int))) || ((decide (x_looks = ([(0 : Int)] : (List Int)))) || (decide (x_looks = ([(x_many - (1 : Int))] : (List Int))))))
/-! gaps_round -/
def gaps_round (x_many : Int) (x_looks : (List Int)) : R (List Int) := do
  let l2 ← mapG (fun (b2 : (Int × Int)) => do
      let t5 ← modI (b2.1 + (1 : Int)) (x_looks.length : Int)
      let t6 ← getI x_looks t5
      let t7 ← modI (t6 - b2.2) x_many
      R.ok t7) (enum x_looks)
  R.ok l2
/-! ring_known -/
def ring_known (x_many : Int) (x_looks : (List Int)) (x_kind : Str) : R Bool := do
  if (decide (x_kind = ("all" : Str))) = true then do
    let j3 ← (do
      if (decide ((2 : Int) < (x_looks.length : Int))) = true then do
        let y5 ← gaps_round x_many x_looks
        let l7 ← mapG (fun (b7 : Int) => do
            R.ok (decide (((2 : Int) * b7) ≤ x_many))) y5
        R.ok (l7.all id)
      else do
        R.ok false : R (Bool))
    R.ok j3
  else do
    let j15 ← (do
      if (decide ((2 : Int) < (x_looks.length : Int))) = true then do
        R.ok true
      else do
        let j18 ← (do
          if (decide ((x_looks.length : Int) = (2 : Int))) = true then do
            let t20 ← getI x_looks (1 : Int)
            let t21 ← getI x_looks (0 : Int)
            R.ok (!decide (((2 : Int) * (t20 - t21)) = x_many))
          else do
            R.ok false : R (Bool))
        R.ok j18 : R (Bool))
    R.ok j15
/-! side_number -/
def side_number (x_sizes : (Tup Int)) (x_one : (Tup Int)) (x_other : (Tup Int)) : R (Option Int) := do
  let r4 ← foldX (fun (g4 : Unit) (b4 : Int) => do
      let t5 ← getI x_sizes.l ((1 : Int) - b4)
      let j6 ← (do
        let t7 ← getI x_one.l b4
        let t8 ← getI x_other.l b4
        if (decide (t7 = t8)) = true then do
          let t10 ← getI x_one.l b4
          let t11 ← getI x_sizes.l b4
          R.ok (inB t10 (Tup.mk [(0 : Int), (t11 - (1 : Int))] : (Tup Int)).l)
        else do
          R.ok false : R (Bool))
      if j6 = true then do
        let t17 ← getI x_one.l ((1 : Int) - b4)
        let t18 ← getI x_other.l ((1 : Int) - b4)
        if (decide ((sortI ([t17, t18] : (List Int))) = ([(0 : Int), (t5 - (1 : Int))] : (List Int)))) = true then do
          R.ok (.inl (some b4))
        else do
          R.ok (.inr (true, ()))
      else do
        R.ok (.inr (true, ()))) () (rng 0 (2 : Int))
  match r4 with
  | .inl z => R.ok z
  | .inr g4 => do
    R.ok none
/-! grid_known -/
def grid_known (x_wide : Int) (x_high : Int) (x_one : (Tup Int)) (x_other : (Tup Int)) : R Bool := do
  let y5 ← side_number (Tup.mk [x_wide, x_high] : (Tup Int)) x_one x_other
  R.ok (!y5.isNone)
/-! ring_far -/
def ring_far (x_many : Int) (x_one : Int) (x_other : Int) : R Int := do
  let t1 ← modI (x_one - x_other) x_many
  R.ok (min2 t1 (x_many - t1))
/-! ring_choices -/
def ring_choices (x_many : Int) (x_kind : Str) : R Int := do
  if (decide (x_kind = ("all" : Str))) = true then do
    let t3 ← mulW x_many (x_many - (1 : Int))
    let t4 ← mulW t3 (x_many - (2 : Int))
    let t6 ← mulW ((x_many - (x_many / (2 : Int))) - (1 : Int)) (((x_many - (x_many / (2 : Int))) - (1 : Int)) - (1 : Int))
    let t8 ← mulW x_many (t6 / (2 : Int))
    R.ok ((t4 / (6 : Int)) - t8)
  else do
    let t9 ← mulW x_many (x_many - (1 : Int))
    let t13 ← mulW (x_many / (2 : Int)) ((1 : Int) - (x_many % (2 : Int)))
    R.ok ((t9 / (2 : Int)) - t13)
/-! near_lists -/
def near_lists (x_web : (Int × (Tup (Int × Int)))) : R (List (List Int)) := do
  let l4 ← rngI 0 x_web.1
  let l5 ← mapStG (fun (g5 : (List (List Int))) (b5 : Int) => do
      let r9 ← newS g5 ([] : (List Int))
      R.ok (r9.1, r9.2)) ([] : List (List Int)) l4
  let g11 ← foldR (fun (g11 : (List (List Int))) (b11 : (Int × Int)) => do
      let t14 ← getI l5.1 b11.1
      let x16 ← getS g11 t14
      let l17 ← app x16 b11.2
      let r17 ← setS g11 t14 l17
      let t18 ← getI l5.1 b11.2
      let x20 ← getS r17 t18
      let l21 ← app x20 b11.1
      let r21 ← setS r17 t18 l21
      R.ok r21) l5.2 x_web.2.l
  let l22 ← mapG (fun (b22 : Ix) => do
      let x26 ← getS g11 b22
      R.ok (sortI x26)) l5.1
  R.ok l22
/-! fars_by -/
def fars_by (x_near : (List (List Int))) (x_place : Int) : R (List (Option Int)) := do
  let l4 ← repR ([none] : (List (Option Int))) (x_near.length : Int)
  let l7 ← setI l4 x_place (some (0 : Int))
  let g11 ← whileR (fun (g11 : Int × (List Int) × (List (Option Int))) => do
      R.ok (decide (g11.1 < (g11.2.1.length : Int)))) (fun (g11 : Int × (List Int) × (List (Option Int))) => do
      let t13 ← getI g11.2.1 g11.1
      let t14 ← getI x_near t13
      let g12 ← foldR (fun (g12 : (List Int) × (List (Option Int))) (b12 : Int) => do
          let t17 ← getI g12.2 b12
          if t17.isNone = true then do
            let t20 ← getI g12.1 g11.1
            let t21 ← getI g12.2 t20
            let t23 ← ofO t21
            let l24 ← setI g12.2 b12 (some (t23 + (1 : Int)))
            let l26 ← app g12.1 b12
            R.ok (l26, l24)
          else do
            R.ok (g12.1, g12.2)) (g11.2.1, g11.2.2) t14
      R.ok ((g11.1 + (1 : Int)), g12.1, g12.2)) (fu 1000) ((0 : Int), ([x_place] : (List Int)), l7)
  R.ok g11.2.2
/-! sorted_ties -/
def sorted_ties (x_many : Int) (x_ties : (List (Int × Int))) : R (Tup (Int × Int)) := do
  let g4 ← foldR (fun (g4 : (List (Int × Int))) (b4 : (Int × Int)) => do
      if ((decide ((min2 b4.1 b4.2) < (0 : Int))) || ((decide (x_many ≤ (max2 b4.1 b4.2))) || ((decide (b4.1 = b4.2)) || (inB ((min2 b4.1 b4.2), (max2 b4.1 b4.2)) g4)))) = true then do
        R.bad
      else do
        let l17 ← app g4 ((min2 b4.1 b4.2), (max2 b4.1 b4.2))
        R.ok l17) ([] : (List (Int × Int))) x_ties
  R.ok (Tup.mk (sortP g4))
/-! made_web -/
def made_web (x_many : Int) (x_ties : (List (Int × Int))) : R (Int × (Tup (Int × Int))) := do
  if (!((decide ((1 : Int) ≤ x_many)) && (decide (x_many ≤ (60 : Int))))) = true then do
    R.bad
  else do
    let y7 ← sorted_ties x_many x_ties
    let y10 ← near_lists (x_many, y7)
    let y12 ← fars_by y10 (0 : Int)
    let l16 ← rngI 0 x_many
    let g15 ← foldR (fun (g15 : Unit) (b15 : Int) => do
        let t17 ← getI y12 b15
        if t17.isNone = true then do
          R.bad
        else do
          R.ok ()) () l16
    R.ok (x_many, y7)
/-! place_asked -/
def place_asked (x_web : (Int × (Tup (Int × Int)))) (x_place : Int) : R Unit := do
  if (!((decide ((0 : Int) ≤ x_place)) && (decide (x_place < x_web.1)))) = true then do
    R.bad
  else do
    R.ok ()
/-! fars_from -/
def fars_from (x_web : (Int × (Tup (Int × Int)))) (x_place : Int) : R (List Int) := do
  let y3 ← place_asked x_web x_place
  let y4 ← near_lists x_web
  let y6 ← fars_by y4 x_place
  let l8 ← allS y6
  R.ok l8
/-! far_between -/
def far_between (x_web : (Int × (Tup (Int × Int)))) (x_one : Int) (x_other : Int) : R Int := do
  let y3 ← place_asked x_web x_one
  let y4 ← place_asked x_web x_other
  let y5 ← near_lists x_web
  let y7 ← fars_by y5 x_one
  let t9 ← getI y7 x_other
  let t11 ← ofO t9
  R.ok t11
/-! table_of -/
def table_of (x_web : (Int × (Tup (Int × Int)))) : R (List (List Int)) := do
  let l3 ← rngI 0 x_web.1
  let l4 ← mapG (fun (b4 : Int) => do
      let y6 ← fars_from x_web b4
      R.ok y6) l3
  R.ok l4
/-! things_of -/
def things_of (x_web : (Int × (Tup (Int × Int)))) (x_kind : Str) : R (List Thing) := do
  let l3 ← listRng 0 x_web.1
  if (decide (x_kind = ("places" : Str))) = true then do
    R.ok (mkpl l3)
  else do
    if (decide (x_kind = ("ties" : Str))) = true then do
      R.ok (mkti x_web.2.l)
    else do
      let l16 ← extend (mkpl l3) (mkti x_web.2.l)
      R.ok l16
/-! looks_asked -/
def looks_asked (x_web : (Int × (Tup (Int × Int)))) (x_looks : (List Int)) : R Unit := do
  let g4 ← foldR (fun (g4 : Unit) (b4 : (Int × Int)) => do
      let j6 ← (do
        if (!((decide ((0 : Int) ≤ b4.2)) && (decide (b4.2 < x_web.1)))) = true then do
          R.ok true
        else do
          let j13 ← (do
            if (decide ((0 : Int) < b4.1)) = true then do
              let t15 ← getI x_looks (b4.1 - (1 : Int))
              R.ok (decide (b4.2 ≤ t15))
            else do
              R.ok false : R (Bool))
          R.ok j13 : R (Bool))
      if j6 = true then do
        R.bad
      else do
        R.ok ()) () (enum x_looks)
  R.ok ()
/-! far_by -/
def far_by (x_table : (List (List Int))) (x_look : Int) (x_thing : Thing) : R Int := do
  if x_thing.isPl = true then do
    let t5 ← asPl x_thing
    let t6 ← getI x_table x_look
    let t8 ← getI t6 t5
    R.ok t8
  else do
    let t9 ← asTi x_thing
    let t11 ← getI x_table x_look
    let t13 ← getI t11 t9.1
    let t14 ← getI x_table x_look
    let t16 ← getI t14 t9.2
    R.ok (min2 t13 t16)
/-! by_code -/
def by_code (x_web : (Int × (Tup (Int × Int)))) (x_looks : (List Int)) (x_kind : Str) : R ((List ((Tup Int) × Ix)) × (List (List Thing))) := do
  let y5 ← table_of x_web
  let y9 ← things_of x_web x_kind
  let g8 ← foldR (fun (g8 : (List ((Tup Int) × Ix)) × (List (List Thing))) (b8 : Thing) => do
      let l14 ← mapG (fun (b14 : Int) => do
          let y17 ← far_by y5 b14 b8
          R.ok y17) x_looks
      let g22 ← (do
        if (!mhas g8.1 (Tup.mk l14)) = true then do
          let r26 ← newS g8.2 ([] : (List Thing))
          let l27 ← mputR g8.1 (Tup.mk l14) r26.1
          R.ok (l27, r26.2)
        else do
          R.ok (g8.1, g8.2) : R ((List ((Tup Int) × Ix)) × (List (List Thing))))
      let t29 ← mgetR g22.1 (Tup.mk l14)
      let x31 ← getS g22.2 t29
      let l32 ← app x31 b8
      let r32 ← setS g22.2 t29 l32
      R.ok (g22.1, r32)) (([] : (List ((Tup Int) × Ix))), ([] : List (List Thing))) y9
  R.ok (g8.1, g8.2)
/-! likes_by -/
def likes_by (x_web : (Int × (Tup (Int × Int)))) (x_looks : (List Int)) (x_kind : Str) : R (List (List Thing)) := do
  let y4 ← looks_asked x_web x_looks
  let y5 ← by_code x_web x_looks x_kind
  let l10 ← filStG (fun (g10 : (List (List Thing))) (b10 : Ix) => do
      let x14 ← getS g10 b10
      if (decide ((1 : Int) < (x14.length : Int))) = true then do
        R.ok ((some b10), g10)
      else
        R.ok (none, g10)) y5.2 (y5.1.map (·.2))
  let l17 ← deref l10.2 l10.1
  R.ok l17
/-! is_known -/
def is_known (x_web : (Int × (Tup (Int × Int)))) (x_looks : (List Int)) (x_kind : Str) : R Bool := do
  let y4 ← likes_by x_web x_looks x_kind
  R.ok (decide (y4 = ([] : (List (List Thing)))))
/-! _law_cell_at -/
def law_cell_at (x_script : Scr) (x_k : Int) : R Int := do
  if (decide (x_k < (x_script.l.length : Int))) = true then do
    let t3 ← getI x_script.l x_k
    R.ok t3
  else do
    let g4 ← (do
      if (!decide (x_script = (⟨([] : (List Int))⟩ : Scr))) = true then do
        let t9 ← modI x_k (x_script.l.length : Int)
        let t10 ← getI x_script.l t9
        R.ok (t10 % (1000003 : Int))
      else do
        R.ok (0 : Int) : R (Int))
    R.ok ((g4 + ((104729 : Int) * x_k)) + (13 : Int))
/-! _law_folded -/
def law_folded (x_script : Scr) (x_many : Int) : R (List Int) := do
  let l2 ← rngI 0 x_many
  let l3 ← mapG (fun (b3 : Int) => do
      let y5 ← law_cell_at x_script b3
      R.ok y5) l2
  let l8 ← rngI x_many (x_script.l.length : Int)
  let g7 ← foldR (fun (g7 : (List Int)) (b7 : Int) => do
      let t9 ← modI b7 x_many
      let t10 ← getI g7 t9
      let t14 ← getI x_script.l b7
      let l17 ← setI g7 t9 ((((t10 % ((10 : Int) ^ ((60 : Int) : Int).toNat)) * (48271 : Int)) + t14) % (((10 : Int) ^ ((60 : Int) : Int).toNat) + (7 : Int)))
      R.ok l17) l3 l8
  R.ok g7
/-! _law_state -/
def law_state (x_cell : Int) : R (List Int) := do
  let g1 ← (do
    if (decide (((10 : Int) ^ ((18 : Int) : Int).toNat) ≤ x_cell)) = true then do
      R.ok x_cell
    else do
      R.ok (0 : Int) : R (Int))
  R.ok ([g1, ((((x_cell % (2147483629 : Int)) + (11 : Int)) * (48271 : Int)) % (2147483647 : Int))] : (List Int))
/-! _law_next -/
def law_next (x_state : (List Int)) (x_many : Int) : R (Int × (List Int)) := do
  let t2 ← getI x_state (0 : Int)
  if (decide ((0 : Int) < t2)) = true then do
    let t4 ← getI x_state (0 : Int)
    let t5 ← modI t4 x_many
    let t6 ← getI x_state (0 : Int)
    let t7 ← divI t6 x_many
    let l8 ← setI x_state (0 : Int) t7
    R.ok (t5, l8)
  else do
    let t10 ← getI x_state (1 : Int)
    let l13 ← setI x_state (1 : Int) (((t10 * (69621 : Int)) + (40692 : Int)) % (2147483647 : Int))
    let t15 ← getI l13 (1 : Int)
    let t16 ← getI l13 (1 : Int)
    let t17 ← mulI t15 t16
    let t20 ← modI ((t17 % (2147483629 : Int)) / (8 : Int)) x_many
    R.ok (t20, l13)
/-! _law_great -/
def law_great (x_state : (List Int)) (x_top : Int) : R (Int × (List Int)) := do
  let g2 ← foldR (fun (g2 : Int × (List Int)) (b2 : Int) => do
      let y6 ← law_next g2.2 ((2 : Int) ^ ((24 : Int) : Int).toNat)
      R.ok (((g2.1 * ((2 : Int) ^ ((24 : Int) : Int).toNat)) + y6.1), y6.2)) ((0 : Int), x_state) (rng 0 (9 : Int))
  let t7 ← modI g2.1 x_top
  R.ok (t7, g2.2)
/-! _law_looks -/
def law_looks (x_state : (List Int)) (x_many : Int) (x_most : Int) : R ((List Int) × (List Int)) := do
  let y6 ← law_next x_state (x_most + (1 : Int))
  let l7 ← rngI 0 y6.1
  let g4 ← foldR (fun (g4 : (List Int) × (List Int)) (b4 : Int) => do
      let y9 ← law_great g4.1 x_many
      let y13 ← law_next y9.2 (9 : Int)
      let t14 ← getI ([(0 : Int), (x_many - (1 : Int)), (1 : Int), (x_many - (2 : Int)), (x_many / (2 : Int)), y9.1] : (List Int)) (min2 (5 : Int) y13.1)
      let g16 ← (do
        let j17 ← (do
          if (!decide (g4.2 = ([] : (List Int)))) = true then do
            let y22 ← law_next y13.2 (4 : Int)
            R.ok ((decide (y22.1 = (0 : Int))), y22.2)
          else do
            R.ok (false, y13.2) : R (Bool × (List Int)))
        if j17.1 = true then do
          let t28 ← getI g4.2 (-(1 : Int))
          let y30 ← law_next j17.2 (3 : Int)
          R.ok ((((t28 + (x_many / (2 : Int))) + y30.1) - (1 : Int)), y30.2)
        else do
          R.ok (t14, j17.2) : R (Int × (List Int)))
      let t31 ← modI g16.1 x_many
      if (!inB t31 g4.2) = true then do
        let t33 ← modI g16.1 x_many
        let l34 ← app g4.2 t33
        R.ok (g16.2, l34)
      else do
        R.ok (g16.2, g4.2)) (y6.2, ([] : (List Int))) l7
  R.ok ((sortI g4.2), g4.1)
/-! _law_order -/
def law_order (x_state : (List Int)) (x_many : Int) : R ((List Int) × (List Int)) := do
  let l5 ← rngI 0 x_many
  let g4 ← foldR (fun (g4 : (List Int) × (List Int)) (b4 : Int) => do
      let y7 ← law_next g4.2 (b4 + (1 : Int))
      let l8 ← insR g4.1 y7.1 b4
      R.ok (l8, y7.2)) (([] : (List Int)), x_state) l5
  R.ok (g4.1, g4.2)
/-! _law_named -/
def law_named (x_names : (List Int)) (x_many : Int) (x_ties : (List (Int × Int))) : R (Int × (Tup (Int × Int))) := do
  let l3 ← mapG (fun (b3 : (Int × Int)) => do
      let t7 ← getI x_names b3.1
      let t8 ← getI x_names b3.2
      R.ok (t7, t8)) x_ties
  let y11 ← made_web x_many l3
  R.ok y11
/-! _law_line -/
def law_line (x_state : (List Int)) (x_web : (Int × (Tup (Int × Int)))) (x_names : (List Int)) (x_looks : (List Int)) : R (Bool × (List Int)) := do
  let r6 ← foldX (fun (g6 : Unit) (b6 : Str) => do
      let y14 ← row_known x_web.1 x_looks b6
      let l15 ← mapG (fun (b15 : Int) => do
          let t18 ← getI x_names b15
          R.ok t18) x_looks
      let j24 ← (do
        if (!true) = true then do
          R.ok true
        else do
          let y27 ← is_known x_web (sortI l15) b6
          R.ok (!decide (y14 = y27)) : R (Bool))
      if j24 = true then do
        R.ok (.inl (false, x_state))
      else do
        R.ok (.inr (true, ()))) () ([("places" : Str), ("ties" : Str), ("all" : Str)] : (List Str))
  match r6 with
  | .inl z => R.ok z
  | .inr g6 => do
    R.ok (true, x_state)
/-! _law_line -/
def law_linering (x_state : (List Int)) (x_web : (Int × (Tup (Int × Int)))) (x_names : (List Int)) (x_looks : (List Int)) : R (Bool × (List Int)) := do
  let r6 ← foldX (fun (g6 : Unit) (b6 : Str) => do
      let y14 ← ring_known x_web.1 x_looks b6
      let l15 ← mapG (fun (b15 : Int) => do
          let t18 ← getI x_names b15
          R.ok t18) x_looks
      let j24 ← (do
        if (!true) = true then do
          R.ok true
        else do
          let y27 ← is_known x_web (sortI l15) b6
          R.ok (!decide (y14 = y27)) : R (Bool))
      if j24 = true then do
        R.ok (.inl (false, x_state))
      else do
        R.ok (.inr (true, ()))) () ([("places" : Str), ("ties" : Str), ("all" : Str)] : (List Str))
  match r6 with
  | .inl z => R.ok z
  | .inr g6 => do
    R.ok (true, x_state)
/-! _law_lines_right -/
def law_lines_right (x_state : (List Int)) : R (Bool × (List Int)) := do
  let y2 ← law_next x_state (12 : Int)
  let y3 ← law_order y2.2 ((1 : Int) + y2.1)
  let l6 ← rngI 0 (((1 : Int) + y2.1) - (1 : Int))
  let l7 ← mapG (fun (b7 : Int) => do
      R.ok (b7, (b7 + (1 : Int)))) l6
  let y12 ← law_named y3.1 ((1 : Int) + y2.1) l7
  let y15 ← law_looks y3.2 ((1 : Int) + y2.1) (3 : Int)
  let y18 ← law_line y15.2 y12 y3.1 y15.1
  if (!y18.1) = true then do
    R.ok (false, y18.2)
  else do
    let y20 ← law_next y18.2 (8 : Int)
    let y21 ← law_order y20.2 ((3 : Int) + y20.1)
    let l24 ← rngI 0 ((3 : Int) + y20.1)
    let l25 ← mapG (fun (b25 : Int) => do
        let t27 ← modI (b25 + (1 : Int)) ((3 : Int) + y20.1)
        R.ok (b25, t27)) l24
    let y31 ← law_named y21.1 ((3 : Int) + y20.1) l25
    let y34 ← law_next y21.2 ((3 : Int) + y20.1)
    let y35 ← law_next y34.2 ((3 : Int) + y20.1)
    let y36 ← ring_far ((3 : Int) + y20.1) y34.1 y35.1
    let t37 ← getI y21.1 y34.1
    let t38 ← getI y21.1 y35.1
    let y39 ← far_between y31 t37 t38
    if (!decide (y36 = y39)) = true then do
      R.ok (false, y35.2)
    else do
      let r41 ← foldX (fun (g41 : (List Int)) (b41 : Int) => do
          let y42 ← law_looks g41 ((3 : Int) + y20.1) (4 : Int)
          let y45 ← law_linering y42.2 y31 y21.1 y42.1
          if (!y45.1) = true then do
            R.ok (.inl (false, y45.2))
          else do
            R.ok (.inr (true, y45.2))) y35.2 (rng 0 (2 : Int))
      match r41 with
      | .inl z => R.ok z
      | .inr g41 => do
        R.ok (true, g41)
/-! _law_grid_right -/
def law_grid_right (x_state : (List Int)) : R (Bool × (List Int)) := do
  let y2 ← law_next x_state (3 : Int)
  let y3 ← law_next y2.2 (2 : Int)
  let t5 ← mulI ((2 : Int) + y2.1) ((2 : Int) + y3.1)
  let y6 ← law_order y3.2 t5
  let t9 ← mulI ((2 : Int) + y2.1) ((2 : Int) + y3.1)
  let l10 ← rngI 0 t9
  let l11 ← filG (fun (b11 : Int) => do
      let t13 ← modI b11 ((2 : Int) + y3.1)
      if (!decide (t13 = (((2 : Int) + y3.1) - (1 : Int)))) = true then do
        R.ok (some (b11, (b11 + (1 : Int))))
      else
        R.ok none) l10
  let t17 ← mulI ((2 : Int) + y2.1) ((2 : Int) + y3.1)
  let l18 ← rngI 0 (t17 - ((2 : Int) + y3.1))
  let l19 ← mapG (fun (b19 : Int) => do
      R.ok (b19, (b19 + ((2 : Int) + y3.1)))) l18
  let l23 ← extend l11 l19
  let t26 ← mulI ((2 : Int) + y2.1) ((2 : Int) + y3.1)
  let y28 ← law_named y6.1 t26 l23
  let r31 ← foldX (fun (g31 : (List Int)) (b31 : Int) => do
      let t32 ← mulI ((2 : Int) + y2.1) ((2 : Int) + y3.1)
      let y33 ← law_next g31 t32
      let t34 ← mulI ((2 : Int) + y2.1) ((2 : Int) + y3.1)
      let y35 ← law_next y33.2 (t34 - (1 : Int))
      let t36 ← mulI ((2 : Int) + y2.1) ((2 : Int) + y3.1)
      let t37 ← modI ((y33.1 + (1 : Int)) + y35.1) t36
      let g38 ← (do
        if (decide ((1 : Int) < b31)) = true then do
          let t42 ← mulI ((2 : Int) + y2.1) ((2 : Int) + y3.1)
          let t49 ← getI ([([(0 : Int), (((2 : Int) + y3.1) - (1 : Int))] : (List Int)), ([(0 : Int), (t42 - (1 : Int))] : (List Int))] : (List (List Int))) (b31 - (2 : Int))
          let t51 ← un2 t49
          R.ok (t51.1, t51.2)
        else do
          R.ok (y33.1, t37) : R (Int × Int))
      let t53 ← getI y6.1 g38.1
      let t54 ← getI y6.1 g38.2
      let t61 ← divI g38.1 ((2 : Int) + y3.1)
      let t62 ← modI g38.1 ((2 : Int) + y3.1)
      let t65 ← divI g38.2 ((2 : Int) + y3.1)
      let t66 ← modI g38.2 ((2 : Int) + y3.1)
      let y69 ← grid_known ((2 : Int) + y2.1) ((2 : Int) + y3.1) (Tup.mk [t61, t62] : (Tup Int)) (Tup.mk [t65, t66] : (Tup Int))
      let j70 ← (do
        if (!true) = true then do
          R.ok true
        else do
          let y73 ← is_known y28 (sortI ([t53, t54] : (List Int))) ("places" : Str)
          R.ok (!decide (y69 = y73)) : R (Bool))
      if j70 = true then do
        R.ok (.inl (false, y35.2))
      else do
        R.ok (.inr (true, y35.2))) y6.2 (rng 0 (4 : Int))
  match r31 with
  | .inl z => R.ok z
  | .inr g31 => do
    R.ok (true, g31)
/-! _law_sets -/
def law_sets (x_many : Int) (x_few : Int) : R (List (List Int)) := do
  let l7 ← rngI 0 x_many
  let g6 ← foldR (fun (g6 : (List (Tup Int))) (b6 : Int) => do
      let l9 ← filG (fun (b9 : (Tup Int)) => do
          if (decide ((b9.l.length : Int) < x_few)) = true then do
            let l16 ← extend b9.l (Tup.mk [b6] : (Tup Int)).l
            R.ok (some (Tup.mk l16 : (Tup Int)))
          else
            R.ok none) g6
      let l18 ← extend g6 l9
      R.ok l18) ([(Tup.mk [] : (Tup Int))] : (List (Tup Int))) l7
  let l23 ← filG (fun (b23 : (Tup Int)) => do
      if (decide ((b23.l.length : Int) = x_few)) = true then do
        R.ok (some b23.l)
      else
        R.ok none) g6
  R.ok l23
/-! _law_choices_right -/
def law_choices_right (x_state : (List Int)) : R (Bool × (List Int)) := do
  let y2 ← law_next x_state (8 : Int)
  let r3 ← foldX (fun (g3 : Unit) (b3 : (Int × Str)) => do
      let y12 ← ring_choices ((3 : Int) + y2.1) b3.2
      let y13 ← law_sets ((3 : Int) + y2.1) b3.1
      let l15 ← filG (fun (b15 : (List Int)) => do
          let y19 ← ring_known ((3 : Int) + y2.1) b15 b3.2
          if y19 = true then do
            R.ok (some b15)
          else
            R.ok none) y13
      if (false || (!decide (y12 = (l15.length : Int)))) = true then do
        R.ok (.inl (false, y2.2))
      else do
        R.ok (.inr (true, ()))) () ([((2 : Int), ("places" : Str)), ((2 : Int), ("ties" : Str)), ((3 : Int), ("all" : Str))] : (List (Int × Str)))
  match r3 with
  | .inl z => R.ok z
  | .inr g3 => do
    let t31 ← mulW (5 : Int) ((10 : Int) ^ ((59 : Int) : Int).toNat)
    let y35 ← law_next y2.2 (3 : Int)
    let t36 ← getI ([((10 : Int) ^ ((2 : Int) : Int).toNat), ((10 : Int) ^ ((20 : Int) : Int).toNat), (t31 - (2 : Int))] : (List Int)) y35.1
    let y37 ← law_great y35.2 t36
    let r39 ← foldX (fun (g39 : Unit) (b39 : Str) => do
        let t45 ← mulW ((2 : Int) * ((2 : Int) + y37.1)) (((2 : Int) + y37.1) - (1 : Int))
        let t47 ← mulW ((2 : Int) + y37.1) (((2 : Int) * ((2 : Int) + y37.1)) + (1 : Int))
        let y52 ← ring_choices ((2 : Int) * ((2 : Int) + y37.1)) b39
        let y54 ← ring_choices (((2 : Int) * ((2 : Int) + y37.1)) + (1 : Int)) b39
        if (!decide (([y52, y54] : (List Int)) = ([t45, t47] : (List Int)))) = true then do
          R.ok (.inl (false, y37.2))
        else do
          R.ok (.inr (true, ()))) () ([("places" : Str), ("ties" : Str)] : (List Str))
    match r39 with
    | .inl z => R.ok z
    | .inr g39 => do
      let t59 ← mulW ((2 : Int) + y37.1) (((2 : Int) + y37.1) - (1 : Int))
      let t60 ← mulW t59 (((2 : Int) + y37.1) + (4 : Int))
      let t63 ← mulW (((2 : Int) * ((2 : Int) + y37.1)) + (1 : Int)) ((2 : Int) + y37.1)
      let t64 ← mulW t63 (((2 : Int) + y37.1) + (1 : Int))
      let y70 ← ring_choices ((2 : Int) * ((2 : Int) + y37.1)) ("all" : Str)
      let y72 ← ring_choices (((2 : Int) * ((2 : Int) + y37.1)) + (1 : Int)) ("all" : Str)
      R.ok ((decide (([y70, y72] : (List Int)) = ([(t60 / (3 : Int)), (t64 / (6 : Int))] : (List Int)))), y37.2)
/-! law -/
def law (x_script : Scr) : R Bool := do
  let y3 ← law_folded x_script (6 : Int)
  let r2 ← foldX (fun (g2 : Unit) (b2 : Int) => do
      let y7 ← law_state b2
      let j9 ← (do
        let y10 ← law_lines_right y7
        if (!y10.1) = true then do
          R.ok (true, y10.2)
        else do
          let y13 ← law_grid_right y10.2
          if (!y13.1) = true then do
            R.ok (true, y13.2)
          else do
            let y16 ← law_choices_right y13.2
            R.ok ((!y16.1), y16.2) : R (Bool × (List Int)))
      if j9.1 = true then do
        R.ok (.inl false)
      else do
        R.ok (.inr (true, ()))) () y3
  match r2 with
  | .inl z => R.ok z
  | .inr g2 => do
    R.ok true
/-! ### what the top has written -/
structure Dn (K : Fg) (mg : Str → Option Value) (x y : Str) (st : Stmt) (ps : List Str) (f : Addr) (fd : FuncData) : Prop where
  fn : Fun K y y st f fd
  mg : mg x = some (.ref f)
  b : Binds K fd ps []
structure Tx (K : Fg) (mg : Str → Option Value) (A : Nat → Addr) (FD : Nat → FuncData) : Prop where
  d7 : Dn K mg "row_known" "row_known" s_row_known ["many", "looks", "kind"] (A 7) (FD 7)
  d8 : Dn K mg "gaps_round" "gaps_round" s_gaps_round ["many", "looks"] (A 8) (FD 8)
  d9 : Dn K mg "ring_known" "ring_known" s_ring_known ["many", "looks", "kind"] (A 9) (FD 9)
  d10 : Dn K mg "side_number" "side_number" s_side_number ["sizes", "one", "other"] (A 10) (FD 10)
  d11 : Dn K mg "grid_known" "grid_known" s_grid_known ["wide", "high", "one", "other"] (A 11) (FD 11)
  d12 : Dn K mg "ring_far" "ring_far" s_ring_far ["many", "one", "other"] (A 12) (FD 12)
  d13 : Dn K mg "ring_choices" "ring_choices" s_ring_choices ["many", "kind"] (A 13) (FD 13)
  d16 : Dn K mg "near_lists" "near_lists" s_near_lists ["web"] (A 16) (FD 16)
  d17 : Dn K mg "fars_by" "fars_by" s_fars_by ["near", "place"] (A 17) (FD 17)
  d18 : Dn K mg "sorted_ties" "sorted_ties" s_sorted_ties ["many", "ties"] (A 18) (FD 18)
  d19 : Dn K mg "made_web" "made_web" s_made_web ["many", "ties"] (A 19) (FD 19)
  d20 : Dn K mg "place_asked" "place_asked" s_place_asked ["web", "place"] (A 20) (FD 20)
  d21 : Dn K mg "fars_from" "fars_from" s_fars_from ["web", "place"] (A 21) (FD 21)
  d22 : Dn K mg "far_between" "far_between" s_far_between ["web", "one", "other"] (A 22) (FD 22)
  d24 : Dn K mg "table_of" "table_of" s_table_of ["web"] (A 24) (FD 24)
  d25 : Dn K mg "things_of" "things_of" s_things_of ["web", "kind"] (A 25) (FD 25)
  d26 : Dn K mg "looks_asked" "looks_asked" s_looks_asked ["web", "looks"] (A 26) (FD 26)
  d27 : Dn K mg "far_by" "far_by" s_far_by ["table", "look", "thing"] (A 27) (FD 27)
  d28 : Dn K mg "by_code" "by_code" s_by_code ["web", "looks", "kind"] (A 28) (FD 28)
  d29 : Dn K mg "likes_by" "likes_by" s_likes_by ["web", "looks", "kind"] (A 29) (FD 29)
  d30 : Dn K mg "is_known" "is_known" s_is_known ["web", "looks", "kind"] (A 30) (FD 30)
  d32 : Dn K mg "_law_cell_at" "_law_cell_at" s_law_cell_at ["script", "k"] (A 32) (FD 32)
  d33 : Dn K mg "_law_folded" "_law_folded" s_law_folded ["script", "many"] (A 33) (FD 33)
  d34 : Dn K mg "_law_state" "_law_state" s_law_state ["cell"] (A 34) (FD 34)
  d35 : Dn K mg "_law_next" "_law_next" s_law_next ["state", "many"] (A 35) (FD 35)
  d36 : Dn K mg "_law_great" "_law_great" s_law_great ["state", "top"] (A 36) (FD 36)
  d37 : Dn K mg "_law_looks" "_law_looks" s_law_looks ["state", "many", "most"] (A 37) (FD 37)
  d38 : Dn K mg "_law_order" "_law_order" s_law_order ["state", "many"] (A 38) (FD 38)
  d39 : Dn K mg "_law_named" "_law_named" s_law_named ["names", "many", "ties"] (A 39) (FD 39)
  d40 : Dn K mg "_law_line" "_law_line" s_law_line ["state", "web", "names", "looks", "told"] (A 40) (FD 40)
  d41 : Dn K mg "_law_lines_right" "_law_lines_right" s_law_lines_right ["state"] (A 41) (FD 41)
  d42 : Dn K mg "_law_grid_right" "_law_grid_right" s_law_grid_right ["state"] (A 42) (FD 42)
  d43 : Dn K mg "_law_sets" "_law_sets" s_law_sets ["many", "few"] (A 43) (FD 43)
  d44 : Dn K mg "_law_choices_right" "_law_choices_right" s_law_choices_right ["state"] (A 44) (FD 44)
  d45 : Dn K mg "law" "law" s_law ["script"] (A 45) (FD 45)
  nf_ring_known : Nm K "ring_known" (A 9)
  nf_row_known : Nm K "row_known" (A 7)
  n_all : mg "all" = none
  n_bool : mg "bool" = none
  n_enumerate : mg "enumerate" = none
  n_int : mg "int" = none
  n_isinstance : mg "isinstance" = none
  n_len : mg "len" = none
  n_list : mg "list" = none
  n_max : mg "max" = none
  n_min : mg "min" = none
  n_range : mg "range" = none
  n_sorted : mg "sorted" = none
  n_tuple : mg "tuple" = none
  c_MOST_PLACES : ∃ t, mg "MOST_PLACES" = some (.int 60 t)
section
variable {P : Program} {w : World} {K : PySem.W.Frag} {mg : Str → Option Value} {base : Heap} {A : Nat → Addr} {FD : Nat → FuncData}
def sp_row_known (K : Fg) : Sp := fun vs H Q E => ∃ (F : Hp) (os : List (Addr × HO)) (x_many : Int) (v_looks : V) (x_looks : (List Int)) (x_kind : Str), vs = [.int x_many, v_looks, .str x_kind] ∧ W F H (os) ∧ rep K F v_looks x_looks ∧ Post (row_known x_many x_looks x_kind) (Ret K F os Q) noX
theorem sc_row_known : FnScope ["many", "looks", "kind"] ["many", "looks", "kind"] (defScope s_row_known) := ⟨rfl, rfl, rfl, by decide +kernel, rfl, by decide +kernel, by decide +kernel⟩
theorem ok_row_known (T : Tx K mg A FD) : FnOk P w K mg base CX0 1 (A 7) (FD 7) ["many", "looks", "kind"] (sp_row_known K) := by
  refine T.d7.fn.ok sc_row_known (fun vs H Q E h => ?_) (fun cdv Ar outer s H vs Q E hr h => ?_)
  · obtain ⟨F, os, x_many, v_looks, x_looks, x_kind, rfl, _⟩ := h
    rfl
  · obtain ⟨F0, os, x_many, v_looks, x_looks, x_kind, rfl, w0, r_looks, hm⟩ := h
    have sF : Same F0 F0 := Same.refl _
    obtain ⟨a1, vs1, rfl, q1, h1⟩ := r_looks
    refine ⟨_, (pss_cons (ps_if (pt_cmp (pc_eqI (pv 0) pe_int)) (pss_one (ps_ret pe_bl)) pss_nil) (pss_cons (ps_if (pt_cmpR op_eqS (pv 2) pe_str (nomark _)) (pss_one (ps_ret (pe_and (pe_cmpR (op_eqDt (K := K) rfl (List Int) (by decide) hr.units) (pe_slice (sl_listK (K := K) rfl) (pv 1) po_none (po_some pe_int)) (pe_lst (pa_cons pe_int pa_nil)) (nomark _)) (pe_one (pe_cmpR (op_eqDt (K := K) rfl (List Int) (by decide) hr.units) (pe_slice (sl_listK (K := K) rfl) (pv 1) (po_some (pe_un un_neg pe_int)) po_none) (pe_lst (pa_cons (pe_op op_sub (pv 0) pe_int) pa_nil)) (nomark _)))))) pss_nil) (pss_cons (ps_if (pt_cmp (pc_eqI (pv 0) pe_int)) (pss_one (ps_ret (pe_or (pe_cmpR op_eqS (pv 2) pe_str (nomark _)) (pe_one (pe_cmp (pc_gt (pe_callB (call_lenN (K := K) rfl) (by rfl) T.n_len (by decide +kernel) (pa_cons (pv 1) pa_nil)) pe_int)))))) pss_nil) (pss_one (ps_ret (pe_or (pe_cmp (pc_gt (pe_callB (call_lenN (K := K) rfl) (by rfl) T.n_len (by decide +kernel) (pa_cons (pv 1) pa_nil)) pe_int)) (pe_or (pe_cmpR (op_eqDt (K := K) rfl (List Int) (by decide) hr.units) (pv 1) (pe_lst (pa_cons pe_int pa_nil)) (nomark _)) (pe_one (pe_cmpR (op_eqDt (K := K) rfl (List Int) (by decide) hr.units) (pv 1) (pe_lst (pa_cons (pe_op op_sub (pv 0) pe_int) pa_nil)) (nomark _)))))))))), ?_⟩
    refine ⟨_, rfl, _, _, rfl, rfl, _, rfl, ?_⟩
    refine post_ite hm (fun k2 hm => ?_) (fun k2 hm => ?_)
    · skip
      exact (post_ok hm) _ _ _ w0 sF rep_b
    · skip
      refine ⟨_, rfl, _, _, rfl, rfl, _, rfl, ?_⟩
      refine post_ite hm (fun k3 hm => ?_) (fun k3 hm => ?_)
      · skip
        try dsimp only
        refine stepRet ?_
        refine cutE (fun c H' => c = V.bl (((decide ((cutL x_looks none (some (1 : Int))) = ([(0 : Int)] : (List Int)))) && (decide ((cutL x_looks (some (-(1 : Int))) none) = ([(x_many - (1 : Int))] : (List Int)))))) ∧ ∃ F', Same F0 F' ∧ W F' H' (os)) (fun Q4 q4 => ?_) (fun c4 H4 hc4 => ?_)
        · -- the ways
          have h5 : A2 (rep K F0) (cutV vs1 none (some (1 : Int))) (cutL x_looks none (some (1 : Int))) := sl_cut h1 _ _
          refine ⟨_, rfl, _, rfl, _, _, rfl, SqL.of (w0.same _ _ q1), fun p6 n6 => ?_⟩
          have w6 : W F0 _ ((p6, .lst (cutV vs1 none (some (1 : Int)))) :: os) := w0.new n6
          have h7 : A2 (rep K F0) [(.int 0)] ([(0 : Int)] : (List Int)) := .cons rep_i (.nil)
          refine ⟨(by show 1 ≤ sizeLine; decide), fun p8 n8 => ?_⟩
          have w8 : W F0 _ ((p8, .lst [(.int 0)]) :: (p6, .lst (cutV vs1 none (some (1 : Int)))) :: os) := w6.new n8
          refine ⟨((cutL x_looks none (some (1 : Int))) : (List Int)), (([(0 : Int)] : (List Int)) : (List Int)), (rep_own (pre := [_]) w8 h5), (rep_own (pre := []) w8 h7), _, rfl, ?_⟩
          refine ifB (fun k9 => ?_) (fun k9 => ?_)
          · skip
            have h10 : A2 (rep K F0) (cutV vs1 (some (-(1 : Int))) none) (cutL x_looks (some (-(1 : Int))) none) := sl_cut h1 _ _
            refine ⟨_, rfl, _, rfl, _, rfl, _, _, rfl, SqL.of (w8.same _ _ q1), fun p11 n11 => ?_⟩
            have w11 : W F0 _ ((p11, .lst (cutV vs1 (some (-(1 : Int))) none)) :: (p8, .lst [(.int 0)]) :: (p6, .lst (cutV vs1 none (some (1 : Int)))) :: os) := w8.new n11
            have h12 : A2 (rep K F0) [(.int (x_many - (1 : Int)))] ([(x_many - (1 : Int))] : (List Int)) := .cons rep_i (.nil)
            refine ⟨_, rfl, _, _, rfl, rfl, (by show 1 ≤ sizeLine; decide), fun p13 n13 => ?_⟩
            have w13 : W F0 _ ((p13, .lst [(.int (x_many - (1 : Int)))]) :: (p11, .lst (cutV vs1 (some (-(1 : Int))) none)) :: (p8, .lst [(.int 0)]) :: (p6, .lst (cutV vs1 none (some (1 : Int)))) :: os) := w11.new n13
            have w15 : W F0 _ ((p11, .lst (cutV vs1 (some (-(1 : Int))) none)) :: (p8, .lst [(.int 0)]) :: (p6, .lst (cutV vs1 none (some (1 : Int)))) :: os) := w13.drop (pre := [])
            have w16 : W F0 _ ((p8, .lst [(.int 0)]) :: (p6, .lst (cutV vs1 none (some (1 : Int)))) :: os) := w15.drop (pre := [])
            have w17 : W F0 _ ((p6, .lst (cutV vs1 none (some (1 : Int)))) :: os) := w16.drop (pre := [])
            have w18 : W F0 _ (os) := w17.drop (pre := [])
            exact ⟨((cutL x_looks (some (-(1 : Int))) none) : (List Int)), (([(x_many - (1 : Int))] : (List Int)) : (List Int)), (rep_own (pre := [_]) w13 h10), (rep_own (pre := []) w13 h12), q4 _ _ ⟨(by first | rfl | exact absurd k9 (by decide) | (simp [k9]; done) | ((try simp only [Bool.not_eq_true] at k9); simp only [k9, Bool.true_or, Bool.false_or, Bool.or_false, Bool.or_true, Bool.true_and, Bool.false_and, Bool.and_true, Bool.and_false])), _, Same.refl _, w18⟩⟩
          · skip
            have w20 : W F0 _ ((p6, .lst (cutV vs1 none (some (1 : Int)))) :: os) := w8.drop (pre := [])
            have w21 : W F0 _ (os) := w20.drop (pre := [])
            exact q4 _ _ ⟨(by first | rfl | exact absurd k9 (by decide) | (simp [k9]; done) | ((try simp only [Bool.not_eq_true] at k9); simp only [k9, Bool.true_or, Bool.false_or, Bool.or_false, Bool.or_true, Bool.true_and, Bool.false_and, Bool.and_true, Bool.and_false])), _, Same.refl _, w21⟩
        obtain ⟨rfl, F4, s4, w4⟩ := hc4
        replace q1 := s4 _ _ q1
        replace h1 := A2.mono s4 h1
        replace sF := sF.trans s4
        exact (post_ok hm) _ _ _ w4 sF rep_b
      · skip
        refine ⟨_, rfl, _, _, rfl, rfl, _, rfl, ?_⟩
        refine post_ite hm (fun k22 hm => ?_) (fun k22 hm => ?_)
        · skip
          try dsimp only
          refine stepRet ?_
          refine cutE (fun c H' => c = V.bl (((decide (x_kind = ("ties" : Str))) || (decide ((0 : Int) < (x_looks.length : Int))))) ∧ ∃ F', Same F0 F' ∧ W F' H' (os)) (fun Q23 q23 => ?_) (fun c23 H23 hc23 => ?_)
          · -- the ways
            refine ⟨_, rfl, _, _, rfl, rfl, _, rfl, ?_⟩
            refine ifB (fun k24 => ?_) (fun k24 => ?_)
            · skip
              exact q23 _ _ ⟨(by first | rfl | exact absurd k24 (by decide) | (simp [k24]; done) | ((try simp only [Bool.not_eq_true] at k24); simp only [k24, Bool.true_or, Bool.false_or, Bool.or_false, Bool.or_true, Bool.true_and, Bool.false_and, Bool.and_true, Bool.and_false])), _, Same.refl _, w0⟩
            · skip
              exact ⟨_, rfl, _, _, _, rfl, .inl (SqL.of (w0.same _ _ q1)), h1.length, _, _, rfl, rfl, q23 _ _ ⟨(by first | rfl | exact absurd k24 (by decide) | (simp [k24]; done) | ((try simp only [Bool.not_eq_true] at k24); simp only [k24, Bool.true_or, Bool.false_or, Bool.or_false, Bool.or_true, Bool.true_and, Bool.false_and, Bool.and_true, Bool.and_false])), _, Same.refl _, w0⟩⟩
          obtain ⟨rfl, F23, s23, w23⟩ := hc23
          replace q1 := s23 _ _ q1
          replace h1 := A2.mono s23 h1
          replace sF := sF.trans s23
          exact (post_ok hm) _ _ _ w23 sF rep_b
        · skip
          refine stepX ?_
          try dsimp only
          refine stepRet ?_
          refine cutE (fun c H' => c = V.bl (((decide ((1 : Int) < (x_looks.length : Int))) || ((decide (x_looks = ([(0 : Int)] : (List Int)))) || (decide (x_looks = ([(x_many - (1 : Int))] : (List Int))))))) ∧ ∃ F', Same F0 F' ∧ W F' H' (os)) (fun Q27 q27 => ?_) (fun c27 H27 hc27 => ?_)
          · -- the ways
            refine ⟨_, rfl, _, _, _, rfl, .inl (SqL.of (w0.same _ _ q1)), h1.length, _, _, rfl, rfl, _, rfl, ?_⟩
            refine ifB (fun k28 => ?_) (fun k28 => ?_)
            · skip
              exact q27 _ _ ⟨(by first | rfl | exact absurd k28 (by decide) | (simp [k28]; done) | ((try simp only [Bool.not_eq_true] at k28); simp only [k28, Bool.true_or, Bool.false_or, Bool.or_false, Bool.or_true, Bool.true_and, Bool.false_and, Bool.and_true, Bool.and_false])), _, Same.refl _, w0⟩
            · skip
              have h30 : A2 (rep K F0) [(.int 0)] ([(0 : Int)] : (List Int)) := .cons rep_i (.nil)
              refine ⟨_, rfl, (by show 1 ≤ sizeLine; decide), fun p31 n31 => ?_⟩
              have w31 : W F0 _ ((p31, .lst [(.int 0)]) :: os) := w0.new n31
              refine ⟨(x_looks : (List Int)), (([(0 : Int)] : (List Int)) : (List Int)), (Rep.mono w31.same (rep_lst q1 h1)), (rep_own (pre := []) w31 h30), _, rfl, ?_⟩
              refine ifB (fun k32 => ?_) (fun k32 => ?_)
              · skip
                have w34 : W F0 _ (os) := w31.drop (pre := [])
                exact q27 _ _ ⟨(by first | rfl | exact absurd k28 (by decide) | exact absurd k32 (by decide) | (simp [k28, k32]; done) | ((try simp only [Bool.not_eq_true] at k28); (try simp only [Bool.not_eq_true] at k32); simp only [k28, k32, Bool.true_or, Bool.false_or, Bool.or_false, Bool.or_true, Bool.true_and, Bool.false_and, Bool.and_true, Bool.and_false])), _, Same.refl _, w34⟩
              · skip
                have h35 : A2 (rep K F0) [(.int (x_many - (1 : Int)))] ([(x_many - (1 : Int))] : (List Int)) := .cons rep_i (.nil)
                refine ⟨_, rfl, _, rfl, _, _, rfl, rfl, (by show 1 ≤ sizeLine; decide), fun p36 n36 => ?_⟩
                have w36 : W F0 _ ((p36, .lst [(.int (x_many - (1 : Int)))]) :: (p31, .lst [(.int 0)]) :: os) := w31.new n36
                have w38 : W F0 _ ((p31, .lst [(.int 0)]) :: os) := w36.drop (pre := [])
                have w39 : W F0 _ (os) := w38.drop (pre := [])
                exact ⟨(x_looks : (List Int)), (([(x_many - (1 : Int))] : (List Int)) : (List Int)), (Rep.mono w36.same (rep_lst q1 h1)), (rep_own (pre := []) w36 h35), q27 _ _ ⟨(by first | rfl | exact absurd k28 (by decide) | exact absurd k32 (by decide) | (simp [k28, k32]; done) | ((try simp only [Bool.not_eq_true] at k28); (try simp only [Bool.not_eq_true] at k32); simp only [k28, k32, Bool.true_or, Bool.false_or, Bool.or_false, Bool.or_true, Bool.true_and, Bool.false_and, Bool.and_true, Bool.and_false])), _, Same.refl _, w39⟩⟩
          obtain ⟨rfl, F27, s27, w27⟩ := hc27
          replace q1 := s27 _ _ q1
          replace h1 := A2.mono s27 h1
          replace sF := sF.trans s27
          exact (post_ok hm) _ _ _ w27 sF rep_b
def sp_gaps_round (K : Fg) : Sp := fun vs H Q E => ∃ (F : Hp) (os : List (Addr × HO)) (x_many : Int) (v_looks : V) (x_looks : (List Int)), vs = [.int x_many, v_looks] ∧ W F H (os) ∧ rep K F v_looks x_looks ∧ Post (gaps_round x_many x_looks) (Ret K F os Q) noX
theorem sc_gaps_round : FnScope ["many", "looks", "k", "look"] ["many", "looks"] (defScope s_gaps_round) := ⟨rfl, rfl, rfl, by decide +kernel, rfl, by decide +kernel, by decide +kernel⟩
theorem ok_gaps_round (T : Tx K mg A FD) : FnOk P w K mg base CX0 1 (A 8) (FD 8) ["many", "looks"] (sp_gaps_round K) := by
  refine T.d8.fn.ok sc_gaps_round (fun vs H Q E h => ?_) (fun cdv Ar outer s H vs Q E hr h => ?_)
  · obtain ⟨F, os, x_many, v_looks, x_looks, rfl, _⟩ := h
    rfl
  · obtain ⟨F0, os, x_many, v_looks, x_looks, rfl, w0, r_looks, hm⟩ := h
    have sF : Same F0 F0 := Same.refl _
    obtain ⟨a1, vs1, rfl, q1, h1⟩ := r_looks
    refine ⟨_, (pss_one (ps_ret (pe_lc (own := [("k", 2), ("look", 3)]) (g := _) (by rfl) sc_gaps_round.nd (pi_k (K := K) (wi := fun K => iEnum K _) rfl (pi_enum (by rfl) T.n_enumerate (pa_cons (pv 1) pa_nil))) (blkOk_by (own := [("k", 2), ("look", 3)]) (N := ["many", "looks", "k", "look"]) (sc := defScope s_gaps_round) (by decide +kernel)) (fun _ _ _ _ _ => (pg_k (K := K) (t := fun K => gTup K 2 _) rfl (pg_tup (n := 2) rfl (pgs_cons (pg_name (i := 2) sc_gaps_round.nd rfl (Or.inl rfl)) (pgs_cons (pg_name (i := 3) sc_gaps_round.nd rfl (Or.inl rfl)) pgs_nil))))) (fun _ _ _ _ _ => pts_nil) (fun _ _ _ _ _ => (pe_op op_mod (pe_op op_sub (pe_ix (ix_listK (K := K) rfl) (pv 1) (pe_op op_mod (pe_op op_add (pv 2) pe_int) (pe_callB (call_lenN (K := K) rfl) (by rfl) T.n_len (by decide +kernel) (pa_cons (pv 1) pa_nil))) (fun _ _ => rfl)) (pv 3)) (pv 0)))))), ?_⟩
    refine ⟨_, rfl, _, _, rfl, SqL.of (w0.same _ _ q1), fun D2 nD2 => ?_⟩
    refine lcM (K := K) (tw_enum (a := a1) h1) hm w0 nD2 (fun F' H' acc s w => SqL.of (w.same _ _ (s _ _ q1))) ?_ ?_
    · -- one turn
      intro b2 x2 F2 H2 H2' acc2 N2 P2 s2 w2 y2 hN2 hm
      replace q1 := s2 _ _ q1
      replace h1 := A2.mono s2 h1
      replace sF := sF.trans s2
      obtain ⟨T4, u4, rfl, n4, rfl, r4⟩ := y2
      obtain ⟨F4, s4, w4, q4⟩ := w2.frzE (o := .tup [.int b2.1, u4]) n4
      replace r4 := Rep.mono s2 r4
      replace q1 := s4 _ _ q1
      replace h1 := A2.mono s4 h1
      replace sF := sF.trans s4
      replace r4 := Rep.mono s4 r4
      obtain rfl : u4 = V.int b2.2 := r4
      obtain ⟨c5, hm⟩ := pb_mod hm
      obtain ⟨t6, e6, hm⟩ := pb_get hm
      obtain ⟨u6, f6, r6⟩ := A2.at h1 e6
      obtain rfl : u6 = V.int t6 := r6
      obtain ⟨c7, hm⟩ := pb_mod hm
      exact ⟨_, _, rfl, SqT.of (w4.same _ _ q4), rfl, _, _, rfl, _, _, rfl, rfl, rfl, _, rfl, _, rfl, _, _, rfl, rfl, _, rfl, _, _, _, rfl, .inl (SqL.of (w4.same _ _ q1)), h1.length, _, _, rfl, rfl, c5, _, _, _, _, rfl, rfl, SqL.of (w4.same _ _ q1), f6, _, rfl, _, _, rfl, rfl, _, rfl, _, _, rfl, rfl, c7, hN2 _ (post_ok hm) _ _ _ w4 s4 rep_i⟩
    intro us2 F2 H2 ys2 s2 w2 gg2 hm
    replace q1 := s2 _ _ q1
    replace h1 := A2.mono s2 h1
    replace sF := sF.trans s2
    obtain ⟨F9, s9, w9, q9⟩ : ∃ F', Same F2 F' ∧ W F' _ (os) ∧ F' D2 = some (.lst us2) := w2.freezeE (pre := [])
    replace q1 := s9 _ _ q1
    replace h1 := A2.mono s9 h1
    replace gg2 := A2.mono s9 gg2
    replace sF := sF.trans s9
    exact (post_ok hm) _ _ _ w9 sF (rep_lst q9 gg2)
def sp_ring_known (K : Fg) : Sp := fun vs H Q E => ∃ (F : Hp) (os : List (Addr × HO)) (x_many : Int) (v_looks : V) (x_looks : (List Int)) (x_kind : Str), vs = [.int x_many, v_looks, .str x_kind] ∧ W F H (os) ∧ rep K F v_looks x_looks ∧ Post (ring_known x_many x_looks x_kind) (Ret K F os Q) noX
theorem sc_ring_known : FnScope ["many", "looks", "kind", "gap"] ["many", "looks", "kind"] (defScope s_ring_known) := ⟨rfl, rfl, rfl, by decide +kernel, rfl, by decide +kernel, by decide +kernel⟩
theorem ok_ring_known (T : Tx K mg A FD) : FnOk P w K mg base CX0 2 (A 9) (FD 9) ["many", "looks", "kind"] (sp_ring_known K) := by
  refine T.d9.fn.ok sc_ring_known (fun vs H Q E h => ?_) (fun cdv Ar outer s H vs Q E hr h => ?_)
  · obtain ⟨F, os, x_many, v_looks, x_looks, x_kind, rfl, _⟩ := h
    rfl
  · obtain ⟨F0, os, x_many, v_looks, x_looks, x_kind, rfl, w0, r_looks, hm⟩ := h
    have sF : Same F0 F0 := Same.refl _
    obtain ⟨a1, vs1, rfl, q1, h1⟩ := r_looks
    refine ⟨_, (pss_cons (ps_if (pt_cmpR op_eqS (pv 2) pe_str (nomark _)) (pss_one (ps_ret (pe_and (pe_cmp (pc_gt (pe_callB (call_lenN (K := K) rfl) (by rfl) T.n_len (by decide +kernel) (pa_cons (pv 1) pa_nil)) pe_int)) (pe_one (pe_callB (cr_allK (K := K) rfl rfl) (by rfl) T.n_all (by decide +kernel) (pa_cons (pe_lc (own := [("gap", 3)]) (g := gName 3) (by rfl) sc_ring_known.nd (pi_listK (K := K) rfl (pe_call (ok_gaps_round T) (hr.mono (by decide)) (by rfl) T.d8.mg T.d8.fn.kp T.d8.b .nil pass0 (pa_cons (pv 0) (pa_cons (pv 1) pa_nil)))) (blkOk_by (own := [("gap", 3)]) (N := ["many", "looks", "kind", "gap"]) (sc := defScope s_ring_known) (by decide +kernel)) (fun _ _ _ _ _ => (pg_name (i := 3) sc_ring_known.nd rfl (Or.inl rfl))) (fun _ _ _ _ _ => pts_nil) (fun _ _ _ _ _ => (pe_cmp (pc_le (pe_op op_mul pe_int (pv 3)) (pv 0))))) pa_nil)))))) pss_nil) (pss_one (ps_ret (pe_or (pe_cmp (pc_gt (pe_callB (call_lenN (K := K) rfl) (by rfl) T.n_len (by decide +kernel) (pa_cons (pv 1) pa_nil)) pe_int)) (pe_one (pe_and (pe_cmp (pc_eqI (pe_callB (call_lenN (K := K) rfl) (by rfl) T.n_len (by decide +kernel) (pa_cons (pv 1) pa_nil)) pe_int)) (pe_one (pe_cmp (pc_neI (pe_op op_mul pe_int (pe_op op_sub (pe_ix (ix_listK (K := K) rfl) (pv 1) pe_int (fun _ _ => rfl)) (pe_ix (ix_listK (K := K) rfl) (pv 1) pe_int (fun _ _ => rfl)))) (pv 0)))))))))), ?_⟩
    refine ⟨_, rfl, _, _, rfl, rfl, _, rfl, ?_⟩
    refine post_ite hm (fun k2 hm => ?_) (fun k2 hm => ?_)
    · skip
      try dsimp only
      refine stepRet ?_
      refine joinE hm (fun (j3 : Bool) c H' => c = V.bl j3 ∧ ∃ (F' : Hp), Same F0 F' ∧ W F' H' (os)) ?_ ?_
      · intro Q3 P3 q3 hm
        refine ⟨_, rfl, _, _, _, rfl, .inl (SqL.of (w0.same _ _ q1)), h1.length, _, _, rfl, rfl, _, rfl, ?_⟩
        refine post_ite hm (fun k4 hm => ?_) (fun k4 hm => ?_)
        · skip
          refine ⟨_, rfl, _, rfl, _, _, _, _, (x_looks : (List Int)), rfl, w0, (rep_lst q1 h1), ?_⟩
          refine (post_bind hm).mono (fun y5 hm v5 F5 H5 w5 s5 r5 => ?_) (fun _ z => z)
          replace q1 := s5 _ _ q1
          replace h1 := A2.mono s5 h1
          replace sF := sF.trans s5
          obtain ⟨a6, vs6, rfl, q6, h6⟩ := r5
          refine ⟨_, rfl, ⟨_, SqL.of (w5.same _ _ q6)⟩, fun D7 nD7 => ?_⟩
          refine lcM (K := K) (tw_list (a := a6) h6) hm w5 nD7 (fun F' H' acc s w => SqL.of (w.same _ _ (s _ _ q6))) ?_ ?_
          · -- one turn
            intro b7 x7 F7 H7 H7' acc7 N7 P7 s7 w7 y7 hN7 hm
            replace q1 := s7 _ _ q1
            replace h1 := A2.mono s7 h1
            replace q6 := s7 _ _ q6
            replace h6 := A2.mono s7 h6
            replace sF := sF.trans s7
            obtain ⟨rfl, r9⟩ := y7
            obtain rfl : x7 = V.int b7 := r9
            exact ⟨rfl, _, rfl, _, _, rfl, rfl, (.inl (by constructor <;> decide)), _, rfl, _, _, rfl, rfl, hN7 _ (post_ok hm) _ _ _ w7 (Same.refl _) rep_b⟩
          intro us7 F7 H7 ys7 s7 w7 gg7 hm
          replace q1 := s7 _ _ q1
          replace h1 := A2.mono s7 h1
          replace q6 := s7 _ _ q6
          replace h6 := A2.mono s7 h6
          replace sF := sF.trans s7
          have w13 : W F7 _ (os) := w7.drop (pre := [])
          exact ⟨_, _, rfl, bools_q (SqL.of (w7.get (pre := []))) gg7, q3 _ (post_ok hm) _ _ ⟨rfl, _, (s5.trans s7), w13⟩⟩
        · skip
          exact q3 _ (post_ok hm) _ _ ⟨rfl, _, Same.refl _, w0⟩
      intro j3 c3 H3 hc3 hm
      obtain ⟨rfl, F3, s3, w3⟩ := hc3
      replace q1 := s3 _ _ q1
      replace h1 := A2.mono s3 h1
      replace sF := sF.trans s3
      exact (post_ok hm) _ _ _ w3 sF rep_b
    · skip
      refine stepX ?_
      try dsimp only
      refine stepRet ?_
      refine joinE hm (fun (j15 : Bool) c H' => c = V.bl j15 ∧ ∃ (F' : Hp), Same F0 F' ∧ W F' H' (os)) ?_ ?_
      · intro Q15 P15 q15 hm
        refine ⟨_, rfl, _, _, _, rfl, .inl (SqL.of (w0.same _ _ q1)), h1.length, _, _, rfl, rfl, _, rfl, ?_⟩
        refine post_ite hm (fun k16 hm => ?_) (fun k16 hm => ?_)
        · skip
          exact q15 _ (post_ok hm) _ _ ⟨rfl, _, Same.refl _, w0⟩
        · skip
          refine joinE hm (fun (j18 : Bool) c H' => c = V.bl j18 ∧ ∃ (F' : Hp), Same F0 F' ∧ W F' H' (os)) ?_ ?_
          · intro Q18 P18 q18 hm
            refine ⟨_, rfl, _, _, _, rfl, .inl (SqL.of (w0.same _ _ q1)), h1.length, _, _, rfl, rfl, _, rfl, ?_⟩
            refine post_ite hm (fun k19 hm => ?_) (fun k19 hm => ?_)
            · skip
              obtain ⟨t20, e20, hm⟩ := pb_get hm
              obtain ⟨u20, f20, r20⟩ := A2.at h1 e20
              obtain rfl : u20 = V.int t20 := r20
              obtain ⟨t21, e21, hm⟩ := pb_get hm
              obtain ⟨u21, f21, r21⟩ := A2.at h1 e21
              obtain rfl : u21 = V.int t21 := r21
              exact ⟨_, rfl, _, _, _, _, rfl, rfl, SqL.of (w0.same _ _ q1), f20, _, rfl, _, _, _, _, rfl, rfl, SqL.of (w0.same _ _ q1), f21, _, _, rfl, rfl, _, _, rfl, rfl, (.inl (by constructor <;> decide)), _, rfl, _, _, rfl, rfl, q18 _ (post_ok hm) _ _ ⟨rfl, _, Same.refl _, w0⟩⟩
            · skip
              exact q18 _ (post_ok hm) _ _ ⟨rfl, _, Same.refl _, w0⟩
          intro j18 c18 H18 hc18 hm
          obtain ⟨rfl, F18, s18, w18⟩ := hc18
          replace q1 := s18 _ _ q1
          replace h1 := A2.mono s18 h1
          replace sF := sF.trans s18
          exact q15 _ (post_ok hm) _ _ ⟨rfl, _, s18, w18⟩
      intro j15 c15 H15 hc15 hm
      obtain ⟨rfl, F15, s15, w15⟩ := hc15
      replace q1 := s15 _ _ q1
      replace h1 := A2.mono s15 h1
      replace sF := sF.trans s15
      exact (post_ok hm) _ _ _ w15 sF rep_b
def sp_side_number (K : Fg) : Sp := fun vs H Q E => ∃ (F : Hp) (os : List (Addr × HO)) (v_sizes : V) (x_sizes : (Tup Int)) (v_one : V) (x_one : (Tup Int)) (v_other : V) (x_other : (Tup Int)), vs = [v_sizes, v_one, v_other] ∧ W F H (os) ∧ rep K F v_sizes x_sizes ∧ rep K F v_one x_one ∧ rep K F v_other x_other ∧ Post (side_number x_sizes x_one x_other) (Ret K F os Q) noX
theorem sc_side_number : FnScope ["sizes", "one", "other", "at", "last"] ["sizes", "one", "other"] (defScope s_side_number) := ⟨rfl, rfl, rfl, by decide +kernel, rfl, by decide +kernel, by decide +kernel⟩
theorem ok_side_number (T : Tx K mg A FD) : FnOk P w K mg base CX0 1 (A 10) (FD 10) ["sizes", "one", "other"] (sp_side_number K) := by
  refine T.d10.fn.ok sc_side_number (fun vs H Q E h => ?_) (fun cdv Ar outer s H vs Q E hr h => ?_)
  · obtain ⟨F, os, v_sizes, x_sizes, v_one, x_one, v_other, x_other, rfl, _⟩ := h
    rfl
  · obtain ⟨F0, os, v_sizes, x_sizes, v_one, x_one, v_other, x_other, rfl, w0, r_sizes, r_one, r_other, hm⟩ := h
    have sF : Same F0 F0 := Same.refl _
    obtain ⟨a1, vs1, rfl, q1, h1⟩ := r_sizes
    obtain ⟨a2, vs2, rfl, q2, h2⟩ := r_one
    obtain ⟨a3, vs3, rfl, q3, h3⟩ := r_other
    refine ⟨_, (pss_cons (ps_for PassesOwn.never rfl (pi_range1 (by rfl) T.n_range (pa_cons pe_int pa_nil)) (pg_name (i := 3) sc_side_number.nd rfl (Or.inl rfl)) (pss_cons (ps_set (i := 4) sc_side_number.nd rfl (Or.inl rfl) (pe_op op_sub (pe_ix (ix_tupK (K := K) rfl) (pv 0) (pe_op op_sub pe_int (pv 3)) (fun _ _ => rfl)) pe_int)) (pss_one (ps_if (PW.pt (pw_and (pt_cmp (pc_eqI (pe_ix (ix_tupK (K := K) rfl) (pv 1) (pv 3) (fun _ _ => rfl)) (pe_ix (ix_tupK (K := K) rfl) (pv 2) (pv 3) (fun _ _ => rfl)))) (pw_and1 (pt_cmpR (op_inT (K := K) rfl Int (by decide) (Room.units65 hr)) (pe_ix (ix_tupK (K := K) rfl) (pv 1) (pv 3) (fun _ _ => rfl)) (pe_tup (pa_cons pe_int (pa_cons (pe_op op_sub (pe_ix (ix_tupK (K := K) rfl) (pv 0) (pv 3) (fun _ _ => rfl)) pe_int) pa_nil))) (by rfl))))) (pss_one (ps_if (pt_cmpR (op_eqDt (K := K) rfl (List Int) (by decide) hr.units) (pe_callB (cr_sortI (K := K) rfl) (by rfl) T.n_sorted (by decide +kernel) (pa_cons (pe_lst (pa_cons (pe_ix (ix_tupK (K := K) rfl) (pv 1) (pe_op op_sub pe_int (pv 3)) (fun _ _ => rfl)) (pa_cons (pe_ix (ix_tupK (K := K) rfl) (pv 2) (pe_op op_sub pe_int (pv 3)) (fun _ _ => rfl)) pa_nil))) pa_nil)) (pe_lst (pa_cons pe_int (pa_cons (pv 4) pa_nil))) (nomark _)) (pss_one (ps_ret (pv 3))) pss_nil)) pss_nil)))) (pss_one (ps_ret pe_non))), ?_⟩
    refine ⟨_, rfl, (by decide), (by decide), ?_⟩
    refine forX (tw_rng0 (j := (2 : Int))) hm (fun (g4 : Unit) σ H' => ∃ (F' : Hp) (o4_4 : Option V) (o4_3 : Option V), σ = [some (.ref a1), some (.ref a2), some (.ref a3), o4_3, o4_4] ∧ Same F0 F' ∧ W F' H' (os)) ⟨_, _, _, rfl, Same.refl _, w0⟩ (fun _ _ _ _ => trivial) ?_ ?_
    · -- a turn
      intro b4 g4 x4 σ4 H4 H4' N4 B4 P4 hI hy hN4 hB4 hZ4 hm
      obtain ⟨F4, o4_4, o4_3, rfl, s4, w4⟩ := hI
      replace q1 := s4 _ _ q1
      replace h1 := A2.mono s4 h1
      replace q2 := s4 _ _ q2
      replace h2 := A2.mono s4 h2
      replace q3 := s4 _ _ q3
      replace h3 := A2.mono s4 h3
      replace sF := sF.trans s4
      obtain ⟨rfl, rfl⟩ := hy
      obtain ⟨t5, e5, hm⟩ := pb_get hm
      obtain ⟨u5, f5, r5⟩ := A2.at h1 e5
      obtain rfl : u5 = V.int t5 := r5
      refine ⟨_, rfl, _, rfl, _, _, rfl, rfl, _, _, _, _, rfl, rfl, SqT.of (w4.same _ _ q1), f5, _, _, rfl, rfl, ?_⟩
      refine stepN ?_
      try dsimp only
      refine stepIf ?_
      refine joinT hm (fun (j6 : Bool) c H' => c = j6 ∧ ∃ (F' : Hp), Same F4 F' ∧ W F' H' (os)) ?_ ?_
      · intro Q6 P6 q6 hm
        obtain ⟨t7, e7, hm⟩ := pb_get hm
        obtain ⟨u7, f7, r7⟩ := A2.at h2 e7
        obtain rfl : u7 = V.int t7 := r7
        obtain ⟨t8, e8, hm⟩ := pb_get hm
        obtain ⟨u8, f8, r8⟩ := A2.at h3 e8
        obtain rfl : u8 = V.int t8 := r8
        refine ⟨_, rfl, _, rfl, _, _, _, _, rfl, rfl, SqT.of (w4.same _ _ q2), f7, _, rfl, _, rfl, _, _, _, _, rfl, rfl, SqT.of (w4.same _ _ q3), f8, _, _, rfl, rfl, _, rfl, ?_⟩
        refine post_ite hm (fun k9 hm => ?_) (fun k9 hm => ?_)
        · skip
          obtain ⟨t10, e10, hm⟩ := pb_get hm
          obtain ⟨u10, f10, r10⟩ := A2.at h2 e10
          obtain rfl : u10 = V.int t10 := r10
          obtain ⟨t11, e11, hm⟩ := pb_get hm
          obtain ⟨u11, f11, r11⟩ := A2.at h1 e11
          obtain rfl : u11 = V.int t11 := r11
          have h12 : A2 (rep K F4) [(.int 0), (.int (t11 - (1 : Int)))] (Tup.mk [(0 : Int), (t11 - (1 : Int))] : (Tup Int)).l := .cons rep_i (.cons rep_i (.nil))
          refine ⟨_, rfl, _, rfl, _, _, _, _, rfl, rfl, SqT.of (w4.same _ _ q2), f10, _, rfl, _, rfl, _, _, _, _, rfl, rfl, SqT.of (w4.same _ _ q1), f11, _, _, rfl, rfl, (by show 2 ≤ sizeLine; decide), fun p13 n13 => ?_⟩
          obtain ⟨F13, s13, w13, q13⟩ := w4.frzE (o := .tup [(.int 0), (.int (t11 - (1 : Int)))]) n13
          replace h1 := A2.mono s13 h1
          replace q1 := s13 _ _ q1
          replace h2 := A2.mono s13 h2
          replace q2 := s13 _ _ q2
          replace h3 := A2.mono s13 h3
          replace q3 := s13 _ _ q3
          replace h12 := A2.mono s13 h12
          replace sF := sF.trans s13
          exact ⟨(t10 : Int), _, rep_i, (Rep.mono w13.same (rep_tup q13 h12)), _, rfl, q6 _ (post_ok hm) _ _ ⟨rfl, _, s13, w13⟩⟩
        · skip
          exact q6 _ (post_ok hm) _ _ ⟨rfl, _, Same.refl _, w4⟩
      intro j6 c6 H6 hc6 hm
      obtain ⟨rfl, F6, s6, w6⟩ := hc6
      replace h1 := A2.mono s6 h1
      replace q1 := s6 _ _ q1
      replace h2 := A2.mono s6 h2
      replace q2 := s6 _ _ q2
      replace h3 := A2.mono s6 h3
      replace q3 := s6 _ _ q3
      replace sF := sF.trans s6
      refine post_ite hm (fun k16 hm => ?_) (fun k16 hm => ?_)
      · skip
        obtain ⟨t17, e17, hm⟩ := pb_get hm
        obtain ⟨u17, f17, r17⟩ := A2.at h2 e17
        obtain rfl : u17 = V.int t17 := r17
        obtain ⟨t18, e18, hm⟩ := pb_get hm
        obtain ⟨u18, f18, r18⟩ := A2.at h3 e18
        obtain rfl : u18 = V.int t18 := r18
        have h19 : A2 (rep K F6) [(.int t17), (.int t18)] ([t17, t18] : (List Int)) := .cons rep_i (.cons rep_i (.nil))
        refine ⟨_, rfl, _, rfl, _, _, rfl, rfl, _, _, _, _, rfl, rfl, SqT.of (w6.same _ _ q2), f17, _, rfl, _, rfl, _, _, rfl, rfl, _, _, _, _, rfl, rfl, SqT.of (w6.same _ _ q3), f18, (by show 2 ≤ sizeLine; decide), fun p20 n20 => ?_⟩
        have w20 : W F6 _ ((p20, .lst [(.int t17), (.int t18)]) :: os) := w6.new n20
        have h21 : A2 (rep K F6) ((sortI ([t17, t18] : (List Int))).map V.int) (sortI ([t17, t18] : (List Int))) := A2.of_ints
        refine ⟨_, _, rfl, ints_q (SqL.of (w20.get (pre := []))) h19, fun p22 n22 => ?_⟩
        have w22 : W F6 _ ((p22, .lst ((sortI ([t17, t18] : (List Int))).map V.int)) :: (p20, .lst [(.int t17), (.int t18)]) :: os) := w20.new n22
        have h23 : A2 (rep K F6) [(.int 0), (.int (t5 - (1 : Int)))] ([(0 : Int), (t5 - (1 : Int))] : (List Int)) := .cons rep_i (.cons rep_i (.nil))
        refine ⟨_, rfl, (by show 2 ≤ sizeLine; decide), fun p24 n24 => ?_⟩
        have w24 : W F6 _ ((p24, .lst [(.int 0), (.int (t5 - (1 : Int)))]) :: (p22, .lst ((sortI ([t17, t18] : (List Int))).map V.int)) :: (p20, .lst [(.int t17), (.int t18)]) :: os) := w22.new n24
        refine ⟨((sortI ([t17, t18] : (List Int))) : (List Int)), (([(0 : Int), (t5 - (1 : Int))] : (List Int)) : (List Int)), (rep_own (pre := [_]) w24 h21), (rep_own (pre := []) w24 h23), _, rfl, ?_⟩
        have w25 : W F6 _ ((p22, .lst ((sortI ([t17, t18] : (List Int))).map V.int)) :: (p20, .lst [(.int t17), (.int t18)]) :: os) := w24.drop (pre := [])
        have w26 : W F6 _ ((p20, .lst [(.int t17), (.int t18)]) :: os) := w25.drop (pre := [])
        have w27 : W F6 _ (os) := w26.drop (pre := [])
        refine post_ite hm (fun k28 hm => ?_) (fun k28 hm => ?_)
        · skip
          have hm := hZ4 _ (post_ok hm)
          exact ⟨_, rfl, (post_ok hm) _ _ _ w27 sF (rep_some rep_i)⟩
        · skip
          exact hN4 _ (post_ok hm) _ _ ⟨_, _, _, rfl, (s4.trans s6), w27⟩
      · skip
        exact hN4 _ (post_ok hm) _ _ ⟨_, _, _, rfl, (s4.trans s6), w6⟩
    intro g4 σ4 H4 hI hm
    obtain ⟨F4, o4_4, o4_3, rfl, s4, w4⟩ := hI
    replace q1 := s4 _ _ q1
    replace h1 := A2.mono s4 h1
    replace q2 := s4 _ _ q2
    replace h2 := A2.mono s4 h2
    replace q3 := s4 _ _ q3
    replace h3 := A2.mono s4 h3
    replace sF := sF.trans s4
    exact (post_ok hm) _ _ _ w4 sF rep_none
def sp_grid_known (K : Fg) : Sp := fun vs H Q E => ∃ (F : Hp) (os : List (Addr × HO)) (x_wide : Int) (x_high : Int) (v_one : V) (x_one : (Tup Int)) (v_other : V) (x_other : (Tup Int)), vs = [.int x_wide, .int x_high, v_one, v_other] ∧ W F H (os) ∧ rep K F v_one x_one ∧ rep K F v_other x_other ∧ Post (grid_known x_wide x_high x_one x_other) (Ret K F os Q) noX
theorem sc_grid_known : FnScope ["wide", "high", "one", "other"] ["wide", "high", "one", "other"] (defScope s_grid_known) := ⟨rfl, rfl, rfl, by decide +kernel, rfl, by decide +kernel, by decide +kernel⟩
theorem ok_grid_known (T : Tx K mg A FD) : FnOk P w K mg base CX0 2 (A 11) (FD 11) ["wide", "high", "one", "other"] (sp_grid_known K) := by
  refine T.d11.fn.ok sc_grid_known (fun vs H Q E h => ?_) (fun cdv Ar outer s H vs Q E hr h => ?_)
  · obtain ⟨F, os, x_wide, x_high, v_one, x_one, v_other, x_other, rfl, _⟩ := h
    rfl
  · obtain ⟨F0, os, x_wide, x_high, v_one, x_one, v_other, x_other, rfl, w0, r_one, r_other, hm⟩ := h
    have sF : Same F0 F0 := Same.refl _
    obtain ⟨a1, vs1, rfl, q1, h1⟩ := r_one
    obtain ⟨a2, vs2, rfl, q2, h2⟩ := r_other
    refine ⟨_, (pss_one (ps_ret (pe_cmpR op_notN2 (pe_call (ok_side_number T) (hr.mono (by decide)) (by rfl) T.d10.mg T.d10.fn.kp T.d10.b .nil pass0 (pa_cons (pe_tup (pa_cons (pv 0) (pa_cons (pv 1) pa_nil))) (pa_cons (pv 2) (pa_cons (pv 3) pa_nil)))) pe_non (nomark _)))), ?_⟩
    have h3 : A2 (rep K F0) [(.int x_wide), (.int x_high)] (Tup.mk [x_wide, x_high] : (Tup Int)).l := .cons rep_i (.cons rep_i (.nil))
    refine ⟨_, rfl, _, rfl, (by show 2 ≤ sizeLine; decide), fun p4 n4 => ?_⟩
    obtain ⟨F4, s4, w4, q4⟩ := w0.frzE (o := .tup [(.int x_wide), (.int x_high)]) n4
    replace q1 := s4 _ _ q1
    replace h1 := A2.mono s4 h1
    replace q2 := s4 _ _ q2
    replace h2 := A2.mono s4 h2
    replace h3 := A2.mono s4 h3
    replace sF := sF.trans s4
    refine ⟨_, rfl, _, rfl, _, _, _, ((Tup.mk [x_wide, x_high] : (Tup Int)) : (Tup Int)), _, (x_one : (Tup Int)), _, (x_other : (Tup Int)), rfl, w4, (rep_tup q4 h3), (rep_tup q1 h1), (rep_tup q2 h2), ?_⟩
    refine (post_bind hm).mono (fun y5 hm v5 F5 H5 w5 s5 r5 => ?_) (fun _ z => z)
    replace q1 := s5 _ _ q1
    replace h1 := A2.mono s5 h1
    replace q2 := s5 _ _ q2
    replace h2 := A2.mono s5 h2
    replace h3 := A2.mono s5 h3
    replace q4 := s5 _ _ q4
    replace sF := sF.trans s5
    exact ⟨rfl, _, isN_eq r5, (post_ok hm) _ _ _ w5 sF rep_b⟩
def sp_ring_far (K : Fg) : Sp := fun vs H Q E => ∃ (F : Hp) (os : List (Addr × HO)) (x_many : Int) (x_one : Int) (x_other : Int), vs = [.int x_many, .int x_one, .int x_other] ∧ W F H (os) ∧ Post (ring_far x_many x_one x_other) (Ret K F os Q) noX
theorem sc_ring_far : FnScope ["many", "one", "other", "gap"] ["many", "one", "other"] (defScope s_ring_far) := ⟨rfl, rfl, rfl, by decide +kernel, rfl, by decide +kernel, by decide +kernel⟩
theorem ok_ring_far (T : Tx K mg A FD) : FnOk P w K mg base CX0 1 (A 12) (FD 12) ["many", "one", "other"] (sp_ring_far K) := by
  refine T.d12.fn.ok sc_ring_far (fun vs H Q E h => ?_) (fun cdv Ar outer s H vs Q E hr h => ?_)
  · obtain ⟨F, os, x_many, x_one, x_other, rfl, _⟩ := h
    rfl
  · obtain ⟨F0, os, x_many, x_one, x_other, rfl, w0, hm⟩ := h
    have sF : Same F0 F0 := Same.refl _
    refine ⟨_, (pss_cons (ps_set (i := 3) sc_ring_far.nd rfl (Or.inl rfl) (pe_op op_mod (pe_op op_sub (pv 1) (pv 2)) (pv 0))) (pss_one (ps_ret (pe_callB (call_min2 rfl) (by rfl) T.n_min (by decide +kernel) (pa_cons (pv 3) (pa_cons (pe_op op_sub (pv 0) (pv 3)) pa_nil)))))), ?_⟩
    obtain ⟨c1, hm⟩ := pb_mod hm
    exact ⟨_, rfl, _, rfl, _, _, rfl, rfl, _, rfl, _, _, rfl, rfl, c1, _, rfl, _, rfl, _, rfl, _, _, rfl, rfl, _, _, rfl, (post_ok hm) _ _ _ w0 sF rep_i⟩
def sp_ring_choices (K : Fg) : Sp := fun vs H Q E => ∃ (F : Hp) (os : List (Addr × HO)) (x_many : Int) (x_kind : Str), vs = [.int x_many, .str x_kind] ∧ W F H (os) ∧ Post (ring_choices x_many x_kind) (Ret K F os Q) noX
theorem sc_ring_choices : FnScope ["many", "kind", "beyond"] ["many", "kind"] (defScope s_ring_choices) := ⟨rfl, rfl, rfl, by decide +kernel, rfl, by decide +kernel, by decide +kernel⟩
theorem ok_ring_choices (T : Tx K mg A FD) : FnOk P w K mg base CX0 1 (A 13) (FD 13) ["many", "kind"] (sp_ring_choices K) := by
  refine T.d13.fn.ok sc_ring_choices (fun vs H Q E h => ?_) (fun cdv Ar outer s H vs Q E hr h => ?_)
  · obtain ⟨F, os, x_many, x_kind, rfl, _⟩ := h
    rfl
  · obtain ⟨F0, os, x_many, x_kind, rfl, w0, hm⟩ := h
    have sF : Same F0 F0 := Same.refl _
    refine ⟨_, (pss_cons (ps_if (pt_cmpR op_eqS (pv 1) pe_str (nomark _)) (pss_cons (ps_set (i := 2) sc_ring_choices.nd rfl (Or.inl rfl) (pe_op op_sub (pe_op op_sub (pv 0) (pe_op op_fdiv (pv 0) pe_int)) pe_int)) (pss_one (ps_ret (pe_op op_sub (pe_op op_fdiv (pe_op op_mulW4 (pe_op op_mulW4 (pv 0) (pe_op op_sub (pv 0) pe_int)) (pe_op op_sub (pv 0) pe_int)) pe_int) (pe_op op_mulW4 (pv 0) (pe_op op_fdiv (pe_op op_mulW4 (pv 2) (pe_op op_sub (pv 2) pe_int)) pe_int)))))) pss_nil) (pss_one (ps_ret (pe_op op_sub (pe_op op_fdiv (pe_op op_mulW4 (pv 0) (pe_op op_sub (pv 0) pe_int)) pe_int) (pe_op op_mulW4 (pe_op op_fdiv (pv 0) pe_int) (pe_op op_sub pe_int (pe_op op_mod (pv 0) pe_int))))))), ?_⟩
    refine ⟨_, rfl, _, _, rfl, rfl, _, rfl, ?_⟩
    refine post_ite hm (fun k1 hm => ?_) (fun k1 hm => ?_)
    · skip
      obtain ⟨c3, hm⟩ := pb_mulW hm
      obtain ⟨c4, hm⟩ := pb_mulW hm
      obtain ⟨c6, hm⟩ := pb_mulW hm
      obtain ⟨c8, hm⟩ := pb_mulW hm
      exact ⟨_, rfl, _, rfl, _, _, rfl, rfl, (by constructor <;> decide), _, _, rfl, rfl, _, _, rfl, rfl, _, rfl, _, rfl, _, _, rfl, rfl, _, _, rfl, rfl, c3, _, rfl, _, _, rfl, rfl, _, _, rfl, rfl, c4, _, _, rfl, rfl, (by constructor <;> decide), _, rfl, _, rfl, _, rfl, _, _, rfl, rfl, _, _, rfl, rfl, c6, _, _, rfl, rfl, (by constructor <;> decide), _, _, rfl, rfl, c8, _, _, rfl, rfl, (post_ok hm) _ _ _ w0 sF rep_i⟩
    · skip
      obtain ⟨c9, hm⟩ := pb_mulW hm
      obtain ⟨c13, hm⟩ := pb_mulW hm
      exact ⟨_, rfl, _, rfl, _, _, rfl, rfl, _, _, rfl, rfl, c9, _, _, rfl, rfl, (by constructor <;> decide), _, rfl, _, _, rfl, rfl, (by constructor <;> decide), _, rfl, _, _, rfl, rfl, (by show (0 : Int) < (2 : Int); decide), _, _, rfl, rfl, _, _, rfl, rfl, c13, _, _, rfl, rfl, (post_ok hm) _ _ _ w0 sF rep_i⟩
def sp_near_lists (K : Fg) : Sp := fun vs H Q E => ∃ (F : Hp) (os : List (Addr × HO)) (v_web : V) (x_web : (Int × (Tup (Int × Int)))), vs = [v_web] ∧ W F H (os) ∧ rep K F v_web x_web ∧ Post (near_lists x_web) (Ret K F os Q) noX
theorem sc_near_lists : FnScope ["web", "found", "one", "other", "place", "row"] ["web"] (defScope s_near_lists) := ⟨rfl, rfl, rfl, by decide +kernel, rfl, by decide +kernel, by decide +kernel⟩
theorem ok_near_lists (T : Tx K mg A FD) : FnOk P w K mg base CX0 1 (A 16) (FD 16) ["web"] (sp_near_lists K) := by
  refine T.d16.fn.ok sc_near_lists (fun vs H Q E h => ?_) (fun cdv Ar outer s H vs Q E hr h => ?_)
  · obtain ⟨F, os, v_web, x_web, rfl, _⟩ := h
    rfl
  · obtain ⟨F0, os, v_web, x_web, rfl, w0, r_web, hm⟩ := h
    have sF : Same F0 F0 := Same.refl _
    obtain ⟨a1, u1, z1, rfl, q1, r1a, r1b⟩ := r_web
    obtain rfl : u1 = V.int x_web.1 := r1a
    obtain ⟨a2, vs2, rfl, q2, h2⟩ := r1b
    have hr_g : Sto K F0 [] [] ([] : List (List Int)) := Sto.nil
    replace w0 : W F0 _ ((nz [] [] ++ os)) := w0
    refine ⟨_, (pss_cons (ps_setLc (i := 1) (own := [("place", 4)]) (g := gName 4) (by rfl) sc_near_lists.nd rfl rfl (sw_true rfl rfl rfl (by decide +kernel)) (pi_range1 (by rfl) T.n_range (pa_cons (pe_ix (ix_tupK (K := K) rfl) (pv 0) pe_int (fun _ _ => rfl)) pa_nil)) (blkOk_by (own := [("place", 4)]) (N := ["web", "found", "one", "other", "place", "row"]) (sc := defScope s_near_lists) (by decide +kernel)) (fun _ _ _ _ _ => (pg_name (i := 4) sc_near_lists.nd rfl (Or.inl rfl))) (fun _ _ _ _ _ => pts_nil) (fun _ _ _ _ _ => (pe_lst pa_nil))) (pss_cons (ps_for PassesOwn.never rfl (pi_tupK (K := K) rfl (pe_ix (ix_tupK (K := K) rfl) (pv 0) pe_int (fun _ _ => rfl))) (pg_k (K := K) (t := fun K => gTup K 2 _) rfl (pg_tup (n := 2) rfl (pgs_cons (pg_name (i := 2) sc_near_lists.nd rfl (Or.inl rfl)) (pgs_cons (pg_name (i := 3) sc_near_lists.nd rfl (Or.inl rfl)) pgs_nil)))) (pss_cons (ps_expr (pe_bm PySem.F.plainAttrs_list PySem.F.slot_list_append PySem.F.type_list_append mt_append (pe_ix (ix_listK (K := K) rfl) (pv 1) (pv 2) (fun _ _ => rfl)) (pa_cons (pv 3) pa_nil))) (pss_one (ps_expr (pe_bm PySem.F.plainAttrs_list PySem.F.slot_list_append PySem.F.type_list_append mt_append (pe_ix (ix_listK (K := K) rfl) (pv 1) (pv 3) (fun _ _ => rfl)) (pa_cons (pv 2) pa_nil)))))) (pss_one (ps_ret (pe_lc (own := [("row", 5)]) (g := gName 5) (by rfl) sc_near_lists.nd (pi_listK (K := K) rfl (pv 1)) (blkOk_by (own := [("row", 5)]) (N := ["web", "found", "one", "other", "place", "row"]) (sc := defScope s_near_lists) (by decide +kernel)) (fun _ _ _ _ _ => (pg_name (i := 5) sc_near_lists.nd rfl (Or.inl rfl))) (fun _ _ _ _ _ => pts_nil) (fun _ _ _ _ _ => (pe_callB (cr_sortI (K := K) rfl) (by rfl) T.n_sorted (by decide +kernel) (pa_cons (pv 5) pa_nil)))))))), ?_⟩
    obtain ⟨c4, hm⟩ := pb_rng hm
    refine ⟨_, rfl, _, _, _, _, rfl, rfl, SqT.of (w0.same _ _ q1), rfl, _, rfl, c4.2.2.1, c4.2.2.2, fun D5 nD5 => ?_⟩
    refine lcGM (tw_rng0 (j := x_web.1)) hm (fun (g5 : (List (List Int))) F' os' us ys => ∃ (as5_0 : List Addr) (vs5_0 : List (List V)), os' = (nz as5_0 vs5_0 ++ os) ∧ [] <+: as5_0 ∧ Sto K F' as5_0 vs5_0 g5 ∧ A2 (RX as5_0) us ys) w0 ⟨_, _, rfl, pfx_refl, hr_g, .nil⟩ nD5 (fun _ _ _ _ _ o => by obtain ⟨_, _, rfl, _, _, h⟩ := o; exact h.length) (fun g F' H' os' acc ys s w o => by obtain ⟨_, _, rfl, _, _, _⟩ := o; exact trivial) ?_ ?_
    · -- one turn
      intro b5 g5 x5 F5 H5 H5' os5 acc5 ya5 N5 P5 s5 w5 o5 y5 hN5 hm
      obtain ⟨as5_0, vs5_0, rfl, p5_0, h5_0, ha5⟩ := o5
      replace q1 := s5 _ _ q1
      replace q2 := s5 _ _ q2
      replace h2 := A2.mono s5 h2
      replace sF := sF.trans s5
      obtain ⟨rfl, rfl⟩ := y5
      have h7 : A2 (rep K F5) [] ([] : (List Int)) := .nil
      refine ⟨rfl, (by show 0 ≤ sizeLine; decide), fun p8 n8 => ?_⟩
      have w8 : W F5 _ ((p8, .lst []) :: (D5, .lst acc5) :: (nz as5_0 vs5_0 ++ os)) := w5.new n8
      obtain ⟨j9, st9, ej9, es9, hm⟩ := pn_newS hm
      have w9 : W F5 _ ((D5, .lst acc5) :: (nz (as5_0 ++ [p8]) (vs5_0 ++ [[]]) ++ os)) := w8.nadd (pre := [_]) h5_0.len
      have q9 : (as5_0 ++ [p8])[j9]? = some p8 := IQ.new (h5_0.len2.trans ej9.symm)
      have h9 : Sto K F5 (as5_0 ++ [p8]) (vs5_0 ++ [[]]) st9 := es9 ▸ Sto.snoc (p := p8) h5_0 h7
      replace ha5 := A2.imp (fun _ _ => RX.mono (pfx_snoc (p := p8))) ha5
      exact hN5 _ _ (post_ok hm) _ _ _ _ w9 (Same.refl _) ⟨_, _, rfl, (pfx_trans p5_0 (pfx_snoc (p := p8))), h9, A2.snoc ha5 ⟨_, rfl, q9⟩⟩
    intro g5 us5 F5 H5 os5 ys5 s5 w5 o5 hm
    obtain ⟨as5_0, vs5_0, rfl, p5_0, h5_0, gg5⟩ := o5
    replace q1 := s5 _ _ q1
    replace q2 := s5 _ _ q2
    replace h2 := A2.mono s5 h2
    replace sF := sF.trans s5
    refine ⟨_, rfl, _, _, _, _, rfl, rfl, SqT.of (w5.same _ _ q1), rfl, _, rfl, ⟨_, SqT.of (w5.same _ _ q2)⟩, ?_⟩
    refine forS (tw_tup (a := a2) h2) hm (fun (g11 : (List (List Int))) σ H' => ∃ (F' : Hp) (as11_0 : List Addr) (vs11_0 : List (List V)) (o11_2 : Option V) (o11_3 : Option V), σ = [some (.ref a1), some (.ref D5), o11_2, o11_3, none, none] ∧ Same F5 F' ∧ W F' H' ((D5, .lst us5) :: (nz as11_0 vs11_0 ++ os)) ∧ as5_0 <+: as11_0 ∧ Sto K F' as11_0 vs11_0 g11) ⟨_, _, _, _, _, rfl, Same.refl _, w5, pfx_refl, h5_0⟩ (fun g σ H' hI => by obtain ⟨F', _, _, _, _, _, s, w, _⟩ := hI; exact SqT.of (w.same _ _ (s _ _ q2))) ?_ ?_
    · -- a turn
      intro b11 g11 x11 σ11 H11 H11' N11 P11 hI hy hN11 hm
      obtain ⟨F11, as11_0, vs11_0, o11_2, o11_3, rfl, s11, w11, p11_0, h11_0⟩ := hI
      replace q1 := s11 _ _ q1
      replace h2 := A2.mono s11 h2
      replace q2 := s11 _ _ q2
      replace sF := sF.trans s11
      replace gg5 := A2.imp (fun _ _ => RX.mono p11_0) gg5
      obtain ⟨rfl, r12⟩ := hy
      replace r12 := Rep.mono s11 r12
      obtain ⟨a13, u13, z13, rfl, q13, r13a, r13b⟩ := r12
      obtain rfl : u13 = V.int b11.1 := r13a
      obtain rfl : z13 = V.int b11.2 := r13b
      obtain ⟨t14, e14, hm⟩ := pb_get hm
      obtain ⟨u14, f14, r14⟩ := A2.at gg5 e14
      obtain ⟨a15, rfl, q15⟩ := r14
      obtain ⟨x16, e16, hm⟩ := pb_getS hm
      obtain ⟨vs16, i16, h16⟩ := Sto.getq h11_0 e16 q15
      obtain ⟨l17, z17, e17, hm⟩ := pn_app hm
      obtain ⟨st17, es17, hm⟩ := pn_setS hm
      refine ⟨_, _, rfl, SqT.of (w11.same _ _ q13), rfl, _, _, rfl, _, _, rfl, rfl, _, rfl, _, rfl, _, _, _, _, rfl, rfl, SqL.of (w11.get (pre := [])), f14, .inl ⟨rfl, _, SqL.of (W.nget (pre := [_]) w11 q15 i16)⟩, _, rfl, _, _, _, rfl, rfl, (W.nget (pre := [_]) w11 q15 i16), (A2.lt h16 z17), ?_⟩
      have h17 : Sto K F11 as11_0 (vs11_0.set t14 (vs16 ++ [(.int b11.2)])) st17 := es17 ▸ Sto.set h11_0 (e17 ▸ A2.snoc h16 rep_i)
      have w17 : W F11 _ ((D5, .lst us5) :: (nz as11_0 (vs11_0.set t14 (vs16 ++ [(.int b11.2)])) ++ os)) := w11.nset (pre := [_]) (vs16 ++ [(.int b11.2)]) q15 i16
      obtain ⟨t18, e18, hm⟩ := pb_get hm
      obtain ⟨u18, f18, r18⟩ := A2.at gg5 e18
      obtain ⟨a19, rfl, q19⟩ := r18
      obtain ⟨x20, e20, hm⟩ := pb_getS hm
      obtain ⟨vs20, i20, h20⟩ := Sto.getq h17 e20 q19
      obtain ⟨l21, z21, e21, hm⟩ := pn_app hm
      obtain ⟨st21, es21, hm⟩ := pn_setS hm
      refine ⟨_, rfl, _, rfl, _, _, _, _, rfl, rfl, SqL.of (w17.get (pre := [])), f18, .inl ⟨rfl, _, SqL.of (W.nget (pre := [_]) w17 q19 i20)⟩, _, rfl, _, _, _, rfl, rfl, (W.nget (pre := [_]) w17 q19 i20), (A2.lt h20 z21), ?_⟩
      have h21 : Sto K F11 as11_0 ((vs11_0.set t14 (vs16 ++ [(.int b11.2)])).set t18 (vs20 ++ [(.int b11.1)])) st21 := es21 ▸ Sto.set h17 (e21 ▸ A2.snoc h20 rep_i)
      have w21 : W F11 _ ((D5, .lst us5) :: (nz as11_0 ((vs11_0.set t14 (vs16 ++ [(.int b11.2)])).set t18 (vs20 ++ [(.int b11.1)])) ++ os)) := w17.nset (pre := [_]) (vs20 ++ [(.int b11.1)]) q19 i20
      exact hN11 _ (post_ok hm) _ _ ⟨_, _, _, _, _, rfl, s11, w21, p11_0, h21⟩
    intro g11 σ11 H11 hI hm
    obtain ⟨F11, as11_0, vs11_0, o11_2, o11_3, rfl, s11, w11, p11_0, h11_0⟩ := hI
    replace q1 := s11 _ _ q1
    replace h2 := A2.mono s11 h2
    replace q2 := s11 _ _ q2
    replace sF := sF.trans s11
    replace gg5 := A2.imp (fun _ _ => RX.mono p11_0) gg5
    refine ⟨_, rfl, _, rfl, ⟨_, SqL.of (w11.get (pre := []))⟩, fun D22 nD22 => ?_⟩
    refine lcM (K := K) (tw_listR (a := D5) gg5) hm w11 nD22 (fun F' H' acc s w => SqL.of (w.get (pre := [_]))) ?_ ?_
    · -- one turn
      intro b22 x22 F22 H22 H22' acc22 N22 P22 s22 w22 y22 hN22 hm
      replace q1 := s22 _ _ q1
      replace h2 := A2.mono s22 h2
      replace q2 := s22 _ _ q2
      replace h11_0 := Sto.mono s22 h11_0
      replace sF := sF.trans s22
      obtain ⟨rfl, r24⟩ := y22
      obtain ⟨a25, rfl, q25⟩ := r24
      obtain ⟨x26, e26, hm⟩ := pb_getS hm
      obtain ⟨vs26, i26, h26⟩ := Sto.getq h11_0 e26 q25
      have h27 : A2 (rep K F22) ((sortI x26).map V.int) (sortI x26) := A2.of_ints
      refine ⟨rfl, _, rfl, _, _, rfl, ints_q (SqL.of (W.nget (pre := [_, _]) w22 q25 i26)) h26, fun p28 n28 => ?_⟩
      have w28 : W F22 _ ((p28, .lst ((sortI x26).map V.int)) :: (D22, .lst acc22) :: (D5, .lst us5) :: (nz as11_0 vs11_0 ++ os)) := w22.new n28
      obtain ⟨F29, s29, w29, q29⟩ : ∃ F', Same F22 F' ∧ W F' _ ((D22, .lst acc22) :: (D5, .lst us5) :: (nz as11_0 vs11_0 ++ os)) ∧ F' p28 = some (.lst ((sortI x26).map V.int)) := w28.freezeE (pre := [])
      replace q1 := s29 _ _ q1
      replace h2 := A2.mono s29 h2
      replace q2 := s29 _ _ q2
      replace h11_0 := Sto.mono s29 h11_0
      replace h26 := A2.mono s29 h26
      replace h27 := A2.mono s29 h27
      replace sF := sF.trans s29
      exact hN22 _ (post_ok hm) _ _ _ w29 s29 (rep_lst q29 h27)
    intro us22 F22 H22 ys22 s22 w22 gg22 hm
    replace q1 := s22 _ _ q1
    replace h2 := A2.mono s22 h2
    replace q2 := s22 _ _ q2
    replace h11_0 := Sto.mono s22 h11_0
    replace sF := sF.trans s22
    obtain ⟨F31, s31, w31, q31⟩ : ∃ F', Same F22 F' ∧ W F' _ ((D5, .lst us5) :: (nz as11_0 vs11_0 ++ os)) ∧ F' D22 = some (.lst us22) := w22.freezeE (pre := [])
    replace q1 := s31 _ _ q1
    replace h2 := A2.mono s31 h2
    replace q2 := s31 _ _ q2
    replace h11_0 := Sto.mono s31 h11_0
    replace gg22 := A2.mono s31 gg22
    replace sF := sF.trans s31
    have w32 : W F31 _ ((nz as11_0 vs11_0 ++ os)) := w31.drop (pre := [])
    have w33 : W F31 _ (os) := w32.dropL (pre := [])
    exact (post_ok hm) _ _ _ w33 sF (rep_lst q31 gg22)
def sp_fars_by (K : Fg) : Sp := fun vs H Q E => ∃ (F : Hp) (os : List (Addr × HO)) (v_near : V) (x_near : (List (List Int))) (x_place : Int), vs = [v_near, .int x_place] ∧ W F H (os) ∧ rep K F v_near x_near ∧ Post (fars_by x_near x_place) (RetL K F os Q) noX
theorem sc_fars_by : FnScope ["near", "place", "found", "line", "at", "other"] ["near", "place"] (defScope s_fars_by) := ⟨rfl, rfl, rfl, by decide +kernel, rfl, by decide +kernel, by decide +kernel⟩
theorem ok_fars_by (T : Tx K mg A FD) : FnOk P w K mg base CX0 1 (A 17) (FD 17) ["near", "place"] (sp_fars_by K) := by
  refine T.d17.fn.ok sc_fars_by (fun vs H Q E h => ?_) (fun cdv Ar outer s H vs Q E hr h => ?_)
  · obtain ⟨F, os, v_near, x_near, x_place, rfl, _⟩ := h
    rfl
  · obtain ⟨F0, os, v_near, x_near, x_place, rfl, w0, r_near, hm⟩ := h
    have sF : Same F0 F0 := Same.refl _
    obtain ⟨a1, vs1, rfl, q1, h1⟩ := r_near
    refine ⟨_, (pss_cons (ps_set (i := 2) sc_fars_by.nd rfl (Or.inl rfl) (pe_op op_rep (pe_lst (pa_cons pe_non pa_nil)) (pe_callB (call_lenN (K := K) rfl) (by rfl) T.n_len (by decide +kernel) (pa_cons (pv 0) pa_nil)))) (pss_cons (ps_asg pe_int (pg_sub (pv 2) (pv 1) set_list)) (pss_cons (ps_set (i := 3) sc_fars_by.nd rfl (Or.inl rfl) (pe_lst (pa_cons (pv 1) pa_nil))) (pss_cons (ps_set (i := 4) sc_fars_by.nd rfl (Or.inl rfl) pe_int1) (pss_cons (ps_while PassesOwn.never (pt_cmp (pc_lt (pv 4) (pe_callB (call_lenN (K := K) rfl) (by rfl) T.n_len (by decide +kernel) (pa_cons (pv 3) pa_nil)))) (pss_cons (ps_for PassesOwn.never rfl (pi_listK (K := K) rfl (pe_ix (ix_listK (K := K) rfl) (pv 0) (pe_ix (ix_listK (K := K) rfl) (pv 3) (pv 4) (fun _ _ => rfl)) (fun _ _ => rfl))) (pg_name (i := 5) sc_fars_by.nd rfl (Or.inl rfl)) (pss_one (ps_if (pt_cmpR op_isN2 (pe_ix (ix_listK (K := K) rfl) (pv 2) (pv 5) (fun _ _ => rfl)) pe_non (nomark _)) (pss_cons (ps_asg (pe_op op_add (pe_ix (ix_listK (K := K) rfl) (pv 2) (pe_ix (ix_listK (K := K) rfl) (pv 3) (pv 4) (fun _ _ => rfl)) (fun _ _ => rfl)) pe_int) (pg_sub (pv 2) (pv 5) set_list)) (pss_one (ps_expr (pe_bm PySem.F.plainAttrs_list PySem.F.slot_list_append PySem.F.type_list_append mt_append (pv 3) (pa_cons (pv 5) pa_nil))))) pss_nil))) (pss_one (ps_set (i := 4) sc_fars_by.nd rfl (Or.inl rfl) (pe_op op_add (pv 4) pe_int))))) (pss_one (ps_ret (pv 2)))))))), ?_⟩
    have h2 : A2 (rep K F0) [.non] ([none] : (List (Option Int))) := .cons rep_none (.nil)
    refine ⟨(by show 1 ≤ sizeLine; decide), fun p3 n3 => ?_⟩
    have w3 : W F0 _ ((p3, .lst [.non]) :: os) := w0.new n3
    obtain ⟨l4, z4, e4, hm⟩ := pb_rep hm
    have h4 : A2 (rep K F0) (List.replicate (x_near.length : Int).toNat [.non]).flatten l4 := e4 ▸ A2.flat h2 _
    refine ⟨_, rfl, _, _, _, rfl, .inl (SqL.of (w3.same _ _ q1)), h1.length, _, _, _, rfl, rfl, (w3.get (pre := [])), z4.1, z4.2.1, (by rw [h2.length]; exact z4.2.2), fun p5 n5 => ?_⟩
    have w5 : W F0 _ ((p5, .lst (List.replicate (x_near.length : Int).toNat [.non]).flatten) :: (p3, .lst [.non]) :: os) := w3.new n5
    have w6 : W F0 _ ((p5, .lst (List.replicate (x_near.length : Int).toNat [.non]).flatten) :: os) := w5.drop (pre := [_])
    obtain ⟨j7, l7, z7, e7, hm⟩ := pn_set hm
    refine ⟨_, rfl, _, rfl, _, _, _, _, rfl, rfl, (w6.get (pre := [])), (A2.ix h4 z7), ?_⟩
    have h7 : A2 (rep K F0) ((List.replicate (x_near.length : Int).toNat [.non]).flatten.set j7 (V.int 0)) l7 := e7 ▸ A2.set (rep_some rep_i) j7 h4
    have w8 : W F0 _ ((p5, .lst ((List.replicate (x_near.length : Int).toNat [.non]).flatten.set j7 (V.int 0))) :: os) := w6.set (pre := [])
    have h9 : A2 (rep K F0) [(.int x_place)] ([x_place] : (List Int)) := .cons rep_i (.nil)
    refine ⟨_, rfl, (by show 1 ≤ sizeLine; decide), fun p10 n10 => ?_⟩
    have w10 : W F0 _ ((p10, .lst [(.int x_place)]) :: (p5, .lst ((List.replicate (x_near.length : Int).toNat [.non]).flatten.set j7 (V.int 0))) :: os) := w8.new n10
    refine ⟨trivial, ?_⟩
    refine stepN ?_
    try dsimp only
    refine stepSeq (whileS hm (fun (g11 : Int × (List Int) × (List (Option Int))) σ H' => ∃ (F' : Hp) (vs11_0 : List V) (vs11_1 : List V) (o11_5 : Option V), σ = [some (.ref a1), some (.int x_place), some (.ref p5), some (.ref p10), some (.int g11.1), o11_5] ∧ Same F0 F' ∧ W F' H' ((p10, .lst vs11_0) :: (p5, .lst vs11_1) :: os) ∧ A2 (rep K F') vs11_0 g11.2.1 ∧ A2 (rep K F') vs11_1 g11.2.2) ⟨_, _, _, _, rfl, Same.refl _, w10, h9, h7⟩ ?_ ?_ ?_)
    · intro g11 σ11 H11 N11 P11 hI hN11 hm
      obtain ⟨F11, vs11_0, vs11_1, o11_5, rfl, s11, w11, h11_0, h11_1⟩ := hI
      replace h1 := A2.mono s11 h1
      replace q1 := s11 _ _ q1
      replace sF := sF.trans s11
      exact ⟨_, rfl, _, rfl, _, _, _, rfl, .inl (SqL.of (w11.get (pre := []))), h11_0.length, _, _, rfl, rfl, _, rfl, hN11 _ (post_ok hm) _ ⟨_, _, _, _, rfl, s11, w11, h11_0, h11_1⟩⟩
    · intro g11 σ11 H11 N11 P11 hI hN11 hm
      obtain ⟨F11, vs11_0, vs11_1, o11_5, rfl, s11, w11, h11_0, h11_1⟩ := hI
      replace h1 := A2.mono s11 h1
      replace q1 := s11 _ _ q1
      replace sF := sF.trans s11
      obtain ⟨t13, e13, hm⟩ := pb_get hm
      obtain ⟨u13, f13, r13⟩ := A2.at h11_0 e13
      obtain rfl : u13 = V.int t13 := r13
      obtain ⟨t14, e14, hm⟩ := pb_get hm
      obtain ⟨u14, f14, r14⟩ := A2.at h1 e14
      obtain ⟨a15, vs15, rfl, q15, h15⟩ := r14
      refine ⟨_, rfl, _, rfl, _, rfl, _, _, _, _, rfl, rfl, SqL.of (w11.get (pre := [])), f13, _, _, _, _, rfl, rfl, SqL.of (w11.same _ _ q1), f14, _, rfl, ⟨_, SqL.of (w11.same _ _ q15)⟩, ?_⟩
      refine forS (tw_list (a := a15) h15) hm (fun (g12 : (List Int) × (List (Option Int))) σ H' => ∃ (F' : Hp) (vs12_0 : List V) (vs12_1 : List V) (o12_5 : Option V), σ = [some (.ref a1), some (.int x_place), some (.ref p5), some (.ref p10), some (.int g11.1), o12_5] ∧ Same F11 F' ∧ W F' H' ((p10, .lst vs12_0) :: (p5, .lst vs12_1) :: os) ∧ A2 (rep K F') vs12_0 g12.1 ∧ A2 (rep K F') vs12_1 g12.2) ⟨_, _, _, _, rfl, Same.refl _, w11, h11_0, h11_1⟩ (fun g σ H' hI => by obtain ⟨F', _, _, _, _, s, w, _⟩ := hI; exact SqL.of (w.same _ _ (s _ _ q15))) ?_ ?_
      · -- a turn
        intro b12 g12 x12 σ12 H12 H12' N12 P12 hI hy hN12 hm
        obtain ⟨F12, vs12_0, vs12_1, o12_5, rfl, s12, w12, h12_0, h12_1⟩ := hI
        replace h1 := A2.mono s12 h1
        replace q1 := s12 _ _ q1
        replace q15 := s12 _ _ q15
        replace h15 := A2.mono s12 h15
        replace sF := sF.trans s12
        obtain ⟨rfl, r16⟩ := hy
        obtain rfl : x12 = V.int b12 := r16
        obtain ⟨t17, e17, hm⟩ := pb_get hm
        obtain ⟨u17, f17, r17⟩ := A2.at h12_1 e17
        refine ⟨_, rfl, _, rfl, _, _, _, _, rfl, rfl, SqL.of (w12.get (pre := [_])), f17, rfl, _, isN_eq r17, _, rfl, ?_⟩
        refine post_ite hm (fun k19 hm => ?_) (fun k19 hm => ?_)
        · skip
          obtain ⟨t20, e20, hm⟩ := pb_get hm
          obtain ⟨u20, f20, r20⟩ := A2.at h12_0 e20
          obtain rfl : u20 = V.int t20 := r20
          obtain ⟨t21, e21, hm⟩ := pb_get hm
          obtain ⟨u21, f21, r21⟩ := A2.at h12_1 e21
          obtain ⟨t23, e23, hm⟩ := pb_ofO hm
          have r23 : rep K F12 u21 (some t23) := e23 ▸ r21
          replace r23 : u21 = V.int t23 := r23
          subst r23
          obtain ⟨j24, l24, z24, e24, hm⟩ := pn_set hm
          refine ⟨_, rfl, _, rfl, _, rfl, _, _, _, _, rfl, rfl, SqL.of (w12.get (pre := [])), f20, _, _, _, _, rfl, rfl, SqL.of (w12.get (pre := [_])), f21, _, _, rfl, rfl, _, rfl, _, rfl, _, _, _, _, rfl, rfl, (w12.get (pre := [_])), (A2.ix h12_1 z24), ?_⟩
          have h24 : A2 (rep K F12) (vs12_1.set j24 (V.int (t23 + (1 : Int)))) l24 := e24 ▸ A2.set (rep_some rep_i) j24 h12_1
          have w25 : W F12 _ ((p10, .lst vs12_0) :: (p5, .lst (vs12_1.set j24 (V.int (t23 + (1 : Int))))) :: os) := w12.set (pre := [_])
          obtain ⟨l26, z26, e26, hm⟩ := pn_app hm
          refine ⟨_, rfl, .inl ⟨rfl, _, SqL.of (w25.get (pre := []))⟩, _, rfl, _, _, _, rfl, rfl, (w25.get (pre := [])), (A2.lt h12_0 z26), ?_⟩
          have h26 : A2 (rep K F12) (vs12_0 ++ [(V.int b12)]) l26 := e26 ▸ A2.snoc h12_0 rep_i
          have w27 : W F12 _ ((p10, .lst (vs12_0 ++ [(V.int b12)])) :: (p5, .lst (vs12_1.set j24 (V.int (t23 + (1 : Int))))) :: os) := w25.set (pre := [])
          exact hN12 _ (post_ok hm) _ _ ⟨_, _, _, _, rfl, s12, w27, h26, h24⟩
        · skip
          exact hN12 _ (post_ok hm) _ _ ⟨_, _, _, _, rfl, s12, w12, h12_0, h12_1⟩
      intro g12 σ12 H12 hI hm
      obtain ⟨F12, vs12_0, vs12_1, o12_5, rfl, s12, w12, h12_0, h12_1⟩ := hI
      replace h1 := A2.mono s12 h1
      replace q1 := s12 _ _ q1
      replace q15 := s12 _ _ q15
      replace h15 := A2.mono s12 h15
      replace sF := sF.trans s12
      exact ⟨_, rfl, _, _, rfl, rfl, hN11 _ (post_ok hm) _ _ ⟨_, _, _, _, rfl, (s11.trans s12), w12, h12_0, h12_1⟩⟩
    intro g11 σ11 H11 hI hm
    obtain ⟨F11, vs11_0, vs11_1, o11_5, rfl, s11, w11, h11_0, h11_1⟩ := hI
    replace h1 := A2.mono s11 h1
    replace q1 := s11 _ _ q1
    replace sF := sF.trans s11
    have w28 : W F11 _ ((p5, .lst vs11_1) :: os) := w11.drop (pre := [])
    exact ⟨_, rfl, (post_ok hm) _ _ _ _ w28 sF h11_1⟩
def sp_sorted_ties (K : Fg) : Sp := fun vs H Q E => ∃ (F : Hp) (os : List (Addr × HO)) (x_many : Int) (a_ties : Addr) (vs_ties : List V) (x_ties : (List (Int × Int))), vs = [.int x_many, .ref a_ties] ∧ W F H ((a_ties, .lst vs_ties) :: os) ∧ A2 (rep K F) vs_ties x_ties ∧ Post (sorted_ties x_many x_ties) (fun (y : (Tup (Int × Int))) => ∀ (v : V) (F' H' : Hp), W F' H' ((a_ties, .lst vs_ties) :: os) → Same F F' → rep K F' v (y : (Tup (Int × Int))) → Q v H') noX
theorem sc_sorted_ties : FnScope ["many", "ties", "found", "one", "other", "tie"] ["many", "ties"] (defScope s_sorted_ties) := ⟨rfl, rfl, rfl, by decide +kernel, rfl, by decide +kernel, by decide +kernel⟩
theorem ok_sorted_ties (T : Tx K mg A FD) : FnOk P w K mg base CX0 1 (A 18) (FD 18) ["many", "ties"] (sp_sorted_ties K) := by
  refine T.d18.fn.ok sc_sorted_ties (fun vs H Q E h => ?_) (fun cdv Ar outer s H vs Q E hr h => ?_)
  · obtain ⟨F, os, x_many, a_ties, vs_ties, x_ties, rfl, _⟩ := h
    rfl
  · obtain ⟨F0, os, x_many, a_ties, vs_ties, x_ties, rfl, w0, h_ties, hm⟩ := h
    have sF : Same F0 F0 := Same.refl _
    refine ⟨_, (pss_cons (ps_set (i := 2) sc_sorted_ties.nd rfl (Or.inl rfl) (pe_lst pa_nil)) (pss_cons (ps_for PassesOwn.never rfl (pi_listK (K := K) rfl (pv 1)) (pg_k (K := K) (t := fun K => gTup K 2 _) rfl (pg_tup (n := 2) rfl (pgs_cons (pg_name (i := 3) sc_sorted_ties.nd rfl (Or.inl rfl)) (pgs_cons (pg_name (i := 4) sc_sorted_ties.nd rfl (Or.inl rfl)) pgs_nil)))) (pss_cons (ps_set (i := 5) sc_sorted_ties.nd rfl (Or.inl rfl) (pe_tup (pa_cons (pe_callB (call_min2 rfl) (by rfl) T.n_min (by decide +kernel) (pa_cons (pv 3) (pa_cons (pv 4) pa_nil))) (pa_cons (pe_callB (call_max2 rfl) (by rfl) T.n_max (by decide +kernel) (pa_cons (pv 3) (pa_cons (pv 4) pa_nil))) pa_nil)))) (pss_cons (ps_if (PW.pt (pw_or (pt_cmp (pc_lt (pe_ix (ix_tupK (K := K) rfl) (pv 5) pe_int (fun _ _ => rfl)) pe_int)) (pw_or (pt_cmp (pc_ge (pe_ix (ix_tupK (K := K) rfl) (pv 5) pe_int (fun _ _ => rfl)) (pv 0))) (pw_or (pt_cmp (pc_eqI (pv 3) (pv 4))) (pw_or1 (pt_cmpR (op_inL (K := K) rfl (Int × Int) (by decide) (Room.units65 hr)) (pv 5) (pv 2) (by rfl))))))) (pss_one ps_absurd) pss_nil) (pss_one (ps_expr (pe_bm PySem.F.plainAttrs_list PySem.F.slot_list_append PySem.F.type_list_append mt_append (pv 2) (pa_cons (pv 5) pa_nil))))))) (pss_one (ps_ret (pe_callTy (call_tuple_ofK (K := K) rfl) (by rfl) T.n_tuple (by decide +kernel) (pa_cons (pe_callB (cr_sortP (K := K) rfl) (by rfl) T.n_sorted (by decide +kernel) (pa_cons (pv 2) pa_nil)) pa_nil)))))), ?_⟩
    have h2 : A2 (rep K F0) [] ([] : (List (Int × Int))) := .nil
    refine ⟨(by show 0 ≤ sizeLine; decide), fun p3 n3 => ?_⟩
    have w3 : W F0 _ ((p3, .lst []) :: (a_ties, .lst vs_ties) :: os) := w0.new n3
    refine ⟨_, rfl, _, rfl, ⟨_, SqL.of (w3.get (pre := [_]))⟩, ?_⟩
    refine forS (tw_list (a := a_ties) h_ties) hm (fun (g4 : (List (Int × Int))) σ H' => ∃ (F' : Hp) (vs4_0 : List V) (o4_5 : Option V) (o4_3 : Option V) (o4_4 : Option V), σ = [some (.int x_many), some (.ref a_ties), some (.ref p3), o4_3, o4_4, o4_5] ∧ Same F0 F' ∧ W F' H' ((p3, .lst vs4_0) :: (a_ties, .lst vs_ties) :: os) ∧ A2 (rep K F') vs4_0 g4) ⟨_, _, _, _, _, rfl, Same.refl _, w3, h2⟩ (fun g σ H' hI => by obtain ⟨F', _, _, _, _, _, s, w, _⟩ := hI; exact SqL.of (w.get (pre := [_]))) ?_ ?_
    · -- a turn
      intro b4 g4 x4 σ4 H4 H4' N4 P4 hI hy hN4 hm
      obtain ⟨F4, vs4_0, o4_5, o4_3, o4_4, rfl, s4, w4, h4_0⟩ := hI
      replace h_ties := A2.mono s4 h_ties
      replace sF := sF.trans s4
      obtain ⟨rfl, r5⟩ := hy
      replace r5 := Rep.mono s4 r5
      obtain ⟨a6, u6, z6, rfl, q6, r6a, r6b⟩ := r5
      obtain rfl : u6 = V.int b4.1 := r6a
      obtain rfl : z6 = V.int b4.2 := r6b
      refine ⟨_, _, rfl, SqT.of (w4.same _ _ q6), rfl, _, _, rfl, _, _, rfl, rfl, _, rfl, _, rfl, _, _, rfl, _, rfl, _, rfl, _, _, rfl, (by show 2 ≤ sizeLine; decide), fun p7 n7 => ?_⟩
      obtain ⟨F7, s7, w7, q7⟩ := w4.frzE (o := .tup [(.int (min2 b4.1 b4.2)), (.int (max2 b4.1 b4.2))]) n7
      replace h4_0 := A2.mono s7 h4_0
      replace h_ties := A2.mono s7 h_ties
      replace sF := sF.trans s7
      refine stepN ?_
      try dsimp only
      refine stepSeq (stepIf ?_)
      refine cutT (fun c H' => c = (((decide ((min2 b4.1 b4.2) < (0 : Int))) || ((decide (x_many ≤ (max2 b4.1 b4.2))) || ((decide (b4.1 = b4.2)) || (inB ((min2 b4.1 b4.2), (max2 b4.1 b4.2)) g4))))) ∧ ∃ F', Same F7 F' ∧ W F' H' ((p3, .lst vs4_0) :: (a_ties, .lst vs_ties) :: os)) (fun Q8 q8 => ?_) (fun c8 H8 hc8 => ?_)
      · -- the ways
        refine ⟨_, rfl, _, _, _, _, rfl, rfl, SqT.of (w7.same _ _ q7), rfl, _, _, rfl, rfl, _, rfl, ?_⟩
        refine ifB (fun k9 => ?_) (fun k9 => ?_)
        · skip
          exact q8 _ _ ⟨(by first | rfl | exact absurd k9 (by decide) | (simp [k9]; done) | ((try simp only [Bool.not_eq_true] at k9); simp only [k9, Bool.true_or, Bool.false_or, Bool.or_false, Bool.or_true, Bool.true_and, Bool.false_and, Bool.and_true, Bool.and_false])), _, Same.refl _, w7⟩
        · skip
          refine ⟨_, rfl, _, _, _, _, rfl, rfl, SqT.of (w7.same _ _ q7), rfl, _, rfl, _, _, rfl, rfl, _, rfl, ?_⟩
          refine ifB (fun k11 => ?_) (fun k11 => ?_)
          · skip
            exact q8 _ _ ⟨(by first | rfl | exact absurd k9 (by decide) | exact absurd k11 (by decide) | (simp [k9, k11]; done) | ((try simp only [Bool.not_eq_true] at k9); (try simp only [Bool.not_eq_true] at k11); simp only [k9, k11, Bool.true_or, Bool.false_or, Bool.or_false, Bool.or_true, Bool.true_and, Bool.false_and, Bool.and_true, Bool.and_false])), _, Same.refl _, w7⟩
          · skip
            refine ⟨_, rfl, _, rfl, _, _, rfl, rfl, _, rfl, ?_⟩
            refine ifB (fun k13 => ?_) (fun k13 => ?_)
            · skip
              exact q8 _ _ ⟨(by first | rfl | exact absurd k9 (by decide) | exact absurd k11 (by decide) | exact absurd k13 (by decide) | (simp [k9, k11, k13]; done) | ((try simp only [Bool.not_eq_true] at k9); (try simp only [Bool.not_eq_true] at k11); (try simp only [Bool.not_eq_true] at k13); simp only [k9, k11, k13, Bool.true_or, Bool.false_or, Bool.or_false, Bool.or_true, Bool.true_and, Bool.false_and, Bool.and_true, Bool.and_false])), _, Same.refl _, w7⟩
            · skip
              exact ⟨_, rfl, _, rfl, (((min2 b4.1 b4.2), (max2 b4.1 b4.2)) : (Int × Int)), _, (Rep.mono w7.same (rep_pair q7 rep_i rep_i)), (rep_own (pre := []) w7 h4_0), _, rfl, q8 _ _ ⟨(by first | rfl | exact absurd k9 (by decide) | exact absurd k11 (by decide) | exact absurd k13 (by decide) | (simp [k9, k11, k13]; done) | ((try simp only [Bool.not_eq_true] at k9); (try simp only [Bool.not_eq_true] at k11); (try simp only [Bool.not_eq_true] at k13); simp only [k9, k11, k13, Bool.true_or, Bool.false_or, Bool.or_false, Bool.or_true, Bool.true_and, Bool.false_and, Bool.and_true, Bool.and_false])), _, Same.refl _, w7⟩⟩
      obtain ⟨rfl, F8, s8, w8⟩ := hc8
      replace q7 := s8 _ _ q7
      replace h4_0 := A2.mono s8 h4_0
      replace h_ties := A2.mono s8 h_ties
      replace sF := sF.trans s8
      refine post_ite hm (fun k16 hm => ?_) (fun k16 hm => ?_)
      · skip
        try dsimp only
        exact hm
      · skip
        obtain ⟨l17, z17, e17, hm⟩ := pn_app hm
        refine ⟨_, rfl, .inl ⟨rfl, _, SqL.of (w8.get (pre := []))⟩, _, rfl, _, _, _, rfl, rfl, (w8.get (pre := [])), (A2.lt h4_0 z17), ?_⟩
        have h17 : A2 (rep K F8) (vs4_0 ++ [(V.ref p7)]) l17 := e17 ▸ A2.snoc h4_0 (rep_pair q7 rep_i rep_i)
        have w18 : W F8 _ ((p3, .lst (vs4_0 ++ [(V.ref p7)])) :: (a_ties, .lst vs_ties) :: os) := w8.set (pre := [])
        exact hN4 _ (post_ok hm) _ _ ⟨_, _, _, _, _, rfl, (s4.trans (s7.trans s8)), w18, h17⟩
    intro g4 σ4 H4 hI hm
    obtain ⟨F4, vs4_0, o4_5, o4_3, o4_4, rfl, s4, w4, h4_0⟩ := hI
    replace h_ties := A2.mono s4 h_ties
    replace sF := sF.trans s4
    refine ⟨_, rfl, _, _, F4, g4, rfl, SqL.of (w4.get (pre := [])), w4.same, h4_0, fun p19 us19 n19 h19 => ?_⟩
    have w19 : W F4 _ ((p19, .lst us19) :: (p3, .lst vs4_0) :: (a_ties, .lst vs_ties) :: os) := w4.new n19
    have h21 : A2 (rep K F4) us19 (sortP g4) := h19
    refine ⟨_, _, rfl, .inl ⟨SqL.of (w19.get (pre := [])), fun p22 n22 => ?_⟩⟩
    obtain ⟨F22, s22, w22, q22⟩ := w19.frzE (o := .tup us19) n22
    replace h4_0 := A2.mono s22 h4_0
    replace h_ties := A2.mono s22 h_ties
    replace h19 := A2.mono s22 h19
    replace h21 := A2.mono s22 h21
    replace sF := sF.trans s22
    have w23 : W F22 _ ((p3, .lst vs4_0) :: (a_ties, .lst vs_ties) :: os) := w22.drop (pre := [])
    have w24 : W F22 _ ((a_ties, .lst vs_ties) :: os) := w23.drop (pre := [])
    exact (post_ok hm) _ _ _ w24 sF (rep_tup q22 h21)
def sp_made_web (K : Fg) : Sp := fun vs H Q E => ∃ (F : Hp) (os : List (Addr × HO)) (x_many : Int) (a_ties : Addr) (vs_ties : List V) (x_ties : (List (Int × Int))), vs = [.int x_many, .ref a_ties] ∧ W F H ((a_ties, .lst vs_ties) :: os) ∧ A2 (rep K F) vs_ties x_ties ∧ Post (made_web x_many x_ties) (fun (y : (Int × (Tup (Int × Int)))) => ∀ (v : V) (F' H' : Hp), W F' H' ((a_ties, .lst vs_ties) :: os) → Same F F' → rep K F' v (y : (Int × (Tup (Int × Int)))) → Q v H') noX
theorem sc_made_web : FnScope ["many", "ties", "web", "fars", "place"] ["many", "ties"] (defScope s_made_web) := ⟨rfl, rfl, rfl, by decide +kernel, rfl, by decide +kernel, by decide +kernel⟩
theorem ok_made_web (T : Tx K mg A FD) : FnOk P w K mg base CX0 2 (A 19) (FD 19) ["many", "ties"] (sp_made_web K) := by
  refine T.d19.fn.ok sc_made_web (fun vs H Q E h => ?_) (fun cdv Ar outer s H vs Q E hr h => ?_)
  · obtain ⟨F, os, x_many, a_ties, vs_ties, x_ties, rfl, _⟩ := h
    rfl
  · obtain ⟨F0, os, x_many, a_ties, vs_ties, x_ties, rfl, w0, h_ties, hm⟩ := h
    have sF : Same F0 F0 := Same.refl _
    refine ⟨_, (pss_cons (ps_if (pt_not (pt_chain op_le op_le pe_int (pv 0) (pe_globI (by rfl) T.c_MOST_PLACES))) (pss_one ps_absurd) pss_nil) (pss_cons (ps_set (i := 2) sc_made_web.nd rfl (Or.inl rfl) (pe_tup (pa_cons (pv 0) (pa_cons (pe_call (ok_sorted_ties T) (hr.mono (by decide)) (by rfl) T.d18.mg T.d18.fn.kp T.d18.b .nil pass0 (pa_cons (pv 0) (pa_cons (pv 1) pa_nil))) pa_nil)))) (pss_cons (ps_set (i := 3) sc_made_web.nd rfl (Or.inl rfl) (pe_call (ok_fars_by T) (hr.mono (by decide)) (by rfl) T.d17.mg T.d17.fn.kp T.d17.b .nil pass0 (pa_cons (pe_call (ok_near_lists T) (hr.mono (by decide)) (by rfl) T.d16.mg T.d16.fn.kp T.d16.b .nil pass0 (pa_cons (pv 2) pa_nil)) (pa_cons pe_int pa_nil)))) (pss_cons (ps_for PassesOwn.never rfl (pi_range1 (by rfl) T.n_range (pa_cons (pv 0) pa_nil)) (pg_name (i := 4) sc_made_web.nd rfl (Or.inl rfl)) (pss_one (ps_if (pt_cmpR op_isN2 (pe_ix (ix_listK (K := K) rfl) (pv 3) (pv 4) (fun _ _ => rfl)) pe_non (nomark _)) (pss_one ps_absurd) pss_nil))) (pss_one (ps_ret (pv 2))))))), ?_⟩
    try dsimp only
    refine stepSeq (stepIf ?_)
    refine stepNot ?_
    refine cutT (fun c H' => c = ((decide ((1 : Int) ≤ x_many)) && (decide (x_many ≤ (60 : Int)))) ∧ ∃ F', Same F0 F' ∧ W F' H' ((a_ties, .lst vs_ties) :: os)) (fun Q2 q2 => ?_) (fun c2 H2 hc2 => ?_)
    · -- the ways
      refine ⟨_, rfl, _, _, rfl, rfl, _, rfl, ?_⟩
      refine ifB (fun k3 => ?_) (fun k3 => ?_)
      · skip
        exact ⟨_, _, rfl, rfl, _, rfl, q2 _ _ ⟨(by first | rfl | exact absurd k3 (by decide) | (simp [k3]; done) | ((try simp only [Bool.not_eq_true] at k3); simp only [k3, Bool.true_or, Bool.false_or, Bool.or_false, Bool.or_true, Bool.true_and, Bool.false_and, Bool.and_true, Bool.and_false])), _, Same.refl _, w0⟩⟩
      · skip
        exact ⟨_, rfl, q2 _ _ ⟨(by first | rfl | exact absurd k3 (by decide) | (simp [k3]; done) | ((try simp only [Bool.not_eq_true] at k3); simp only [k3, Bool.true_or, Bool.false_or, Bool.or_false, Bool.or_true, Bool.true_and, Bool.false_and, Bool.and_true, Bool.and_false])), _, Same.refl _, w0⟩⟩
    obtain ⟨rfl, F2, s2, w2⟩ := hc2
    replace h_ties := A2.mono s2 h_ties
    replace sF := sF.trans s2
    refine post_ite hm (fun k6 hm => ?_) (fun k6 hm => ?_)
    · skip
      try dsimp only
      exact hm
    · skip
      refine ⟨_, rfl, _, rfl, _, rfl, _, _, _, _, _, _, rfl, w2, h_ties, ?_⟩
      refine (post_bind hm).mono (fun y7 hm v7 F7 H7 w7 s7 r7 => ?_) (fun _ z => z)
      replace h_ties := A2.mono s7 h_ties
      replace sF := sF.trans s7
      obtain ⟨a8, vs8, rfl, q8, h8⟩ := r7
      refine ⟨(by show 2 ≤ sizeLine; decide), fun p9 n9 => ?_⟩
      obtain ⟨F9, s9, w9, q9⟩ := w7.frzE (o := .tup [(.int x_many), (.ref a8)]) n9
      replace h_ties := A2.mono s9 h_ties
      replace q8 := s9 _ _ q8
      replace h8 := A2.mono s9 h8
      replace sF := sF.trans s9
      refine ⟨_, rfl, _, _, _, ((x_many, y7) : (Int × (Tup (Int × Int)))), rfl, w9, (rep_pair q9 rep_i (rep_tup q8 h8)), ?_⟩
      refine (post_bind hm).mono (fun y10 hm v10 F10 H10 w10 s10 r10 => ?_) (fun _ z => z)
      replace q9 := s10 _ _ q9
      replace h8 := A2.mono s10 h8
      replace q8 := s10 _ _ q8
      replace h_ties := A2.mono s10 h_ties
      replace sF := sF.trans s10
      obtain ⟨a11, vs11, rfl, q11, h11⟩ := r10
      refine ⟨_, _, _, (y10 : (List (List Int))), _, rfl, w10, (rep_lst q11 h11), ?_⟩
      refine (post_bind hm).mono (fun y12 hm p12 us12 F12 H12 w12 s12 g12 => ?_) (fun _ z => z)
      replace q9 := s12 _ _ q9
      replace h8 := A2.mono s12 h8
      replace q8 := s12 _ _ q8
      replace h_ties := A2.mono s12 h_ties
      replace q11 := s12 _ _ q11
      replace h11 := A2.mono s12 h11
      replace sF := sF.trans s12
      obtain ⟨F14, s14, w14, q14⟩ : ∃ F', Same F12 F' ∧ W F' _ ((a_ties, .lst vs_ties) :: os) ∧ F' p12 = some (.lst us12) := w12.freezeE (pre := [])
      replace q9 := s14 _ _ q9
      replace h8 := A2.mono s14 h8
      replace q8 := s14 _ _ q8
      replace h_ties := A2.mono s14 h_ties
      replace q11 := s14 _ _ q11
      replace h11 := A2.mono s14 h11
      replace g12 := A2.mono s14 g12
      replace sF := sF.trans s14
      obtain ⟨c16, hm⟩ := pb_rng hm
      refine ⟨_, rfl, _, rfl, c16.2.2.1, c16.2.2.2, ?_⟩
      refine forS (tw_rng0 (j := x_many)) hm (fun (g15 : Unit) σ H' => ∃ (F' : Hp) (o15_4 : Option V), σ = [some (.int x_many), some (.ref a_ties), some (.ref p9), some (.ref p12), o15_4] ∧ Same F14 F' ∧ W F' H' ((a_ties, .lst vs_ties) :: os)) ⟨_, _, rfl, Same.refl _, w14⟩ (fun _ _ _ _ => trivial) ?_ ?_
      · -- a turn
        intro b15 g15 x15 σ15 H15 H15' N15 P15 hI hy hN15 hm
        obtain ⟨F15, o15_4, rfl, s15, w15⟩ := hI
        replace q9 := s15 _ _ q9
        replace h8 := A2.mono s15 h8
        replace q8 := s15 _ _ q8
        replace g12 := A2.mono s15 g12
        replace q14 := s15 _ _ q14
        replace h_ties := A2.mono s15 h_ties
        replace sF := sF.trans s15
        obtain ⟨rfl, rfl⟩ := hy
        obtain ⟨t17, e17, hm⟩ := pb_get hm
        obtain ⟨u17, f17, r17⟩ := A2.at g12 e17
        refine ⟨_, rfl, _, rfl, _, _, _, _, rfl, rfl, SqL.of (w15.same _ _ q14), f17, rfl, _, isN_eq r17, _, rfl, ?_⟩
        refine post_ite hm (fun k19 hm => ?_) (fun k19 hm => ?_)
        · skip
          try dsimp only
          exact hm
        · skip
          exact hN15 _ (post_ok hm) _ _ ⟨_, _, rfl, s15, w15⟩
      intro g15 σ15 H15 hI hm
      obtain ⟨F15, o15_4, rfl, s15, w15⟩ := hI
      replace q9 := s15 _ _ q9
      replace h8 := A2.mono s15 h8
      replace q8 := s15 _ _ q8
      replace g12 := A2.mono s15 g12
      replace q14 := s15 _ _ q14
      replace h_ties := A2.mono s15 h_ties
      replace sF := sF.trans s15
      exact ⟨_, rfl, (post_ok hm) _ _ _ w15 sF (rep_pair q9 rep_i (rep_tup q8 h8))⟩
def sp_place_asked (K : Fg) : Sp := fun vs H Q E => ∃ (F : Hp) (os : List (Addr × HO)) (v_web : V) (x_web : (Int × (Tup (Int × Int)))) (x_place : Int), vs = [v_web, .int x_place] ∧ W F H (os) ∧ rep K F v_web x_web ∧ Post (place_asked x_web x_place) (Ret K F os Q) noX
theorem sc_place_asked : FnScope ["web", "place"] ["web", "place"] (defScope s_place_asked) := ⟨rfl, rfl, rfl, by decide +kernel, rfl, by decide +kernel, by decide +kernel⟩
theorem ok_place_asked (T : Tx K mg A FD) : FnOk P w K mg base CX0 1 (A 20) (FD 20) ["web", "place"] (sp_place_asked K) := by
  refine T.d20.fn.ok sc_place_asked (fun vs H Q E h => ?_) (fun cdv Ar outer s H vs Q E hr h => ?_)
  · obtain ⟨F, os, v_web, x_web, x_place, rfl, _⟩ := h
    rfl
  · obtain ⟨F0, os, v_web, x_web, x_place, rfl, w0, r_web, hm⟩ := h
    have sF : Same F0 F0 := Same.refl _
    obtain ⟨a1, u1, z1, rfl, q1, r1a, r1b⟩ := r_web
    obtain rfl : u1 = V.int x_web.1 := r1a
    obtain ⟨a2, vs2, rfl, q2, h2⟩ := r1b
    refine ⟨_, (pss_one (ps_if (pt_not (pt_chain op_le op_lt pe_int (pv 1) (pe_ix (ix_tupK (K := K) rfl) (pv 0) pe_int (fun _ _ => rfl)))) (pss_one ps_absurd) pss_nil)), ?_⟩
    try dsimp only
    refine stepIf ?_
    refine stepNot ?_
    refine cutT (fun c H' => c = ((decide ((0 : Int) ≤ x_place)) && (decide (x_place < x_web.1))) ∧ ∃ F', Same F0 F' ∧ W F' H' (os)) (fun Q3 q3 => ?_) (fun c3 H3 hc3 => ?_)
    · -- the ways
      refine ⟨_, rfl, _, _, rfl, rfl, _, rfl, ?_⟩
      refine ifB (fun k4 => ?_) (fun k4 => ?_)
      · skip
        exact ⟨_, rfl, _, _, _, _, rfl, rfl, SqT.of (w0.same _ _ q1), rfl, _, _, rfl, rfl, _, rfl, q3 _ _ ⟨(by first | rfl | exact absurd k4 (by decide) | (simp [k4]; done) | ((try simp only [Bool.not_eq_true] at k4); simp only [k4, Bool.true_or, Bool.false_or, Bool.or_false, Bool.or_true, Bool.true_and, Bool.false_and, Bool.and_true, Bool.and_false])), _, Same.refl _, w0⟩⟩
      · skip
        exact ⟨_, rfl, q3 _ _ ⟨(by first | rfl | exact absurd k4 (by decide) | (simp [k4]; done) | ((try simp only [Bool.not_eq_true] at k4); simp only [k4, Bool.true_or, Bool.false_or, Bool.or_false, Bool.or_true, Bool.true_and, Bool.false_and, Bool.and_true, Bool.and_false])), _, Same.refl _, w0⟩⟩
    obtain ⟨rfl, F3, s3, w3⟩ := hc3
    replace q1 := s3 _ _ q1
    replace q2 := s3 _ _ q2
    replace h2 := A2.mono s3 h2
    replace sF := sF.trans s3
    refine post_ite hm (fun k7 hm => ?_) (fun k7 hm => ?_)
    · skip
      try dsimp only
      exact hm
    · skip
      exact (post_ok hm) _ _ _ w3 sF rep_n
def sp_fars_from (K : Fg) : Sp := fun vs H Q E => ∃ (F : Hp) (os : List (Addr × HO)) (v_web : V) (x_web : (Int × (Tup (Int × Int)))) (x_place : Int), vs = [v_web, .int x_place] ∧ W F H (os) ∧ rep K F v_web x_web ∧ Post (fars_from x_web x_place) (RetL K F os Q) noX
theorem sc_fars_from : FnScope ["web", "place"] ["web", "place"] (defScope s_fars_from) := ⟨rfl, rfl, rfl, by decide +kernel, rfl, by decide +kernel, by decide +kernel⟩
theorem ok_fars_from (T : Tx K mg A FD) : FnOk P w K mg base CX0 2 (A 21) (FD 21) ["web", "place"] (sp_fars_from K) := by
  refine T.d21.fn.ok sc_fars_from (fun vs H Q E h => ?_) (fun cdv Ar outer s H vs Q E hr h => ?_)
  · obtain ⟨F, os, v_web, x_web, x_place, rfl, _⟩ := h
    rfl
  · obtain ⟨F0, os, v_web, x_web, x_place, rfl, w0, r_web, hm⟩ := h
    have sF : Same F0 F0 := Same.refl _
    obtain ⟨a1, u1, z1, rfl, q1, r1a, r1b⟩ := r_web
    obtain rfl : u1 = V.int x_web.1 := r1a
    obtain ⟨a2, vs2, rfl, q2, h2⟩ := r1b
    refine ⟨_, (pss_cons (ps_expr (pe_call (ok_place_asked T) (hr.mono (by decide)) (by rfl) T.d20.mg T.d20.fn.kp T.d20.b .nil pass0 (pa_cons (pv 0) (pa_cons (pv 1) pa_nil)))) (pss_one (ps_ret (pe_call (ok_fars_by T) (hr.mono (by decide)) (by rfl) T.d17.mg T.d17.fn.kp T.d17.b .nil pass0 (pa_cons (pe_call (ok_near_lists T) (hr.mono (by decide)) (by rfl) T.d16.mg T.d16.fn.kp T.d16.b .nil pass0 (pa_cons (pv 0) pa_nil)) (pa_cons (pv 1) pa_nil)))))), ?_⟩
    refine ⟨_, rfl, _, rfl, _, _, _, (x_web : (Int × (Tup (Int × Int)))), _, rfl, w0, (rep_pair q1 rep_i (rep_tup q2 h2)), ?_⟩
    refine (post_bind hm).mono (fun y3 hm v3 F3 H3 w3 s3 r3 => ?_) (fun _ z => z)
    replace q1 := s3 _ _ q1
    replace q2 := s3 _ _ q2
    replace h2 := A2.mono s3 h2
    replace sF := sF.trans s3
    obtain rfl : v3 = V.non := r3
    refine ⟨_, rfl, _, _, _, (x_web : (Int × (Tup (Int × Int)))), rfl, w3, (rep_pair q1 rep_i (rep_tup q2 h2)), ?_⟩
    refine (post_bind hm).mono (fun y4 hm v4 F4 H4 w4 s4 r4 => ?_) (fun _ z => z)
    replace q1 := s4 _ _ q1
    replace h2 := A2.mono s4 h2
    replace q2 := s4 _ _ q2
    replace sF := sF.trans s4
    obtain ⟨a5, vs5, rfl, q5, h5⟩ := r4
    refine ⟨_, rfl, _, _, _, (y4 : (List (List Int))), _, rfl, w4, (rep_lst q5 h5), ?_⟩
    refine (post_bind hm).mono (fun y6 hm p6 us6 F6 H6 w6 s6 g6 => ?_) (fun _ z => z)
    replace q1 := s6 _ _ q1
    replace h2 := A2.mono s6 h2
    replace q2 := s6 _ _ q2
    replace q5 := s6 _ _ q5
    replace h5 := A2.mono s6 h5
    replace sF := sF.trans s6
    obtain ⟨l8, e8, hm⟩ := pb_allS hm
    have h8 : A2 (rep K F6) us6 l8 := A2.unsome (e8 ▸ g6)
    exact (post_ok hm) _ _ _ _ w6 sF h8
def sp_far_between (K : Fg) : Sp := fun vs H Q E => ∃ (F : Hp) (os : List (Addr × HO)) (v_web : V) (x_web : (Int × (Tup (Int × Int)))) (x_one : Int) (x_other : Int), vs = [v_web, .int x_one, .int x_other] ∧ W F H (os) ∧ rep K F v_web x_web ∧ Post (far_between x_web x_one x_other) (Ret K F os Q) noX
theorem sc_far_between : FnScope ["web", "one", "other"] ["web", "one", "other"] (defScope s_far_between) := ⟨rfl, rfl, rfl, by decide +kernel, rfl, by decide +kernel, by decide +kernel⟩
theorem ok_far_between (T : Tx K mg A FD) : FnOk P w K mg base CX0 2 (A 22) (FD 22) ["web", "one", "other"] (sp_far_between K) := by
  refine T.d22.fn.ok sc_far_between (fun vs H Q E h => ?_) (fun cdv Ar outer s H vs Q E hr h => ?_)
  · obtain ⟨F, os, v_web, x_web, x_one, x_other, rfl, _⟩ := h
    rfl
  · obtain ⟨F0, os, v_web, x_web, x_one, x_other, rfl, w0, r_web, hm⟩ := h
    have sF : Same F0 F0 := Same.refl _
    obtain ⟨a1, u1, z1, rfl, q1, r1a, r1b⟩ := r_web
    obtain rfl : u1 = V.int x_web.1 := r1a
    obtain ⟨a2, vs2, rfl, q2, h2⟩ := r1b
    refine ⟨_, (pss_cons (ps_expr (pe_call (ok_place_asked T) (hr.mono (by decide)) (by rfl) T.d20.mg T.d20.fn.kp T.d20.b .nil pass0 (pa_cons (pv 0) (pa_cons (pv 1) pa_nil)))) (pss_cons (ps_expr (pe_call (ok_place_asked T) (hr.mono (by decide)) (by rfl) T.d20.mg T.d20.fn.kp T.d20.b .nil pass0 (pa_cons (pv 0) (pa_cons (pv 2) pa_nil)))) (pss_one (ps_ret (pe_ix (ix_listK (K := K) rfl) (pe_call (ok_fars_by T) (hr.mono (by decide)) (by rfl) T.d17.mg T.d17.fn.kp T.d17.b .nil pass0 (pa_cons (pe_call (ok_near_lists T) (hr.mono (by decide)) (by rfl) T.d16.mg T.d16.fn.kp T.d16.b .nil pass0 (pa_cons (pv 0) pa_nil)) (pa_cons (pv 1) pa_nil))) (pv 2) (fun _ _ => rfl)))))), ?_⟩
    refine ⟨_, rfl, _, rfl, _, _, _, (x_web : (Int × (Tup (Int × Int)))), _, rfl, w0, (rep_pair q1 rep_i (rep_tup q2 h2)), ?_⟩
    refine (post_bind hm).mono (fun y3 hm v3 F3 H3 w3 s3 r3 => ?_) (fun _ z => z)
    replace q1 := s3 _ _ q1
    replace q2 := s3 _ _ q2
    replace h2 := A2.mono s3 h2
    replace sF := sF.trans s3
    obtain rfl : v3 = V.non := r3
    refine ⟨_, rfl, _, rfl, _, _, _, (x_web : (Int × (Tup (Int × Int)))), _, rfl, w3, (rep_pair q1 rep_i (rep_tup q2 h2)), ?_⟩
    refine (post_bind hm).mono (fun y4 hm v4 F4 H4 w4 s4 r4 => ?_) (fun _ z => z)
    replace q1 := s4 _ _ q1
    replace h2 := A2.mono s4 h2
    replace q2 := s4 _ _ q2
    replace sF := sF.trans s4
    obtain rfl : v4 = V.non := r4
    refine ⟨_, rfl, _, _, _, (x_web : (Int × (Tup (Int × Int)))), rfl, w4, (rep_pair q1 rep_i (rep_tup q2 h2)), ?_⟩
    refine (post_bind hm).mono (fun y5 hm v5 F5 H5 w5 s5 r5 => ?_) (fun _ z => z)
    replace q1 := s5 _ _ q1
    replace h2 := A2.mono s5 h2
    replace q2 := s5 _ _ q2
    replace sF := sF.trans s5
    obtain ⟨a6, vs6, rfl, q6, h6⟩ := r5
    refine ⟨_, rfl, _, _, _, (y5 : (List (List Int))), _, rfl, w5, (rep_lst q6 h6), ?_⟩
    refine (post_bind hm).mono (fun y7 hm p7 us7 F7 H7 w7 s7 g7 => ?_) (fun _ z => z)
    replace q1 := s7 _ _ q1
    replace h2 := A2.mono s7 h2
    replace q2 := s7 _ _ q2
    replace q6 := s7 _ _ q6
    replace h6 := A2.mono s7 h6
    replace sF := sF.trans s7
    obtain ⟨t9, e9, hm⟩ := pb_get hm
    obtain ⟨u9, f9, r9⟩ := A2.at g7 e9
    obtain ⟨t11, e11, hm⟩ := pb_ofO hm
    have r11 : rep K F7 u9 (some t11) := e11 ▸ r9
    replace r11 : u9 = V.int t11 := r11
    subst r11
    have w12 : W F7 _ (os) := w7.drop (pre := [])
    exact ⟨_, rfl, _, _, _, _, rfl, rfl, SqL.of (w7.get (pre := [])), f9, (post_ok hm) _ _ _ w12 sF rep_i⟩
def sp_table_of (K : Fg) : Sp := fun vs H Q E => ∃ (F : Hp) (os : List (Addr × HO)) (v_web : V) (x_web : (Int × (Tup (Int × Int)))), vs = [v_web] ∧ W F H (os) ∧ rep K F v_web x_web ∧ Post (table_of x_web) (Ret K F os Q) noX
theorem sc_table_of : FnScope ["web", "place"] ["web"] (defScope s_table_of) := ⟨rfl, rfl, rfl, by decide +kernel, rfl, by decide +kernel, by decide +kernel⟩
theorem ok_table_of (T : Tx K mg A FD) : FnOk P w K mg base CX0 3 (A 24) (FD 24) ["web"] (sp_table_of K) := by
  refine T.d24.fn.ok sc_table_of (fun vs H Q E h => ?_) (fun cdv Ar outer s H vs Q E hr h => ?_)
  · obtain ⟨F, os, v_web, x_web, rfl, _⟩ := h
    rfl
  · obtain ⟨F0, os, v_web, x_web, rfl, w0, r_web, hm⟩ := h
    have sF : Same F0 F0 := Same.refl _
    obtain ⟨a1, u1, z1, rfl, q1, r1a, r1b⟩ := r_web
    obtain rfl : u1 = V.int x_web.1 := r1a
    obtain ⟨a2, vs2, rfl, q2, h2⟩ := r1b
    refine ⟨_, (pss_one (ps_ret (pe_lc (own := [("place", 1)]) (g := gName 1) (by rfl) sc_table_of.nd (pi_range1 (by rfl) T.n_range (pa_cons (pe_ix (ix_tupK (K := K) rfl) (pv 0) pe_int (fun _ _ => rfl)) pa_nil)) (blkOk_by (own := [("place", 1)]) (N := ["web", "place"]) (sc := defScope s_table_of) (by decide +kernel)) (fun _ _ _ _ _ => (pg_name (i := 1) sc_table_of.nd rfl (Or.inl rfl))) (fun _ _ _ _ _ => pts_nil) (fun _ _ _ _ _ => (pe_call (ok_fars_from T) (hr.mono (by decide)) (by rfl) T.d21.mg T.d21.fn.kp T.d21.b .nil pass0 (pa_cons (pv 0) (pa_cons (pv 1) pa_nil))))))), ?_⟩
    obtain ⟨c3, hm⟩ := pb_rng hm
    refine ⟨_, rfl, _, _, _, _, rfl, rfl, SqT.of (w0.same _ _ q1), rfl, _, rfl, c3.2.2.1, c3.2.2.2, fun D4 nD4 => ?_⟩
    refine lcM (K := K) (tw_rng0 (j := x_web.1)) hm w0 nD4 (fun F' H' acc s w => trivial) ?_ ?_
    · -- one turn
      intro b4 x4 F4 H4 H4' acc4 N4 P4 s4 w4 y4 hN4 hm
      replace q1 := s4 _ _ q1
      replace q2 := s4 _ _ q2
      replace h2 := A2.mono s4 h2
      replace sF := sF.trans s4
      obtain ⟨rfl, rfl⟩ := y4
      refine ⟨rfl, _, rfl, _, rfl, _, _, _, (x_web : (Int × (Tup (Int × Int)))), _, rfl, w4, (rep_pair q1 rep_i (rep_tup q2 h2)), ?_⟩
      refine (post_bind hm).mono (fun y6 hm p6 us6 F6 H6 w6 s6 g6 => ?_) (fun _ z => z)
      replace q1 := s6 _ _ q1
      replace q2 := s6 _ _ q2
      replace h2 := A2.mono s6 h2
      replace sF := sF.trans s6
      obtain ⟨F8, s8, w8, q8⟩ : ∃ F', Same F6 F' ∧ W F' _ ((D4, .lst acc4) :: os) ∧ F' p6 = some (.lst us6) := w6.freezeE (pre := [])
      replace q1 := s8 _ _ q1
      replace q2 := s8 _ _ q2
      replace h2 := A2.mono s8 h2
      replace g6 := A2.mono s8 g6
      replace sF := sF.trans s8
      exact hN4 _ (post_ok hm) _ _ _ w8 (s6.trans s8) (rep_lst q8 g6)
    intro us4 F4 H4 ys4 s4 w4 gg4 hm
    replace q1 := s4 _ _ q1
    replace q2 := s4 _ _ q2
    replace h2 := A2.mono s4 h2
    replace sF := sF.trans s4
    obtain ⟨F10, s10, w10, q10⟩ : ∃ F', Same F4 F' ∧ W F' _ (os) ∧ F' D4 = some (.lst us4) := w4.freezeE (pre := [])
    replace q1 := s10 _ _ q1
    replace q2 := s10 _ _ q2
    replace h2 := A2.mono s10 h2
    replace gg4 := A2.mono s10 gg4
    replace sF := sF.trans s10
    exact (post_ok hm) _ _ _ w10 sF (rep_lst q10 gg4)
def sp_things_of (K : Fg) : Sp := fun vs H Q E => ∃ (F : Hp) (os : List (Addr × HO)) (v_web : V) (x_web : (Int × (Tup (Int × Int)))) (x_kind : Str), vs = [v_web, .str x_kind] ∧ W F H (os) ∧ rep K F v_web x_web ∧ Post (things_of x_web x_kind) (RetL K F os Q) noX
theorem sc_things_of : FnScope ["web", "kind", "places"] ["web", "kind"] (defScope s_things_of) := ⟨rfl, rfl, rfl, by decide +kernel, rfl, by decide +kernel, by decide +kernel⟩
theorem ok_things_of (T : Tx K mg A FD) : FnOk P w K mg base CX0 1 (A 25) (FD 25) ["web", "kind"] (sp_things_of K) := by
  refine T.d25.fn.ok sc_things_of (fun vs H Q E h => ?_) (fun cdv Ar outer s H vs Q E hr h => ?_)
  · obtain ⟨F, os, v_web, x_web, x_kind, rfl, _⟩ := h
    rfl
  · obtain ⟨F0, os, v_web, x_web, x_kind, rfl, w0, r_web, hm⟩ := h
    have sF : Same F0 F0 := Same.refl _
    obtain ⟨a1, u1, z1, rfl, q1, r1a, r1b⟩ := r_web
    obtain rfl : u1 = V.int x_web.1 := r1a
    obtain ⟨a2, vs2, rfl, q2, h2⟩ := r1b
    refine ⟨_, (pss_cons (ps_set (i := 2) sc_things_of.nd rfl (Or.inl rfl) (pe_listRg rfl (by rfl) T.n_list (prg_1 (by rfl) T.n_range (pe_ix (ix_tupK (K := K) rfl) (pv 0) pe_int (fun _ _ => rfl))))) (pss_cons (ps_if (pt_cmpR op_eqS (pv 1) pe_str (nomark _)) (pss_one (ps_ret (pv 2))) pss_nil) (pss_cons (ps_if (pt_cmpR op_eqS (pv 1) pe_str (nomark _)) (pss_one (ps_ret (pe_callTy (call_list_ofK (K := K) rfl) (by rfl) T.n_list (by decide +kernel) (pa_cons (pe_ix (ix_tupK (K := K) rfl) (pv 0) pe_int (fun _ _ => rfl)) pa_nil)))) pss_nil) (pss_one (ps_ret (pe_op op_cat (pv 2) (pe_callTy (call_list_ofK (K := K) rfl) (by rfl) T.n_list (by decide +kernel) (pa_cons (pe_ix (ix_tupK (K := K) rfl) (pv 0) pe_int (fun _ _ => rfl)) pa_nil)))))))), ?_⟩
    obtain ⟨l3, z3, e3, hm⟩ := pb_lrng hm
    have h3 : A2 (rep K F0) (rgV 0 x_web.1) l3 := by rw [e3, rgV_eq]; exact A2.of_ints
    refine ⟨_, rfl, _, _, _, _, rfl, rfl, SqT.of (w0.same _ _ q1), rfl, _, rfl, z3, fun p4 n4 => ?_⟩
    have w4 : W F0 _ ((p4, .lst (rgV 0 x_web.1)) :: os) := w0.new n4
    refine ⟨_, rfl, _, _, rfl, rfl, _, rfl, ?_⟩
    refine post_ite hm (fun k5 hm => ?_) (fun k5 hm => ?_)
    · skip
      have h6 : A2 (rep K F0) (rgV 0 x_web.1) (mkpl l3) := A2.pl h3
      exact ⟨_, rfl, (post_ok hm) _ _ _ _ w4 sF h6⟩
    · skip
      refine ⟨_, rfl, _, _, rfl, rfl, _, rfl, ?_⟩
      refine post_ite hm (fun k7 hm => ?_) (fun k7 hm => ?_)
      · skip
        have h8 : A2 (rep K F0) vs2 x_web.2.l := h2
        refine ⟨_, rfl, _, _, _, _, rfl, rfl, SqT.of (w4.same _ _ q1), rfl, _, _, rfl, .inr (SqT.of (w4.same _ _ q2)), fun p9 n9 => ?_⟩
        have w9 : W F0 _ ((p9, .lst vs2) :: (p4, .lst (rgV 0 x_web.1)) :: os) := w4.new n9
        have h10 : A2 (rep K F0) vs2 (mkti x_web.2.l) := A2.ti h8
        have w11 : W F0 _ ((p9, .lst vs2) :: os) := w9.drop (pre := [_])
        exact (post_ok hm) _ _ _ _ w11 sF h10
      · skip
        have h12 : A2 (rep K F0) vs2 x_web.2.l := h2
        refine ⟨_, rfl, _, rfl, _, _, _, _, rfl, rfl, SqT.of (w4.same _ _ q1), rfl, _, _, rfl, .inr (SqT.of (w4.same _ _ q2)), fun p13 n13 => ?_⟩
        have w13 : W F0 _ ((p13, .lst vs2) :: (p4, .lst (rgV 0 x_web.1)) :: os) := w4.new n13
        have h14 : A2 (rep K F0) (rgV 0 x_web.1) (mkpl l3) := A2.pl h3
        have h15 : A2 (rep K F0) vs2 (mkti x_web.2.l) := A2.ti h12
        obtain ⟨l16, z16, e16, hm⟩ := pn_extend hm
        have h16 : A2 (rep K F0) ((rgV 0 x_web.1) ++ vs2) l16 := e16 ▸ A2.append h14 h15
        refine ⟨_, _, _, _, rfl, rfl, (w13.get (pre := [_])), (w13.get (pre := [])), (A2.le2 h14 h15 z16), fun p17 n17 => ?_⟩
        have w17 : W F0 _ ((p17, .lst ((rgV 0 x_web.1) ++ vs2)) :: (p13, .lst vs2) :: (p4, .lst (rgV 0 x_web.1)) :: os) := w13.new n17
        have w18 : W F0 _ ((p17, .lst ((rgV 0 x_web.1) ++ vs2)) :: (p4, .lst (rgV 0 x_web.1)) :: os) := w17.drop (pre := [_])
        have w19 : W F0 _ ((p17, .lst ((rgV 0 x_web.1) ++ vs2)) :: os) := w18.drop (pre := [_])
        exact (post_ok hm) _ _ _ _ w19 sF h16
def sp_looks_asked (K : Fg) : Sp := fun vs H Q E => ∃ (F : Hp) (os : List (Addr × HO)) (v_web : V) (x_web : (Int × (Tup (Int × Int)))) (v_looks : V) (x_looks : (List Int)), vs = [v_web, v_looks] ∧ W F H (os) ∧ rep K F v_web x_web ∧ rep K F v_looks x_looks ∧ Post (looks_asked x_web x_looks) (Ret K F os Q) noX
theorem sc_looks_asked : FnScope ["web", "looks", "at", "look"] ["web", "looks"] (defScope s_looks_asked) := ⟨rfl, rfl, rfl, by decide +kernel, rfl, by decide +kernel, by decide +kernel⟩
theorem ok_looks_asked (T : Tx K mg A FD) : FnOk P w K mg base CX0 1 (A 26) (FD 26) ["web", "looks"] (sp_looks_asked K) := by
  refine T.d26.fn.ok sc_looks_asked (fun vs H Q E h => ?_) (fun cdv Ar outer s H vs Q E hr h => ?_)
  · obtain ⟨F, os, v_web, x_web, v_looks, x_looks, rfl, _⟩ := h
    rfl
  · obtain ⟨F0, os, v_web, x_web, v_looks, x_looks, rfl, w0, r_web, r_looks, hm⟩ := h
    have sF : Same F0 F0 := Same.refl _
    obtain ⟨a1, u1, z1, rfl, q1, r1a, r1b⟩ := r_web
    obtain rfl : u1 = V.int x_web.1 := r1a
    obtain ⟨a2, vs2, rfl, q2, h2⟩ := r1b
    obtain ⟨a3, vs3, rfl, q3, h3⟩ := r_looks
    refine ⟨_, (pss_one (ps_for PassesOwn.never rfl (pi_k (K := K) (wi := fun K => iEnum K _) rfl (pi_enum (by rfl) T.n_enumerate (pa_cons (pv 1) pa_nil))) (pg_k (K := K) (t := fun K => gTup K 2 _) rfl (pg_tup (n := 2) rfl (pgs_cons (pg_name (i := 2) sc_looks_asked.nd rfl (Or.inl rfl)) (pgs_cons (pg_name (i := 3) sc_looks_asked.nd rfl (Or.inl rfl)) pgs_nil)))) (pss_one (ps_if (PW.pt (pw_or (pt_not (pt_chain op_le op_lt pe_int (pv 3) (pe_ix (ix_tupK (K := K) rfl) (pv 0) pe_int (fun _ _ => rfl)))) (pw_or1 (PW.pt (pw_and (pt_cmp (pc_gt (pv 2) pe_int)) (pw_and1 (pt_cmp (pc_le (pv 3) (pe_ix (ix_listK (K := K) rfl) (pv 1) (pe_op op_sub (pv 2) pe_int) (fun _ _ => rfl)))))))))) (pss_one ps_absurd) pss_nil)))), ?_⟩
    refine ⟨_, rfl, _, _, rfl, SqL.of (w0.same _ _ q3), ?_⟩
    refine forS (tw_enum (a := a3) h3) hm (fun (g4 : Unit) σ H' => ∃ (F' : Hp) (o4_2 : Option V) (o4_3 : Option V), σ = [some (.ref a1), some (.ref a3), o4_2, o4_3] ∧ Same F0 F' ∧ W F' H' (os)) ⟨_, _, _, rfl, Same.refl _, w0⟩ (fun g σ H' hI => by obtain ⟨F', _, _, _, s, w⟩ := hI; exact SqL.of (w.same _ _ (s _ _ q3))) ?_ ?_
    · -- a turn
      intro b4 g4 x4 σ4 H4 H4' N4 P4 hI hy hN4 hm
      obtain ⟨F4, o4_2, o4_3, rfl, s4, w4⟩ := hI
      replace q1 := s4 _ _ q1
      replace q2 := s4 _ _ q2
      replace h2 := A2.mono s4 h2
      replace q3 := s4 _ _ q3
      replace h3 := A2.mono s4 h3
      replace sF := sF.trans s4
      obtain ⟨T5, u5, rfl, n5, rfl, r5⟩ := hy
      obtain ⟨F5, s5, w5, q5⟩ := w4.frzE (o := .tup [.int b4.1, u5]) n5
      replace r5 := Rep.mono s4 r5
      replace q1 := s5 _ _ q1
      replace q2 := s5 _ _ q2
      replace h2 := A2.mono s5 h2
      replace q3 := s5 _ _ q3
      replace h3 := A2.mono s5 h3
      replace sF := sF.trans s5
      replace r5 := Rep.mono s5 r5
      obtain rfl : u5 = V.int b4.2 := r5
      refine ⟨_, _, rfl, SqT.of (w5.same _ _ q5), rfl, _, _, rfl, _, _, rfl, rfl, ?_⟩
      try dsimp only
      refine stepIf ?_
      refine joinT hm (fun (j6 : Bool) c H' => c = j6 ∧ ∃ (F' : Hp), Same F5 F' ∧ W F' H' (os)) ?_ ?_
      · intro Q6 P6 q6 hm
        refine stepOr ?_
        refine stepNot ?_
        refine cutT (fun c H' => c = ((decide ((0 : Int) ≤ b4.2)) && (decide (b4.2 < x_web.1))) ∧ ∃ F', Same F5 F' ∧ W F' H' (os)) (fun Q7 q7 => ?_) (fun c7 H7 hc7 => ?_)
        · -- the ways
          refine ⟨_, rfl, _, _, rfl, rfl, _, rfl, ?_⟩
          refine ifB (fun k8 => ?_) (fun k8 => ?_)
          · skip
            exact ⟨_, rfl, _, _, _, _, rfl, rfl, SqT.of (w5.same _ _ q1), rfl, _, _, rfl, rfl, _, rfl, q7 _ _ ⟨(by first | rfl | exact absurd k8 (by decide) | (simp [k8]; done) | ((try simp only [Bool.not_eq_true] at k8); simp only [k8, Bool.true_or, Bool.false_or, Bool.or_false, Bool.or_true, Bool.true_and, Bool.false_and, Bool.and_true, Bool.and_false])), _, Same.refl _, w5⟩⟩
          · skip
            exact ⟨_, rfl, q7 _ _ ⟨(by first | rfl | exact absurd k8 (by decide) | (simp [k8]; done) | ((try simp only [Bool.not_eq_true] at k8); simp only [k8, Bool.true_or, Bool.false_or, Bool.or_false, Bool.or_true, Bool.true_and, Bool.false_and, Bool.and_true, Bool.and_false])), _, Same.refl _, w5⟩⟩
        obtain ⟨rfl, F7, s7, w7⟩ := hc7
        replace q1 := s7 _ _ q1
        replace h2 := A2.mono s7 h2
        replace q2 := s7 _ _ q2
        replace h3 := A2.mono s7 h3
        replace q3 := s7 _ _ q3
        replace sF := sF.trans s7
        refine post_ite hm (fun k11 hm => ?_) (fun k11 hm => ?_)
        · skip
          exact q6 _ (post_ok hm) _ _ ⟨rfl, _, s7, w7⟩
        · skip
          refine joinT hm (fun (j13 : Bool) c H' => c = j13 ∧ ∃ (F' : Hp), Same F7 F' ∧ W F' H' (os)) ?_ ?_
          · intro Q13 P13 q13 hm
            refine ⟨_, rfl, _, _, rfl, rfl, _, rfl, ?_⟩
            refine post_ite hm (fun k14 hm => ?_) (fun k14 hm => ?_)
            · skip
              obtain ⟨t15, e15, hm⟩ := pb_get hm
              obtain ⟨u15, f15, r15⟩ := A2.at h3 e15
              obtain rfl : u15 = V.int t15 := r15
              exact ⟨_, rfl, _, rfl, _, rfl, _, _, rfl, rfl, _, _, _, _, rfl, rfl, SqL.of (w7.same _ _ q3), f15, _, _, rfl, rfl, _, rfl, q13 _ (post_ok hm) _ _ ⟨rfl, _, Same.refl _, w7⟩⟩
            · skip
              exact q13 _ (post_ok hm) _ _ ⟨rfl, _, Same.refl _, w7⟩
          intro j13 c13 H13 hc13 hm
          obtain ⟨rfl, F13, s13, w13⟩ := hc13
          replace q1 := s13 _ _ q1
          replace h2 := A2.mono s13 h2
          replace q2 := s13 _ _ q2
          replace h3 := A2.mono s13 h3
          replace q3 := s13 _ _ q3
          replace sF := sF.trans s13
          exact q6 _ (post_ok hm) _ _ ⟨rfl, _, (s7.trans s13), w13⟩
      intro j6 c6 H6 hc6 hm
      obtain ⟨rfl, F6, s6, w6⟩ := hc6
      replace q1 := s6 _ _ q1
      replace h2 := A2.mono s6 h2
      replace q2 := s6 _ _ q2
      replace h3 := A2.mono s6 h3
      replace q3 := s6 _ _ q3
      replace sF := sF.trans s6
      refine post_ite hm (fun k19 hm => ?_) (fun k19 hm => ?_)
      · skip
        try dsimp only
        exact hm
      · skip
        exact hN4 _ (post_ok hm) _ _ ⟨_, _, _, rfl, (s4.trans (s5.trans s6)), w6⟩
    intro g4 σ4 H4 hI hm
    obtain ⟨F4, o4_2, o4_3, rfl, s4, w4⟩ := hI
    replace q1 := s4 _ _ q1
    replace q2 := s4 _ _ q2
    replace h2 := A2.mono s4 h2
    replace q3 := s4 _ _ q3
    replace h3 := A2.mono s4 h3
    replace sF := sF.trans s4
    exact (post_ok hm) _ _ _ w4 sF rep_n
def sp_far_by (K : Fg) : Sp := fun vs H Q E => ∃ (F : Hp) (os : List (Addr × HO)) (v_table : V) (x_table : (List (List Int))) (x_look : Int) (v_thing : V) (x_thing : Thing), vs = [v_table, .int x_look, v_thing] ∧ W F H (os) ∧ rep K F v_table x_table ∧ rep K F v_thing x_thing ∧ Post (far_by x_table x_look x_thing) (Ret K F os Q) noX
theorem sc_far_by : FnScope ["table", "look", "thing"] ["table", "look", "thing"] (defScope s_far_by) := ⟨rfl, rfl, rfl, by decide +kernel, rfl, by decide +kernel, by decide +kernel⟩
theorem ok_far_by (T : Tx K mg A FD) : FnOk P w K mg base CX0 1 (A 27) (FD 27) ["table", "look", "thing"] (sp_far_by K) := by
  refine T.d27.fn.ok sc_far_by (fun vs H Q E h => ?_) (fun cdv Ar outer s H vs Q E hr h => ?_)
  · obtain ⟨F, os, v_table, x_table, x_look, v_thing, x_thing, rfl, _⟩ := h
    rfl
  · obtain ⟨F0, os, v_table, x_table, x_look, v_thing, x_thing, rfl, w0, r_table, r_thing, hm⟩ := h
    have sF : Same F0 F0 := Same.refl _
    obtain ⟨a1, vs1, rfl, q1, h1⟩ := r_table
    refine ⟨_, (pss_cons (ps_if (pt_val (pe_callB (call_isB (K := K) rfl) (by rfl) T.n_isinstance (by decide +kernel) (pa_cons (pv 2) (pa_cons (pe_bltn (v := .ty "int") (by rfl) T.n_int (by decide +kernel) rfl) pa_nil)))) (pss_one (ps_ret (pe_ix (ix_listK (K := K) rfl) (pe_ix (ix_listK (K := K) rfl) (pv 0) (pv 1) (fun _ _ => rfl)) (pv 2) (fun _ _ => rfl)))) pss_nil) (pss_one (ps_ret (pe_callB (call_min2 rfl) (by rfl) T.n_min (by decide +kernel) (pa_cons (pe_ix (ix_listK (K := K) rfl) (pe_ix (ix_listK (K := K) rfl) (pv 0) (pv 1) (fun _ _ => rfl)) (pe_ix (ix_tupK (K := K) rfl) (pv 2) pe_int (fun _ _ => rfl)) (fun _ _ => rfl)) (pa_cons (pe_ix (ix_listK (K := K) rfl) (pe_ix (ix_listK (K := K) rfl) (pv 0) (pv 1) (fun _ _ => rfl)) (pe_ix (ix_tupK (K := K) rfl) (pv 2) pe_int (fun _ _ => rfl)) (fun _ _ => rfl)) pa_nil)))))), ?_⟩
    obtain ⟨a3, y3, k3⟩ := th_int w0.same r_thing
    refine ⟨_, rfl, _, _, _, x_thing.isPl, rfl, y3, k3, _, rfl, ?_⟩
    refine post_ite hm (fun k4 hm => ?_) (fun k4 hm => ?_)
    · skip
      obtain ⟨t5, e5, hm⟩ := pb_asPl hm
      have r5 : v_thing = V.int t5 := (show rep K F0 v_thing (Thing.pl t5) from e5 ▸ r_thing)
      subst r5
      obtain ⟨t6, e6, hm⟩ := pb_get hm
      obtain ⟨u6, f6, r6⟩ := A2.at h1 e6
      obtain ⟨a7, vs7, rfl, q7, h7⟩ := r6
      obtain ⟨t8, e8, hm⟩ := pb_get hm
      obtain ⟨u8, f8, r8⟩ := A2.at h7 e8
      obtain rfl : u8 = V.int t8 := r8
      exact ⟨_, rfl, _, rfl, _, _, _, _, rfl, rfl, SqL.of (w0.same _ _ q1), f6, _, rfl, _, _, _, _, rfl, rfl, SqL.of (w0.same _ _ q7), f8, (post_ok hm) _ _ _ w0 sF rep_i⟩
    · skip
      obtain ⟨t9, e9, hm⟩ := pb_asTi hm
      have r9 : rep K F0 v_thing (t9 : Int × Int) := (show rep K F0 v_thing (Thing.ti t9.1 t9.2) from e9 ▸ r_thing)
      obtain ⟨a10, u10, z10, rfl, q10, r10a, r10b⟩ := r9
      obtain rfl : u10 = V.int t9.1 := r10a
      obtain rfl : z10 = V.int t9.2 := r10b
      obtain ⟨t11, e11, hm⟩ := pb_get hm
      obtain ⟨u11, f11, r11⟩ := A2.at h1 e11
      obtain ⟨a12, vs12, rfl, q12, h12⟩ := r11
      obtain ⟨t13, e13, hm⟩ := pb_get hm
      obtain ⟨u13, f13, r13⟩ := A2.at h12 e13
      obtain rfl : u13 = V.int t13 := r13
      obtain ⟨t14, e14, hm⟩ := pb_get hm
      obtain ⟨u14, f14, r14⟩ := A2.at h1 e14
      obtain ⟨a15, vs15, rfl, q15, h15⟩ := r14
      obtain ⟨t16, e16, hm⟩ := pb_get hm
      obtain ⟨u16, f16, r16⟩ := A2.at h15 e16
      obtain rfl : u16 = V.int t16 := r16
      exact ⟨_, rfl, _, rfl, _, _, _, _, rfl, rfl, SqL.of (w0.same _ _ q1), f11, _, rfl, _, _, _, _, rfl, rfl, SqT.of (w0.same _ _ q10), rfl, _, _, _, _, rfl, rfl, SqL.of (w0.same _ _ q12), f13, _, rfl, _, rfl, _, _, _, _, rfl, rfl, SqL.of (w0.same _ _ q1), f14, _, rfl, _, _, _, _, rfl, rfl, SqT.of (w0.same _ _ q10), rfl, _, _, _, _, rfl, rfl, SqL.of (w0.same _ _ q15), f16, _, _, rfl, (post_ok hm) _ _ _ w0 sF rep_i⟩
def sp_by_code (K : Fg) : Sp := fun vs H Q E => ∃ (F : Hp) (os : List (Addr × HO)) (v_web : V) (x_web : (Int × (Tup (Int × Int)))) (v_looks : V) (x_looks : (List Int)) (x_kind : Str), vs = [v_web, v_looks, .str x_kind] ∧ W F H (os) ∧ rep K F v_web x_web ∧ rep K F v_looks x_looks ∧ Post (by_code x_web x_looks x_kind) (fun (y : ((List ((Tup Int) × Ix)) × (List (List Thing)))) => ∀ (p : Addr) (us : List (List Key × V)) (as : List Addr) (vss : List (List V)) (F' H' : Hp), W F' H' ((p, .dT us) :: (nz as vss ++ (os))) → Same F F' → AD kT (RX as) us y.1 → Sto K F' as vss y.2 → Q (.ref p) H') noX
theorem sc_by_code : FnScope ["web", "looks", "kind", "table", "found", "thing", "code", "look"] ["web", "looks", "kind"] (defScope s_by_code) := ⟨rfl, rfl, rfl, by decide +kernel, rfl, by decide +kernel, by decide +kernel⟩
theorem ok_by_code (T : Tx K mg A FD) : FnOk P w K mg base CX0 4 (A 28) (FD 28) ["web", "looks", "kind"] (sp_by_code K) := by
  refine T.d28.fn.ok sc_by_code (fun vs H Q E h => ?_) (fun cdv Ar outer s H vs Q E hr h => ?_)
  · obtain ⟨F, os, v_web, x_web, v_looks, x_looks, x_kind, rfl, _⟩ := h
    rfl
  · obtain ⟨F0, os, v_web, x_web, v_looks, x_looks, x_kind, rfl, w0, r_web, r_looks, hm⟩ := h
    have sF : Same F0 F0 := Same.refl _
    obtain ⟨a1, u1, z1, rfl, q1, r1a, r1b⟩ := r_web
    obtain rfl : u1 = V.int x_web.1 := r1a
    obtain ⟨a2, vs2, rfl, q2, h2⟩ := r1b
    obtain ⟨a3, vs3, rfl, q3, h3⟩ := r_looks
    have hr_g : Sto K F0 [] [] ([] : List (List Thing)) := Sto.nil
    replace w0 : W F0 _ ((nz [] [] ++ os)) := w0
    refine ⟨_, (pss_cons (ps_set (i := 3) sc_by_code.nd rfl (Or.inr rfl) (pe_call (ok_table_of T) (hr.mono (by decide)) (by rfl) T.d24.mg T.d24.fn.kp T.d24.b .nil pass0 (pa_cons (pv 0) pa_nil))) (pss_cons (ps_set (i := 4) sc_by_code.nd rfl (Or.inl rfl) pe_dnewT) (pss_cons (ps_for PassesOwn.never rfl (pi_listK (K := K) rfl (pe_call (ok_things_of T) (hr.mono (by decide)) (by rfl) T.d25.mg T.d25.fn.kp T.d25.b .nil pass0 (pa_cons (pv 0) (pa_cons (pv 2) pa_nil)))) (pg_name (i := 5) sc_by_code.nd rfl (Or.inr rfl)) (pss_cons (ps_set (i := 6) sc_by_code.nd rfl (Or.inl rfl) (pe_callTy (call_tuple_ofK (K := K) rfl) (by rfl) T.n_tuple (by decide +kernel) (pa_cons (pe_lc (own := [("look", 7)]) (g := gName 7) (by rfl) sc_by_code.nd (pi_listK (K := K) rfl (pv 1)) (blkOk_by (own := [("look", 7)]) (N := ["web", "looks", "kind", "table", "found", "thing", "code", "look"]) (sc := defScope s_by_code) (by decide +kernel)) (fun _ _ _ _ _ => (pg_name (i := 7) sc_by_code.nd rfl (Or.inl rfl))) (fun _ _ _ _ _ => pts_nil) (fun _ _ _ _ _ => (pe_call (ok_far_by T) (hr.mono (by decide)) (by rfl) T.d27.mg T.d27.fn.kp T.d27.b .nil pass0 (pa_cons (pv 3) (pa_cons (pv 7) (pa_cons (pv 5) pa_nil)))))) pa_nil))) (pss_cons (ps_if (pt_cmp (pc_dnotinH (Room.units1 hr) (pv 6) (pv 4))) (pss_one (ps_dput (Room.units1 hr) (pv 4) (pv 6) (pe_lst pa_nil) (by rfl))) pss_nil) (pss_one (ps_expr (pe_bm PySem.F.plainAttrs_list PySem.F.slot_list_append PySem.F.type_list_append mt_append (pe_dget (Room.units1 hr) (pv 4) (pv 6) (fun _ _ => rfl)) (pa_cons (pv 5) pa_nil))))))) (pss_one (ps_ret (pv 4)))))), ?_⟩
    refine ⟨_, rfl, _, _, _, (x_web : (Int × (Tup (Int × Int)))), rfl, w0, (rep_pair q1 rep_i (rep_tup q2 h2)), ?_⟩
    refine (post_bind hm).mono (fun y5 hm v5 F5 H5 w5 s5 r5 => ?_) (fun _ z => z)
    replace q1 := s5 _ _ q1
    replace q2 := s5 _ _ q2
    replace h2 := A2.mono s5 h2
    replace q3 := s5 _ _ q3
    replace h3 := A2.mono s5 h3
    replace hr_g := Sto.mono s5 hr_g
    replace sF := sF.trans s5
    obtain ⟨a6, vs6, rfl, q6, h6⟩ := r5
    refine fun p7 n7 => ?_
    have w7 : W F5 _ ((p7, .dT []) :: (nz [] [] ++ os)) := w5.new n7
    have h7 : AD kT (RX []) [] ([] : (List ((Tup Int) × Ix))) := .nil
    refine ⟨_, rfl, _, rfl, _, _, _, (x_web : (Int × (Tup (Int × Int)))), _, rfl, w7, (rep_pair q1 rep_i (rep_tup q2 h2)), ?_⟩
    refine (post_bind hm).mono (fun y9 hm p9 us9 F9 H9 w9 s9 g9 => ?_) (fun _ z => z)
    replace q1 := s9 _ _ q1
    replace h2 := A2.mono s9 h2
    replace q2 := s9 _ _ q2
    replace h3 := A2.mono s9 h3
    replace q3 := s9 _ _ q3
    replace h6 := A2.mono s9 h6
    replace q6 := s9 _ _ q6
    replace hr_g := Sto.mono s9 hr_g
    replace sF := sF.trans s9
    obtain ⟨F11, s11, w11, q11⟩ : ∃ F', Same F9 F' ∧ W F' _ ((p7, .dT []) :: (nz [] [] ++ os)) ∧ F' p9 = some (.lst us9) := w9.freezeE (pre := [])
    replace q1 := s11 _ _ q1
    replace h2 := A2.mono s11 h2
    replace q2 := s11 _ _ q2
    replace h3 := A2.mono s11 h3
    replace q3 := s11 _ _ q3
    replace h6 := A2.mono s11 h6
    replace q6 := s11 _ _ q6
    replace hr_g := Sto.mono s11 hr_g
    replace g9 := A2.mono s11 g9
    replace sF := sF.trans s11
    refine ⟨_, rfl, ⟨_, SqL.of (w11.same _ _ q11)⟩, ?_⟩
    refine forS (tw_list (a := p9) g9) hm (fun (g8 : (List ((Tup Int) × Ix)) × (List (List Thing))) σ H' => ∃ (F' : Hp) (vs8_0 : List (List Key × V)) (as8_1 : List Addr) (vs8_1 : List (List V)) (o8_6 : Option V) (o8_5 : Option V), σ = [some (.ref a1), some (.ref a3), some (.str x_kind), some (.ref a6), some (.ref p7), o8_5, o8_6, none] ∧ Same F11 F' ∧ W F' H' ((p7, .dT vs8_0) :: (nz as8_1 vs8_1 ++ os)) ∧ AD kT (RX as8_1) vs8_0 g8.1 ∧ [] <+: as8_1 ∧ Sto K F' as8_1 vs8_1 g8.2) ⟨_, _, _, _, _, _, rfl, Same.refl _, w11, h7, pfx_refl, hr_g⟩ (fun g σ H' hI => by obtain ⟨F', _, _, _, _, _, _, s, w, _⟩ := hI; exact SqL.of (w.same _ _ (s _ _ q11))) ?_ ?_
    · -- a turn
      intro b8 g8 x8 σ8 H8 H8' N8 P8 hI hy hN8 hm
      obtain ⟨F8, vs8_0, as8_1, vs8_1, o8_6, o8_5, rfl, s8, w8, h8_0, p8_1, h8_1⟩ := hI
      replace q1 := s8 _ _ q1
      replace h2 := A2.mono s8 h2
      replace q2 := s8 _ _ q2
      replace h3 := A2.mono s8 h3
      replace q3 := s8 _ _ q3
      replace h6 := A2.mono s8 h6
      replace q6 := s8 _ _ q6
      replace g9 := A2.mono s8 g9
      replace q11 := s8 _ _ q11
      replace sF := sF.trans s8
      obtain ⟨rfl, r12⟩ := hy
      replace r12 := Rep.mono s8 r12
      refine ⟨_, rfl, _, rfl, ⟨_, SqL.of (w8.same _ _ q3)⟩, fun D14 nD14 => ?_⟩
      refine lcM (K := K) (tw_list (a := a3) h3) hm w8 nD14 (fun F' H' acc s w => SqL.of (w.same _ _ (s _ _ q3))) ?_ ?_
      · -- one turn
        intro b14 x14 F14 H14 H14' acc14 N14 P14 s14 w14 y14 hN14 hm
        replace q1 := s14 _ _ q1
        replace h2 := A2.mono s14 h2
        replace q2 := s14 _ _ q2
        replace h3 := A2.mono s14 h3
        replace q3 := s14 _ _ q3
        replace h6 := A2.mono s14 h6
        replace q6 := s14 _ _ q6
        replace r12 := Rep.mono s14 r12
        replace h8_1 := Sto.mono s14 h8_1
        replace sF := sF.trans s14
        obtain ⟨rfl, r16⟩ := y14
        obtain rfl : x14 = V.int b14 := r16
        refine ⟨rfl, _, rfl, _, rfl, _, rfl, _, _, _, (y5 : (List (List Int))), _, _, (b8 : Thing), rfl, w14, (rep_lst q6 h6), r12, ?_⟩
        refine (post_bind hm).mono (fun y17 hm v17 F17 H17 w17 s17 r17 => ?_) (fun _ z => z)
        replace q1 := s17 _ _ q1
        replace h2 := A2.mono s17 h2
        replace q2 := s17 _ _ q2
        replace h3 := A2.mono s17 h3
        replace q3 := s17 _ _ q3
        replace h6 := A2.mono s17 h6
        replace q6 := s17 _ _ q6
        replace r12 := Rep.mono s17 r12
        replace h8_1 := Sto.mono s17 h8_1
        replace sF := sF.trans s17
        obtain rfl : v17 = V.int y17 := r17
        exact hN14 _ (post_ok hm) _ _ _ w17 s17 rep_i
      intro us14 F14 H14 ys14 s14 w14 gg14 hm
      replace q1 := s14 _ _ q1
      replace h2 := A2.mono s14 h2
      replace q2 := s14 _ _ q2
      replace h3 := A2.mono s14 h3
      replace q3 := s14 _ _ q3
      replace h6 := A2.mono s14 h6
      replace q6 := s14 _ _ q6
      replace r12 := Rep.mono s14 r12
      replace h8_1 := Sto.mono s14 h8_1
      replace sF := sF.trans s14
      have h19 : A2 (rep K F14) us14 ys14 := gg14
      refine ⟨_, _, rfl, .inl ⟨SqL.of (w14.get (pre := [])), fun p20 n20 => ?_⟩⟩
      obtain ⟨F20, s20, w20, q20⟩ := w14.frzE (o := .tup us14) n20
      replace q1 := s20 _ _ q1
      replace h2 := A2.mono s20 h2
      replace q2 := s20 _ _ q2
      replace h3 := A2.mono s20 h3
      replace q3 := s20 _ _ q3
      replace h6 := A2.mono s20 h6
      replace q6 := s20 _ _ q6
      replace r12 := Rep.mono s20 r12
      replace h8_1 := Sto.mono s20 h8_1
      replace gg14 := A2.mono s20 gg14
      replace h19 := A2.mono s20 h19
      replace sF := sF.trans s20
      have w21 : W F20 _ ((p7, .dT vs8_0) :: (nz as8_1 vs8_1 ++ os)) := w20.drop (pre := [])
      refine stepN ?_
      try dsimp only
      refine joinS hm (fun (g22 : (List ((Tup Int) × Ix)) × (List (List Thing))) σ H' => ∃ (F' : Hp) (vs22_0 : List (List Key × V)) (as22_1 : List Addr) (vs22_1 : List (List V)), σ = [some (.ref a1), some (.ref a3), some (.str x_kind), some (.ref a6), some (.ref p7), some x8, some (.ref p20), none] ∧ Same F20 F' ∧ W F' H' ((p7, .dT vs22_0) :: (nz as22_1 vs22_1 ++ os)) ∧ AD kT (RX as22_1) vs22_0 g22.1 ∧ as8_1 <+: as22_1 ∧ Sto K F' as22_1 vs22_1 g22.2) ?_ ?_
      · intro N22 P22 hN22 hm
        refine ⟨_, rfl, _, rfl, _, _, _, rfl, dgetA (t := (Tup.mk ys14)) (w21.get (pre := [])) (key_tup w21.same q20 h19), AD.no kT_inj h8_0, _, rfl, ?_⟩
        refine post_ite hm (fun k23 hm => ?_) (fun k23 hm => ?_)
        · skip
          have h24 : A2 (rep K F20) [] ([] : (List Thing)) := .nil
          refine ⟨(by show 0 ≤ sizeLine; decide), fun p25 n25 => ?_⟩
          have w25 : W F20 _ ((p25, .lst []) :: (p7, .dT vs8_0) :: (nz as8_1 vs8_1 ++ os)) := w21.new n25
          obtain ⟨j26, st26, ej26, es26, hm⟩ := pn_newS hm
          have w26 : W F20 _ ((p7, .dT vs8_0) :: (nz (as8_1 ++ [p25]) (vs8_1 ++ [[]]) ++ os)) := w25.nadd (pre := [_]) h8_1.len
          have q26 : (as8_1 ++ [p25])[j26]? = some p25 := IQ.new (h8_1.len2.trans ej26.symm)
          have h26 : Sto K F20 (as8_1 ++ [p25]) (vs8_1 ++ [[]]) st26 := es26 ▸ Sto.snoc (p := p25) h8_1 h24
          replace h8_0 := AD.imp (fun _ _ => RX.mono (pfx_snoc (p := p25))) h8_0
          obtain ⟨l27, z27, e27, hm⟩ := pn_mput hm
          refine ⟨_, rfl, _, rfl, _, _, rfl, dputA (t := (Tup.mk ys14)) (v := (.ref p25)) (w26.get (pre := [])) (key_tup w26.same q20 h19) h8_0 z27, ?_⟩
          have h27 : AD kT (RX (as8_1 ++ [p25])) (putK vs8_0 (kT (Tup.mk ys14)) (.ref p25)) l27 := e27 ▸ AD.put kT_inj h8_0 ⟨_, rfl, q26⟩
          have w28 : W F20 _ ((p7, .dT (putK vs8_0 (kT (Tup.mk ys14)) (.ref p25))) :: (nz (as8_1 ++ [p25]) (vs8_1 ++ [[]]) ++ os)) := w26.set (pre := [])
          exact hN22 _ (post_ok hm) _ _ ⟨_, _, _, _, rfl, Same.refl _, w28, h27, (pfx_snoc (p := p25)), h26⟩
        · skip
          exact hN22 _ (post_ok hm) _ _ ⟨_, _, _, _, rfl, Same.refl _, w21, h8_0, pfx_refl, h8_1⟩
      intro g22 σ22 H22 hI hm
      obtain ⟨F22, vs22_0, as22_1, vs22_1, rfl, s22, w22, h22_0, p22_1, h22_1⟩ := hI
      replace q1 := s22 _ _ q1
      replace h2 := A2.mono s22 h2
      replace q2 := s22 _ _ q2
      replace h3 := A2.mono s22 h3
      replace q3 := s22 _ _ q3
      replace h6 := A2.mono s22 h6
      replace q6 := s22 _ _ q6
      replace h19 := A2.mono s22 h19
      replace q20 := s22 _ _ q20
      replace r12 := Rep.mono s22 r12
      replace sF := sF.trans s22
      obtain ⟨t29, e29, hm⟩ := pb_mget hm
      obtain ⟨u29, f29, r29⟩ := AD.get kT_inj h22_0 e29
      obtain ⟨a30, rfl, q30⟩ := r29
      obtain ⟨x31, e31, hm⟩ := pb_getS hm
      obtain ⟨vs31, i31, h31⟩ := Sto.getq h22_1 e31 q30
      obtain ⟨l32, z32, e32, hm⟩ := pn_app hm
      obtain ⟨st32, es32, hm⟩ := pn_setS hm
      refine ⟨_, rfl, _, rfl, _, _, rfl, dgetsA (w22.get (pre := [])) (key_tup (t := (Tup.mk ys14)) w22.same q20 h19) f29, .inl ⟨rfl, _, SqL.of (W.nget (pre := [_]) w22 q30 i31)⟩, _, rfl, _, _, _, rfl, rfl, (W.nget (pre := [_]) w22 q30 i31), (A2.lt h31 z32), ?_⟩
      have h32 : Sto K F22 as22_1 (vs22_1.set t29 (vs31 ++ [x8])) st32 := es32 ▸ Sto.set h22_1 (e32 ▸ A2.snoc h31 r12)
      have w32 : W F22 _ ((p7, .dT vs22_0) :: (nz as22_1 (vs22_1.set t29 (vs31 ++ [x8])) ++ os)) := w22.nset (pre := [_]) (vs31 ++ [x8]) q30 i31
      exact hN8 _ (post_ok hm) _ _ ⟨_, _, _, _, _, _, rfl, (s8.trans (s14.trans (s20.trans s22))), w32, h22_0, (pfx_trans p8_1 p22_1), h32⟩
    intro g8 σ8 H8 hI hm
    obtain ⟨F8, vs8_0, as8_1, vs8_1, o8_6, o8_5, rfl, s8, w8, h8_0, p8_1, h8_1⟩ := hI
    replace q1 := s8 _ _ q1
    replace h2 := A2.mono s8 h2
    replace q2 := s8 _ _ q2
    replace h3 := A2.mono s8 h3
    replace q3 := s8 _ _ q3
    replace h6 := A2.mono s8 h6
    replace q6 := s8 _ _ q6
    replace g9 := A2.mono s8 g9
    replace q11 := s8 _ _ q11
    replace sF := sF.trans s8
    exact ⟨_, rfl, (post_ok hm) _ _ _ _ _ _ w8 sF h8_0 h8_1⟩
def sp_likes_by (K : Fg) : Sp := fun vs H Q E => ∃ (F : Hp) (os : List (Addr × HO)) (v_web : V) (x_web : (Int × (Tup (Int × Int)))) (v_looks : V) (x_looks : (List Int)) (x_kind : Str), vs = [v_web, v_looks, .str x_kind] ∧ W F H (os) ∧ rep K F v_web x_web ∧ rep K F v_looks x_looks ∧ Post (likes_by x_web x_looks x_kind) (Ret K F os Q) noX
theorem sc_likes_by : FnScope ["web", "looks", "kind", "things"] ["web", "looks", "kind"] (defScope s_likes_by) := ⟨rfl, rfl, rfl, by decide +kernel, rfl, by decide +kernel, by decide +kernel⟩
theorem ok_likes_by (T : Tx K mg A FD) : FnOk P w K mg base CX0 5 (A 29) (FD 29) ["web", "looks", "kind"] (sp_likes_by K) := by
  refine T.d29.fn.ok sc_likes_by (fun vs H Q E h => ?_) (fun cdv Ar outer s H vs Q E hr h => ?_)
  · obtain ⟨F, os, v_web, x_web, v_looks, x_looks, x_kind, rfl, _⟩ := h
    rfl
  · obtain ⟨F0, os, v_web, x_web, v_looks, x_looks, x_kind, rfl, w0, r_web, r_looks, hm⟩ := h
    have sF : Same F0 F0 := Same.refl _
    obtain ⟨a1, u1, z1, rfl, q1, r1a, r1b⟩ := r_web
    obtain rfl : u1 = V.int x_web.1 := r1a
    obtain ⟨a2, vs2, rfl, q2, h2⟩ := r1b
    obtain ⟨a3, vs3, rfl, q3, h3⟩ := r_looks
    refine ⟨_, (pss_cons (ps_expr (pe_call (ok_looks_asked T) (hr.mono (by decide)) (by rfl) T.d26.mg T.d26.fn.kp T.d26.b .nil pass0 (pa_cons (pv 0) (pa_cons (pv 1) pa_nil)))) (pss_one (ps_ret (pe_lc (own := [("things", 3)]) (g := gName 3) (by rfl) sc_likes_by.nd (pi_valuesT (pe_call (ok_by_code T) (hr.mono (by decide)) (by rfl) T.d28.mg T.d28.fn.kp T.d28.b .nil pass0 (pa_cons (pv 0) (pa_cons (pv 1) (pa_cons (pv 2) pa_nil))))) (blkOk_by (own := [("things", 3)]) (N := ["web", "looks", "kind", "things"]) (sc := defScope s_likes_by) (by decide +kernel)) (fun _ _ _ _ _ => (pg_name (i := 3) sc_likes_by.nd rfl (Or.inl rfl))) (fun _ _ _ _ _ => (pts_one (pt_cmp (pc_gt (pe_callB (call_lenN (K := K) rfl) (by rfl) T.n_len (by decide +kernel) (pa_cons (pv 3) pa_nil)) pe_int)))) (fun _ _ _ _ _ => (pv 3)))))), ?_⟩
    refine ⟨_, rfl, _, rfl, _, _, _, (x_web : (Int × (Tup (Int × Int)))), _, (x_looks : (List Int)), rfl, w0, (rep_pair q1 rep_i (rep_tup q2 h2)), (rep_lst q3 h3), ?_⟩
    refine (post_bind hm).mono (fun y4 hm v4 F4 H4 w4 s4 r4 => ?_) (fun _ z => z)
    replace q1 := s4 _ _ q1
    replace q2 := s4 _ _ q2
    replace h2 := A2.mono s4 h2
    replace q3 := s4 _ _ q3
    replace h3 := A2.mono s4 h3
    replace sF := sF.trans s4
    obtain rfl : v4 = V.non := r4
    refine ⟨_, rfl, _, rfl, _, rfl, _, _, _, (x_web : (Int × (Tup (Int × Int)))), _, (x_looks : (List Int)), _, rfl, w4, (rep_pair q1 rep_i (rep_tup q2 h2)), (rep_lst q3 h3), ?_⟩
    refine (post_bind hm).mono (fun y5 hm p5 us5 as5 vss5 F5 H5 w5 s5 g5 gs5 => ?_) (fun _ z => z)
    replace q1 := s5 _ _ q1
    replace h2 := A2.mono s5 h2
    replace q2 := s5 _ _ q2
    replace h3 := A2.mono s5 h3
    replace q3 := s5 _ _ q3
    replace sF := sF.trans s5
    have w8 : W F5 _ ((p5, .dT us5) :: (nz as5 vss5 ++ os)) := w5.nback (pre := [])
    refine ⟨_, _, rfl, (w8.get (pre := [])), fun od9 => ?_⟩
    have w9 : W F5 _ ((p5, (.frz od9 (.dT us5))) :: (nz as5 vss5 ++ os)) := w8.set (pre := [])
    refine fun D10 nD10 => ?_
    refine lcG (tw_valsT (d := p5) (o := od9) g5) hm (fun (g10 : (List (List Thing))) F' os' us ys => ∃ (as10_0 : List Addr) (vs10_0 : List (List V)), os' = (p5, (.frz od9 (.dT us5))) :: (nz as10_0 vs10_0 ++ os) ∧ as5 <+: as10_0 ∧ Sto K F' as10_0 vs10_0 g10 ∧ A2 (RX as10_0) us ys) w9 ⟨_, _, rfl, pfx_refl, gs5, .nil⟩ nD10 (fun _ _ _ _ _ o => by obtain ⟨_, _, rfl, _, _, h⟩ := o; exact h.length) (fun g F' H' os' acc ys s w o => by obtain ⟨_, _, rfl, _, _, _⟩ := o; exact w.get (pre := [_])) ?_ ?_
    · -- one turn
      intro b10 g10 x10 F10 H10 H10' os10 acc10 ya10 N10 M10 P10 s10 w10 o10 y10 hN10 hM10 hm
      obtain ⟨as10_0, vs10_0, rfl, p10_0, h10_0, ha10⟩ := o10
      replace q1 := s10 _ _ q1
      replace h2 := A2.mono s10 h2
      replace q2 := s10 _ _ q2
      replace h3 := A2.mono s10 h3
      replace q3 := s10 _ _ q3
      replace sF := sF.trans s10
      replace g5 := AD.imp (fun _ _ => RX.mono p10_0) g5
      obtain ⟨rfl, r12⟩ := y10
      replace r12 := RX.mono p10_0 r12
      obtain ⟨a13, rfl, q13⟩ := r12
      obtain ⟨x14, e14, hm⟩ := pb_getS hm
      obtain ⟨vs14, i14, h14⟩ := Sto.getq h10_0 e14 q13
      refine ⟨rfl, _, rfl, _, _, _, rfl, .inl (SqL.of (W.nget (pre := [_, _]) w10 q13 i14)), h14.length, _, _, rfl, rfl, _, rfl, ?_⟩
      refine post_ite hm (fun k15 hm => ?_) (fun k15 hm => ?_)
      · skip
        exact ⟨_, rfl, hN10 _ _ (post_ok hm) _ _ _ _ w10 (Same.refl _) ⟨_, _, rfl, p10_0, h10_0, A2.snoc ha10 ⟨_, rfl, q13⟩⟩⟩
      · skip
        exact hM10 _ (post_ok hm) _ _ _ w10 (Same.refl _) ⟨_, _, rfl, p10_0, h10_0, ha10⟩
    intro g10 us10 F10 H10 os10 ys10 s10 w10 o10 hm
    obtain ⟨as10_0, vs10_0, rfl, p10_0, h10_0, gg10⟩ := o10
    replace q1 := s10 _ _ q1
    replace h2 := A2.mono s10 h2
    replace q2 := s10 _ _ q2
    replace h3 := A2.mono s10 h3
    replace q3 := s10 _ _ q3
    replace sF := sF.trans s10
    replace g5 := AD.imp (fun _ _ => RX.mono p10_0) g5
    obtain ⟨xss17, e17, hm⟩ := pb_deref hm
    obtain ⟨F17a, s17a, w17a, q17⟩ : ∃ F', Same F10 F' ∧ W F' _ ((p5, (.frz od9 (.dT us5))) :: (nz as10_0 vs10_0 ++ os)) ∧ F' D10 = some (.lst us10) := w10.freezeE (pre := [])
    obtain ⟨F17, s17b, w17, f17⟩ : ∃ F', Same F17a F' ∧ W F' _ ((p5, (.frz od9 (.dT us5))) :: os) ∧ ∀ (j : Nat) (a : Addr) (vs : List V), as10_0[j]? = some a → vs10_0[j]? = some vs → F' a = some (.lst vs) := W.nfreeze (pre := [_]) w17a
    replace q17 := s17b _ _ q17
    have s17 : Same F10 F17 := s17a.trans s17b
    have h17 : A2 (rep K F17) us10 xss17 := deref_rep h10_0 f17 s17 gg10 e17
    replace q1 := s17 _ _ q1
    replace h2 := A2.mono s17 h2
    replace q2 := s17 _ _ q2
    replace h3 := A2.mono s17 h3
    replace q3 := s17 _ _ q3
    replace sF := sF.trans s17
    have w18 : W F17 _ (os) := w17.drop (pre := [])
    exact (post_ok hm) _ _ _ w18 sF (rep_lst q17 h17)
def sp_is_known (K : Fg) : Sp := fun vs H Q E => ∃ (F : Hp) (os : List (Addr × HO)) (v_web : V) (x_web : (Int × (Tup (Int × Int)))) (v_looks : V) (x_looks : (List Int)) (x_kind : Str), vs = [v_web, v_looks, .str x_kind] ∧ W F H (os) ∧ rep K F v_web x_web ∧ rep K F v_looks x_looks ∧ Post (is_known x_web x_looks x_kind) (Ret K F os Q) noX
theorem sc_is_known : FnScope ["web", "looks", "kind"] ["web", "looks", "kind"] (defScope s_is_known) := ⟨rfl, rfl, rfl, by decide +kernel, rfl, by decide +kernel, by decide +kernel⟩
theorem ok_is_known (T : Tx K mg A FD) : FnOk P w K mg base CX0 6 (A 30) (FD 30) ["web", "looks", "kind"] (sp_is_known K) := by
  refine T.d30.fn.ok sc_is_known (fun vs H Q E h => ?_) (fun cdv Ar outer s H vs Q E hr h => ?_)
  · obtain ⟨F, os, v_web, x_web, v_looks, x_looks, x_kind, rfl, _⟩ := h
    rfl
  · obtain ⟨F0, os, v_web, x_web, v_looks, x_looks, x_kind, rfl, w0, r_web, r_looks, hm⟩ := h
    have sF : Same F0 F0 := Same.refl _
    obtain ⟨a1, u1, z1, rfl, q1, r1a, r1b⟩ := r_web
    obtain rfl : u1 = V.int x_web.1 := r1a
    obtain ⟨a2, vs2, rfl, q2, h2⟩ := r1b
    obtain ⟨a3, vs3, rfl, q3, h3⟩ := r_looks
    refine ⟨_, (pss_one (ps_ret (pe_cmpR (op_eqDt (K := K) rfl (List (List Thing)) (by decide) hr.units) (pe_call (ok_likes_by T) (hr.mono (by decide)) (by rfl) T.d29.mg T.d29.fn.kp T.d29.b .nil pass0 (pa_cons (pv 0) (pa_cons (pv 1) (pa_cons (pv 2) pa_nil)))) (pe_lst pa_nil) (nomark _)))), ?_⟩
    refine ⟨_, rfl, _, rfl, _, rfl, _, _, _, (x_web : (Int × (Tup (Int × Int)))), _, (x_looks : (List Int)), _, rfl, w0, (rep_pair q1 rep_i (rep_tup q2 h2)), (rep_lst q3 h3), ?_⟩
    refine (post_bind hm).mono (fun y4 hm v4 F4 H4 w4 s4 r4 => ?_) (fun _ z => z)
    replace q1 := s4 _ _ q1
    replace q2 := s4 _ _ q2
    replace h2 := A2.mono s4 h2
    replace q3 := s4 _ _ q3
    replace h3 := A2.mono s4 h3
    replace sF := sF.trans s4
    obtain ⟨a5, vs5, rfl, q5, h5⟩ := r4
    have h6 : A2 (rep K F4) [] ([] : (List (List Thing))) := .nil
    refine ⟨(by show 0 ≤ sizeLine; decide), fun p7 n7 => ?_⟩
    have w7 : W F4 _ ((p7, .lst []) :: os) := w4.new n7
    have w8 : W F4 _ (os) := w7.drop (pre := [])
    exact ⟨(y4 : (List (List Thing))), (([] : (List (List Thing))) : (List (List Thing))), (Rep.mono w7.same (rep_lst q5 h5)), (rep_own (pre := []) w7 h6), (post_ok hm) _ _ _ w8 sF rep_b⟩
def sp_law_cell_at (K : Fg) : Sp := fun vs H Q E => ∃ (F : Hp) (os : List (Addr × HO)) (v_script : V) (x_script : Scr) (x_k : Int), vs = [v_script, .int x_k] ∧ W F H (os) ∧ rep K F v_script x_script ∧ Post (law_cell_at x_script x_k) (Ret K F os Q) noX
theorem sc_law_cell_at : FnScope ["script", "k", "cell"] ["script", "k"] (defScope s_law_cell_at) := ⟨rfl, rfl, rfl, by decide +kernel, rfl, by decide +kernel, by decide +kernel⟩
theorem ok_law_cell_at (T : Tx K mg A FD) : FnOk P w K mg base CX0 1 (A 32) (FD 32) ["script", "k"] (sp_law_cell_at K) := by
  refine T.d32.fn.ok sc_law_cell_at (fun vs H Q E h => ?_) (fun cdv Ar outer s H vs Q E hr h => ?_)
  · obtain ⟨F, os, v_script, x_script, x_k, rfl, _⟩ := h
    rfl
  · obtain ⟨F0, os, v_script, x_script, x_k, rfl, w0, r_script, hm⟩ := h
    have sF : Same F0 F0 := Same.refl _
    obtain ⟨a1, rfl, q1⟩ := r_script
    have h1 : A2 (rep K F0) (x_script.l.map V.int) x_script.l := A2.of_ints
    refine ⟨_, (pss_cons (ps_if (pt_cmp (pc_lt (pv 1) (pe_callB (call_lenN (K := K) rfl) (by rfl) T.n_len (by decide +kernel) (pa_cons (pv 0) pa_nil)))) (pss_one (ps_ret (pe_ix (ix_listK (K := K) rfl) (pv 0) (pv 1) (fun _ _ => rfl)))) pss_nil) (pss_cons (ps_set (i := 2) sc_law_cell_at.nd rfl (Or.inl rfl) pe_int1) (pss_cons (ps_if (pt_cmpR (op_neDt (K := K) rfl Scr (by decide) hr.units) (pv 0) (pe_lst pa_nil) (nomark _)) (pss_one (ps_set (i := 2) sc_law_cell_at.nd rfl (Or.inl rfl) (pe_op op_mod (pe_ix (ix_listK (K := K) rfl) (pv 0) (pe_op op_mod (pv 1) (pe_callB (call_lenN (K := K) rfl) (by rfl) T.n_len (by decide +kernel) (pa_cons (pv 0) pa_nil))) (fun _ _ => rfl)) pe_int))) pss_nil) (pss_one (ps_ret (pe_op op_add (pe_op op_add (pv 2) (pe_op op_mul pe_int (pv 1))) pe_int)))))), ?_⟩
    refine ⟨_, rfl, _, rfl, _, _, _, rfl, .inl (w0.same.seq q1), h1.length, _, _, rfl, rfl, _, rfl, ?_⟩
    refine post_ite hm (fun k2 hm => ?_) (fun k2 hm => ?_)
    · skip
      obtain ⟨t3, e3, hm⟩ := pb_get hm
      obtain ⟨u3, f3, r3⟩ := A2.at h1 e3
      obtain rfl : u3 = V.int t3 := r3
      exact ⟨_, rfl, _, rfl, _, _, _, _, rfl, rfl, w0.same.seq q1, f3, (post_ok hm) _ _ _ w0 sF rep_i⟩
    · skip
      refine ⟨trivial, ?_⟩
      refine stepN ?_
      try dsimp only
      refine joinS hm (fun (g4 : Int) σ H' => ∃ (F' : Hp), σ = [some (.ref a1), some (.int x_k), some (.int g4)] ∧ Same F0 F' ∧ W F' H' (os)) ?_ ?_
      · intro N4 P4 hN4 hm
        have h5 : A2 (rep K F0) [] ([] : (List Int)) := .nil
        refine ⟨_, rfl, (by show 0 ≤ sizeLine; decide), fun p6 n6 => ?_⟩
        have w6 : W F0 _ ((p6, .lst []) :: os) := w0.new n6
        refine ⟨(x_script : Scr), (⟨([] : (List Int))⟩ : Scr), (Rep.mono w6.same ⟨_, rfl, q1⟩), ⟨_, rfl, SqL.of (w6.get (pre := []))⟩, _, rfl, ?_⟩
        have w7 : W F0 _ (os) := w6.drop (pre := [])
        refine post_ite hm (fun k8 hm => ?_) (fun k8 hm => ?_)
        · skip
          obtain ⟨c9, hm⟩ := pb_mod hm
          obtain ⟨t10, e10, hm⟩ := pb_get hm
          obtain ⟨u10, f10, r10⟩ := A2.at h1 e10
          obtain rfl : u10 = V.int t10 := r10
          exact ⟨_, rfl, _, rfl, _, rfl, _, _, _, rfl, .inl (w7.same.seq q1), h1.length, _, _, rfl, rfl, c9, _, _, _, _, rfl, rfl, w7.same.seq q1, f10, _, _, rfl, rfl, (by show (0 : Int) < (1000003 : Int); decide), hN4 _ (post_ok hm) _ _ ⟨_, rfl, Same.refl _, w7⟩⟩
        · skip
          exact hN4 _ (post_ok hm) _ _ ⟨_, rfl, Same.refl _, w7⟩
      intro g4 σ4 H4 hI hm
      obtain ⟨F4, rfl, s4, w4⟩ := hI
      replace h1 := A2.mono s4 h1
      replace q1 := s4.seq q1
      replace sF := sF.trans s4
      exact ⟨_, rfl, _, rfl, _, _, rfl, rfl, (.inl (by constructor <;> decide)), _, _, rfl, rfl, _, _, rfl, rfl, (post_ok hm) _ _ _ w4 sF rep_i⟩
def sp_law_folded (K : Fg) : Sp := fun vs H Q E => ∃ (F : Hp) (os : List (Addr × HO)) (v_script : V) (x_script : Scr) (x_many : Int), vs = [v_script, .int x_many] ∧ W F H (os) ∧ rep K F v_script x_script ∧ Post (law_folded x_script x_many) (RetL K F os Q) noX
theorem sc_law_folded : FnScope ["script", "many", "cells", "k", "at"] ["script", "many"] (defScope s_law_folded) := ⟨rfl, rfl, rfl, by decide +kernel, rfl, by decide +kernel, by decide +kernel⟩
theorem ok_law_folded (T : Tx K mg A FD) : FnOk P w K mg base CX0 2 (A 33) (FD 33) ["script", "many"] (sp_law_folded K) := by
  refine T.d33.fn.ok sc_law_folded (fun vs H Q E h => ?_) (fun cdv Ar outer s H vs Q E hr h => ?_)
  · obtain ⟨F, os, v_script, x_script, x_many, rfl, _⟩ := h
    rfl
  · obtain ⟨F0, os, v_script, x_script, x_many, rfl, w0, r_script, hm⟩ := h
    have sF : Same F0 F0 := Same.refl _
    obtain ⟨a1, rfl, q1⟩ := r_script
    have h1 : A2 (rep K F0) (x_script.l.map V.int) x_script.l := A2.of_ints
    refine ⟨_, (pss_cons (ps_setLc (i := 2) (own := [("k", 3)]) (g := gName 3) (by rfl) sc_law_folded.nd rfl rfl (sw_true rfl rfl rfl (by decide +kernel)) (pi_range1 (by rfl) T.n_range (pa_cons (pv 1) pa_nil)) (blkOk_by (own := [("k", 3)]) (N := ["script", "many", "cells", "k", "at"]) (sc := defScope s_law_folded) (by decide +kernel)) (fun _ _ _ _ _ => (pg_name (i := 3) sc_law_folded.nd rfl (Or.inl rfl))) (fun _ _ _ _ _ => pts_nil) (fun _ _ _ _ _ => (pe_call (ok_law_cell_at T) (hr.mono (by decide)) (by rfl) T.d32.mg T.d32.fn.kp T.d32.b .nil pass0 (pa_cons (pv 0) (pa_cons (pv 3) pa_nil))))) (pss_cons (ps_for PassesOwn.never rfl (pi_range2 (by rfl) T.n_range (pa_cons (pv 1) (pa_cons (pe_callB (call_lenN (K := K) rfl) (by rfl) T.n_len (by decide +kernel) (pa_cons (pv 0) pa_nil)) pa_nil))) (pg_name (i := 3) sc_law_folded.nd rfl (Or.inl rfl)) (pss_cons (ps_set (i := 4) sc_law_folded.nd rfl (Or.inl rfl) (pe_op op_mod (pv 3) (pv 1))) (pss_one (ps_asg (pe_op op_mod (pe_op op_add (pe_op op_mul (pe_op op_mod (pe_ix (ix_listK (K := K) rfl) (pv 2) (pv 4) (fun _ _ => rfl)) (pe_op op_pow pe_int pe_int)) pe_int) (pe_ix (ix_listK (K := K) rfl) (pv 0) (pv 3) (fun _ _ => rfl))) (pe_op op_add (pe_op op_pow pe_int pe_int) pe_int)) (pg_sub (pv 2) (pv 4) set_list))))) (pss_one (ps_ret (pv 2))))), ?_⟩
    obtain ⟨c2, hm⟩ := pb_rng hm
    refine ⟨_, rfl, _, rfl, c2.2.2.1, c2.2.2.2, fun D3 nD3 => ?_⟩
    refine lcM (K := K) (tw_rng0 (j := x_many)) hm w0 nD3 (fun F' H' acc s w => trivial) ?_ ?_
    · -- one turn
      intro b3 x3 F3 H3 H3' acc3 N3 P3 s3 w3 y3 hN3 hm
      replace q1 := s3.seq q1
      replace h1 := A2.mono s3 h1
      replace sF := sF.trans s3
      obtain ⟨rfl, rfl⟩ := y3
      refine ⟨rfl, _, rfl, _, rfl, _, _, _, (x_script : Scr), _, rfl, w3, ⟨_, rfl, q1⟩, ?_⟩
      refine (post_bind hm).mono (fun y5 hm v5 F5 H5 w5 s5 r5 => ?_) (fun _ z => z)
      replace q1 := s5.seq q1
      replace h1 := A2.mono s5 h1
      replace sF := sF.trans s5
      obtain rfl : v5 = V.int y5 := r5
      exact hN3 _ (post_ok hm) _ _ _ w5 s5 rep_i
    intro us3 F3 H3 ys3 s3 w3 gg3 hm
    replace q1 := s3.seq q1
    replace h1 := A2.mono s3 h1
    replace sF := sF.trans s3
    obtain ⟨c8, hm⟩ := pb_rng hm
    refine ⟨_, rfl, _, rfl, _, _, _, rfl, .inl (w3.same.seq q1), h1.length, _, _, rfl, c8, ?_⟩
    refine forS (tw_rng (i := x_many) (j := (x_script.l.length : Int))) hm (fun (g7 : (List Int)) σ H' => ∃ (F' : Hp) (vs7_0 : List V) (o7_4 : Option V) (o7_3 : Option V), σ = [some (.ref a1), some (.int x_many), some (.ref D3), o7_3, o7_4] ∧ Same F3 F' ∧ W F' H' ((D3, .lst vs7_0) :: os) ∧ A2 (rep K F') vs7_0 g7) ⟨_, _, _, _, rfl, Same.refl _, w3, gg3⟩ (fun _ _ _ _ => trivial) ?_ ?_
    · -- a turn
      intro b7 g7 x7 σ7 H7 H7' N7 P7 hI hy hN7 hm
      obtain ⟨F7, vs7_0, o7_4, o7_3, rfl, s7, w7, h7_0⟩ := hI
      replace h1 := A2.mono s7 h1
      replace q1 := s7.seq q1
      replace sF := sF.trans s7
      obtain ⟨rfl, rfl⟩ := hy
      obtain ⟨c9, hm⟩ := pb_mod hm
      obtain ⟨t10, e10, hm⟩ := pb_get hm
      obtain ⟨u10, f10, r10⟩ := A2.at h7_0 e10
      obtain rfl : u10 = V.int t10 := r10
      obtain ⟨t14, e14, hm⟩ := pb_get hm
      obtain ⟨u14, f14, r14⟩ := A2.at h1 e14
      obtain rfl : u14 = V.int t14 := r14
      obtain ⟨j17, l17, z17, e17, hm⟩ := pn_set hm
      refine ⟨_, rfl, _, rfl, _, _, rfl, rfl, c9, _, rfl, _, rfl, _, _, _, _, rfl, rfl, SqL.of (w7.get (pre := [])), f10, _, _, rfl, rfl, (by refine ⟨?_, ?_, ?_⟩ <;> decide), _, _, rfl, rfl, (by show (0 : Int) < ((10 : Int) ^ ((60 : Int) : Int).toNat); decide), _, _, rfl, rfl, (.inr (by constructor <;> decide)), _, rfl, _, rfl, _, _, _, _, rfl, rfl, w7.same.seq q1, f14, _, _, rfl, rfl, _, _, rfl, rfl, (by refine ⟨?_, ?_, ?_⟩ <;> decide), _, _, rfl, rfl, _, _, rfl, rfl, (by show (0 : Int) < (((10 : Int) ^ ((60 : Int) : Int).toNat) + (7 : Int)); decide), _, rfl, _, rfl, _, _, _, _, rfl, rfl, (w7.get (pre := [])), (A2.ix h7_0 z17), ?_⟩
      have h17 : A2 (rep K F7) (vs7_0.set j17 (V.int ((((t10 % ((10 : Int) ^ ((60 : Int) : Int).toNat)) * (48271 : Int)) + t14) % (((10 : Int) ^ ((60 : Int) : Int).toNat) + (7 : Int))))) l17 := e17 ▸ A2.set rep_i j17 h7_0
      have w18 : W F7 _ ((D3, .lst (vs7_0.set j17 (V.int ((((t10 % ((10 : Int) ^ ((60 : Int) : Int).toNat)) * (48271 : Int)) + t14) % (((10 : Int) ^ ((60 : Int) : Int).toNat) + (7 : Int)))))) :: os) := w7.set (pre := [])
      exact hN7 _ (post_ok hm) _ _ ⟨_, _, _, _, rfl, s7, w18, h17⟩
    intro g7 σ7 H7 hI hm
    obtain ⟨F7, vs7_0, o7_4, o7_3, rfl, s7, w7, h7_0⟩ := hI
    replace h1 := A2.mono s7 h1
    replace q1 := s7.seq q1
    replace sF := sF.trans s7
    exact ⟨_, rfl, (post_ok hm) _ _ _ _ w7 sF h7_0⟩
def sp_law_state (K : Fg) : Sp := fun vs H Q E => ∃ (F : Hp) (os : List (Addr × HO)) (x_cell : Int), vs = [.int x_cell] ∧ W F H (os) ∧ Post (law_state x_cell) (RetL K F os Q) noX
theorem sc_law_state : FnScope ["cell", "left"] ["cell"] (defScope s_law_state) := ⟨rfl, rfl, rfl, by decide +kernel, rfl, by decide +kernel, by decide +kernel⟩
theorem ok_law_state (T : Tx K mg A FD) : FnOk P w K mg base CX0 1 (A 34) (FD 34) ["cell"] (sp_law_state K) := by
  refine T.d34.fn.ok sc_law_state (fun vs H Q E h => ?_) (fun cdv Ar outer s H vs Q E hr h => ?_)
  · obtain ⟨F, os, x_cell, rfl, _⟩ := h
    rfl
  · obtain ⟨F0, os, x_cell, rfl, w0, hm⟩ := h
    have sF : Same F0 F0 := Same.refl _
    refine ⟨_, (pss_cons (ps_set (i := 1) sc_law_state.nd rfl (Or.inl rfl) pe_int1) (pss_cons (ps_if (pt_cmp (pc_ge (pv 0) (pe_op op_pow pe_int pe_int))) (pss_one (ps_set (i := 1) sc_law_state.nd rfl (Or.inl rfl) (pv 0))) pss_nil) (pss_one (ps_ret (pe_lst (pa_cons (pv 1) (pa_cons (pe_op op_mod (pe_op op_mul (pe_op op_add (pe_op op_mod (pv 0) pe_int) pe_int) pe_int) pe_int) pa_nil))))))), ?_⟩
    refine ⟨trivial, ?_⟩
    refine stepN ?_
    try dsimp only
    refine joinS hm (fun (g1 : Int) σ H' => ∃ (F' : Hp), σ = [some (.int x_cell), some (.int g1)] ∧ Same F0 F' ∧ W F' H' (os)) ?_ ?_
    · intro N1 P1 hN1 hm
      refine ⟨_, rfl, _, _, rfl, rfl, (by refine ⟨?_, ?_, ?_⟩ <;> decide), _, _, rfl, rfl, _, rfl, ?_⟩
      refine post_ite hm (fun k3 hm => ?_) (fun k3 hm => ?_)
      · skip
        exact ⟨_, rfl, hN1 _ (post_ok hm) _ _ ⟨_, rfl, Same.refl _, w0⟩⟩
      · skip
        exact hN1 _ (post_ok hm) _ _ ⟨_, rfl, Same.refl _, w0⟩
    intro g1 σ1 H1 hI hm
    obtain ⟨F1, rfl, s1, w1⟩ := hI
    replace sF := sF.trans s1
    have h7 : A2 (rep K F1) [(.int g1), (.int ((((x_cell % (2147483629 : Int)) + (11 : Int)) * (48271 : Int)) % (2147483647 : Int)))] ([g1, ((((x_cell % (2147483629 : Int)) + (11 : Int)) * (48271 : Int)) % (2147483647 : Int))] : (List Int)) := .cons rep_i (.cons rep_i (.nil))
    refine ⟨_, rfl, _, rfl, _, _, rfl, rfl, (by show (0 : Int) < (2147483629 : Int); decide), _, _, rfl, rfl, _, _, rfl, rfl, (.inr (by constructor <;> decide)), _, _, rfl, rfl, (by show (0 : Int) < (2147483647 : Int); decide), (by show 2 ≤ sizeLine; decide), fun p8 n8 => ?_⟩
    have w8 : W F1 _ ((p8, .lst [(.int g1), (.int ((((x_cell % (2147483629 : Int)) + (11 : Int)) * (48271 : Int)) % (2147483647 : Int)))]) :: os) := w1.new n8
    exact (post_ok hm) _ _ _ _ w8 sF h7
def sp_law_next (K : Fg) : Sp := fun vs H Q E => ∃ (F : Hp) (os : List (Addr × HO)) (a_state : Addr) (vs_state : List V) (x_state : (List Int)) (x_many : Int), vs = [.ref a_state, .int x_many] ∧ W F H ((a_state, .lst vs_state) :: os) ∧ A2 (rep K F) vs_state x_state ∧ Post (law_next x_state x_many) (RetM K F a_state os Q) noX
theorem sc_law_next : FnScope ["state", "many", "found"] ["state", "many"] (defScope s_law_next) := ⟨rfl, rfl, rfl, by decide +kernel, rfl, by decide +kernel, by decide +kernel⟩
theorem ok_law_next (T : Tx K mg A FD) : FnOk P w K mg base CX0 1 (A 35) (FD 35) ["state", "many"] (sp_law_next K) := by
  refine T.d35.fn.ok sc_law_next (fun vs H Q E h => ?_) (fun cdv Ar outer s H vs Q E hr h => ?_)
  · obtain ⟨F, os, a_state, vs_state, x_state, x_many, rfl, _⟩ := h
    rfl
  · obtain ⟨F0, os, a_state, vs_state, x_state, x_many, rfl, w0, h_state, hm⟩ := h
    have sF : Same F0 F0 := Same.refl _
    refine ⟨_, (pss_cons (ps_if (pt_cmp (pc_gt (pe_ix (ix_listK (K := K) rfl) (pv 0) pe_int (fun _ _ => rfl)) pe_int)) (pss_cons (ps_set (i := 2) sc_law_next.nd rfl (Or.inl rfl) (pe_op op_mod (pe_ix (ix_listK (K := K) rfl) (pv 0) pe_int (fun _ _ => rfl)) (pv 1))) (pss_cons (ps_asg (pe_op op_fdivW (pe_ix (ix_listK (K := K) rfl) (pv 0) pe_int (fun _ _ => rfl)) (pv 1)) (pg_sub (pv 0) pe_int set_list)) (pss_one (ps_ret (pv 2))))) pss_nil) (pss_cons (ps_asg (pe_op op_mod (pe_op op_add (pe_op op_mul (pe_ix (ix_listK (K := K) rfl) (pv 0) pe_int (fun _ _ => rfl)) pe_int) pe_int) pe_int) (pg_sub (pv 0) pe_int set_list)) (pss_one (ps_ret (pe_op op_mod (pe_op op_fdiv (pe_op op_mod (pe_op op_mul (pe_ix (ix_listK (K := K) rfl) (pv 0) pe_int (fun _ _ => rfl)) (pe_ix (ix_listK (K := K) rfl) (pv 0) pe_int (fun _ _ => rfl))) pe_int) pe_int) (pv 1)))))), ?_⟩
    obtain ⟨t2, e2, hm⟩ := pb_get hm
    obtain ⟨u2, f2, r2⟩ := A2.at h_state e2
    obtain rfl : u2 = V.int t2 := r2
    refine ⟨_, rfl, _, _, _, _, rfl, rfl, SqL.of (w0.get (pre := [])), f2, _, _, rfl, rfl, _, rfl, ?_⟩
    refine post_ite hm (fun k3 hm => ?_) (fun k3 hm => ?_)
    · skip
      obtain ⟨t4, e4, hm⟩ := pb_get hm
      obtain ⟨u4, f4, r4⟩ := A2.at h_state e4
      obtain rfl : u4 = V.int t4 := r4
      obtain ⟨c5, hm⟩ := pb_mod hm
      obtain ⟨t6, e6, hm⟩ := pb_get hm
      obtain ⟨u6, f6, r6⟩ := A2.at h_state e6
      obtain rfl : u6 = V.int t6 := r6
      obtain ⟨c7, hm⟩ := pb_div hm
      obtain ⟨j8, l8, z8, e8, hm⟩ := pn_set hm
      refine ⟨_, rfl, _, _, _, _, rfl, rfl, SqL.of (w0.get (pre := [])), f4, _, rfl, _, _, rfl, rfl, c5, _, rfl, _, _, _, _, rfl, rfl, SqL.of (w0.get (pre := [])), f6, _, rfl, _, _, rfl, rfl, c7, _, rfl, _, _, _, _, rfl, rfl, (w0.get (pre := [])), (A2.ix h_state z8), ?_⟩
      have h8 : A2 (rep K F0) (vs_state.set j8 (V.int (t6 / x_many))) l8 := e8 ▸ A2.set rep_i j8 h_state
      have w9 : W F0 _ ((a_state, .lst (vs_state.set j8 (V.int (t6 / x_many)))) :: os) := w0.set (pre := [])
      exact ⟨_, rfl, (post_ok hm) _ _ _ _ w9 sF rep_i h8⟩
    · skip
      obtain ⟨t10, e10, hm⟩ := pb_get hm
      obtain ⟨u10, f10, r10⟩ := A2.at h_state e10
      obtain rfl : u10 = V.int t10 := r10
      obtain ⟨j13, l13, z13, e13, hm⟩ := pn_set hm
      refine ⟨_, rfl, _, _, _, _, rfl, rfl, SqL.of (w0.get (pre := [])), f10, _, _, rfl, rfl, (.inr (by constructor <;> decide)), _, _, rfl, rfl, _, _, rfl, rfl, (by show (0 : Int) < (2147483647 : Int); decide), _, rfl, _, _, _, _, rfl, rfl, (w0.get (pre := [])), (A2.ix h_state z13), ?_⟩
      have h13 : A2 (rep K F0) (vs_state.set j13 (V.int (((t10 * (69621 : Int)) + (40692 : Int)) % (2147483647 : Int)))) l13 := e13 ▸ A2.set rep_i j13 h_state
      have w14 : W F0 _ ((a_state, .lst (vs_state.set j13 (V.int (((t10 * (69621 : Int)) + (40692 : Int)) % (2147483647 : Int))))) :: os) := w0.set (pre := [])
      obtain ⟨t15, e15, hm⟩ := pb_get hm
      obtain ⟨u15, f15, r15⟩ := A2.at h13 e15
      obtain rfl : u15 = V.int t15 := r15
      obtain ⟨t16, e16, hm⟩ := pb_get hm
      obtain ⟨u16, f16, r16⟩ := A2.at h13 e16
      obtain rfl : u16 = V.int t16 := r16
      obtain ⟨c17, hm⟩ := pb_mul hm
      obtain ⟨c20, hm⟩ := pb_mod hm
      exact ⟨_, rfl, _, _, _, _, rfl, rfl, SqL.of (w14.get (pre := [])), f15, _, rfl, _, _, _, _, rfl, rfl, SqL.of (w14.get (pre := [])), f16, _, _, rfl, rfl, c17, _, _, rfl, rfl, (by show (0 : Int) < (2147483629 : Int); decide), _, _, rfl, rfl, (by constructor <;> decide), _, rfl, _, _, rfl, rfl, c20, (post_ok hm) _ _ _ _ w14 sF rep_i h13⟩
def sp_law_great (K : Fg) : Sp := fun vs H Q E => ∃ (F : Hp) (os : List (Addr × HO)) (a_state : Addr) (vs_state : List V) (x_state : (List Int)) (x_top : Int), vs = [.ref a_state, .int x_top] ∧ W F H ((a_state, .lst vs_state) :: os) ∧ A2 (rep K F) vs_state x_state ∧ Post (law_great x_state x_top) (RetM K F a_state os Q) noX
theorem sc_law_great : FnScope ["state", "top", "found", "k"] ["state", "top"] (defScope s_law_great) := ⟨rfl, rfl, rfl, by decide +kernel, rfl, by decide +kernel, by decide +kernel⟩
theorem ok_law_great (T : Tx K mg A FD) : FnOk P w K mg base CX0 2 (A 36) (FD 36) ["state", "top"] (sp_law_great K) := by
  refine T.d36.fn.ok sc_law_great (fun vs H Q E h => ?_) (fun cdv Ar outer s H vs Q E hr h => ?_)
  · obtain ⟨F, os, a_state, vs_state, x_state, x_top, rfl, _⟩ := h
    rfl
  · obtain ⟨F0, os, a_state, vs_state, x_state, x_top, rfl, w0, h_state, hm⟩ := h
    have sF : Same F0 F0 := Same.refl _
    refine ⟨_, (pss_cons (ps_set (i := 2) sc_law_great.nd rfl (Or.inl rfl) pe_int1) (pss_cons (ps_for PassesOwn.never rfl (pi_range1 (by rfl) T.n_range (pa_cons pe_int pa_nil)) (pg_name (i := 3) sc_law_great.nd rfl (Or.inl rfl)) (pss_one (ps_set (i := 2) sc_law_great.nd rfl (Or.inl rfl) (pe_op op_add (pe_op op_mul (pv 2) (pe_op op_pow pe_int pe_int)) (pe_call (ok_law_next T) (hr.mono (by decide)) (by rfl) T.d35.mg T.d35.fn.kp T.d35.b .nil pass0 (pa_cons (pv 0) (pa_cons (pe_op op_pow pe_int pe_int) pa_nil))))))) (pss_one (ps_ret (pe_op op_mod (pv 2) (pv 1)))))), ?_⟩
    refine ⟨trivial, _, rfl, (by decide), (by decide), ?_⟩
    refine forS (tw_rng0 (j := (9 : Int))) hm (fun (g2 : Int × (List Int)) σ H' => ∃ (F' : Hp) (vs2_0 : List V) (o2_3 : Option V), σ = [some (.ref a_state), some (.int x_top), some (.int g2.1), o2_3] ∧ Same F0 F' ∧ W F' H' ((a_state, .lst vs2_0) :: os) ∧ A2 (rep K F') vs2_0 g2.2) ⟨_, _, _, rfl, Same.refl _, w0, h_state⟩ (fun _ _ _ _ => trivial) ?_ ?_
    · -- a turn
      intro b2 g2 x2 σ2 H2 H2' N2 P2 hI hy hN2 hm
      obtain ⟨F2, vs2_0, o2_3, rfl, s2, w2, h2_0⟩ := hI
      replace sF := sF.trans s2
      obtain ⟨rfl, rfl⟩ := hy
      refine ⟨_, rfl, _, _, rfl, rfl, (by refine ⟨?_, ?_, ?_⟩ <;> decide), _, _, rfl, rfl, (.inr (by constructor <;> decide)), _, rfl, _, _, rfl, rfl, (by refine ⟨?_, ?_, ?_⟩ <;> decide), _, _, _, _, _, _, rfl, w2, h2_0, ?_⟩
      refine (post_bind hm).mono (fun y6 hm v6 vs6 F6 H6 w6 s6 r6 h6 => ?_) (fun _ z => z)
      replace sF := sF.trans s6
      obtain rfl : v6 = V.int y6.1 := r6
      exact ⟨_, _, rfl, rfl, hN2 _ (post_ok hm) _ _ ⟨_, _, _, rfl, (s2.trans s6), w6, h6⟩⟩
    intro g2 σ2 H2 hI hm
    obtain ⟨F2, vs2_0, o2_3, rfl, s2, w2, h2_0⟩ := hI
    replace sF := sF.trans s2
    obtain ⟨c7, hm⟩ := pb_mod hm
    exact ⟨_, rfl, _, rfl, _, _, rfl, rfl, c7, (post_ok hm) _ _ _ _ w2 sF rep_i h2_0⟩
def sp_law_looks (K : Fg) : Sp := fun vs H Q E => ∃ (F : Hp) (os : List (Addr × HO)) (a_state : Addr) (vs_state : List V) (x_state : (List Int)) (x_many : Int) (x_most : Int), vs = [.ref a_state, .int x_many, .int x_most] ∧ W F H ((a_state, .lst vs_state) :: os) ∧ A2 (rep K F) vs_state x_state ∧ Post (law_looks x_state x_many x_most) (RetLM K F a_state os Q) noX
theorem sc_law_looks : FnScope ["state", "many", "most", "found", "k", "place"] ["state", "many", "most"] (defScope s_law_looks) := ⟨rfl, rfl, rfl, by decide +kernel, rfl, by decide +kernel, by decide +kernel⟩
theorem ok_law_looks (T : Tx K mg A FD) : FnOk P w K mg base CX0 3 (A 37) (FD 37) ["state", "many", "most"] (sp_law_looks K) := by
  refine T.d37.fn.ok sc_law_looks (fun vs H Q E h => ?_) (fun cdv Ar outer s H vs Q E hr h => ?_)
  · obtain ⟨F, os, a_state, vs_state, x_state, x_many, x_most, rfl, _⟩ := h
    rfl
  · obtain ⟨F0, os, a_state, vs_state, x_state, x_many, x_most, rfl, w0, h_state, hm⟩ := h
    have sF : Same F0 F0 := Same.refl _
    refine ⟨_, (pss_cons (ps_set (i := 3) sc_law_looks.nd rfl (Or.inl rfl) (pe_lst pa_nil)) (pss_cons (ps_for PassesOwn.never rfl (pi_range1 (by rfl) T.n_range (pa_cons (pe_call (ok_law_next T) (hr.mono (by decide)) (by rfl) T.d35.mg T.d35.fn.kp T.d35.b .nil pass0 (pa_cons (pv 0) (pa_cons (pe_op op_add (pv 2) pe_int) pa_nil))) pa_nil)) (pg_name (i := 4) sc_law_looks.nd rfl (Or.inl rfl)) (pss_cons (ps_set (i := 5) sc_law_looks.nd rfl (Or.inl rfl) (pe_ix (ix_listK (K := K) rfl) (pe_lst (pa_cons pe_int (pa_cons (pe_op op_sub (pv 1) pe_int) (pa_cons pe_int (pa_cons (pe_op op_sub (pv 1) pe_int) (pa_cons (pe_op op_fdiv (pv 1) pe_int) (pa_cons (pe_call (ok_law_great T) (hr.mono (by decide)) (by rfl) T.d36.mg T.d36.fn.kp T.d36.b .nil pass0 (pa_cons (pv 0) (pa_cons (pv 1) pa_nil))) pa_nil))))))) (pe_callB (call_min2 rfl) (by rfl) T.n_min (by decide +kernel) (pa_cons pe_int (pa_cons (pe_call (ok_law_next T) (hr.mono (by decide)) (by rfl) T.d35.mg T.d35.fn.kp T.d35.b .nil pass0 (pa_cons (pv 0) (pa_cons pe_int pa_nil))) pa_nil))) (fun _ _ => rfl))) (pss_cons (ps_if (PW.pt (pw_and (pt_cmpR (op_neDt (K := K) rfl (List Int) (by decide) hr.units) (pv 3) (pe_lst pa_nil) (nomark _)) (pw_and1 (pt_cmp (pc_eqI (pe_call (ok_law_next T) (hr.mono (by decide)) (by rfl) T.d35.mg T.d35.fn.kp T.d35.b .nil pass0 (pa_cons (pv 0) (pa_cons pe_int pa_nil))) pe_int))))) (pss_one (ps_set (i := 5) sc_law_looks.nd rfl (Or.inl rfl) (pe_op op_sub (pe_op op_add (pe_op op_add (pe_ix (ix_listK (K := K) rfl) (pv 3) (pe_un un_neg pe_int) (fun _ _ => rfl)) (pe_op op_fdiv (pv 1) pe_int)) (pe_call (ok_law_next T) (hr.mono (by decide)) (by rfl) T.d35.mg T.d35.fn.kp T.d35.b .nil pass0 (pa_cons (pv 0) (pa_cons pe_int pa_nil)))) pe_int))) pss_nil) (pss_one (ps_if (pt_cmpR (op_notInL (K := K) rfl Int (by decide) (Room.units65 hr)) (pe_op op_mod (pv 5) (pv 1)) (pv 3) (by rfl)) (pss_one (ps_expr (pe_bm PySem.F.plainAttrs_list PySem.F.slot_list_append PySem.F.type_list_append mt_append (pv 3) (pa_cons (pe_op op_mod (pv 5) (pv 1)) pa_nil)))) pss_nil))))) (pss_one (ps_ret (pe_callB (cr_sortI (K := K) rfl) (by rfl) T.n_sorted (by decide +kernel) (pa_cons (pv 3) pa_nil)))))), ?_⟩
    have h2 : A2 (rep K F0) [] ([] : (List Int)) := .nil
    refine ⟨(by show 0 ≤ sizeLine; decide), fun p3 n3 => ?_⟩
    have w3 : W F0 _ ((p3, .lst []) :: (a_state, .lst vs_state) :: os) := w0.new n3
    have w5 : W F0 _ ((a_state, .lst vs_state) :: (p3, .lst []) :: os) := w3.front (pre := [_])
    refine ⟨_, rfl, _, rfl, _, _, rfl, rfl, _, _, _, _, _, _, rfl, w5, h_state, ?_⟩
    refine (post_bind hm).mono (fun y6 hm v6 vs6 F6 H6 w6 s6 r6 h6 => ?_) (fun _ z => z)
    replace h2 := A2.mono s6 h2
    replace sF := sF.trans s6
    obtain rfl : v6 = V.int y6.1 := r6
    obtain ⟨c7, hm⟩ := pb_rng hm
    refine ⟨_, rfl, c7.2.2.1, c7.2.2.2, ?_⟩
    refine forS (tw_rng0 (j := y6.1)) hm (fun (g4 : (List Int) × (List Int)) σ H' => ∃ (F' : Hp) (vs4_0 : List V) (vs4_1 : List V) (o4_5 : Option V) (o4_4 : Option V), σ = [some (.ref a_state), some (.int x_many), some (.int x_most), some (.ref p3), o4_4, o4_5] ∧ Same F6 F' ∧ W F' H' ((a_state, .lst vs4_0) :: (p3, .lst vs4_1) :: os) ∧ A2 (rep K F') vs4_0 g4.1 ∧ A2 (rep K F') vs4_1 g4.2) ⟨_, _, _, _, _, rfl, Same.refl _, w6, h6, h2⟩ (fun _ _ _ _ => trivial) ?_ ?_
    · -- a turn
      intro b4 g4 x4 σ4 H4 H4' N4 P4 hI hy hN4 hm
      obtain ⟨F4, vs4_0, vs4_1, o4_5, o4_4, rfl, s4, w4, h4_0, h4_1⟩ := hI
      replace sF := sF.trans s4
      obtain ⟨rfl, rfl⟩ := hy
      refine ⟨_, rfl, _, _, rfl, rfl, _, rfl, _, _, rfl, rfl, _, rfl, _, _, rfl, rfl, (by constructor <;> decide), _, rfl, _, rfl, _, _, _, _, _, _, rfl, w4, h4_0, ?_⟩
      refine (post_bind hm).mono (fun y9 hm v9 vs9 F9 H9 w9 s9 r9 h9 => ?_) (fun _ z => z)
      replace h4_1 := A2.mono s9 h4_1
      replace sF := sF.trans s9
      obtain rfl : v9 = V.int y9.1 := r9
      have h10 : A2 (rep K F9) [(.int 0), (.int (x_many - (1 : Int))), (.int 1), (.int (x_many - (2 : Int))), (.int (x_many / (2 : Int))), (.int y9.1)] ([(0 : Int), (x_many - (1 : Int)), (1 : Int), (x_many - (2 : Int)), (x_many / (2 : Int)), y9.1] : (List Int)) := .cons rep_i (.cons rep_i (.cons rep_i (.cons rep_i (.cons rep_i (.cons rep_i (.nil))))))
      refine ⟨(by show 6 ≤ sizeLine; decide), fun p11 n11 => ?_⟩
      have w11 : W F9 _ ((p11, .lst [(.int 0), (.int (x_many - (1 : Int))), (.int 1), (.int (x_many - (2 : Int))), (.int (x_many / (2 : Int))), (.int y9.1)]) :: (a_state, .lst vs9) :: (p3, .lst vs4_1) :: os) := w9.new n11
      have w12 : W F9 _ ((a_state, .lst vs9) :: (p11, .lst [(.int 0), (.int (x_many - (1 : Int))), (.int 1), (.int (x_many - (2 : Int))), (.int (x_many / (2 : Int))), (.int y9.1)]) :: (p3, .lst vs4_1) :: os) := w11.front (pre := [_])
      refine ⟨_, rfl, _, _, _, _, _, _, rfl, w12, h9, ?_⟩
      refine (post_bind hm).mono (fun y13 hm v13 vs13 F13 H13 w13 s13 r13 h13 => ?_) (fun _ z => z)
      replace h4_1 := A2.mono s13 h4_1
      replace h10 := A2.mono s13 h10
      replace sF := sF.trans s13
      obtain rfl : v13 = V.int y13.1 := r13
      obtain ⟨t14, e14, hm⟩ := pb_get hm
      obtain ⟨u14, f14, r14⟩ := A2.at h10 e14
      obtain rfl : u14 = V.int t14 := r14
      have w15 : W F13 _ ((a_state, .lst vs13) :: (p3, .lst vs4_1) :: os) := w13.drop (pre := [_])
      refine ⟨_, _, rfl, _, _, _, _, rfl, rfl, SqL.of (w13.get (pre := [_])), f14, ?_⟩
      refine stepN ?_
      try dsimp only
      refine joinS hm (fun (g16 : Int × (List Int)) σ H' => ∃ (F' : Hp) (vs16_0 : List V), σ = [some (.ref a_state), some (.int x_many), some (.int x_most), some (.ref p3), some (.int b4), some (.int g16.1)] ∧ Same F13 F' ∧ W F' H' ((a_state, .lst vs16_0) :: (p3, .lst vs4_1) :: os) ∧ A2 (rep K F') vs16_0 g16.2) ?_ ?_
      · intro N16 P16 hN16 hm
        refine stepIf ?_
        refine joinT hm (fun (j17 : Bool × (List Int)) c H' => c = j17.1 ∧ ∃ (F' : Hp) (vs17_0 : List V), Same F13 F' ∧ W F' H' ((a_state, .lst vs17_0) :: (p3, .lst vs4_1) :: os) ∧ A2 (rep K F') vs17_0 j17.2) ?_ ?_
        · intro Q17 P17 q17 hm
          have h18 : A2 (rep K F13) [] ([] : (List Int)) := .nil
          refine ⟨_, rfl, (by show 0 ≤ sizeLine; decide), fun p19 n19 => ?_⟩
          have w19 : W F13 _ ((p19, .lst []) :: (a_state, .lst vs13) :: (p3, .lst vs4_1) :: os) := w15.new n19
          refine ⟨(g4.2 : (List Int)), (([] : (List Int)) : (List Int)), (rep_own (pre := [_, _]) w19 h4_1), (rep_own (pre := []) w19 h18), _, rfl, ?_⟩
          refine post_ite hm (fun k20 hm => ?_) (fun k20 hm => ?_)
          · skip
            have w21 : W F13 _ ((a_state, .lst vs13) :: (p19, .lst []) :: (p3, .lst vs4_1) :: os) := w19.front (pre := [_])
            refine ⟨_, rfl, _, _, _, _, _, _, rfl, w21, h13, ?_⟩
            refine (post_bind hm).mono (fun y22 hm v22 vs22 F22 H22 w22 s22 r22 h22 => ?_) (fun _ z => z)
            replace h4_1 := A2.mono s22 h4_1
            replace h18 := A2.mono s22 h18
            replace sF := sF.trans s22
            obtain rfl : v22 = V.int y22.1 := r22
            have w24 : W F22 _ ((a_state, .lst vs22) :: (p3, .lst vs4_1) :: os) := w22.drop (pre := [_])
            exact ⟨_, _, rfl, rfl, _, rfl, q17 _ (post_ok hm) _ _ ⟨rfl, _, _, s22, w24, h22⟩⟩
          · skip
            have w26 : W F13 _ ((a_state, .lst vs13) :: (p3, .lst vs4_1) :: os) := w19.drop (pre := [])
            exact q17 _ (post_ok hm) _ _ ⟨rfl, _, _, Same.refl _, w26, h13⟩
        intro j17 c17 H17 hc17 hm
        obtain ⟨rfl, F17, vs17_0, s17, w17, h17_0⟩ := hc17
        replace h4_1 := A2.mono s17 h4_1
        replace sF := sF.trans s17
        refine post_ite hm (fun k27 hm => ?_) (fun k27 hm => ?_)
        · skip
          obtain ⟨t28, e28, hm⟩ := pb_get hm
          obtain ⟨u28, f28, r28⟩ := A2.at h4_1 e28
          obtain rfl : u28 = V.int t28 := r28
          refine ⟨_, rfl, _, rfl, _, _, _, _, rfl, rfl, SqL.of (w17.get (pre := [_])), f28, _, rfl, _, _, rfl, rfl, (by constructor <;> decide), _, _, rfl, rfl, _, rfl, _, _, _, _, _, _, rfl, w17, h17_0, ?_⟩
          refine (post_bind hm).mono (fun y30 hm v30 vs30 F30 H30 w30 s30 r30 h30 => ?_) (fun _ z => z)
          replace h4_1 := A2.mono s30 h4_1
          replace sF := sF.trans s30
          obtain rfl : v30 = V.int y30.1 := r30
          exact ⟨_, _, rfl, rfl, _, _, rfl, rfl, hN16 _ (post_ok hm) _ _ ⟨_, _, rfl, (s17.trans s30), w30, h30⟩⟩
        · skip
          exact hN16 _ (post_ok hm) _ _ ⟨_, _, rfl, s17, w17, h17_0⟩
      intro g16 σ16 H16 hI hm
      obtain ⟨F16, vs16_0, rfl, s16, w16, h16_0⟩ := hI
      replace h4_1 := A2.mono s16 h4_1
      replace sF := sF.trans s16
      obtain ⟨c31, hm⟩ := pb_mod hm
      refine ⟨_, rfl, _, rfl, _, _, rfl, rfl, c31, _, rfl, ((g16.1 % x_many) : Int), _, rep_i, (rep_own (pre := [_]) w16 h4_1), _, rfl, ?_⟩
      refine post_ite hm (fun k32 hm => ?_) (fun k32 hm => ?_)
      · skip
        obtain ⟨c33, hm⟩ := pb_mod hm
        obtain ⟨l34, z34, e34, hm⟩ := pn_app hm
        refine ⟨_, rfl, .inl ⟨rfl, _, SqL.of (w16.get (pre := [_]))⟩, _, rfl, _, rfl, _, _, rfl, rfl, c33, _, _, _, rfl, rfl, (w16.get (pre := [_])), (A2.lt h4_1 z34), ?_⟩
        have h34 : A2 (rep K F16) (vs4_1 ++ [(V.int (g16.1 % x_many))]) l34 := e34 ▸ A2.snoc h4_1 rep_i
        have w35 : W F16 _ ((a_state, .lst vs16_0) :: (p3, .lst (vs4_1 ++ [(V.int (g16.1 % x_many))])) :: os) := w16.set (pre := [_])
        exact hN4 _ (post_ok hm) _ _ ⟨_, _, _, _, _, rfl, (s4.trans (s9.trans (s13.trans s16))), w35, h16_0, h34⟩
      · skip
        exact hN4 _ (post_ok hm) _ _ ⟨_, _, _, _, _, rfl, (s4.trans (s9.trans (s13.trans s16))), w16, h16_0, h4_1⟩
    intro g4 σ4 H4 hI hm
    obtain ⟨F4, vs4_0, vs4_1, o4_5, o4_4, rfl, s4, w4, h4_0, h4_1⟩ := hI
    replace sF := sF.trans s4
    have h36 : A2 (rep K F4) ((sortI g4.2).map V.int) (sortI g4.2) := A2.of_ints
    refine ⟨_, rfl, _, _, rfl, ints_q (SqL.of (w4.get (pre := [_]))) h4_1, fun p37 n37 => ?_⟩
    have w37 : W F4 _ ((p37, .lst ((sortI g4.2).map V.int)) :: (a_state, .lst vs4_0) :: (p3, .lst vs4_1) :: os) := w4.new n37
    have w38 : W F4 _ ((p37, .lst ((sortI g4.2).map V.int)) :: (a_state, .lst vs4_0) :: os) := w37.drop (pre := [_, _])
    exact (post_ok hm) _ _ _ _ _ w38 sF h36 h4_0
def sp_law_order (K : Fg) : Sp := fun vs H Q E => ∃ (F : Hp) (os : List (Addr × HO)) (a_state : Addr) (vs_state : List V) (x_state : (List Int)) (x_many : Int), vs = [.ref a_state, .int x_many] ∧ W F H ((a_state, .lst vs_state) :: os) ∧ A2 (rep K F) vs_state x_state ∧ Post (law_order x_state x_many) (RetLM K F a_state os Q) noX
theorem sc_law_order : FnScope ["state", "many", "found", "place"] ["state", "many"] (defScope s_law_order) := ⟨rfl, rfl, rfl, by decide +kernel, rfl, by decide +kernel, by decide +kernel⟩
theorem ok_law_order (T : Tx K mg A FD) : FnOk P w K mg base CX0 2 (A 38) (FD 38) ["state", "many"] (sp_law_order K) := by
  refine T.d38.fn.ok sc_law_order (fun vs H Q E h => ?_) (fun cdv Ar outer s H vs Q E hr h => ?_)
  · obtain ⟨F, os, a_state, vs_state, x_state, x_many, rfl, _⟩ := h
    rfl
  · obtain ⟨F0, os, a_state, vs_state, x_state, x_many, rfl, w0, h_state, hm⟩ := h
    have sF : Same F0 F0 := Same.refl _
    refine ⟨_, (pss_cons (ps_set (i := 2) sc_law_order.nd rfl (Or.inl rfl) (pe_lst pa_nil)) (pss_cons (ps_for PassesOwn.never rfl (pi_range1 (by rfl) T.n_range (pa_cons (pv 1) pa_nil)) (pg_name (i := 3) sc_law_order.nd rfl (Or.inl rfl)) (pss_one (ps_expr (pe_bm PySem.F.plainAttrs_list PySem.F.slot_list_insert PySem.F.type_list_insert mt_insert (pv 2) (pa_cons (pe_call (ok_law_next T) (hr.mono (by decide)) (by rfl) T.d35.mg T.d35.fn.kp T.d35.b .nil pass0 (pa_cons (pv 0) (pa_cons (pe_op op_add (pv 3) pe_int) pa_nil))) (pa_cons (pv 3) pa_nil)))))) (pss_one (ps_ret (pv 2))))), ?_⟩
    have h2 : A2 (rep K F0) [] ([] : (List Int)) := .nil
    refine ⟨(by show 0 ≤ sizeLine; decide), fun p3 n3 => ?_⟩
    have w3 : W F0 _ ((p3, .lst []) :: (a_state, .lst vs_state) :: os) := w0.new n3
    obtain ⟨c5, hm⟩ := pb_rng hm
    refine ⟨_, rfl, _, rfl, c5.2.2.1, c5.2.2.2, ?_⟩
    refine forS (tw_rng0 (j := x_many)) hm (fun (g4 : (List Int) × (List Int)) σ H' => ∃ (F' : Hp) (vs4_0 : List V) (vs4_1 : List V) (o4_3 : Option V), σ = [some (.ref a_state), some (.int x_many), some (.ref p3), o4_3] ∧ Same F0 F' ∧ W F' H' ((p3, .lst vs4_0) :: (a_state, .lst vs4_1) :: os) ∧ A2 (rep K F') vs4_0 g4.1 ∧ A2 (rep K F') vs4_1 g4.2) ⟨_, _, _, _, rfl, Same.refl _, w3, h2, h_state⟩ (fun _ _ _ _ => trivial) ?_ ?_
    · -- a turn
      intro b4 g4 x4 σ4 H4 H4' N4 P4 hI hy hN4 hm
      obtain ⟨F4, vs4_0, vs4_1, o4_3, rfl, s4, w4, h4_0, h4_1⟩ := hI
      replace sF := sF.trans s4
      obtain ⟨rfl, rfl⟩ := hy
      have w6 : W F4 _ ((a_state, .lst vs4_1) :: (p3, .lst vs4_0) :: os) := w4.front (pre := [_])
      refine ⟨_, rfl, .inl ⟨rfl, _, SqL.of (w4.get (pre := []))⟩, _, rfl, _, rfl, _, _, rfl, rfl, _, _, _, _, _, _, rfl, w6, h4_1, ?_⟩
      refine (post_bind hm).mono (fun y7 hm v7 vs7 F7 H7 w7 s7 r7 h7 => ?_) (fun _ z => z)
      replace h4_0 := A2.mono s7 h4_0
      replace sF := sF.trans s7
      obtain rfl : v7 = V.int y7.1 := r7
      obtain ⟨l8, z8, e8, hm⟩ := pn_ins hm
      refine ⟨_, rfl, _, _, _, _, rfl, rfl, (w7.get (pre := [_])), (line_ins h4_0 z8.1), z8.2.1, (by have := z8.2.2; omega), ?_⟩
      have h8 : A2 (rep K F7) (vs4_0.take y7.1.toNat ++ [(.int b4)] ++ vs4_0.drop y7.1.toNat) l8 := e8 ▸ A2.ins _ h4_0 rep_i
      have w9 : W F7 _ ((a_state, .lst vs7) :: (p3, .lst (vs4_0.take y7.1.toNat ++ [(.int b4)] ++ vs4_0.drop y7.1.toNat)) :: os) := w7.set (pre := [_])
      have w10 : W F7 _ ((p3, .lst (vs4_0.take y7.1.toNat ++ [(.int b4)] ++ vs4_0.drop y7.1.toNat)) :: (a_state, .lst vs7) :: os) := w9.front (pre := [_])
      exact hN4 _ (post_ok hm) _ _ ⟨_, _, _, _, rfl, (s4.trans s7), w10, h8, h7⟩
    intro g4 σ4 H4 hI hm
    obtain ⟨F4, vs4_0, vs4_1, o4_3, rfl, s4, w4, h4_0, h4_1⟩ := hI
    replace sF := sF.trans s4
    exact ⟨_, rfl, (post_ok hm) _ _ _ _ _ w4 sF h4_0 h4_1⟩
def sp_law_named (K : Fg) : Sp := fun vs H Q E => ∃ (F : Hp) (os : List (Addr × HO)) (v_names : V) (x_names : (List Int)) (x_many : Int) (v_ties : V) (x_ties : (List (Int × Int))), vs = [v_names, .int x_many, v_ties] ∧ W F H (os) ∧ rep K F v_names x_names ∧ rep K F v_ties x_ties ∧ Post (law_named x_names x_many x_ties) (Ret K F os Q) noX
theorem sc_law_named : FnScope ["names", "many", "ties", "one", "other"] ["names", "many", "ties"] (defScope s_law_named) := ⟨rfl, rfl, rfl, by decide +kernel, rfl, by decide +kernel, by decide +kernel⟩
theorem ok_law_named (T : Tx K mg A FD) : FnOk P w K mg base CX0 3 (A 39) (FD 39) ["names", "many", "ties"] (sp_law_named K) := by
  refine T.d39.fn.ok sc_law_named (fun vs H Q E h => ?_) (fun cdv Ar outer s H vs Q E hr h => ?_)
  · obtain ⟨F, os, v_names, x_names, x_many, v_ties, x_ties, rfl, _⟩ := h
    rfl
  · obtain ⟨F0, os, v_names, x_names, x_many, v_ties, x_ties, rfl, w0, r_names, r_ties, hm⟩ := h
    have sF : Same F0 F0 := Same.refl _
    obtain ⟨a1, vs1, rfl, q1, h1⟩ := r_names
    obtain ⟨a2, vs2, rfl, q2, h2⟩ := r_ties
    refine ⟨_, (pss_one (ps_ret (pe_call (ok_made_web T) (hr.mono (by decide)) (by rfl) T.d19.mg T.d19.fn.kp T.d19.b .nil pass0 (pa_cons (pv 1) (pa_cons (pe_lc (own := [("one", 3), ("other", 4)]) (g := _) (by rfl) sc_law_named.nd (pi_listK (K := K) rfl (pv 2)) (blkOk_by (own := [("one", 3), ("other", 4)]) (N := ["names", "many", "ties", "one", "other"]) (sc := defScope s_law_named) (by decide +kernel)) (fun _ _ _ _ _ => (pg_k (K := K) (t := fun K => gTup K 2 _) rfl (pg_tup (n := 2) rfl (pgs_cons (pg_name (i := 3) sc_law_named.nd rfl (Or.inl rfl)) (pgs_cons (pg_name (i := 4) sc_law_named.nd rfl (Or.inl rfl)) pgs_nil))))) (fun _ _ _ _ _ => pts_nil) (fun _ _ _ _ _ => (pe_tup (pa_cons (pe_ix (ix_listK (K := K) rfl) (pv 0) (pv 3) (fun _ _ => rfl)) (pa_cons (pe_ix (ix_listK (K := K) rfl) (pv 0) (pv 4) (fun _ _ => rfl)) pa_nil))))) pa_nil))))), ?_⟩
    refine ⟨_, rfl, _, rfl, _, rfl, ⟨_, SqL.of (w0.same _ _ q2)⟩, fun D3 nD3 => ?_⟩
    refine lcM (K := K) (tw_list (a := a2) h2) hm w0 nD3 (fun F' H' acc s w => SqL.of (w.same _ _ (s _ _ q2))) ?_ ?_
    · -- one turn
      intro b3 x3 F3 H3 H3' acc3 N3 P3 s3 w3 y3 hN3 hm
      replace q1 := s3 _ _ q1
      replace h1 := A2.mono s3 h1
      replace q2 := s3 _ _ q2
      replace h2 := A2.mono s3 h2
      replace sF := sF.trans s3
      obtain ⟨rfl, r5⟩ := y3
      replace r5 := Rep.mono s3 r5
      obtain ⟨a6, u6, z6, rfl, q6, r6a, r6b⟩ := r5
      obtain rfl : u6 = V.int b3.1 := r6a
      obtain rfl : z6 = V.int b3.2 := r6b
      obtain ⟨t7, e7, hm⟩ := pb_get hm
      obtain ⟨u7, f7, r7⟩ := A2.at h1 e7
      obtain rfl : u7 = V.int t7 := r7
      obtain ⟨t8, e8, hm⟩ := pb_get hm
      obtain ⟨u8, f8, r8⟩ := A2.at h1 e8
      obtain rfl : u8 = V.int t8 := r8
      refine ⟨_, _, rfl, SqT.of (w3.same _ _ q6), rfl, _, _, rfl, _, _, rfl, rfl, rfl, _, rfl, _, rfl, _, _, _, _, rfl, rfl, SqL.of (w3.same _ _ q1), f7, _, rfl, _, rfl, _, _, _, _, rfl, rfl, SqL.of (w3.same _ _ q1), f8, (by show 2 ≤ sizeLine; decide), fun p9 n9 => ?_⟩
      obtain ⟨F9, s9, w9, q9⟩ := w3.frzE (o := .tup [(.int t7), (.int t8)]) n9
      replace q1 := s9 _ _ q1
      replace h1 := A2.mono s9 h1
      replace q2 := s9 _ _ q2
      replace h2 := A2.mono s9 h2
      replace q6 := s9 _ _ q6
      replace sF := sF.trans s9
      exact hN3 _ (post_ok hm) _ _ _ w9 s9 (rep_pair q9 rep_i rep_i)
    intro us3 F3 H3 ys3 s3 w3 gg3 hm
    replace q1 := s3 _ _ q1
    replace h1 := A2.mono s3 h1
    replace q2 := s3 _ _ q2
    replace h2 := A2.mono s3 h2
    replace sF := sF.trans s3
    refine ⟨_, _, _, _, _, _, rfl, w3, gg3, ?_⟩
    refine (post_bind hm).mono (fun y11 hm v11 F11 H11 w11 s11 r11 => ?_) (fun _ z => z)
    replace q1 := s11 _ _ q1
    replace h1 := A2.mono s11 h1
    replace q2 := s11 _ _ q2
    replace h2 := A2.mono s11 h2
    replace gg3 := A2.mono s11 gg3
    replace sF := sF.trans s11
    obtain ⟨a12, u12, z12, rfl, q12, r12a, r12b⟩ := r11
    obtain rfl : u12 = V.int y11.1 := r12a
    obtain ⟨a13, vs13, rfl, q13, h13⟩ := r12b
    have w14 : W F11 _ (os) := w11.drop (pre := [])
    exact (post_ok hm) _ _ _ w14 sF (rep_pair q12 rep_i (rep_tup q13 h13))
def sp_law_line (K : Fg) : Sp := fun vs H Q E => ∃ (F : Hp) (os : List (Addr × HO)) (a_state : Addr) (vs_state : List V) (x_state : (List Int)) (v_web : V) (x_web : (Int × (Tup (Int × Int)))) (v_names : V) (x_names : (List Int)) (v_looks : V) (x_looks : (List Int)) (a_told : Addr), vs = [.ref a_state, v_web, v_names, v_looks, .ref a_told] ∧ W F H ((a_state, .lst vs_state) :: os) ∧ A2 (rep K F) vs_state x_state ∧ rep K F v_web x_web ∧ rep K F v_names x_names ∧ rep K F v_looks x_looks ∧ Nm K "row_known" a_told ∧ Post (law_line x_state x_web x_names x_looks) (RetM K F a_state os Q) noX
theorem sc_law_line : FnScope ["state", "web", "names", "looks", "told", "many", "kind", "found", "named", "look"] ["state", "web", "names", "looks", "told"] (defScope s_law_line) := ⟨rfl, rfl, rfl, by decide +kernel, rfl, by decide +kernel, by decide +kernel⟩
theorem ok_law_line (T : Tx K mg A FD) : FnOk P w K mg base CX0 7 (A 40) (FD 40) ["state", "web", "names", "looks", "told"] (sp_law_line K) := by
  refine T.d40.fn.ok sc_law_line (fun vs H Q E h => ?_) (fun cdv Ar outer s H vs Q E hr h => ?_)
  · obtain ⟨F, os, a_state, vs_state, x_state, v_web, x_web, v_names, x_names, v_looks, x_looks, a_told, rfl, _⟩ := h
    rfl
  · obtain ⟨F0, os, a_state, vs_state, x_state, v_web, x_web, v_names, x_names, v_looks, x_looks, a_told, rfl, w0, h_state, r_web, r_names, r_looks, n_told, hm⟩ := h
    have sF : Same F0 F0 := Same.refl _
    obtain rfl := n_told.uniq T.nf_row_known
    obtain ⟨a2, u2, z2, rfl, q2, r2a, r2b⟩ := r_web
    obtain rfl : u2 = V.int x_web.1 := r2a
    obtain ⟨a3, vs3, rfl, q3, h3⟩ := r2b
    obtain ⟨a4, vs4, rfl, q4, h4⟩ := r_names
    obtain ⟨a5, vs5, rfl, q5, h5⟩ := r_looks
    refine ⟨_, (pss_cons (ps_set (i := 5) sc_law_line.nd rfl (Or.inl rfl) (pe_ix (ix_tupK (K := K) rfl) (pv 1) pe_int (fun _ _ => rfl))) (pss_cons (ps_for PassesOwn.never rfl (pi_listK (K := K) rfl (pe_lst (pa_cons pe_str (pa_cons pe_str (pa_cons pe_str pa_nil))))) (pg_name (i := 6) sc_law_line.nd rfl (Or.inl rfl)) (pss_cons (ps_set (i := 7) sc_law_line.nd rfl (Or.inl rfl) (pe_callL (i := 4) (ok_row_known T) (hr.mono (by decide)) rfl (by first | exact Or.inl rfl | exact Or.inr (Or.inl rfl) | exact Or.inr (Or.inr rfl)) T.d7.fn.kp T.d7.b .nil pass0 (pa_cons (pv 5) (pa_cons (pe_callTy (call_list_ofK (K := K) rfl) (by rfl) T.n_list (by decide +kernel) (pa_cons (pv 3) pa_nil)) (pa_cons (pv 6) pa_nil))))) (pss_cons (ps_set (i := 8) sc_law_line.nd rfl (Or.inl rfl) (pe_callB (cr_sortI (K := K) rfl) (by rfl) T.n_sorted (by decide +kernel) (pa_cons (pe_lc (own := [("look", 9)]) (g := gName 9) (by rfl) sc_law_line.nd (pi_listK (K := K) rfl (pv 3)) (blkOk_by (own := [("look", 9)]) (N := ["state", "web", "names", "looks", "told", "many", "kind", "found", "named", "look"]) (sc := defScope s_law_line) (by decide +kernel)) (fun _ _ _ _ _ => (pg_name (i := 9) sc_law_line.nd rfl (Or.inl rfl))) (fun _ _ _ _ _ => pts_nil) (fun _ _ _ _ _ => (pe_ix (ix_listK (K := K) rfl) (pv 2) (pv 9) (fun _ _ => rfl)))) pa_nil))) (pss_one (ps_if (PW.pt (pw_or (pt_not (pt_val (pe_callB (call_isB (K := K) rfl) (by rfl) T.n_isinstance (by decide +kernel) (pa_cons (pv 7) (pa_cons (pe_bltn (v := .ty "bool") (by rfl) T.n_bool (by decide +kernel) rfl) pa_nil))))) (pw_or1 (pt_cmpR op_neB (pv 7) (pe_call (ok_is_known T) (hr.mono (by decide)) (by rfl) T.d30.mg T.d30.fn.kp T.d30.b .nil pass0 (pa_cons (pv 1) (pa_cons (pv 8) (pa_cons (pv 6) pa_nil)))) (nomark _))))) (pss_one (ps_ret pe_bl)) pss_nil))))) (pss_one (ps_ret pe_bl)))), ?_⟩
    have h7 : A2 (rep K F0) [(.str "places"), (.str "ties"), (.str "all")] ([("places" : Str), ("ties" : Str), ("all" : Str)] : (List Str)) := .cons rep_s (.cons rep_s (.cons rep_s (.nil)))
    refine ⟨_, rfl, _, _, _, _, rfl, rfl, SqT.of (w0.same _ _ q2), rfl, (by show 3 ≤ sizeLine; decide), fun p8 n8 => ?_⟩
    have w8 : W F0 _ ((p8, .lst [(.str "places"), (.str "ties"), (.str "all")]) :: (a_state, .lst vs_state) :: os) := w0.new n8
    obtain ⟨F9, s9, w9, q9⟩ : ∃ F', Same F0 F' ∧ W F' _ ((a_state, .lst vs_state) :: os) ∧ F' p8 = some (.lst [(.str "places"), (.str "ties"), (.str "all")]) := w8.freezeE (pre := [])
    replace q2 := s9 _ _ q2
    replace h3 := A2.mono s9 h3
    replace q3 := s9 _ _ q3
    replace h4 := A2.mono s9 h4
    replace q4 := s9 _ _ q4
    replace h5 := A2.mono s9 h5
    replace q5 := s9 _ _ q5
    replace h_state := A2.mono s9 h_state
    replace h7 := A2.mono s9 h7
    replace sF := sF.trans s9
    refine ⟨_, rfl, ⟨_, SqL.of (w9.same _ _ q9)⟩, ?_⟩
    refine forX (tw_list (a := p8) h7) hm (fun (g6 : Unit) σ H' => ∃ (F' : Hp) (o6_7 : Option V) (o6_8 : Option V) (o6_6 : Option V), σ = [some (.ref a_state), some (.ref a2), some (.ref a4), some (.ref a5), some (.ref (A 7)), some (.int x_web.1), o6_6, o6_7, o6_8, none] ∧ Same F9 F' ∧ W F' H' ((a_state, .lst vs_state) :: os)) ⟨_, _, _, _, rfl, Same.refl _, w9⟩ (fun g σ H' hI => by obtain ⟨F', _, _, _, _, s, w⟩ := hI; exact SqL.of (w.same _ _ (s _ _ q9))) ?_ ?_
    · -- a turn
      intro b6 g6 x6 σ6 H6 H6' N6 B6 P6 hI hy hN6 hB6 hZ6 hm
      obtain ⟨F6, o6_7, o6_8, o6_6, rfl, s6, w6⟩ := hI
      replace q2 := s6 _ _ q2
      replace h3 := A2.mono s6 h3
      replace q3 := s6 _ _ q3
      replace h4 := A2.mono s6 h4
      replace q4 := s6 _ _ q4
      replace h5 := A2.mono s6 h5
      replace q5 := s6 _ _ q5
      replace h_state := A2.mono s6 h_state
      replace h7 := A2.mono s6 h7
      replace q9 := s6 _ _ q9
      replace sF := sF.trans s6
      obtain ⟨rfl, r10⟩ := hy
      obtain rfl : x6 = V.str b6 := r10
      have h11 : A2 (rep K F6) vs5 x_looks := h5
      refine ⟨rfl, _, rfl, _, rfl, _, _, rfl, .inl (SqL.of (w6.same _ _ q5)), fun p12 n12 => ?_⟩
      have w12 : W F6 _ ((p12, .lst vs5) :: (a_state, .lst vs_state) :: os) := w6.new n12
      obtain ⟨F13, s13, w13, q13⟩ : ∃ F', Same F6 F' ∧ W F' _ ((a_state, .lst vs_state) :: os) ∧ F' p12 = some (.lst vs5) := w12.freezeE (pre := [])
      replace q2 := s13 _ _ q2
      replace h3 := A2.mono s13 h3
      replace q3 := s13 _ _ q3
      replace h4 := A2.mono s13 h4
      replace q4 := s13 _ _ q4
      replace h5 := A2.mono s13 h5
      replace q5 := s13 _ _ q5
      replace h_state := A2.mono s13 h_state
      replace h11 := A2.mono s13 h11
      replace sF := sF.trans s13
      refine ⟨_, rfl, _, _, _, _, (x_looks : (List Int)), _, rfl, w13, (rep_lst q13 h11), ?_⟩
      refine (post_bind hm).mono (fun y14 hm v14 F14 H14 w14 s14 r14 => ?_) (fun _ z => z)
      replace q2 := s14 _ _ q2
      replace h3 := A2.mono s14 h3
      replace q3 := s14 _ _ q3
      replace h4 := A2.mono s14 h4
      replace q4 := s14 _ _ q4
      replace h5 := A2.mono s14 h5
      replace q5 := s14 _ _ q5
      replace h_state := A2.mono s14 h_state
      replace h11 := A2.mono s14 h11
      replace q13 := s14 _ _ q13
      replace sF := sF.trans s14
      obtain rfl : v14 = V.bl y14 := r14
      refine ⟨_, rfl, _, rfl, ⟨_, SqL.of (w14.same _ _ q5)⟩, fun D15 nD15 => ?_⟩
      refine lcM (K := K) (tw_list (a := a5) h5) hm w14 nD15 (fun F' H' acc s w => SqL.of (w.same _ _ (s _ _ q5))) ?_ ?_
      · -- one turn
        intro b15 x15 F15 H15 H15' acc15 N15 P15 s15 w15 y15 hN15 hm
        replace q2 := s15 _ _ q2
        replace h3 := A2.mono s15 h3
        replace q3 := s15 _ _ q3
        replace h4 := A2.mono s15 h4
        replace q4 := s15 _ _ q4
        replace h5 := A2.mono s15 h5
        replace q5 := s15 _ _ q5
        replace h_state := A2.mono s15 h_state
        replace sF := sF.trans s15
        obtain ⟨rfl, r17⟩ := y15
        obtain rfl : x15 = V.int b15 := r17
        obtain ⟨t18, e18, hm⟩ := pb_get hm
        obtain ⟨u18, f18, r18⟩ := A2.at h4 e18
        obtain rfl : u18 = V.int t18 := r18
        exact ⟨rfl, _, rfl, _, rfl, _, _, _, _, rfl, rfl, SqL.of (w15.same _ _ q4), f18, hN15 _ (post_ok hm) _ _ _ w15 (Same.refl _) rep_i⟩
      intro us15 F15 H15 ys15 s15 w15 gg15 hm
      replace q2 := s15 _ _ q2
      replace h3 := A2.mono s15 h3
      replace q3 := s15 _ _ q3
      replace h4 := A2.mono s15 h4
      replace q4 := s15 _ _ q4
      replace h5 := A2.mono s15 h5
      replace q5 := s15 _ _ q5
      replace h_state := A2.mono s15 h_state
      replace sF := sF.trans s15
      have h20 : A2 (rep K F15) ((sortI ys15).map V.int) (sortI ys15) := A2.of_ints
      refine ⟨_, _, rfl, ints_q (SqL.of (w15.get (pre := []))) gg15, fun p21 n21 => ?_⟩
      have w21 : W F15 _ ((p21, .lst ((sortI ys15).map V.int)) :: (D15, .lst us15) :: (a_state, .lst vs_state) :: os) := w15.new n21
      obtain ⟨F22, s22, w22, q22⟩ : ∃ F', Same F15 F' ∧ W F' _ ((D15, .lst us15) :: (a_state, .lst vs_state) :: os) ∧ F' p21 = some (.lst ((sortI ys15).map V.int)) := w21.freezeE (pre := [])
      replace q2 := s22 _ _ q2
      replace h3 := A2.mono s22 h3
      replace q3 := s22 _ _ q3
      replace h4 := A2.mono s22 h4
      replace q4 := s22 _ _ q4
      replace h5 := A2.mono s22 h5
      replace q5 := s22 _ _ q5
      replace h_state := A2.mono s22 h_state
      replace gg15 := A2.mono s22 gg15
      replace h20 := A2.mono s22 h20
      replace sF := sF.trans s22
      have w23 : W F22 _ ((a_state, .lst vs_state) :: os) := w22.drop (pre := [])
      refine stepN ?_
      try dsimp only
      refine stepIf ?_
      refine joinT hm (fun (j24 : Bool) c H' => c = j24 ∧ ∃ (F' : Hp), Same F22 F' ∧ W F' H' ((a_state, .lst vs_state) :: os)) ?_ ?_
      · intro Q24 P24 q24 hm
        refine ⟨_, rfl, _, _, _, true, rfl, (.bl _), (by decide +kernel), _, rfl, ?_⟩
        refine post_ite hm (fun k25 hm => ?_) (fun k25 hm => ?_)
        · skip
          exact q24 _ (post_ok hm) _ _ ⟨rfl, _, Same.refl _, w23⟩
        · skip
          refine ⟨_, rfl, _, rfl, _, rfl, _, rfl, _, _, _, (x_web : (Int × (Tup (Int × Int)))), _, ((sortI ys15) : (List Int)), _, rfl, w23, (rep_pair q2 rep_i (rep_tup q3 h3)), (rep_lst q22 h20), ?_⟩
          refine (post_bind hm).mono (fun y27 hm v27 F27 H27 w27 s27 r27 => ?_) (fun _ z => z)
          replace q2 := s27 _ _ q2
          replace h3 := A2.mono s27 h3
          replace q3 := s27 _ _ q3
          replace h4 := A2.mono s27 h4
          replace q4 := s27 _ _ q4
          replace h5 := A2.mono s27 h5
          replace q5 := s27 _ _ q5
          replace h20 := A2.mono s27 h20
          replace q22 := s27 _ _ q22
          replace h_state := A2.mono s27 h_state
          replace sF := sF.trans s27
          obtain rfl : v27 = V.bl y27 := r27
          exact ⟨_, _, rfl, rfl, _, rfl, q24 _ (post_ok hm) _ _ ⟨rfl, _, s27, w27⟩⟩
      intro j24 c24 H24 hc24 hm
      obtain ⟨rfl, F24, s24, w24⟩ := hc24
      replace q2 := s24 _ _ q2
      replace h3 := A2.mono s24 h3
      replace q3 := s24 _ _ q3
      replace h4 := A2.mono s24 h4
      replace q4 := s24 _ _ q4
      replace h5 := A2.mono s24 h5
      replace q5 := s24 _ _ q5
      replace h20 := A2.mono s24 h20
      replace q22 := s24 _ _ q22
      replace h_state := A2.mono s24 h_state
      replace sF := sF.trans s24
      refine post_ite hm (fun k29 hm => ?_) (fun k29 hm => ?_)
      · skip
        have hm := hZ6 _ (post_ok hm)
        exact (post_ok hm) _ _ _ _ w24 sF rep_b h_state
      · skip
        exact hN6 _ (post_ok hm) _ _ ⟨_, _, _, _, rfl, (s6.trans (s13.trans (s14.trans (s15.trans (s22.trans s24))))), w24⟩
    intro g6 σ6 H6 hI hm
    obtain ⟨F6, o6_7, o6_8, o6_6, rfl, s6, w6⟩ := hI
    replace q2 := s6 _ _ q2
    replace h3 := A2.mono s6 h3
    replace q3 := s6 _ _ q3
    replace h4 := A2.mono s6 h4
    replace q4 := s6 _ _ q4
    replace h5 := A2.mono s6 h5
    replace q5 := s6 _ _ q5
    replace h_state := A2.mono s6 h_state
    replace h7 := A2.mono s6 h7
    replace q9 := s6 _ _ q9
    replace sF := sF.trans s6
    exact (post_ok hm) _ _ _ _ w6 sF rep_b h_state
def sp_law_linering (K : Fg) : Sp := fun vs H Q E => ∃ (F : Hp) (os : List (Addr × HO)) (a_state : Addr) (vs_state : List V) (x_state : (List Int)) (v_web : V) (x_web : (Int × (Tup (Int × Int)))) (v_names : V) (x_names : (List Int)) (v_looks : V) (x_looks : (List Int)) (a_told : Addr), vs = [.ref a_state, v_web, v_names, v_looks, .ref a_told] ∧ W F H ((a_state, .lst vs_state) :: os) ∧ A2 (rep K F) vs_state x_state ∧ rep K F v_web x_web ∧ rep K F v_names x_names ∧ rep K F v_looks x_looks ∧ Nm K "ring_known" a_told ∧ Post (law_linering x_state x_web x_names x_looks) (RetM K F a_state os Q) noX
theorem ok_law_linering (T : Tx K mg A FD) : FnOk P w K mg base CX0 7 (A 40) (FD 40) ["state", "web", "names", "looks", "told"] (sp_law_linering K) := by
  refine T.d40.fn.ok sc_law_line (fun vs H Q E h => ?_) (fun cdv Ar outer s H vs Q E hr h => ?_)
  · obtain ⟨F, os, a_state, vs_state, x_state, v_web, x_web, v_names, x_names, v_looks, x_looks, a_told, rfl, _⟩ := h
    rfl
  · obtain ⟨F0, os, a_state, vs_state, x_state, v_web, x_web, v_names, x_names, v_looks, x_looks, a_told, rfl, w0, h_state, r_web, r_names, r_looks, n_told, hm⟩ := h
    have sF : Same F0 F0 := Same.refl _
    obtain rfl := n_told.uniq T.nf_ring_known
    obtain ⟨a2, u2, z2, rfl, q2, r2a, r2b⟩ := r_web
    obtain rfl : u2 = V.int x_web.1 := r2a
    obtain ⟨a3, vs3, rfl, q3, h3⟩ := r2b
    obtain ⟨a4, vs4, rfl, q4, h4⟩ := r_names
    obtain ⟨a5, vs5, rfl, q5, h5⟩ := r_looks
    refine ⟨_, (pss_cons (ps_set (i := 5) sc_law_line.nd rfl (Or.inl rfl) (pe_ix (ix_tupK (K := K) rfl) (pv 1) pe_int (fun _ _ => rfl))) (pss_cons (ps_for PassesOwn.never rfl (pi_listK (K := K) rfl (pe_lst (pa_cons pe_str (pa_cons pe_str (pa_cons pe_str pa_nil))))) (pg_name (i := 6) sc_law_line.nd rfl (Or.inl rfl)) (pss_cons (ps_set (i := 7) sc_law_line.nd rfl (Or.inl rfl) (pe_callL (i := 4) (ok_ring_known T) (hr.mono (by decide)) rfl (by first | exact Or.inl rfl | exact Or.inr (Or.inl rfl) | exact Or.inr (Or.inr rfl)) T.d9.fn.kp T.d9.b .nil pass0 (pa_cons (pv 5) (pa_cons (pe_callTy (call_list_ofK (K := K) rfl) (by rfl) T.n_list (by decide +kernel) (pa_cons (pv 3) pa_nil)) (pa_cons (pv 6) pa_nil))))) (pss_cons (ps_set (i := 8) sc_law_line.nd rfl (Or.inl rfl) (pe_callB (cr_sortI (K := K) rfl) (by rfl) T.n_sorted (by decide +kernel) (pa_cons (pe_lc (own := [("look", 9)]) (g := gName 9) (by rfl) sc_law_line.nd (pi_listK (K := K) rfl (pv 3)) (blkOk_by (own := [("look", 9)]) (N := ["state", "web", "names", "looks", "told", "many", "kind", "found", "named", "look"]) (sc := defScope s_law_line) (by decide +kernel)) (fun _ _ _ _ _ => (pg_name (i := 9) sc_law_line.nd rfl (Or.inl rfl))) (fun _ _ _ _ _ => pts_nil) (fun _ _ _ _ _ => (pe_ix (ix_listK (K := K) rfl) (pv 2) (pv 9) (fun _ _ => rfl)))) pa_nil))) (pss_one (ps_if (PW.pt (pw_or (pt_not (pt_val (pe_callB (call_isB (K := K) rfl) (by rfl) T.n_isinstance (by decide +kernel) (pa_cons (pv 7) (pa_cons (pe_bltn (v := .ty "bool") (by rfl) T.n_bool (by decide +kernel) rfl) pa_nil))))) (pw_or1 (pt_cmpR op_neB (pv 7) (pe_call (ok_is_known T) (hr.mono (by decide)) (by rfl) T.d30.mg T.d30.fn.kp T.d30.b .nil pass0 (pa_cons (pv 1) (pa_cons (pv 8) (pa_cons (pv 6) pa_nil)))) (nomark _))))) (pss_one (ps_ret pe_bl)) pss_nil))))) (pss_one (ps_ret pe_bl)))), ?_⟩
    have h7 : A2 (rep K F0) [(.str "places"), (.str "ties"), (.str "all")] ([("places" : Str), ("ties" : Str), ("all" : Str)] : (List Str)) := .cons rep_s (.cons rep_s (.cons rep_s (.nil)))
    refine ⟨_, rfl, _, _, _, _, rfl, rfl, SqT.of (w0.same _ _ q2), rfl, (by show 3 ≤ sizeLine; decide), fun p8 n8 => ?_⟩
    have w8 : W F0 _ ((p8, .lst [(.str "places"), (.str "ties"), (.str "all")]) :: (a_state, .lst vs_state) :: os) := w0.new n8
    obtain ⟨F9, s9, w9, q9⟩ : ∃ F', Same F0 F' ∧ W F' _ ((a_state, .lst vs_state) :: os) ∧ F' p8 = some (.lst [(.str "places"), (.str "ties"), (.str "all")]) := w8.freezeE (pre := [])
    replace q2 := s9 _ _ q2
    replace h3 := A2.mono s9 h3
    replace q3 := s9 _ _ q3
    replace h4 := A2.mono s9 h4
    replace q4 := s9 _ _ q4
    replace h5 := A2.mono s9 h5
    replace q5 := s9 _ _ q5
    replace h_state := A2.mono s9 h_state
    replace h7 := A2.mono s9 h7
    replace sF := sF.trans s9
    refine ⟨_, rfl, ⟨_, SqL.of (w9.same _ _ q9)⟩, ?_⟩
    refine forX (tw_list (a := p8) h7) hm (fun (g6 : Unit) σ H' => ∃ (F' : Hp) (o6_7 : Option V) (o6_8 : Option V) (o6_6 : Option V), σ = [some (.ref a_state), some (.ref a2), some (.ref a4), some (.ref a5), some (.ref (A 9)), some (.int x_web.1), o6_6, o6_7, o6_8, none] ∧ Same F9 F' ∧ W F' H' ((a_state, .lst vs_state) :: os)) ⟨_, _, _, _, rfl, Same.refl _, w9⟩ (fun g σ H' hI => by obtain ⟨F', _, _, _, _, s, w⟩ := hI; exact SqL.of (w.same _ _ (s _ _ q9))) ?_ ?_
    · -- a turn
      intro b6 g6 x6 σ6 H6 H6' N6 B6 P6 hI hy hN6 hB6 hZ6 hm
      obtain ⟨F6, o6_7, o6_8, o6_6, rfl, s6, w6⟩ := hI
      replace q2 := s6 _ _ q2
      replace h3 := A2.mono s6 h3
      replace q3 := s6 _ _ q3
      replace h4 := A2.mono s6 h4
      replace q4 := s6 _ _ q4
      replace h5 := A2.mono s6 h5
      replace q5 := s6 _ _ q5
      replace h_state := A2.mono s6 h_state
      replace h7 := A2.mono s6 h7
      replace q9 := s6 _ _ q9
      replace sF := sF.trans s6
      obtain ⟨rfl, r10⟩ := hy
      obtain rfl : x6 = V.str b6 := r10
      have h11 : A2 (rep K F6) vs5 x_looks := h5
      refine ⟨rfl, _, rfl, _, rfl, _, _, rfl, .inl (SqL.of (w6.same _ _ q5)), fun p12 n12 => ?_⟩
      have w12 : W F6 _ ((p12, .lst vs5) :: (a_state, .lst vs_state) :: os) := w6.new n12
      obtain ⟨F13, s13, w13, q13⟩ : ∃ F', Same F6 F' ∧ W F' _ ((a_state, .lst vs_state) :: os) ∧ F' p12 = some (.lst vs5) := w12.freezeE (pre := [])
      replace q2 := s13 _ _ q2
      replace h3 := A2.mono s13 h3
      replace q3 := s13 _ _ q3
      replace h4 := A2.mono s13 h4
      replace q4 := s13 _ _ q4
      replace h5 := A2.mono s13 h5
      replace q5 := s13 _ _ q5
      replace h_state := A2.mono s13 h_state
      replace h11 := A2.mono s13 h11
      replace sF := sF.trans s13
      refine ⟨_, rfl, _, _, _, _, (x_looks : (List Int)), _, rfl, w13, (rep_lst q13 h11), ?_⟩
      refine (post_bind hm).mono (fun y14 hm v14 F14 H14 w14 s14 r14 => ?_) (fun _ z => z)
      replace q2 := s14 _ _ q2
      replace h3 := A2.mono s14 h3
      replace q3 := s14 _ _ q3
      replace h4 := A2.mono s14 h4
      replace q4 := s14 _ _ q4
      replace h5 := A2.mono s14 h5
      replace q5 := s14 _ _ q5
      replace h_state := A2.mono s14 h_state
      replace h11 := A2.mono s14 h11
      replace q13 := s14 _ _ q13
      replace sF := sF.trans s14
      obtain rfl : v14 = V.bl y14 := r14
      refine ⟨_, rfl, _, rfl, ⟨_, SqL.of (w14.same _ _ q5)⟩, fun D15 nD15 => ?_⟩
      refine lcM (K := K) (tw_list (a := a5) h5) hm w14 nD15 (fun F' H' acc s w => SqL.of (w.same _ _ (s _ _ q5))) ?_ ?_
      · -- one turn
        intro b15 x15 F15 H15 H15' acc15 N15 P15 s15 w15 y15 hN15 hm
        replace q2 := s15 _ _ q2
        replace h3 := A2.mono s15 h3
        replace q3 := s15 _ _ q3
        replace h4 := A2.mono s15 h4
        replace q4 := s15 _ _ q4
        replace h5 := A2.mono s15 h5
        replace q5 := s15 _ _ q5
        replace h_state := A2.mono s15 h_state
        replace sF := sF.trans s15
        obtain ⟨rfl, r17⟩ := y15
        obtain rfl : x15 = V.int b15 := r17
        obtain ⟨t18, e18, hm⟩ := pb_get hm
        obtain ⟨u18, f18, r18⟩ := A2.at h4 e18
        obtain rfl : u18 = V.int t18 := r18
        exact ⟨rfl, _, rfl, _, rfl, _, _, _, _, rfl, rfl, SqL.of (w15.same _ _ q4), f18, hN15 _ (post_ok hm) _ _ _ w15 (Same.refl _) rep_i⟩
      intro us15 F15 H15 ys15 s15 w15 gg15 hm
      replace q2 := s15 _ _ q2
      replace h3 := A2.mono s15 h3
      replace q3 := s15 _ _ q3
      replace h4 := A2.mono s15 h4
      replace q4 := s15 _ _ q4
      replace h5 := A2.mono s15 h5
      replace q5 := s15 _ _ q5
      replace h_state := A2.mono s15 h_state
      replace sF := sF.trans s15
      have h20 : A2 (rep K F15) ((sortI ys15).map V.int) (sortI ys15) := A2.of_ints
      refine ⟨_, _, rfl, ints_q (SqL.of (w15.get (pre := []))) gg15, fun p21 n21 => ?_⟩
      have w21 : W F15 _ ((p21, .lst ((sortI ys15).map V.int)) :: (D15, .lst us15) :: (a_state, .lst vs_state) :: os) := w15.new n21
      obtain ⟨F22, s22, w22, q22⟩ : ∃ F', Same F15 F' ∧ W F' _ ((D15, .lst us15) :: (a_state, .lst vs_state) :: os) ∧ F' p21 = some (.lst ((sortI ys15).map V.int)) := w21.freezeE (pre := [])
      replace q2 := s22 _ _ q2
      replace h3 := A2.mono s22 h3
      replace q3 := s22 _ _ q3
      replace h4 := A2.mono s22 h4
      replace q4 := s22 _ _ q4
      replace h5 := A2.mono s22 h5
      replace q5 := s22 _ _ q5
      replace h_state := A2.mono s22 h_state
      replace gg15 := A2.mono s22 gg15
      replace h20 := A2.mono s22 h20
      replace sF := sF.trans s22
      have w23 : W F22 _ ((a_state, .lst vs_state) :: os) := w22.drop (pre := [])
      refine stepN ?_
      try dsimp only
      refine stepIf ?_
      refine joinT hm (fun (j24 : Bool) c H' => c = j24 ∧ ∃ (F' : Hp), Same F22 F' ∧ W F' H' ((a_state, .lst vs_state) :: os)) ?_ ?_
      · intro Q24 P24 q24 hm
        refine ⟨_, rfl, _, _, _, true, rfl, (.bl _), (by decide +kernel), _, rfl, ?_⟩
        refine post_ite hm (fun k25 hm => ?_) (fun k25 hm => ?_)
        · skip
          exact q24 _ (post_ok hm) _ _ ⟨rfl, _, Same.refl _, w23⟩
        · skip
          refine ⟨_, rfl, _, rfl, _, rfl, _, rfl, _, _, _, (x_web : (Int × (Tup (Int × Int)))), _, ((sortI ys15) : (List Int)), _, rfl, w23, (rep_pair q2 rep_i (rep_tup q3 h3)), (rep_lst q22 h20), ?_⟩
          refine (post_bind hm).mono (fun y27 hm v27 F27 H27 w27 s27 r27 => ?_) (fun _ z => z)
          replace q2 := s27 _ _ q2
          replace h3 := A2.mono s27 h3
          replace q3 := s27 _ _ q3
          replace h4 := A2.mono s27 h4
          replace q4 := s27 _ _ q4
          replace h5 := A2.mono s27 h5
          replace q5 := s27 _ _ q5
          replace h20 := A2.mono s27 h20
          replace q22 := s27 _ _ q22
          replace h_state := A2.mono s27 h_state
          replace sF := sF.trans s27
          obtain rfl : v27 = V.bl y27 := r27
          exact ⟨_, _, rfl, rfl, _, rfl, q24 _ (post_ok hm) _ _ ⟨rfl, _, s27, w27⟩⟩
      intro j24 c24 H24 hc24 hm
      obtain ⟨rfl, F24, s24, w24⟩ := hc24
      replace q2 := s24 _ _ q2
      replace h3 := A2.mono s24 h3
      replace q3 := s24 _ _ q3
      replace h4 := A2.mono s24 h4
      replace q4 := s24 _ _ q4
      replace h5 := A2.mono s24 h5
      replace q5 := s24 _ _ q5
      replace h20 := A2.mono s24 h20
      replace q22 := s24 _ _ q22
      replace h_state := A2.mono s24 h_state
      replace sF := sF.trans s24
      refine post_ite hm (fun k29 hm => ?_) (fun k29 hm => ?_)
      · skip
        have hm := hZ6 _ (post_ok hm)
        exact (post_ok hm) _ _ _ _ w24 sF rep_b h_state
      · skip
        exact hN6 _ (post_ok hm) _ _ ⟨_, _, _, _, rfl, (s6.trans (s13.trans (s14.trans (s15.trans (s22.trans s24))))), w24⟩
    intro g6 σ6 H6 hI hm
    obtain ⟨F6, o6_7, o6_8, o6_6, rfl, s6, w6⟩ := hI
    replace q2 := s6 _ _ q2
    replace h3 := A2.mono s6 h3
    replace q3 := s6 _ _ q3
    replace h4 := A2.mono s6 h4
    replace q4 := s6 _ _ q4
    replace h5 := A2.mono s6 h5
    replace q5 := s6 _ _ q5
    replace h_state := A2.mono s6 h_state
    replace h7 := A2.mono s6 h7
    replace q9 := s6 _ _ q9
    replace sF := sF.trans s6
    exact (post_ok hm) _ _ _ _ w6 sF rep_b h_state
def sp_law_lines_right (K : Fg) : Sp := fun vs H Q E => ∃ (F : Hp) (os : List (Addr × HO)) (a_state : Addr) (vs_state : List V) (x_state : (List Int)), vs = [.ref a_state] ∧ W F H ((a_state, .lst vs_state) :: os) ∧ A2 (rep K F) vs_state x_state ∧ Post (law_lines_right x_state) (RetM K F a_state os Q) noX
theorem sc_law_lines_right : FnScope ["state", "many", "names", "row", "ring", "one", "other", "turn", "k"] ["state"] (defScope s_law_lines_right) := ⟨rfl, rfl, rfl, by decide +kernel, rfl, by decide +kernel, by decide +kernel⟩
set_option maxHeartbeats 40000000 in
theorem ok_law_lines_right (T : Tx K mg A FD) : FnOk P w K mg base CX0 8 (A 41) (FD 41) ["state"] (sp_law_lines_right K) := by
  refine T.d41.fn.ok sc_law_lines_right (fun vs H Q E h => ?_) (fun cdv Ar outer s H vs Q E hr h => ?_)
  · obtain ⟨F, os, a_state, vs_state, x_state, rfl, _⟩ := h
    rfl
  · obtain ⟨F0, os, a_state, vs_state, x_state, rfl, w0, h_state, hm⟩ := h
    have sF : Same F0 F0 := Same.refl _
    refine ⟨_, (pss_cons (ps_set (i := 1) sc_law_lines_right.nd rfl (Or.inr rfl) (pe_op op_add pe_int (pe_call (ok_law_next T) (hr.mono (by decide)) (by rfl) T.d35.mg T.d35.fn.kp T.d35.b .nil pass0 (pa_cons (pv 0) (pa_cons pe_int pa_nil))))) (pss_cons (ps_set (i := 2) sc_law_lines_right.nd rfl (Or.inl rfl) (pe_call (ok_law_order T) (hr.mono (by decide)) (by rfl) T.d38.mg T.d38.fn.kp T.d38.b .nil pass0 (pa_cons (pv 0) (pa_cons (pv 1) pa_nil)))) (pss_cons (ps_set (i := 3) sc_law_lines_right.nd rfl (Or.inl rfl) (pe_call (ok_law_named T) (hr.mono (by decide)) (by rfl) T.d39.mg T.d39.fn.kp T.d39.b .nil pass0 (pa_cons (pv 2) (pa_cons (pv 1) (pa_cons (pe_lc (own := [("k", 8)]) (g := gName 8) (by rfl) sc_law_lines_right.nd (pi_range1 (by rfl) T.n_range (pa_cons (pe_op op_sub (pv 1) pe_int) pa_nil)) (blkOk_by (own := [("k", 8)]) (N := ["state", "many", "names", "row", "ring", "one", "other", "turn", "k"]) (sc := defScope s_law_lines_right) (by decide +kernel)) (fun _ _ _ _ _ => (pg_name (i := 8) sc_law_lines_right.nd rfl (Or.inl rfl))) (fun _ _ _ _ _ => pts_nil) (fun _ _ _ _ _ => (pe_tup (pa_cons (pv 8) (pa_cons (pe_op op_add (pv 8) pe_int) pa_nil))))) pa_nil))))) (pss_cons (ps_if (pt_not (pt_val (pe_call (ok_law_line T) (hr.mono (by decide)) (by rfl) T.d40.mg T.d40.fn.kp T.d40.b .nil pass0 (pa_cons (pv 0) (pa_cons (pv 3) (pa_cons (pv 2) (pa_cons (pe_call (ok_law_looks T) (hr.mono (by decide)) (by rfl) T.d37.mg T.d37.fn.kp T.d37.b .nil pass0 (pa_cons (pv 0) (pa_cons (pv 1) (pa_cons pe_int pa_nil)))) (pa_cons (pe_glob (v := .ref (A 7)) (by rfl) T.d7.mg rfl) pa_nil)))))))) (pss_one (ps_ret pe_bl)) pss_nil) (pss_cons (ps_set (i := 1) sc_law_lines_right.nd rfl (Or.inr rfl) (pe_op op_add pe_int (pe_call (ok_law_next T) (hr.mono (by decide)) (by rfl) T.d35.mg T.d35.fn.kp T.d35.b .nil pass0 (pa_cons (pv 0) (pa_cons pe_int pa_nil))))) (pss_cons (ps_set (i := 2) sc_law_lines_right.nd rfl (Or.inl rfl) (pe_call (ok_law_order T) (hr.mono (by decide)) (by rfl) T.d38.mg T.d38.fn.kp T.d38.b .nil pass0 (pa_cons (pv 0) (pa_cons (pv 1) pa_nil)))) (pss_cons (ps_set (i := 4) sc_law_lines_right.nd rfl (Or.inl rfl) (pe_call (ok_law_named T) (hr.mono (by decide)) (by rfl) T.d39.mg T.d39.fn.kp T.d39.b .nil pass0 (pa_cons (pv 2) (pa_cons (pv 1) (pa_cons (pe_lc (own := [("k", 8)]) (g := gName 8) (by rfl) sc_law_lines_right.nd (pi_range1 (by rfl) T.n_range (pa_cons (pv 1) pa_nil)) (blkOk_by (own := [("k", 8)]) (N := ["state", "many", "names", "row", "ring", "one", "other", "turn", "k"]) (sc := defScope s_law_lines_right) (by decide +kernel)) (fun _ _ _ _ _ => (pg_name (i := 8) sc_law_lines_right.nd rfl (Or.inl rfl))) (fun _ _ _ _ _ => pts_nil) (fun _ _ _ _ _ => (pe_tup (pa_cons (pv 8) (pa_cons (pe_op op_mod (pe_op op_add (pv 8) pe_int) (pv 1)) pa_nil))))) pa_nil))))) (pss_cons (ps_par (i := 5) (j := 6) rfl sc_law_lines_right.nd rfl rfl (by decide) rfl rfl (pa_cons (pe_call (ok_law_next T) (hr.mono (by decide)) (by rfl) T.d35.mg T.d35.fn.kp T.d35.b .nil pass0 (pa_cons (pv 0) (pa_cons (pv 1) pa_nil))) (pa_cons (pe_call (ok_law_next T) (hr.mono (by decide)) (by rfl) T.d35.mg T.d35.fn.kp T.d35.b .nil pass0 (pa_cons (pv 0) (pa_cons (pv 1) pa_nil))) pa_nil)) rfl) (pss_cons (ps_if (pt_cmp (pc_neI (pe_call (ok_ring_far T) (hr.mono (by decide)) (by rfl) T.d12.mg T.d12.fn.kp T.d12.b .nil pass0 (pa_cons (pv 1) (pa_cons (pv 5) (pa_cons (pv 6) pa_nil)))) (pe_call (ok_far_between T) (hr.mono (by decide)) (by rfl) T.d22.mg T.d22.fn.kp T.d22.b .nil pass0 (pa_cons (pv 4) (pa_cons (pe_ix (ix_listK (K := K) rfl) (pv 2) (pv 5) (fun _ _ => rfl)) (pa_cons (pe_ix (ix_listK (K := K) rfl) (pv 2) (pv 6) (fun _ _ => rfl)) pa_nil)))))) (pss_one (ps_ret pe_bl)) pss_nil) (pss_cons (ps_for PassesOwn.never rfl (pi_range1 (by rfl) T.n_range (pa_cons pe_int pa_nil)) (pg_name (i := 7) sc_law_lines_right.nd rfl (Or.inl rfl)) (pss_one (ps_if (pt_not (pt_val (pe_call (ok_law_linering T) (hr.mono (by decide)) (by rfl) T.d40.mg T.d40.fn.kp T.d40.b .nil pass0 (pa_cons (pv 0) (pa_cons (pv 4) (pa_cons (pv 2) (pa_cons (pe_call (ok_law_looks T) (hr.mono (by decide)) (by rfl) T.d37.mg T.d37.fn.kp T.d37.b .nil pass0 (pa_cons (pv 0) (pa_cons (pv 1) (pa_cons pe_int pa_nil)))) (pa_cons (pe_glob (v := .ref (A 9)) (by rfl) T.d9.mg rfl) pa_nil)))))))) (pss_one (ps_ret pe_bl)) pss_nil))) (pss_one (ps_ret pe_bl)))))))))))), ?_⟩
    refine ⟨_, rfl, _, _, _, _, _, _, rfl, w0, h_state, ?_⟩
    refine (post_bind hm).mono (fun y2 hm v2 vs2 F2 H2 w2 s2 r2 h2 => ?_) (fun _ z => z)
    replace sF := sF.trans s2
    obtain rfl : v2 = V.int y2.1 := r2
    refine ⟨_, _, rfl, rfl, _, rfl, _, rfl, _, _, _, _, _, _, rfl, w2, h2, ?_⟩
    refine (post_bind hm).mono (fun y3 hm p3 us3 vs3 F3 H3 w3 s3 g3 h3 => ?_) (fun _ z => z)
    replace sF := sF.trans s3
    obtain ⟨F5, s5, w5, q5⟩ : ∃ F', Same F3 F' ∧ W F' _ ((a_state, .lst vs3) :: os) ∧ F' p3 = some (.lst us3) := w3.freezeE (pre := [])
    replace h3 := A2.mono s5 h3
    replace g3 := A2.mono s5 g3
    replace sF := sF.trans s5
    obtain ⟨c6, hm⟩ := pb_rng hm
    refine ⟨_, rfl, _, rfl, _, rfl, _, _, rfl, rfl, _, rfl, c6.2.2.1, c6.2.2.2, fun D7 nD7 => ?_⟩
    refine lcM (K := K) (tw_rng0 (j := (((1 : Int) + y2.1) - (1 : Int)))) hm w5 nD7 (fun F' H' acc s w => trivial) ?_ ?_
    · -- one turn
      intro b7 x7 F7 H7 H7' acc7 N7 P7 s7 w7 y7 hN7 hm
      replace g3 := A2.mono s7 g3
      replace q5 := s7 _ _ q5
      replace h3 := A2.mono s7 h3
      replace sF := sF.trans s7
      obtain ⟨rfl, rfl⟩ := y7
      refine ⟨rfl, _, rfl, _, rfl, _, _, rfl, rfl, (by show 2 ≤ sizeLine; decide), fun p9 n9 => ?_⟩
      obtain ⟨F9, s9, w9, q9⟩ := w7.frzE (o := .tup [(.int b7), (.int (b7 + (1 : Int)))]) n9
      replace g3 := A2.mono s9 g3
      replace q5 := s9 _ _ q5
      replace h3 := A2.mono s9 h3
      replace sF := sF.trans s9
      exact hN7 _ (post_ok hm) _ _ _ w9 s9 (rep_pair q9 rep_i rep_i)
    intro us7 F7 H7 ys7 s7 w7 gg7 hm
    replace g3 := A2.mono s7 g3
    replace q5 := s7 _ _ q5
    replace h3 := A2.mono s7 h3
    replace sF := sF.trans s7
    obtain ⟨F11, s11, w11, q11⟩ : ∃ F', Same F7 F' ∧ W F' _ ((a_state, .lst vs3) :: os) ∧ F' D7 = some (.lst us7) := w7.freezeE (pre := [])
    replace g3 := A2.mono s11 g3
    replace q5 := s11 _ _ q5
    replace h3 := A2.mono s11 h3
    replace gg7 := A2.mono s11 gg7
    replace sF := sF.trans s11
    refine ⟨_, _, _, (y3.1 : (List Int)), _, _, (ys7 : (List (Int × Int))), rfl, w11, (rep_lst q5 g3), (rep_lst q11 gg7), ?_⟩
    refine (post_bind hm).mono (fun y12 hm v12 F12 H12 w12 s12 r12 => ?_) (fun _ z => z)
    replace g3 := A2.mono s12 g3
    replace q5 := s12 _ _ q5
    replace h3 := A2.mono s12 h3
    replace gg7 := A2.mono s12 gg7
    replace q11 := s12 _ _ q11
    replace sF := sF.trans s12
    obtain ⟨a13, u13, z13, rfl, q13, r13a, r13b⟩ := r12
    obtain rfl : u13 = V.int y12.1 := r13a
    obtain ⟨a14, vs14, rfl, q14, h14⟩ := r13b
    refine ⟨_, rfl, _, rfl, _, rfl, _, rfl, _, rfl, _, _, _, _, _, _, _, rfl, w12, h3, ?_⟩
    refine (post_bind hm).mono (fun y15 hm p15 us15 vs15 F15 H15 w15 s15 g15 h15 => ?_) (fun _ z => z)
    replace g3 := A2.mono s15 g3
    replace q5 := s15 _ _ q5
    replace q13 := s15 _ _ q13
    replace h14 := A2.mono s15 h14
    replace q14 := s15 _ _ q14
    replace sF := sF.trans s15
    obtain ⟨F17, s17, w17, q17⟩ : ∃ F', Same F15 F' ∧ W F' _ ((a_state, .lst vs15) :: os) ∧ F' p15 = some (.lst us15) := w15.freezeE (pre := [])
    replace g3 := A2.mono s17 g3
    replace q5 := s17 _ _ q5
    replace q13 := s17 _ _ q13
    replace h14 := A2.mono s17 h14
    replace q14 := s17 _ _ q14
    replace h15 := A2.mono s17 h15
    replace g15 := A2.mono s17 g15
    replace sF := sF.trans s17
    refine ⟨_, _, _, _, _, _, (y12 : (Int × (Tup (Int × Int)))), _, (y3.1 : (List Int)), _, (y15.1 : (List Int)), _, rfl, w17, h15, (rep_pair q13 rep_i (rep_tup q14 h14)), (rep_lst q5 g3), (rep_lst q17 g15), T.nf_row_known, ?_⟩
    refine (post_bind hm).mono (fun y18 hm v18 vs18 F18 H18 w18 s18 r18 h18 => ?_) (fun _ z => z)
    replace g3 := A2.mono s18 g3
    replace q5 := s18 _ _ q5
    replace q13 := s18 _ _ q13
    replace h14 := A2.mono s18 h14
    replace q14 := s18 _ _ q14
    replace g15 := A2.mono s18 g15
    replace q17 := s18 _ _ q17
    replace sF := sF.trans s18
    obtain rfl : v18 = V.bl y18.1 := r18
    refine ⟨_, rfl, ?_⟩
    refine post_ite hm (fun k19 hm => ?_) (fun k19 hm => ?_)
    · skip
      exact (post_ok hm) _ _ _ _ w18 sF rep_b h18
    · skip
      refine ⟨_, rfl, _, _, _, _, _, _, rfl, w18, h18, ?_⟩
      refine (post_bind hm).mono (fun y20 hm v20 vs20 F20 H20 w20 s20 r20 h20 => ?_) (fun _ z => z)
      replace g3 := A2.mono s20 g3
      replace q5 := s20 _ _ q5
      replace q13 := s20 _ _ q13
      replace h14 := A2.mono s20 h14
      replace q14 := s20 _ _ q14
      replace g15 := A2.mono s20 g15
      replace q17 := s20 _ _ q17
      replace sF := sF.trans s20
      obtain rfl : v20 = V.int y20.1 := r20
      refine ⟨_, _, rfl, rfl, _, rfl, _, rfl, _, _, _, _, _, _, rfl, w20, h20, ?_⟩
      refine (post_bind hm).mono (fun y21 hm p21 us21 vs21 F21 H21 w21 s21 g21 h21 => ?_) (fun _ z => z)
      replace g3 := A2.mono s21 g3
      replace q5 := s21 _ _ q5
      replace q13 := s21 _ _ q13
      replace h14 := A2.mono s21 h14
      replace q14 := s21 _ _ q14
      replace sF := sF.trans s21
      obtain ⟨F23, s23, w23, q23⟩ : ∃ F', Same F21 F' ∧ W F' _ ((a_state, .lst vs21) :: os) ∧ F' p21 = some (.lst us21) := w21.freezeE (pre := [])
      replace g3 := A2.mono s23 g3
      replace q5 := s23 _ _ q5
      replace q13 := s23 _ _ q13
      replace h14 := A2.mono s23 h14
      replace q14 := s23 _ _ q14
      replace h21 := A2.mono s23 h21
      replace g21 := A2.mono s23 g21
      replace sF := sF.trans s23
      obtain ⟨c24, hm⟩ := pb_rng hm
      refine ⟨_, rfl, _, rfl, _, rfl, _, rfl, c24.2.2.1, c24.2.2.2, fun D25 nD25 => ?_⟩
      refine lcM (K := K) (tw_rng0 (j := ((3 : Int) + y20.1))) hm w23 nD25 (fun F' H' acc s w => trivial) ?_ ?_
      · -- one turn
        intro b25 x25 F25 H25 H25' acc25 N25 P25 s25 w25 y25 hN25 hm
        replace g21 := A2.mono s25 g21
        replace q23 := s25 _ _ q23
        replace q13 := s25 _ _ q13
        replace h14 := A2.mono s25 h14
        replace q14 := s25 _ _ q14
        replace h21 := A2.mono s25 h21
        replace sF := sF.trans s25
        obtain ⟨rfl, rfl⟩ := y25
        obtain ⟨c27, hm⟩ := pb_mod hm
        refine ⟨rfl, _, rfl, _, rfl, _, _, rfl, rfl, _, rfl, _, _, rfl, rfl, c27, (by show 2 ≤ sizeLine; decide), fun p28 n28 => ?_⟩
        obtain ⟨F28, s28, w28, q28⟩ := w25.frzE (o := .tup [(.int b25), (.int ((b25 + (1 : Int)) % ((3 : Int) + y20.1)))]) n28
        replace g21 := A2.mono s28 g21
        replace q23 := s28 _ _ q23
        replace q13 := s28 _ _ q13
        replace h14 := A2.mono s28 h14
        replace q14 := s28 _ _ q14
        replace h21 := A2.mono s28 h21
        replace sF := sF.trans s28
        exact hN25 _ (post_ok hm) _ _ _ w28 s28 (rep_pair q28 rep_i rep_i)
      intro us25 F25 H25 ys25 s25 w25 gg25 hm
      replace g21 := A2.mono s25 g21
      replace q23 := s25 _ _ q23
      replace q13 := s25 _ _ q13
      replace h14 := A2.mono s25 h14
      replace q14 := s25 _ _ q14
      replace h21 := A2.mono s25 h21
      replace sF := sF.trans s25
      obtain ⟨F30, s30, w30, q30⟩ : ∃ F', Same F25 F' ∧ W F' _ ((a_state, .lst vs21) :: os) ∧ F' D25 = some (.lst us25) := w25.freezeE (pre := [])
      replace g21 := A2.mono s30 g21
      replace q23 := s30 _ _ q23
      replace q13 := s30 _ _ q13
      replace h14 := A2.mono s30 h14
      replace q14 := s30 _ _ q14
      replace h21 := A2.mono s30 h21
      replace gg25 := A2.mono s30 gg25
      replace sF := sF.trans s30
      refine ⟨_, _, _, (y21.1 : (List Int)), _, _, (ys25 : (List (Int × Int))), rfl, w30, (rep_lst q23 g21), (rep_lst q30 gg25), ?_⟩
      refine (post_bind hm).mono (fun y31 hm v31 F31 H31 w31 s31 r31 => ?_) (fun _ z => z)
      replace g21 := A2.mono s31 g21
      replace q23 := s31 _ _ q23
      replace q13 := s31 _ _ q13
      replace h14 := A2.mono s31 h14
      replace q14 := s31 _ _ q14
      replace h21 := A2.mono s31 h21
      replace gg25 := A2.mono s31 gg25
      replace q30 := s31 _ _ q30
      replace sF := sF.trans s31
      obtain ⟨a32, u32, z32, rfl, q32, r32a, r32b⟩ := r31
      obtain rfl : u32 = V.int y31.1 := r32a
      obtain ⟨a33, vs33, rfl, q33, h33⟩ := r32b
      refine ⟨_, rfl, _, rfl, _, _, _, _, _, _, rfl, w31, h21, ?_⟩
      refine (post_bind hm).mono (fun y34 hm v34 vs34 F34 H34 w34 s34 r34 h34 => ?_) (fun _ z => z)
      replace g21 := A2.mono s34 g21
      replace q23 := s34 _ _ q23
      replace q13 := s34 _ _ q13
      replace h14 := A2.mono s34 h14
      replace q14 := s34 _ _ q14
      replace q32 := s34 _ _ q32
      replace h33 := A2.mono s34 h33
      replace q33 := s34 _ _ q33
      replace sF := sF.trans s34
      obtain rfl : v34 = V.int y34.1 := r34
      refine ⟨_, rfl, _, rfl, _, _, _, _, _, _, rfl, w34, h34, ?_⟩
      refine (post_bind hm).mono (fun y35 hm v35 vs35 F35 H35 w35 s35 r35 h35 => ?_) (fun _ z => z)
      replace g21 := A2.mono s35 g21
      replace q23 := s35 _ _ q23
      replace q13 := s35 _ _ q13
      replace h14 := A2.mono s35 h14
      replace q14 := s35 _ _ q14
      replace q32 := s35 _ _ q32
      replace h33 := A2.mono s35 h33
      replace q33 := s35 _ _ q33
      replace sF := sF.trans s35
      obtain rfl : v35 = V.int y35.1 := r35
      refine ⟨_, _, rfl, _, rfl, _, rfl, _, rfl, _, _, _, _, _, rfl, w35, ?_⟩
      refine (post_bind hm).mono (fun y36 hm v36 F36 H36 w36 s36 r36 => ?_) (fun _ z => z)
      replace g21 := A2.mono s36 g21
      replace q23 := s36 _ _ q23
      replace q13 := s36 _ _ q13
      replace h14 := A2.mono s36 h14
      replace q14 := s36 _ _ q14
      replace q32 := s36 _ _ q32
      replace h33 := A2.mono s36 h33
      replace q33 := s36 _ _ q33
      replace h35 := A2.mono s36 h35
      replace sF := sF.trans s36
      obtain rfl : v36 = V.int y36 := r36
      obtain ⟨t37, e37, hm⟩ := pb_get hm
      obtain ⟨u37, f37, r37⟩ := A2.at g21 e37
      obtain rfl : u37 = V.int t37 := r37
      obtain ⟨t38, e38, hm⟩ := pb_get hm
      obtain ⟨u38, f38, r38⟩ := A2.at g21 e38
      obtain rfl : u38 = V.int t38 := r38
      refine ⟨_, rfl, _, rfl, _, rfl, _, _, _, _, rfl, rfl, SqL.of (w36.same _ _ q23), f37, _, rfl, _, rfl, _, _, _, _, rfl, rfl, SqL.of (w36.same _ _ q23), f38, _, _, _, (y31 : (Int × (Tup (Int × Int)))), _, _, rfl, w36, (rep_pair q32 rep_i (rep_tup q33 h33)), ?_⟩
      refine (post_bind hm).mono (fun y39 hm v39 F39 H39 w39 s39 r39 => ?_) (fun _ z => z)
      replace g21 := A2.mono s39 g21
      replace q23 := s39 _ _ q23
      replace q13 := s39 _ _ q13
      replace h14 := A2.mono s39 h14
      replace q14 := s39 _ _ q14
      replace q32 := s39 _ _ q32
      replace h33 := A2.mono s39 h33
      replace q33 := s39 _ _ q33
      replace h35 := A2.mono s39 h35
      replace sF := sF.trans s39
      obtain rfl : v39 = V.int y39 := r39
      refine ⟨_, _, rfl, rfl, _, rfl, ?_⟩
      refine post_ite hm (fun k40 hm => ?_) (fun k40 hm => ?_)
      · skip
        exact (post_ok hm) _ _ _ _ w39 sF rep_b h35
      · skip
        refine ⟨_, rfl, (by decide), (by decide), ?_⟩
        refine forX (tw_rng0 (j := (2 : Int))) hm (fun (g41 : (List Int)) σ H' => ∃ (F' : Hp) (vs41_0 : List V) (o41_7 : Option V), σ = [some (.ref a_state), some (.int ((3 : Int) + y20.1)), some (.ref p21), some (.ref a13), some (.ref a32), some (.int y34.1), some (.int y35.1), o41_7, none] ∧ Same F39 F' ∧ W F' H' ((a_state, .lst vs41_0) :: os) ∧ A2 (rep K F') vs41_0 g41) ⟨_, _, _, rfl, Same.refl _, w39, h35⟩ (fun _ _ _ _ => trivial) ?_ ?_
        · -- a turn
          intro b41 g41 x41 σ41 H41 H41' N41 B41 P41 hI hy hN41 hB41 hZ41 hm
          obtain ⟨F41, vs41_0, o41_7, rfl, s41, w41, h41_0⟩ := hI
          replace g21 := A2.mono s41 g21
          replace q23 := s41 _ _ q23
          replace q13 := s41 _ _ q13
          replace h14 := A2.mono s41 h14
          replace q14 := s41 _ _ q14
          replace q32 := s41 _ _ q32
          replace h33 := A2.mono s41 h33
          replace q33 := s41 _ _ q33
          replace sF := sF.trans s41
          obtain ⟨rfl, rfl⟩ := hy
          refine ⟨_, rfl, _, rfl, _, rfl, _, rfl, _, rfl, _, _, _, _, _, _, _, rfl, w41, h41_0, ?_⟩
          refine (post_bind hm).mono (fun y42 hm p42 us42 vs42 F42 H42 w42 s42 g42 h42 => ?_) (fun _ z => z)
          replace g21 := A2.mono s42 g21
          replace q23 := s42 _ _ q23
          replace q13 := s42 _ _ q13
          replace h14 := A2.mono s42 h14
          replace q14 := s42 _ _ q14
          replace q32 := s42 _ _ q32
          replace h33 := A2.mono s42 h33
          replace q33 := s42 _ _ q33
          replace sF := sF.trans s42
          obtain ⟨F44, s44, w44, q44⟩ : ∃ F', Same F42 F' ∧ W F' _ ((a_state, .lst vs42) :: os) ∧ F' p42 = some (.lst us42) := w42.freezeE (pre := [])
          replace g21 := A2.mono s44 g21
          replace q23 := s44 _ _ q23
          replace q13 := s44 _ _ q13
          replace h14 := A2.mono s44 h14
          replace q14 := s44 _ _ q14
          replace q32 := s44 _ _ q32
          replace h33 := A2.mono s44 h33
          replace q33 := s44 _ _ q33
          replace h42 := A2.mono s44 h42
          replace g42 := A2.mono s44 g42
          replace sF := sF.trans s44
          refine ⟨_, _, _, _, _, _, (y31 : (Int × (Tup (Int × Int)))), _, (y21.1 : (List Int)), _, (y42.1 : (List Int)), _, rfl, w44, h42, (rep_pair q32 rep_i (rep_tup q33 h33)), (rep_lst q23 g21), (rep_lst q44 g42), T.nf_ring_known, ?_⟩
          refine (post_bind hm).mono (fun y45 hm v45 vs45 F45 H45 w45 s45 r45 h45 => ?_) (fun _ z => z)
          replace g21 := A2.mono s45 g21
          replace q23 := s45 _ _ q23
          replace q13 := s45 _ _ q13
          replace h14 := A2.mono s45 h14
          replace q14 := s45 _ _ q14
          replace q32 := s45 _ _ q32
          replace h33 := A2.mono s45 h33
          replace q33 := s45 _ _ q33
          replace g42 := A2.mono s45 g42
          replace q44 := s45 _ _ q44
          replace sF := sF.trans s45
          obtain rfl : v45 = V.bl y45.1 := r45
          refine ⟨_, rfl, ?_⟩
          refine post_ite hm (fun k46 hm => ?_) (fun k46 hm => ?_)
          · skip
            have hm := hZ41 _ (post_ok hm)
            exact (post_ok hm) _ _ _ _ w45 sF rep_b h45
          · skip
            exact hN41 _ (post_ok hm) _ _ ⟨_, _, _, rfl, (s41.trans (s42.trans (s44.trans s45))), w45, h45⟩
        intro g41 σ41 H41 hI hm
        obtain ⟨F41, vs41_0, o41_7, rfl, s41, w41, h41_0⟩ := hI
        replace g21 := A2.mono s41 g21
        replace q23 := s41 _ _ q23
        replace q13 := s41 _ _ q13
        replace h14 := A2.mono s41 h14
        replace q14 := s41 _ _ q14
        replace q32 := s41 _ _ q32
        replace h33 := A2.mono s41 h33
        replace q33 := s41 _ _ q33
        replace sF := sF.trans s41
        exact (post_ok hm) _ _ _ _ w41 sF rep_b h41_0
def sp_law_grid_right (K : Fg) : Sp := fun vs H Q E => ∃ (F : Hp) (os : List (Addr × HO)) (a_state : Addr) (vs_state : List V) (x_state : (List Int)), vs = [.ref a_state] ∧ W F H ((a_state, .lst vs_state) :: os) ∧ A2 (rep K F) vs_state x_state ∧ Post (law_grid_right x_state) (RetM K F a_state os Q) noX
theorem sc_law_grid_right : FnScope ["state", "wide", "high", "names", "ties", "web", "turn", "at", "beside", "looks", "found", "k"] ["state"] (defScope s_law_grid_right) := ⟨rfl, rfl, rfl, by decide +kernel, rfl, by decide +kernel, by decide +kernel⟩
set_option maxHeartbeats 40000000 in
theorem ok_law_grid_right (T : Tx K mg A FD) : FnOk P w K mg base CX0 7 (A 42) (FD 42) ["state"] (sp_law_grid_right K) := by
  refine T.d42.fn.ok sc_law_grid_right (fun vs H Q E h => ?_) (fun cdv Ar outer s H vs Q E hr h => ?_)
  · obtain ⟨F, os, a_state, vs_state, x_state, rfl, _⟩ := h
    rfl
  · obtain ⟨F0, os, a_state, vs_state, x_state, rfl, w0, h_state, hm⟩ := h
    have sF : Same F0 F0 := Same.refl _
    refine ⟨_, (pss_cons (ps_asg (pe_tup (pa_cons (pe_op op_add pe_int (pe_call (ok_law_next T) (hr.mono (by decide)) (by rfl) T.d35.mg T.d35.fn.kp T.d35.b .nil pass0 (pa_cons (pv 0) (pa_cons pe_int pa_nil)))) (pa_cons (pe_op op_add pe_int (pe_call (ok_law_next T) (hr.mono (by decide)) (by rfl) T.d35.mg T.d35.fn.kp T.d35.b .nil pass0 (pa_cons (pv 0) (pa_cons pe_int pa_nil)))) pa_nil))) (pg_k (K := K) (t := fun K => gTup K 2 _) rfl (pg_tup (n := 2) rfl (pgs_cons (pg_name (i := 1) sc_law_grid_right.nd rfl (Or.inl rfl)) (pgs_cons (pg_name (i := 2) sc_law_grid_right.nd rfl (Or.inr rfl)) pgs_nil))))) (pss_cons (ps_set (i := 3) sc_law_grid_right.nd rfl (Or.inl rfl) (pe_call (ok_law_order T) (hr.mono (by decide)) (by rfl) T.d38.mg T.d38.fn.kp T.d38.b .nil pass0 (pa_cons (pv 0) (pa_cons (pe_op op_mul (pv 1) (pv 2)) pa_nil)))) (pss_cons (ps_setLc (i := 4) (own := [("k", 11)]) (g := gName 11) (by rfl) sc_law_grid_right.nd rfl rfl (sw_true rfl rfl rfl (by decide +kernel)) (pi_range1 (by rfl) T.n_range (pa_cons (pe_op op_mul (pv 1) (pv 2)) pa_nil)) (blkOk_by (own := [("k", 11)]) (N := ["state", "wide", "high", "names", "ties", "web", "turn", "at", "beside", "looks", "found", "k"]) (sc := defScope s_law_grid_right) (by decide +kernel)) (fun _ _ _ _ _ => (pg_name (i := 11) sc_law_grid_right.nd rfl (Or.inl rfl))) (fun _ _ _ _ _ => (pts_one (pt_cmp (pc_neI (pe_op op_mod (pv 11) (pv 2)) (pe_op op_sub (pv 2) pe_int))))) (fun _ _ _ _ _ => (pe_tup (pa_cons (pv 11) (pa_cons (pe_op op_add (pv 11) pe_int) pa_nil))))) (pss_cons (ps_expr (pe_bm PySem.F.plainAttrs_list PySem.F.slot_list_extend PySem.F.type_list_extend mt_extend (pv 4) (pa_cons (pe_lc (own := [("k", 11)]) (g := gName 11) (by rfl) sc_law_grid_right.nd (pi_range1 (by rfl) T.n_range (pa_cons (pe_op op_sub (pe_op op_mul (pv 1) (pv 2)) (pv 2)) pa_nil)) (blkOk_by (own := [("k", 11)]) (N := ["state", "wide", "high", "names", "ties", "web", "turn", "at", "beside", "looks", "found", "k"]) (sc := defScope s_law_grid_right) (by decide +kernel)) (fun _ _ _ _ _ => (pg_name (i := 11) sc_law_grid_right.nd rfl (Or.inl rfl))) (fun _ _ _ _ _ => pts_nil) (fun _ _ _ _ _ => (pe_tup (pa_cons (pv 11) (pa_cons (pe_op op_add (pv 11) (pv 2)) pa_nil))))) pa_nil))) (pss_cons (ps_set (i := 5) sc_law_grid_right.nd rfl (Or.inl rfl) (pe_call (ok_law_named T) (hr.mono (by decide)) (by rfl) T.d39.mg T.d39.fn.kp T.d39.b .nil pass0 (pa_cons (pv 3) (pa_cons (pe_op op_mul (pv 1) (pv 2)) (pa_cons (pv 4) pa_nil))))) (pss_cons (ps_for PassesOwn.never rfl (pi_range1 (by rfl) T.n_range (pa_cons pe_int pa_nil)) (pg_name (i := 6) sc_law_grid_right.nd rfl (Or.inl rfl)) (pss_cons (ps_set (i := 7) sc_law_grid_right.nd rfl (Or.inl rfl) (pe_call (ok_law_next T) (hr.mono (by decide)) (by rfl) T.d35.mg T.d35.fn.kp T.d35.b .nil pass0 (pa_cons (pv 0) (pa_cons (pe_op op_mul (pv 1) (pv 2)) pa_nil)))) (pss_cons (ps_set (i := 8) sc_law_grid_right.nd rfl (Or.inl rfl) (pe_op op_mod (pe_op op_add (pe_op op_add (pv 7) pe_int) (pe_call (ok_law_next T) (hr.mono (by decide)) (by rfl) T.d35.mg T.d35.fn.kp T.d35.b .nil pass0 (pa_cons (pv 0) (pa_cons (pe_op op_sub (pe_op op_mul (pv 1) (pv 2)) pe_int) pa_nil)))) (pe_op op_mul (pv 1) (pv 2)))) (pss_cons (ps_if (pt_cmp (pc_gt (pv 6) pe_int)) (pss_one (ps_asg (pe_ix (ix_listK (K := K) rfl) (pe_lst (pa_cons (pe_lst (pa_cons pe_int (pa_cons (pe_op op_sub (pv 2) pe_int) pa_nil))) (pa_cons (pe_lst (pa_cons pe_int (pa_cons (pe_op op_sub (pe_op op_mul (pv 1) (pv 2)) pe_int) pa_nil))) pa_nil))) (pe_op op_sub (pv 6) pe_int) (fun _ _ => rfl)) (pg_k (K := K) (t := fun K => gUnl K 2 _) rfl (pg_unl (n := 2) rfl (pgs_cons (pg_name (i := 7) sc_law_grid_right.nd rfl (Or.inl rfl)) (pgs_cons (pg_name (i := 8) sc_law_grid_right.nd rfl (Or.inl rfl)) pgs_nil)))))) pss_nil) (pss_cons (ps_set (i := 9) sc_law_grid_right.nd rfl (Or.inl rfl) (pe_callB (cr_sortI (K := K) rfl) (by rfl) T.n_sorted (by decide +kernel) (pa_cons (pe_lst (pa_cons (pe_ix (ix_listK (K := K) rfl) (pv 3) (pv 7) (fun _ _ => rfl)) (pa_cons (pe_ix (ix_listK (K := K) rfl) (pv 3) (pv 8) (fun _ _ => rfl)) pa_nil))) pa_nil))) (pss_cons (ps_set (i := 10) sc_law_grid_right.nd rfl (Or.inl rfl) (pe_call (ok_grid_known T) (hr.mono (by decide)) (by rfl) T.d11.mg T.d11.fn.kp T.d11.b .nil pass0 (pa_cons (pv 1) (pa_cons (pv 2) (pa_cons (pe_tup (pa_cons (pe_op op_fdivW (pv 7) (pv 2)) (pa_cons (pe_op op_mod (pv 7) (pv 2)) pa_nil))) (pa_cons (pe_tup (pa_cons (pe_op op_fdivW (pv 8) (pv 2)) (pa_cons (pe_op op_mod (pv 8) (pv 2)) pa_nil))) pa_nil)))))) (pss_one (ps_if (PW.pt (pw_or (pt_not (pt_val (pe_callB (call_isB (K := K) rfl) (by rfl) T.n_isinstance (by decide +kernel) (pa_cons (pv 10) (pa_cons (pe_bltn (v := .ty "bool") (by rfl) T.n_bool (by decide +kernel) rfl) pa_nil))))) (pw_or1 (pt_cmpR op_neB (pv 10) (pe_call (ok_is_known T) (hr.mono (by decide)) (by rfl) T.d30.mg T.d30.fn.kp T.d30.b .nil pass0 (pa_cons (pv 5) (pa_cons (pv 9) (pa_cons pe_str pa_nil)))) (nomark _))))) (pss_one (ps_ret pe_bl)) pss_nil)))))))) (pss_one (ps_ret pe_bl)))))))), ?_⟩
    refine ⟨_, rfl, _, _, _, _, _, _, rfl, w0, h_state, ?_⟩
    refine (post_bind hm).mono (fun y2 hm v2 vs2 F2 H2 w2 s2 r2 h2 => ?_) (fun _ z => z)
    replace sF := sF.trans s2
    obtain rfl : v2 = V.int y2.1 := r2
    refine ⟨_, _, rfl, rfl, _, rfl, _, _, _, _, _, _, rfl, w2, h2, ?_⟩
    refine (post_bind hm).mono (fun y3 hm v3 vs3 F3 H3 w3 s3 r3 h3 => ?_) (fun _ z => z)
    replace sF := sF.trans s3
    obtain rfl : v3 = V.int y3.1 := r3
    refine ⟨_, _, rfl, rfl, (by show 2 ≤ sizeLine; decide), fun p4 n4 => ?_⟩
    obtain ⟨F4, s4, w4, q4⟩ := w3.frzE (o := .tup [(.int ((2 : Int) + y2.1)), (.int ((2 : Int) + y3.1))]) n4
    replace h3 := A2.mono s4 h3
    replace sF := sF.trans s4
    obtain ⟨c5, hm⟩ := pb_mul hm
    refine ⟨_, _, rfl, SqT.of (w4.same _ _ q4), rfl, _, _, rfl, _, _, rfl, rfl, _, rfl, _, rfl, _, rfl, _, _, rfl, rfl, c5, _, _, _, _, _, _, rfl, w4, h3, ?_⟩
    refine (post_bind hm).mono (fun y6 hm p6 us6 vs6 F6 H6 w6 s6 g6 h6 => ?_) (fun _ z => z)
    replace sF := sF.trans s6
    obtain ⟨F8, s8, w8, q8⟩ : ∃ F', Same F6 F' ∧ W F' _ ((a_state, .lst vs6) :: os) ∧ F' p6 = some (.lst us6) := w6.freezeE (pre := [])
    replace h6 := A2.mono s8 h6
    replace g6 := A2.mono s8 g6
    replace sF := sF.trans s8
    obtain ⟨c9, hm⟩ := pb_mul hm
    obtain ⟨c10, hm⟩ := pb_rng hm
    refine ⟨_, rfl, _, rfl, _, _, rfl, rfl, c9, _, rfl, c10.2.2.1, c10.2.2.2, fun D11 nD11 => ?_⟩
    refine lcF (K := K) (tw_rng0 (j := (((2 : Int) + y2.1) * ((2 : Int) + y3.1)))) hm w8 nD11 (fun F' H' acc s w => trivial) ?_ ?_
    · -- one turn
      intro b11 x11 F11 H11 H11' acc11 N11 M11 P11 s11 w11 y11 hN11 hM11 hm
      replace g6 := A2.mono s11 g6
      replace q8 := s11 _ _ q8
      replace h6 := A2.mono s11 h6
      replace sF := sF.trans s11
      obtain ⟨rfl, rfl⟩ := y11
      obtain ⟨c13, hm⟩ := pb_mod hm
      refine ⟨rfl, _, rfl, _, rfl, _, _, rfl, rfl, c13, _, rfl, _, _, rfl, rfl, _, _, rfl, rfl, _, rfl, ?_⟩
      refine post_ite hm (fun k14 hm => ?_) (fun k14 hm => ?_)
      · skip
        refine ⟨_, rfl, _, rfl, _, _, rfl, rfl, (by show 2 ≤ sizeLine; decide), fun p15 n15 => ?_⟩
        obtain ⟨F15, s15, w15, q15⟩ := w11.frzE (o := .tup [(.int b11), (.int (b11 + (1 : Int)))]) n15
        replace g6 := A2.mono s15 g6
        replace q8 := s15 _ _ q8
        replace h6 := A2.mono s15 h6
        replace sF := sF.trans s15
        exact hN11 _ (post_ok hm) _ _ _ w15 s15 (rep_pair q15 rep_i rep_i)
      · skip
        exact hM11 (post_ok hm) _ _ w11 (Same.refl _)
    intro us11 F11 H11 ys11 s11 w11 gg11 hm
    replace g6 := A2.mono s11 g6
    replace q8 := s11 _ _ q8
    replace h6 := A2.mono s11 h6
    replace sF := sF.trans s11
    obtain ⟨c17, hm⟩ := pb_mul hm
    obtain ⟨c18, hm⟩ := pb_rng hm
    refine ⟨_, rfl, .inl ⟨rfl, _, SqL.of (w11.get (pre := []))⟩, _, rfl, _, rfl, _, _, rfl, rfl, c17, _, rfl, _, _, rfl, rfl, _, rfl, c18.2.2.1, c18.2.2.2, fun D19 nD19 => ?_⟩
    refine lcM (K := K) (tw_rng0 (j := ((((2 : Int) + y2.1) * ((2 : Int) + y3.1)) - ((2 : Int) + y3.1)))) hm w11 nD19 (fun F' H' acc s w => trivial) ?_ ?_
    · -- one turn
      intro b19 x19 F19 H19 H19' acc19 N19 P19 s19 w19 y19 hN19 hm
      replace g6 := A2.mono s19 g6
      replace q8 := s19 _ _ q8
      replace gg11 := A2.mono s19 gg11
      replace h6 := A2.mono s19 h6
      replace sF := sF.trans s19
      obtain ⟨rfl, rfl⟩ := y19
      refine ⟨rfl, _, rfl, _, rfl, _, rfl, _, _, rfl, rfl, (by show 2 ≤ sizeLine; decide), fun p21 n21 => ?_⟩
      obtain ⟨F21, s21, w21, q21⟩ := w19.frzE (o := .tup [(.int b19), (.int (b19 + ((2 : Int) + y3.1)))]) n21
      replace g6 := A2.mono s21 g6
      replace q8 := s21 _ _ q8
      replace gg11 := A2.mono s21 gg11
      replace h6 := A2.mono s21 h6
      replace sF := sF.trans s21
      exact hN19 _ (post_ok hm) _ _ _ w21 s21 (rep_pair q21 rep_i rep_i)
    intro us19 F19 H19 ys19 s19 w19 gg19 hm
    replace g6 := A2.mono s19 g6
    replace q8 := s19 _ _ q8
    replace gg11 := A2.mono s19 gg11
    replace h6 := A2.mono s19 h6
    replace sF := sF.trans s19
    obtain ⟨l23, z23, e23, hm⟩ := pn_extend hm
    refine ⟨_, _, _, _, rfl, rfl, (w19.get (pre := [_])), (w19.get (pre := [])), (A2.le2 gg11 gg19 z23), ?_⟩
    have h23 : A2 (rep K F19) (us11 ++ us19) l23 := e23 ▸ A2.append gg11 gg19
    have w24 : W F19 _ ((D19, .lst us19) :: (D11, .lst (us11 ++ us19)) :: (a_state, .lst vs6) :: os) := w19.set (pre := [_])
    have w25 : W F19 _ ((D11, .lst (us11 ++ us19)) :: (a_state, .lst vs6) :: os) := w24.drop (pre := [])
    obtain ⟨c26, hm⟩ := pb_mul hm
    obtain ⟨F27, s27, w27, q27⟩ : ∃ F', Same F19 F' ∧ W F' _ ((a_state, .lst vs6) :: os) ∧ F' D11 = some (.lst (us11 ++ us19)) := w25.freezeE (pre := [])
    replace g6 := A2.mono s27 g6
    replace q8 := s27 _ _ q8
    replace h23 := A2.mono s27 h23
    replace h6 := A2.mono s27 h6
    replace sF := sF.trans s27
    refine ⟨_, rfl, _, rfl, _, rfl, _, _, rfl, rfl, c26, _, rfl, _, _, _, (y6.1 : (List Int)), _, _, (l23 : (List (Int × Int))), rfl, w27, (rep_lst q8 g6), (rep_lst q27 h23), ?_⟩
    refine (post_bind hm).mono (fun y28 hm v28 F28 H28 w28 s28 r28 => ?_) (fun _ z => z)
    replace g6 := A2.mono s28 g6
    replace q8 := s28 _ _ q8
    replace h23 := A2.mono s28 h23
    replace h6 := A2.mono s28 h6
    replace q27 := s28 _ _ q27
    replace sF := sF.trans s28
    obtain ⟨a29, u29, z29, rfl, q29, r29a, r29b⟩ := r28
    obtain rfl : u29 = V.int y28.1 := r29a
    obtain ⟨a30, vs30, rfl, q30, h30⟩ := r29b
    refine ⟨_, rfl, (by decide), (by decide), ?_⟩
    refine forX (tw_rng0 (j := (4 : Int))) hm (fun (g31 : (List Int)) σ H' => ∃ (F' : Hp) (vs31_0 : List V) (o31_7 : Option V) (o31_8 : Option V) (o31_9 : Option V) (o31_10 : Option V) (o31_6 : Option V), σ = [some (.ref a_state), some (.int ((2 : Int) + y2.1)), some (.int ((2 : Int) + y3.1)), some (.ref p6), some (.ref D11), some (.ref a29), o31_6, o31_7, o31_8, o31_9, o31_10, none] ∧ Same F28 F' ∧ W F' H' ((a_state, .lst vs31_0) :: os) ∧ A2 (rep K F') vs31_0 g31) ⟨_, _, _, _, _, _, _, rfl, Same.refl _, w28, h6⟩ (fun _ _ _ _ => trivial) ?_ ?_
    · -- a turn
      intro b31 g31 x31 σ31 H31 H31' N31 B31 P31 hI hy hN31 hB31 hZ31 hm
      obtain ⟨F31, vs31_0, o31_7, o31_8, o31_9, o31_10, o31_6, rfl, s31, w31, h31_0⟩ := hI
      replace g6 := A2.mono s31 g6
      replace q8 := s31 _ _ q8
      replace h23 := A2.mono s31 h23
      replace q27 := s31 _ _ q27
      replace q29 := s31 _ _ q29
      replace h30 := A2.mono s31 h30
      replace q30 := s31 _ _ q30
      replace sF := sF.trans s31
      obtain ⟨rfl, rfl⟩ := hy
      obtain ⟨c32, hm⟩ := pb_mul hm
      refine ⟨_, rfl, _, rfl, _, rfl, _, _, rfl, rfl, c32, _, _, _, _, _, _, rfl, w31, h31_0, ?_⟩
      refine (post_bind hm).mono (fun y33 hm v33 vs33 F33 H33 w33 s33 r33 h33 => ?_) (fun _ z => z)
      replace g6 := A2.mono s33 g6
      replace q8 := s33 _ _ q8
      replace h23 := A2.mono s33 h23
      replace q27 := s33 _ _ q27
      replace q29 := s33 _ _ q29
      replace h30 := A2.mono s33 h30
      replace q30 := s33 _ _ q30
      replace sF := sF.trans s33
      obtain rfl : v33 = V.int y33.1 := r33
      obtain ⟨c34, hm⟩ := pb_mul hm
      refine ⟨_, rfl, _, _, rfl, rfl, _, rfl, _, rfl, _, rfl, _, _, rfl, rfl, c34, _, _, rfl, rfl, _, _, _, _, _, _, rfl, w33, h33, ?_⟩
      refine (post_bind hm).mono (fun y35 hm v35 vs35 F35 H35 w35 s35 r35 h35 => ?_) (fun _ z => z)
      replace g6 := A2.mono s35 g6
      replace q8 := s35 _ _ q8
      replace h23 := A2.mono s35 h23
      replace q27 := s35 _ _ q27
      replace q29 := s35 _ _ q29
      replace h30 := A2.mono s35 h30
      replace q30 := s35 _ _ q30
      replace sF := sF.trans s35
      obtain rfl : v35 = V.int y35.1 := r35
      obtain ⟨c36, hm⟩ := pb_mul hm
      obtain ⟨c37, hm⟩ := pb_mod hm
      refine ⟨_, _, rfl, rfl, _, rfl, _, rfl, _, _, rfl, rfl, c36, _, _, rfl, rfl, c37, ?_⟩
      refine stepN ?_
      try dsimp only
      refine joinS hm (fun (g38 : Int × Int) σ H' => ∃ (F' : Hp), σ = [some (.ref a_state), some (.int ((2 : Int) + y2.1)), some (.int ((2 : Int) + y3.1)), some (.ref p6), some (.ref D11), some (.ref a29), some (.int b31), some (.int g38.1), some (.int g38.2), o31_9, o31_10, none] ∧ Same F35 F' ∧ W F' H' ((a_state, .lst vs35) :: os)) ?_ ?_
      · intro N38 P38 hN38 hm
        refine ⟨_, rfl, _, _, rfl, rfl, _, rfl, ?_⟩
        refine post_ite hm (fun k39 hm => ?_) (fun k39 hm => ?_)
        · skip
          have h40 : A2 (rep K F35) [(.int 0), (.int (((2 : Int) + y3.1) - (1 : Int)))] ([(0 : Int), (((2 : Int) + y3.1) - (1 : Int))] : (List Int)) := .cons rep_i (.cons rep_i (.nil))
          refine ⟨_, rfl, _, _, rfl, rfl, (by show 2 ≤ sizeLine; decide), fun p41 n41 => ?_⟩
          have w41 : W F35 _ ((p41, .lst [(.int 0), (.int (((2 : Int) + y3.1) - (1 : Int)))]) :: (a_state, .lst vs35) :: os) := w35.new n41
          obtain ⟨c42, hm⟩ := pb_mul hm
          have h43 : A2 (rep K F35) [(.int 0), (.int ((((2 : Int) + y2.1) * ((2 : Int) + y3.1)) - (1 : Int)))] ([(0 : Int), ((((2 : Int) + y2.1) * ((2 : Int) + y3.1)) - (1 : Int))] : (List Int)) := .cons rep_i (.cons rep_i (.nil))
          refine ⟨_, rfl, _, rfl, _, _, rfl, rfl, c42, _, _, rfl, rfl, (by show 2 ≤ sizeLine; decide), fun p44 n44 => ?_⟩
          have w44 : W F35 _ ((p44, .lst [(.int 0), (.int ((((2 : Int) + y2.1) * ((2 : Int) + y3.1)) - (1 : Int)))]) :: (p41, .lst [(.int 0), (.int (((2 : Int) + y3.1) - (1 : Int)))]) :: (a_state, .lst vs35) :: os) := w41.new n44
          obtain ⟨F45, s45, w45, q45⟩ : ∃ F', Same F35 F' ∧ W F' _ ((p44, .lst [(.int 0), (.int ((((2 : Int) + y2.1) * ((2 : Int) + y3.1)) - (1 : Int)))]) :: (a_state, .lst vs35) :: os) ∧ F' p41 = some (.lst [(.int 0), (.int (((2 : Int) + y3.1) - (1 : Int)))]) := w44.freezeE (pre := [_])
          replace g6 := A2.mono s45 g6
          replace q8 := s45 _ _ q8
          replace h23 := A2.mono s45 h23
          replace q27 := s45 _ _ q27
          replace q29 := s45 _ _ q29
          replace h30 := A2.mono s45 h30
          replace q30 := s45 _ _ q30
          replace h35 := A2.mono s45 h35
          replace h40 := A2.mono s45 h40
          replace h43 := A2.mono s45 h43
          replace sF := sF.trans s45
          obtain ⟨F46, s46, w46, q46⟩ : ∃ F', Same F45 F' ∧ W F' _ ((a_state, .lst vs35) :: os) ∧ F' p44 = some (.lst [(.int 0), (.int ((((2 : Int) + y2.1) * ((2 : Int) + y3.1)) - (1 : Int)))]) := w45.freezeE (pre := [])
          replace g6 := A2.mono s46 g6
          replace q8 := s46 _ _ q8
          replace h23 := A2.mono s46 h23
          replace q27 := s46 _ _ q27
          replace q29 := s46 _ _ q29
          replace h30 := A2.mono s46 h30
          replace q30 := s46 _ _ q30
          replace h35 := A2.mono s46 h35
          replace h40 := A2.mono s46 h40
          replace h43 := A2.mono s46 h43
          replace q45 := s46 _ _ q45
          replace sF := sF.trans s46
          have h47 : A2 (rep K F46) [(.ref p41), (.ref p44)] ([([(0 : Int), (((2 : Int) + y3.1) - (1 : Int))] : (List Int)), ([(0 : Int), ((((2 : Int) + y2.1) * ((2 : Int) + y3.1)) - (1 : Int))] : (List Int))] : (List (List Int))) := .cons (rep_lst q45 h40) (.cons (rep_lst q46 h43) (.nil))
          refine ⟨(by show 2 ≤ sizeLine; decide), fun p48 n48 => ?_⟩
          have w48 : W F46 _ ((p48, .lst [(.ref p41), (.ref p44)]) :: (a_state, .lst vs35) :: os) := w46.new n48
          obtain ⟨t49, e49, hm⟩ := pb_get hm
          obtain ⟨u49, f49, r49⟩ := A2.at h47 e49
          obtain ⟨a50, vs50, rfl, q50, h50⟩ := r49
          obtain ⟨a51, b51, e51, hm⟩ := pb_un2 hm
          have ev51 : vs50 = [.int a51, .int b51] := two_ints h50 e51
          have w52 : W F46 _ ((a_state, .lst vs35) :: os) := w48.drop (pre := [])
          exact ⟨_, rfl, _, _, rfl, rfl, _, _, _, _, rfl, rfl, SqL.of (w48.get (pre := [])), f49, _, [.int a51, .int b51], rfl, (ev51 ▸ SqL.of (w48.same _ _ q50)), rfl, _, _, rfl, _, _, rfl, rfl, hN38 _ (post_ok hm) _ _ ⟨_, rfl, (s45.trans s46), w52⟩⟩
        · skip
          exact hN38 _ (post_ok hm) _ _ ⟨_, rfl, Same.refl _, w35⟩
      intro g38 σ38 H38 hI hm
      obtain ⟨F38, rfl, s38, w38⟩ := hI
      replace g6 := A2.mono s38 g6
      replace q8 := s38 _ _ q8
      replace h23 := A2.mono s38 h23
      replace q27 := s38 _ _ q27
      replace q29 := s38 _ _ q29
      replace h30 := A2.mono s38 h30
      replace q30 := s38 _ _ q30
      replace h35 := A2.mono s38 h35
      replace sF := sF.trans s38
      obtain ⟨t53, e53, hm⟩ := pb_get hm
      obtain ⟨u53, f53, r53⟩ := A2.at g6 e53
      obtain rfl : u53 = V.int t53 := r53
      obtain ⟨t54, e54, hm⟩ := pb_get hm
      obtain ⟨u54, f54, r54⟩ := A2.at g6 e54
      obtain rfl : u54 = V.int t54 := r54
      have h55 : A2 (rep K F38) [(.int t53), (.int t54)] ([t53, t54] : (List Int)) := .cons rep_i (.cons rep_i (.nil))
      refine ⟨_, rfl, _, rfl, _, _, _, _, rfl, rfl, SqL.of (w38.same _ _ q8), f53, _, rfl, _, rfl, _, _, _, _, rfl, rfl, SqL.of (w38.same _ _ q8), f54, (by show 2 ≤ sizeLine; decide), fun p56 n56 => ?_⟩
      have w56 : W F38 _ ((p56, .lst [(.int t53), (.int t54)]) :: (a_state, .lst vs35) :: os) := w38.new n56
      have h57 : A2 (rep K F38) ((sortI ([t53, t54] : (List Int))).map V.int) (sortI ([t53, t54] : (List Int))) := A2.of_ints
      refine ⟨_, _, rfl, ints_q (SqL.of (w56.get (pre := []))) h55, fun p58 n58 => ?_⟩
      have w58 : W F38 _ ((p58, .lst ((sortI ([t53, t54] : (List Int))).map V.int)) :: (p56, .lst [(.int t53), (.int t54)]) :: (a_state, .lst vs35) :: os) := w56.new n58
      obtain ⟨F59, s59, w59, q59⟩ : ∃ F', Same F38 F' ∧ W F' _ ((p56, .lst [(.int t53), (.int t54)]) :: (a_state, .lst vs35) :: os) ∧ F' p58 = some (.lst ((sortI ([t53, t54] : (List Int))).map V.int)) := w58.freezeE (pre := [])
      replace g6 := A2.mono s59 g6
      replace q8 := s59 _ _ q8
      replace h23 := A2.mono s59 h23
      replace q27 := s59 _ _ q27
      replace q29 := s59 _ _ q29
      replace h30 := A2.mono s59 h30
      replace q30 := s59 _ _ q30
      replace h35 := A2.mono s59 h35
      replace h55 := A2.mono s59 h55
      replace h57 := A2.mono s59 h57
      replace sF := sF.trans s59
      have w60 : W F59 _ ((a_state, .lst vs35) :: os) := w59.drop (pre := [])
      obtain ⟨c61, hm⟩ := pb_div hm
      obtain ⟨c62, hm⟩ := pb_mod hm
      have h63 : A2 (rep K F59) [(.int (g38.1 / ((2 : Int) + y3.1))), (.int (g38.1 % ((2 : Int) + y3.1)))] (Tup.mk [(g38.1 / ((2 : Int) + y3.1)), (g38.1 % ((2 : Int) + y3.1))] : (Tup Int)).l := .cons rep_i (.cons rep_i (.nil))
      refine ⟨_, rfl, _, rfl, _, rfl, _, rfl, _, _, rfl, rfl, c61, _, rfl, _, rfl, _, _, rfl, rfl, c62, (by show 2 ≤ sizeLine; decide), fun p64 n64 => ?_⟩
      obtain ⟨F64, s64, w64, q64⟩ := w60.frzE (o := .tup [(.int (g38.1 / ((2 : Int) + y3.1))), (.int (g38.1 % ((2 : Int) + y3.1)))]) n64
      replace g6 := A2.mono s64 g6
      replace q8 := s64 _ _ q8
      replace h23 := A2.mono s64 h23
      replace q27 := s64 _ _ q27
      replace q29 := s64 _ _ q29
      replace h30 := A2.mono s64 h30
      replace q30 := s64 _ _ q30
      replace h57 := A2.mono s64 h57
      replace q59 := s64 _ _ q59
      replace h35 := A2.mono s64 h35
      replace h63 := A2.mono s64 h63
      replace sF := sF.trans s64
      obtain ⟨c65, hm⟩ := pb_div hm
      obtain ⟨c66, hm⟩ := pb_mod hm
      have h67 : A2 (rep K F64) [(.int (g38.2 / ((2 : Int) + y3.1))), (.int (g38.2 % ((2 : Int) + y3.1)))] (Tup.mk [(g38.2 / ((2 : Int) + y3.1)), (g38.2 % ((2 : Int) + y3.1))] : (Tup Int)).l := .cons rep_i (.cons rep_i (.nil))
      refine ⟨_, rfl, _, rfl, _, _, rfl, rfl, c65, _, rfl, _, rfl, _, _, rfl, rfl, c66, (by show 2 ≤ sizeLine; decide), fun p68 n68 => ?_⟩
      obtain ⟨F68, s68, w68, q68⟩ := w64.frzE (o := .tup [(.int (g38.2 / ((2 : Int) + y3.1))), (.int (g38.2 % ((2 : Int) + y3.1)))]) n68
      replace g6 := A2.mono s68 g6
      replace q8 := s68 _ _ q8
      replace h23 := A2.mono s68 h23
      replace q27 := s68 _ _ q27
      replace q29 := s68 _ _ q29
      replace h30 := A2.mono s68 h30
      replace q30 := s68 _ _ q30
      replace h57 := A2.mono s68 h57
      replace q59 := s68 _ _ q59
      replace h35 := A2.mono s68 h35
      replace h63 := A2.mono s68 h63
      replace q64 := s68 _ _ q64
      replace h67 := A2.mono s68 h67
      replace sF := sF.trans s68
      refine ⟨_, _, _, _, _, ((Tup.mk [(g38.1 / ((2 : Int) + y3.1)), (g38.1 % ((2 : Int) + y3.1))] : (Tup Int)) : (Tup Int)), _, ((Tup.mk [(g38.2 / ((2 : Int) + y3.1)), (g38.2 % ((2 : Int) + y3.1))] : (Tup Int)) : (Tup Int)), rfl, w68, (rep_tup q64 h63), (rep_tup q68 h67), ?_⟩
      refine (post_bind hm).mono (fun y69 hm v69 F69 H69 w69 s69 r69 => ?_) (fun _ z => z)
      replace g6 := A2.mono s69 g6
      replace q8 := s69 _ _ q8
      replace h23 := A2.mono s69 h23
      replace q27 := s69 _ _ q27
      replace q29 := s69 _ _ q29
      replace h30 := A2.mono s69 h30
      replace q30 := s69 _ _ q30
      replace h57 := A2.mono s69 h57
      replace q59 := s69 _ _ q59
      replace h35 := A2.mono s69 h35
      replace h63 := A2.mono s69 h63
      replace q64 := s69 _ _ q64
      replace h67 := A2.mono s69 h67
      replace q68 := s69 _ _ q68
      replace sF := sF.trans s69
      obtain rfl : v69 = V.bl y69 := r69
      refine stepN ?_
      try dsimp only
      refine stepIf ?_
      refine joinT hm (fun (j70 : Bool) c H' => c = j70 ∧ ∃ (F' : Hp), Same F69 F' ∧ W F' H' ((a_state, .lst vs35) :: os)) ?_ ?_
      · intro Q70 P70 q70 hm
        refine ⟨_, rfl, _, _, _, true, rfl, (.bl _), (by decide +kernel), _, rfl, ?_⟩
        refine post_ite hm (fun k71 hm => ?_) (fun k71 hm => ?_)
        · skip
          exact q70 _ (post_ok hm) _ _ ⟨rfl, _, Same.refl _, w69⟩
        · skip
          refine ⟨_, rfl, _, rfl, _, rfl, _, _, _, (y28 : (Int × (Tup (Int × Int)))), _, ((sortI ([t53, t54] : (List Int))) : (List Int)), _, rfl, w69, (rep_pair q29 rep_i (rep_tup q30 h30)), (rep_lst q59 h57), ?_⟩
          refine (post_bind hm).mono (fun y73 hm v73 F73 H73 w73 s73 r73 => ?_) (fun _ z => z)
          replace g6 := A2.mono s73 g6
          replace q8 := s73 _ _ q8
          replace h23 := A2.mono s73 h23
          replace q27 := s73 _ _ q27
          replace q29 := s73 _ _ q29
          replace h30 := A2.mono s73 h30
          replace q30 := s73 _ _ q30
          replace h57 := A2.mono s73 h57
          replace q59 := s73 _ _ q59
          replace h35 := A2.mono s73 h35
          replace sF := sF.trans s73
          obtain rfl : v73 = V.bl y73 := r73
          exact ⟨_, _, rfl, rfl, _, rfl, q70 _ (post_ok hm) _ _ ⟨rfl, _, s73, w73⟩⟩
      intro j70 c70 H70 hc70 hm
      obtain ⟨rfl, F70, s70, w70⟩ := hc70
      replace g6 := A2.mono s70 g6
      replace q8 := s70 _ _ q8
      replace h23 := A2.mono s70 h23
      replace q27 := s70 _ _ q27
      replace q29 := s70 _ _ q29
      replace h30 := A2.mono s70 h30
      replace q30 := s70 _ _ q30
      replace h57 := A2.mono s70 h57
      replace q59 := s70 _ _ q59
      replace h35 := A2.mono s70 h35
      replace sF := sF.trans s70
      refine post_ite hm (fun k75 hm => ?_) (fun k75 hm => ?_)
      · skip
        have hm := hZ31 _ (post_ok hm)
        exact (post_ok hm) _ _ _ _ w70 sF rep_b h35
      · skip
        exact hN31 _ (post_ok hm) _ _ ⟨_, _, _, _, _, _, _, rfl, (s31.trans (s33.trans (s35.trans (s38.trans (s59.trans (s64.trans (s68.trans (s69.trans s70)))))))), w70, h35⟩
    intro g31 σ31 H31 hI hm
    obtain ⟨F31, vs31_0, o31_7, o31_8, o31_9, o31_10, o31_6, rfl, s31, w31, h31_0⟩ := hI
    replace g6 := A2.mono s31 g6
    replace q8 := s31 _ _ q8
    replace h23 := A2.mono s31 h23
    replace q27 := s31 _ _ q27
    replace q29 := s31 _ _ q29
    replace h30 := A2.mono s31 h30
    replace q30 := s31 _ _ q30
    replace sF := sF.trans s31
    exact (post_ok hm) _ _ _ _ w31 sF rep_b h31_0
def sp_law_sets (K : Fg) : Sp := fun vs H Q E => ∃ (F : Hp) (os : List (Addr × HO)) (x_many : Int) (x_few : Int), vs = [.int x_many, .int x_few] ∧ W F H (os) ∧ Post (law_sets x_many x_few) (Ret K F os Q) noX
theorem sc_law_sets : FnScope ["many", "few", "found", "place", "some"] ["many", "few"] (defScope s_law_sets) := ⟨rfl, rfl, rfl, by decide +kernel, rfl, by decide +kernel, by decide +kernel⟩
theorem ok_law_sets (T : Tx K mg A FD) : FnOk P w K mg base CX0 1 (A 43) (FD 43) ["many", "few"] (sp_law_sets K) := by
  refine T.d43.fn.ok sc_law_sets (fun vs H Q E h => ?_) (fun cdv Ar outer s H vs Q E hr h => ?_)
  · obtain ⟨F, os, x_many, x_few, rfl, _⟩ := h
    rfl
  · obtain ⟨F0, os, x_many, x_few, rfl, w0, hm⟩ := h
    have sF : Same F0 F0 := Same.refl _
    refine ⟨_, (pss_cons (ps_set (i := 2) sc_law_sets.nd rfl (Or.inl rfl) (pe_lst (pa_cons (pe_tup pa_nil) pa_nil))) (pss_cons (ps_for PassesOwn.never rfl (pi_range1 (by rfl) T.n_range (pa_cons (pv 0) pa_nil)) (pg_name (i := 3) sc_law_sets.nd rfl (Or.inr rfl)) (pss_one (ps_set (i := 2) sc_law_sets.nd rfl (Or.inl rfl) (pe_op op_cat (pv 2) (pe_lc (own := [("some", 4)]) (g := gName 4) (by rfl) sc_law_sets.nd (pi_listK (K := K) rfl (pv 2)) (blkOk_by (own := [("some", 4)]) (N := ["many", "few", "found", "place", "some"]) (sc := defScope s_law_sets) (by decide +kernel)) (fun _ _ _ _ _ => (pg_name (i := 4) sc_law_sets.nd rfl (Or.inl rfl))) (fun _ _ _ _ _ => (pts_one (pt_cmp (pc_lt (pe_callB (call_lenN (K := K) rfl) (by rfl) T.n_len (by decide +kernel) (pa_cons (pv 4) pa_nil)) (pv 1))))) (fun _ _ _ _ _ => (pe_op (op_catU (K := K) rfl) (pv 4) (pe_tup (pa_cons (pv 3) pa_nil))))))))) (pss_one (ps_ret (pe_lc (own := [("some", 4)]) (g := gName 4) (by rfl) sc_law_sets.nd (pi_listK (K := K) rfl (pv 2)) (blkOk_by (own := [("some", 4)]) (N := ["many", "few", "found", "place", "some"]) (sc := defScope s_law_sets) (by decide +kernel)) (fun _ _ _ _ _ => (pg_name (i := 4) sc_law_sets.nd rfl (Or.inl rfl))) (fun _ _ _ _ _ => (pts_one (pt_cmp (pc_eqI (pe_callB (call_lenN (K := K) rfl) (by rfl) T.n_len (by decide +kernel) (pa_cons (pv 4) pa_nil)) (pv 1))))) (fun _ _ _ _ _ => (pe_callTy (call_list_ofK (K := K) rfl) (by rfl) T.n_list (by decide +kernel) (pa_cons (pv 4) pa_nil)))))))), ?_⟩
    have h1 : A2 (rep K F0) [] (Tup.mk [] : (Tup Int)).l := .nil
    refine ⟨(by show 0 ≤ sizeLine; decide), fun p2 n2 => ?_⟩
    obtain ⟨F2, s2, w2, q2⟩ := w0.frzE (o := .tup []) n2
    replace h1 := A2.mono s2 h1
    replace sF := sF.trans s2
    have h3 : A2 (rep K F2) [(.ref p2)] ([(Tup.mk [] : (Tup Int))] : (List (Tup Int))) := .cons (rep_tup q2 h1) (.nil)
    refine ⟨(by show 1 ≤ sizeLine; decide), fun p4 n4 => ?_⟩
    have w4 : W F2 _ ((p4, .lst [(.ref p2)]) :: os) := w2.new n4
    obtain ⟨F5, s5, w5, q5⟩ : ∃ F', Same F2 F' ∧ W F' _ (os) ∧ F' p4 = some (.lst [(.ref p2)]) := w4.freezeE (pre := [])
    replace h1 := A2.mono s5 h1
    replace q2 := s5 _ _ q2
    replace h3 := A2.mono s5 h3
    replace sF := sF.trans s5
    obtain ⟨c7, hm⟩ := pb_rng hm
    refine ⟨_, rfl, _, rfl, c7.2.2.1, c7.2.2.2, ?_⟩
    refine forS (tw_rng0 (j := x_many)) hm (fun (g6 : (List (Tup Int))) σ H' => ∃ (F' : Hp) (v6_2 : V) (o6_3 : Option V), σ = [some (.int x_many), some (.int x_few), some v6_2, o6_3, none] ∧ Same F5 F' ∧ W F' H' (os) ∧ rep K F' v6_2 (g6 : (List (Tup Int)))) ⟨_, _, _, rfl, Same.refl _, w5, (rep_lst q5 h3)⟩ (fun _ _ _ _ => trivial) ?_ ?_
    · -- a turn
      intro b6 g6 x6 σ6 H6 H6' N6 P6 hI hy hN6 hm
      obtain ⟨F6, v6_2, o6_3, rfl, s6, w6, r6_2⟩ := hI
      replace h3 := A2.mono s6 h3
      replace q5 := s6 _ _ q5
      replace sF := sF.trans s6
      obtain ⟨a8, vs8, rfl, q8, h8⟩ := r6_2
      obtain ⟨rfl, rfl⟩ := hy
      refine ⟨_, rfl, _, rfl, _, rfl, ⟨_, SqL.of (w6.same _ _ q8)⟩, fun D9 nD9 => ?_⟩
      refine lcF (K := K) (tw_list (a := a8) h8) hm w6 nD9 (fun F' H' acc s w => SqL.of (w.same _ _ (s _ _ q8))) ?_ ?_
      · -- one turn
        intro b9 x9 F9 H9 H9' acc9 N9 M9 P9 s9 w9 y9 hN9 hM9 hm
        replace h8 := A2.mono s9 h8
        replace q8 := s9 _ _ q8
        replace sF := sF.trans s9
        obtain ⟨rfl, r11⟩ := y9
        replace r11 := Rep.mono s9 r11
        obtain ⟨a12, vs12, rfl, q12, h12⟩ := r11
        refine ⟨rfl, _, rfl, _, _, _, rfl, .inr (SqT.of (w9.same _ _ q12)), h12.length, _, rfl, _, _, rfl, rfl, _, rfl, ?_⟩
        refine post_ite hm (fun k13 hm => ?_) (fun k13 hm => ?_)
        · skip
          have h14 : A2 (rep K F9) [(.int b6)] (Tup.mk [b6] : (Tup Int)).l := .cons rep_i (.nil)
          refine ⟨_, rfl, _, rfl, (by show 1 ≤ sizeLine; decide), fun p15 n15 => ?_⟩
          obtain ⟨F15, s15, w15, q15⟩ := w9.frzE (o := .tup [(.int b6)]) n15
          replace h8 := A2.mono s15 h8
          replace q8 := s15 _ _ q8
          replace q12 := s15 _ _ q12
          replace h12 := A2.mono s15 h12
          replace h14 := A2.mono s15 h14
          replace sF := sF.trans s15
          obtain ⟨l16, z16, e16, hm⟩ := pn_extend hm
          have h16 : A2 (rep K F15) (vs12 ++ [(.int b6)]) l16 := e16 ▸ A2.append h12 h14
          refine ⟨_, _, _, _, _, _, rfl, rfl, w15, q12, q15, (A2.le2 h12 h14 z16), fun p16 F16 H16 s16 w16 q16 => ?_⟩
          replace h8 := A2.mono s16 h8
          replace q8 := s16 _ _ q8
          replace q12 := s16 _ _ q12
          replace h12 := A2.mono s16 h12
          replace h14 := A2.mono s16 h14
          replace q15 := s16 _ _ q15
          replace h16 := A2.mono s16 h16
          replace sF := sF.trans s16
          exact hN9 _ (post_ok hm) _ _ _ w16 (s15.trans s16) (rep_tup q16 h16)
        · skip
          exact hM9 (post_ok hm) _ _ w9 (Same.refl _)
      intro us9 F9 H9 ys9 s9 w9 gg9 hm
      replace h8 := A2.mono s9 h8
      replace q8 := s9 _ _ q8
      replace sF := sF.trans s9
      obtain ⟨l18, z18, e18, hm⟩ := pn_extend hm
      have h18 : A2 (rep K F9) (vs8 ++ us9) l18 := e18 ▸ A2.append h8 gg9
      refine ⟨_, _, _, _, rfl, rfl, (w9.same _ _ q8), (w9.get (pre := [])), (A2.le2 h8 gg9 z18), fun p19 n19 => ?_⟩
      have w19 : W F9 _ ((p19, .lst (vs8 ++ us9)) :: (D9, .lst us9) :: os) := w9.new n19
      obtain ⟨F20, s20, w20, q20⟩ : ∃ F', Same F9 F' ∧ W F' _ ((D9, .lst us9) :: os) ∧ F' p19 = some (.lst (vs8 ++ us9)) := w19.freezeE (pre := [])
      replace h8 := A2.mono s20 h8
      replace q8 := s20 _ _ q8
      replace gg9 := A2.mono s20 gg9
      replace h18 := A2.mono s20 h18
      replace sF := sF.trans s20
      have w21 : W F20 _ (os) := w20.drop (pre := [])
      exact hN6 _ (post_ok hm) _ _ ⟨_, _, _, rfl, (s6.trans (s9.trans s20)), w21, (rep_lst q20 h18)⟩
    intro g6 σ6 H6 hI hm
    obtain ⟨F6, v6_2, o6_3, rfl, s6, w6, r6_2⟩ := hI
    replace h3 := A2.mono s6 h3
    replace q5 := s6 _ _ q5
    replace sF := sF.trans s6
    obtain ⟨a22, vs22, rfl, q22, h22⟩ := r6_2
    refine ⟨_, rfl, _, rfl, ⟨_, SqL.of (w6.same _ _ q22)⟩, fun D23 nD23 => ?_⟩
    refine lcF (K := K) (tw_list (a := a22) h22) hm w6 nD23 (fun F' H' acc s w => SqL.of (w.same _ _ (s _ _ q22))) ?_ ?_
    · -- one turn
      intro b23 x23 F23 H23 H23' acc23 N23 M23 P23 s23 w23 y23 hN23 hM23 hm
      replace h22 := A2.mono s23 h22
      replace q22 := s23 _ _ q22
      replace sF := sF.trans s23
      obtain ⟨rfl, r25⟩ := y23
      replace r25 := Rep.mono s23 r25
      obtain ⟨a26, vs26, rfl, q26, h26⟩ := r25
      refine ⟨rfl, _, rfl, _, _, _, rfl, .inr (SqT.of (w23.same _ _ q26)), h26.length, _, rfl, _, _, rfl, rfl, _, rfl, ?_⟩
      refine post_ite hm (fun k27 hm => ?_) (fun k27 hm => ?_)
      · skip
        have h28 : A2 (rep K F23) vs26 b23.l := h26
        refine ⟨_, rfl, _, _, rfl, .inr (SqT.of (w23.same _ _ q26)), fun p29 n29 => ?_⟩
        have w29 : W F23 _ ((p29, .lst vs26) :: (D23, .lst acc23) :: os) := w23.new n29
        obtain ⟨F30, s30, w30, q30⟩ : ∃ F', Same F23 F' ∧ W F' _ ((D23, .lst acc23) :: os) ∧ F' p29 = some (.lst vs26) := w29.freezeE (pre := [])
        replace h22 := A2.mono s30 h22
        replace q22 := s30 _ _ q22
        replace q26 := s30 _ _ q26
        replace h26 := A2.mono s30 h26
        replace h28 := A2.mono s30 h28
        replace sF := sF.trans s30
        exact hN23 _ (post_ok hm) _ _ _ w30 s30 (rep_lst q30 h28)
      · skip
        exact hM23 (post_ok hm) _ _ w23 (Same.refl _)
    intro us23 F23 H23 ys23 s23 w23 gg23 hm
    replace h22 := A2.mono s23 h22
    replace q22 := s23 _ _ q22
    replace sF := sF.trans s23
    obtain ⟨F32, s32, w32, q32⟩ : ∃ F', Same F23 F' ∧ W F' _ (os) ∧ F' D23 = some (.lst us23) := w23.freezeE (pre := [])
    replace h22 := A2.mono s32 h22
    replace q22 := s32 _ _ q22
    replace gg23 := A2.mono s32 gg23
    replace sF := sF.trans s32
    exact (post_ok hm) _ _ _ w32 sF (rep_lst q32 gg23)
def sp_law_choices_right (K : Fg) : Sp := fun vs H Q E => ∃ (F : Hp) (os : List (Addr × HO)) (a_state : Addr) (vs_state : List V) (x_state : (List Int)), vs = [.ref a_state] ∧ W F H ((a_state, .lst vs_state) :: os) ∧ A2 (rep K F) vs_state x_state ∧ Post (law_choices_right x_state) (RetM K F a_state os Q) noX
theorem sc_law_choices_right : FnScope ["state", "many", "few", "kind", "found", "due", "half", "some"] ["state"] (defScope s_law_choices_right) := ⟨rfl, rfl, rfl, by decide +kernel, rfl, by decide +kernel, by decide +kernel⟩
theorem ok_law_choices_right (T : Tx K mg A FD) : FnOk P w K mg base CX0 3 (A 44) (FD 44) ["state"] (sp_law_choices_right K) := by
  refine T.d44.fn.ok sc_law_choices_right (fun vs H Q E h => ?_) (fun cdv Ar outer s H vs Q E hr h => ?_)
  · obtain ⟨F, os, a_state, vs_state, x_state, rfl, _⟩ := h
    rfl
  · obtain ⟨F0, os, a_state, vs_state, x_state, rfl, w0, h_state, hm⟩ := h
    have sF : Same F0 F0 := Same.refl _
    refine ⟨_, (pss_cons (ps_set (i := 1) sc_law_choices_right.nd rfl (Or.inr rfl) (pe_op op_add pe_int (pe_call (ok_law_next T) (hr.mono (by decide)) (by rfl) T.d35.mg T.d35.fn.kp T.d35.b .nil pass0 (pa_cons (pv 0) (pa_cons pe_int pa_nil))))) (pss_cons (ps_for PassesOwn.never rfl (pi_listK (K := K) rfl (pe_lst (pa_cons (pe_tup (pa_cons pe_int (pa_cons pe_str pa_nil))) (pa_cons (pe_tup (pa_cons pe_int (pa_cons pe_str pa_nil))) (pa_cons (pe_tup (pa_cons pe_int (pa_cons pe_str pa_nil))) pa_nil))))) (pg_k (K := K) (t := fun K => gTup K 2 _) rfl (pg_tup (n := 2) rfl (pgs_cons (pg_name (i := 2) sc_law_choices_right.nd rfl (Or.inl rfl)) (pgs_cons (pg_name (i := 3) sc_law_choices_right.nd rfl (Or.inr rfl)) pgs_nil)))) (pss_cons (ps_set (i := 4) sc_law_choices_right.nd rfl (Or.inl rfl) (pe_call (ok_ring_choices T) (hr.mono (by decide)) (by rfl) T.d13.mg T.d13.fn.kp T.d13.b .nil pass0 (pa_cons (pv 1) (pa_cons (pv 3) pa_nil)))) (pss_cons (ps_set (i := 5) sc_law_choices_right.nd rfl (Or.inl rfl) (pe_callB (call_lenN (K := K) rfl) (by rfl) T.n_len (by decide +kernel) (pa_cons (pe_lc (own := [("some", 7)]) (g := gName 7) (by rfl) sc_law_choices_right.nd (pi_listK (K := K) rfl (pe_call (ok_law_sets T) (hr.mono (by decide)) (by rfl) T.d43.mg T.d43.fn.kp T.d43.b .nil pass0 (pa_cons (pv 1) (pa_cons (pv 2) pa_nil)))) (blkOk_by (own := [("some", 7)]) (N := ["state", "many", "few", "kind", "found", "due", "half", "some"]) (sc := defScope s_law_choices_right) (by decide +kernel)) (fun _ _ _ _ _ => (pg_name (i := 7) sc_law_choices_right.nd rfl (Or.inl rfl))) (fun _ _ _ _ _ => (pts_one (pt_val (pe_call (ok_ring_known T) (hr.mono (by decide)) (by rfl) T.d9.mg T.d9.fn.kp T.d9.b .nil pass0 (pa_cons (pv 1) (pa_cons (pv 7) (pa_cons (pv 3) pa_nil))))))) (fun _ _ _ _ _ => (pv 7))) pa_nil))) (pss_one (ps_if (PW.pt (pw_or (pt_val (pe_callB (call_isB (K := K) rfl) (by rfl) T.n_isinstance (by decide +kernel) (pa_cons (pv 4) (pa_cons (pe_bltn (v := .ty "bool") (by rfl) T.n_bool (by decide +kernel) rfl) pa_nil)))) (pw_or1 (pt_cmp (pc_neI (pv 4) (pv 5)))))) (pss_one (ps_ret pe_bl)) pss_nil))))) (pss_cons (ps_set (i := 6) sc_law_choices_right.nd rfl (Or.inl rfl) (pe_op op_add pe_int (pe_call (ok_law_great T) (hr.mono (by decide)) (by rfl) T.d36.mg T.d36.fn.kp T.d36.b .nil pass0 (pa_cons (pv 0) (pa_cons (pe_ix (ix_listK (K := K) rfl) (pe_lst (pa_cons (pe_op op_pow pe_int pe_int) (pa_cons (pe_op op_pow pe_int pe_int) (pa_cons (pe_op op_sub (pe_op op_mulW4 pe_int (pe_op op_pow pe_int pe_int)) pe_int) pa_nil)))) (pe_call (ok_law_next T) (hr.mono (by decide)) (by rfl) T.d35.mg T.d35.fn.kp T.d35.b .nil pass0 (pa_cons (pv 0) (pa_cons pe_int pa_nil))) (fun _ _ => rfl)) pa_nil))))) (pss_cons (ps_for PassesOwn.never rfl (pi_listK (K := K) rfl (pe_lst (pa_cons pe_str (pa_cons pe_str pa_nil)))) (pg_name (i := 3) sc_law_choices_right.nd rfl (Or.inr rfl)) (pss_cons (ps_set (i := 5) sc_law_choices_right.nd rfl (Or.inl rfl) (pe_lst (pa_cons (pe_op op_mulW4 (pe_op op_mul pe_int (pv 6)) (pe_op op_sub (pv 6) pe_int)) (pa_cons (pe_op op_mulW4 (pv 6) (pe_op op_add (pe_op op_mul pe_int (pv 6)) pe_int)) pa_nil)))) (pss_one (ps_if (pt_cmpR (op_neDt (K := K) rfl (List Int) (by decide) hr.units) (pe_lst (pa_cons (pe_call (ok_ring_choices T) (hr.mono (by decide)) (by rfl) T.d13.mg T.d13.fn.kp T.d13.b .nil pass0 (pa_cons (pe_op op_mul pe_int (pv 6)) (pa_cons (pv 3) pa_nil))) (pa_cons (pe_call (ok_ring_choices T) (hr.mono (by decide)) (by rfl) T.d13.mg T.d13.fn.kp T.d13.b .nil pass0 (pa_cons (pe_op op_add (pe_op op_mul pe_int (pv 6)) pe_int) (pa_cons (pv 3) pa_nil))) pa_nil))) (pv 5) (nomark _)) (pss_one (ps_ret pe_bl)) pss_nil)))) (pss_cons (ps_set (i := 5) sc_law_choices_right.nd rfl (Or.inl rfl) (pe_lst (pa_cons (pe_op op_fdiv (pe_op op_mulW4 (pe_op op_mulW4 (pv 6) (pe_op op_sub (pv 6) pe_int)) (pe_op op_add (pv 6) pe_int)) pe_int) (pa_cons (pe_op op_fdiv (pe_op op_mulW4 (pe_op op_mulW4 (pe_op op_add (pe_op op_mul pe_int (pv 6)) pe_int) (pv 6)) (pe_op op_add (pv 6) pe_int)) pe_int) pa_nil)))) (pss_one (ps_ret (pe_cmpR (op_eqDt (K := K) rfl (List Int) (by decide) hr.units) (pe_lst (pa_cons (pe_call (ok_ring_choices T) (hr.mono (by decide)) (by rfl) T.d13.mg T.d13.fn.kp T.d13.b .nil pass0 (pa_cons (pe_op op_mul pe_int (pv 6)) (pa_cons pe_str pa_nil))) (pa_cons (pe_call (ok_ring_choices T) (hr.mono (by decide)) (by rfl) T.d13.mg T.d13.fn.kp T.d13.b .nil pass0 (pa_cons (pe_op op_add (pe_op op_mul pe_int (pv 6)) pe_int) (pa_cons pe_str pa_nil))) pa_nil))) (pv 5) (nomark _))))))))), ?_⟩
    refine ⟨_, rfl, _, _, _, _, _, _, rfl, w0, h_state, ?_⟩
    refine (post_bind hm).mono (fun y2 hm v2 vs2 F2 H2 w2 s2 r2 h2 => ?_) (fun _ z => z)
    replace sF := sF.trans s2
    obtain rfl : v2 = V.int y2.1 := r2
    refine ⟨_, _, rfl, rfl, (by show 2 ≤ sizeLine; decide), fun p4 n4 => ?_⟩
    obtain ⟨F4, s4, w4, q4⟩ := w2.frzE (o := .tup [(.int 2), (.str "places")]) n4
    replace h2 := A2.mono s4 h2
    replace sF := sF.trans s4
    refine ⟨(by show 2 ≤ sizeLine; decide), fun p5 n5 => ?_⟩
    obtain ⟨F5, s5, w5, q5⟩ := w4.frzE (o := .tup [(.int 2), (.str "ties")]) n5
    replace h2 := A2.mono s5 h2
    replace q4 := s5 _ _ q4
    replace sF := sF.trans s5
    refine ⟨(by show 2 ≤ sizeLine; decide), fun p6 n6 => ?_⟩
    obtain ⟨F6, s6, w6, q6⟩ := w5.frzE (o := .tup [(.int 3), (.str "all")]) n6
    replace h2 := A2.mono s6 h2
    replace q4 := s6 _ _ q4
    replace q5 := s6 _ _ q5
    replace sF := sF.trans s6
    have h7 : A2 (rep K F6) [(.ref p4), (.ref p5), (.ref p6)] ([((2 : Int), ("places" : Str)), ((2 : Int), ("ties" : Str)), ((3 : Int), ("all" : Str))] : (List (Int × Str))) := .cons (rep_pair q4 rep_i rep_s) (.cons (rep_pair q5 rep_i rep_s) (.cons (rep_pair q6 rep_i rep_s) (.nil)))
    refine ⟨(by show 3 ≤ sizeLine; decide), fun p8 n8 => ?_⟩
    have w8 : W F6 _ ((p8, .lst [(.ref p4), (.ref p5), (.ref p6)]) :: (a_state, .lst vs2) :: os) := w6.new n8
    obtain ⟨F9, s9, w9, q9⟩ : ∃ F', Same F6 F' ∧ W F' _ ((a_state, .lst vs2) :: os) ∧ F' p8 = some (.lst [(.ref p4), (.ref p5), (.ref p6)]) := w8.freezeE (pre := [])
    replace h2 := A2.mono s9 h2
    replace q4 := s9 _ _ q4
    replace q5 := s9 _ _ q5
    replace q6 := s9 _ _ q6
    replace h7 := A2.mono s9 h7
    replace sF := sF.trans s9
    refine ⟨_, rfl, ⟨_, SqL.of (w9.same _ _ q9)⟩, ?_⟩
    refine forX (tw_list (a := p8) h7) hm (fun (g3 : Unit) σ H' => ∃ (F' : Hp) (o3_4 : Option V) (o3_5 : Option V) (o3_2 : Option V) (o3_3 : Option V), σ = [some (.ref a_state), some (.int ((3 : Int) + y2.1)), o3_2, o3_3, o3_4, o3_5, none, none] ∧ Same F9 F' ∧ W F' H' ((a_state, .lst vs2) :: os)) ⟨_, _, _, _, _, rfl, Same.refl _, w9⟩ (fun g σ H' hI => by obtain ⟨F', _, _, _, _, _, s, w⟩ := hI; exact SqL.of (w.same _ _ (s _ _ q9))) ?_ ?_
    · -- a turn
      intro b3 g3 x3 σ3 H3 H3' N3 B3 P3 hI hy hN3 hB3 hZ3 hm
      obtain ⟨F3, o3_4, o3_5, o3_2, o3_3, rfl, s3, w3⟩ := hI
      replace h2 := A2.mono s3 h2
      replace q4 := s3 _ _ q4
      replace q5 := s3 _ _ q5
      replace q6 := s3 _ _ q6
      replace h7 := A2.mono s3 h7
      replace q9 := s3 _ _ q9
      replace sF := sF.trans s3
      obtain ⟨rfl, r10⟩ := hy
      replace r10 := Rep.mono s3 r10
      obtain ⟨a11, u11, z11, rfl, q11, r11a, r11b⟩ := r10
      obtain rfl : u11 = V.int b3.1 := r11a
      obtain rfl : z11 = V.str b3.2 := r11b
      refine ⟨_, _, rfl, SqT.of (w3.same _ _ q11), rfl, _, _, rfl, _, _, rfl, rfl, _, rfl, _, rfl, _, _, _, _, rfl, w3, ?_⟩
      refine (post_bind hm).mono (fun y12 hm v12 F12 H12 w12 s12 r12 => ?_) (fun _ z => z)
      replace h2 := A2.mono s12 h2
      replace sF := sF.trans s12
      obtain rfl : v12 = V.int y12 := r12
      refine ⟨_, rfl, _, rfl, _, _, _, _, rfl, w12, ?_⟩
      refine (post_bind hm).mono (fun y13 hm v13 F13 H13 w13 s13 r13 => ?_) (fun _ z => z)
      replace h2 := A2.mono s13 h2
      replace sF := sF.trans s13
      obtain ⟨a14, vs14, rfl, q14, h14⟩ := r13
      refine ⟨_, rfl, ⟨_, SqL.of (w13.same _ _ q14)⟩, fun D15 nD15 => ?_⟩
      refine lcF (K := K) (tw_list (a := a14) h14) hm w13 nD15 (fun F' H' acc s w => SqL.of (w.same _ _ (s _ _ q14))) ?_ ?_
      · -- one turn
        intro b15 x15 F15 H15 H15' acc15 N15 M15 P15 s15 w15 y15 hN15 hM15 hm
        replace h2 := A2.mono s15 h2
        replace q14 := s15 _ _ q14
        replace h14 := A2.mono s15 h14
        replace sF := sF.trans s15
        obtain ⟨rfl, r17⟩ := y15
        replace r17 := Rep.mono s15 r17
        obtain ⟨a18, vs18, rfl, q18, h18⟩ := r17
        refine ⟨rfl, _, rfl, _, rfl, _, rfl, _, _, _, _, (b15 : (List Int)), _, rfl, w15, (rep_lst q18 h18), ?_⟩
        refine (post_bind hm).mono (fun y19 hm v19 F19 H19 w19 s19 r19 => ?_) (fun _ z => z)
        replace h2 := A2.mono s19 h2
        replace q14 := s19 _ _ q14
        replace h14 := A2.mono s19 h14
        replace q18 := s19 _ _ q18
        replace h18 := A2.mono s19 h18
        replace sF := sF.trans s19
        obtain rfl : v19 = V.bl y19 := r19
        refine ⟨_, rfl, ?_⟩
        refine post_ite hm (fun k20 hm => ?_) (fun k20 hm => ?_)
        · skip
          exact ⟨_, rfl, hN15 _ (post_ok hm) _ _ _ w19 s19 (rep_lst q18 h18)⟩
        · skip
          exact hM15 (post_ok hm) _ _ w19 s19
      intro us15 F15 H15 ys15 s15 w15 gg15 hm
      replace h2 := A2.mono s15 h2
      replace q14 := s15 _ _ q14
      replace h14 := A2.mono s15 h14
      replace sF := sF.trans s15
      have w22 : W F15 _ ((a_state, .lst vs2) :: os) := w15.drop (pre := [])
      refine ⟨_, _, _, rfl, .inl (SqL.of (w15.get (pre := []))), gg15.length, ?_⟩
      refine stepN ?_
      try dsimp only
      refine stepIf ?_
      refine cutT (fun c H' => c = ((false || (!decide (y12 = (ys15.length : Int))))) ∧ ∃ F', Same F15 F' ∧ W F' H' ((a_state, .lst vs2) :: os)) (fun Q23 q23 => ?_) (fun c23 H23 hc23 => ?_)
      · -- the ways
        refine ⟨_, rfl, _, _, _, false, rfl, (.int _), (by decide +kernel), _, rfl, ?_⟩
        refine ifB (fun k24 => ?_) (fun k24 => ?_)
        · skip
          exact q23 _ _ ⟨(by first | rfl | exact absurd k24 (by decide) | (simp [k24]; done) | ((try simp only [Bool.not_eq_true] at k24); simp only [k24, Bool.true_or, Bool.false_or, Bool.or_false, Bool.or_true, Bool.true_and, Bool.false_and, Bool.and_true, Bool.and_false])), _, Same.refl _, w22⟩
        · skip
          exact ⟨_, rfl, _, rfl, _, _, rfl, rfl, _, rfl, q23 _ _ ⟨(by first | rfl | exact absurd k24 (by decide) | (simp [k24]; done) | ((try simp only [Bool.not_eq_true] at k24); simp only [k24, Bool.true_or, Bool.false_or, Bool.or_false, Bool.or_true, Bool.true_and, Bool.false_and, Bool.and_true, Bool.and_false])), _, Same.refl _, w22⟩⟩
      obtain ⟨rfl, F23, s23, w23⟩ := hc23
      replace h2 := A2.mono s23 h2
      replace sF := sF.trans s23
      refine post_ite hm (fun k27 hm => ?_) (fun k27 hm => ?_)
      · skip
        have hm := hZ3 _ (post_ok hm)
        exact (post_ok hm) _ _ _ _ w23 sF rep_b h2
      · skip
        exact hN3 _ (post_ok hm) _ _ ⟨_, _, _, _, _, rfl, (s3.trans (s12.trans (s13.trans (s15.trans s23)))), w23⟩
    intro g3 σ3 H3 hI hm
    obtain ⟨F3, o3_4, o3_5, o3_2, o3_3, rfl, s3, w3⟩ := hI
    replace h2 := A2.mono s3 h2
    replace q4 := s3 _ _ q4
    replace q5 := s3 _ _ q5
    replace q6 := s3 _ _ q6
    replace h7 := A2.mono s3 h7
    replace q9 := s3 _ _ q9
    replace sF := sF.trans s3
    obtain ⟨c31, hm⟩ := pb_mulW hm
    have h32 : A2 (rep K F3) [(.int ((10 : Int) ^ ((2 : Int) : Int).toNat)), (.int ((10 : Int) ^ ((20 : Int) : Int).toNat)), (.int (((5 : Int) * ((10 : Int) ^ ((59 : Int) : Int).toNat)) - (2 : Int)))] ([((10 : Int) ^ ((2 : Int) : Int).toNat), ((10 : Int) ^ ((20 : Int) : Int).toNat), (((5 : Int) * ((10 : Int) ^ ((59 : Int) : Int).toNat)) - (2 : Int))] : (List Int)) := .cons rep_i (.cons rep_i (.cons rep_i (.nil)))
    refine ⟨_, rfl, _, _, rfl, rfl, (by refine ⟨?_, ?_, ?_⟩ <;> decide), _, _, rfl, rfl, (by refine ⟨?_, ?_, ?_⟩ <;> decide), _, _, rfl, rfl, (by refine ⟨?_, ?_, ?_⟩ <;> decide), _, _, rfl, rfl, c31, _, _, rfl, rfl, (by show 3 ≤ sizeLine; decide), fun p33 n33 => ?_⟩
    have w33 : W F3 _ ((p33, .lst [(.int ((10 : Int) ^ ((2 : Int) : Int).toNat)), (.int ((10 : Int) ^ ((20 : Int) : Int).toNat)), (.int (((5 : Int) * ((10 : Int) ^ ((59 : Int) : Int).toNat)) - (2 : Int)))]) :: (a_state, .lst vs2) :: os) := w3.new n33
    have w34 : W F3 _ ((a_state, .lst vs2) :: (p33, .lst [(.int ((10 : Int) ^ ((2 : Int) : Int).toNat)), (.int ((10 : Int) ^ ((20 : Int) : Int).toNat)), (.int (((5 : Int) * ((10 : Int) ^ ((59 : Int) : Int).toNat)) - (2 : Int)))]) :: os) := w33.front (pre := [_])
    refine ⟨_, rfl, _, _, _, _, _, _, rfl, w34, h2, ?_⟩
    refine (post_bind hm).mono (fun y35 hm v35 vs35 F35 H35 w35 s35 r35 h35 => ?_) (fun _ z => z)
    replace h32 := A2.mono s35 h32
    replace sF := sF.trans s35
    obtain rfl : v35 = V.int y35.1 := r35
    obtain ⟨t36, e36, hm⟩ := pb_get hm
    obtain ⟨u36, f36, r36⟩ := A2.at h32 e36
    obtain rfl : u36 = V.int t36 := r36
    refine ⟨_, _, _, _, rfl, rfl, SqL.of (w35.get (pre := [_])), f36, _, _, _, _, _, _, rfl, w35, h35, ?_⟩
    refine (post_bind hm).mono (fun y37 hm v37 vs37 F37 H37 w37 s37 r37 h37 => ?_) (fun _ z => z)
    replace h32 := A2.mono s37 h32
    replace sF := sF.trans s37
    obtain rfl : v37 = V.int y37.1 := r37
    have w38 : W F37 _ ((a_state, .lst vs37) :: os) := w37.drop (pre := [_])
    have h40 : A2 (rep K F37) [(.str "places"), (.str "ties")] ([("places" : Str), ("ties" : Str)] : (List Str)) := .cons rep_s (.cons rep_s (.nil))
    refine ⟨_, _, rfl, rfl, (by show 2 ≤ sizeLine; decide), fun p41 n41 => ?_⟩
    have w41 : W F37 _ ((p41, .lst [(.str "places"), (.str "ties")]) :: (a_state, .lst vs37) :: os) := w38.new n41
    obtain ⟨F42, s42, w42, q42⟩ : ∃ F', Same F37 F' ∧ W F' _ ((a_state, .lst vs37) :: os) ∧ F' p41 = some (.lst [(.str "places"), (.str "ties")]) := w41.freezeE (pre := [])
    replace h37 := A2.mono s42 h37
    replace h40 := A2.mono s42 h40
    replace sF := sF.trans s42
    refine ⟨_, rfl, ⟨_, SqL.of (w42.same _ _ q42)⟩, ?_⟩
    refine forX (tw_list (a := p41) h40) hm (fun (g39 : Unit) σ H' => ∃ (F' : Hp) (o39_5 : Option V) (o39_3 : Option V), σ = [some (.ref a_state), some (.int ((3 : Int) + y2.1)), o3_2, o39_3, o3_4, o39_5, some (.int ((2 : Int) + y37.1)), none] ∧ Same F42 F' ∧ W F' H' ((a_state, .lst vs37) :: os)) ⟨_, _, _, rfl, Same.refl _, w42⟩ (fun g σ H' hI => by obtain ⟨F', _, _, _, s, w⟩ := hI; exact SqL.of (w.same _ _ (s _ _ q42))) ?_ ?_
    · -- a turn
      intro b39 g39 x39 σ39 H39 H39' N39 B39 P39 hI hy hN39 hB39 hZ39 hm
      obtain ⟨F39, o39_5, o39_3, rfl, s39, w39⟩ := hI
      replace h37 := A2.mono s39 h37
      replace h40 := A2.mono s39 h40
      replace q42 := s39 _ _ q42
      replace sF := sF.trans s39
      obtain ⟨rfl, r43⟩ := hy
      obtain rfl : x39 = V.str b39 := r43
      obtain ⟨c45, hm⟩ := pb_mulW hm
      obtain ⟨c47, hm⟩ := pb_mulW hm
      have h48 : A2 (rep K F39) [(.int (((2 : Int) * ((2 : Int) + y37.1)) * (((2 : Int) + y37.1) - (1 : Int)))), (.int (((2 : Int) + y37.1) * (((2 : Int) * ((2 : Int) + y37.1)) + (1 : Int))))] ([(((2 : Int) * ((2 : Int) + y37.1)) * (((2 : Int) + y37.1) - (1 : Int))), (((2 : Int) + y37.1) * (((2 : Int) * ((2 : Int) + y37.1)) + (1 : Int)))] : (List Int)) := .cons rep_i (.cons rep_i (.nil))
      refine ⟨_, rfl, _, _, rfl, rfl, (.inl (by constructor <;> decide)), _, rfl, _, _, rfl, rfl, _, _, rfl, rfl, c45, _, rfl, _, rfl, _, _, rfl, rfl, (.inl (by constructor <;> decide)), _, _, rfl, rfl, _, _, rfl, rfl, c47, (by show 2 ≤ sizeLine; decide), fun p49 n49 => ?_⟩
      have w49 : W F39 _ ((p49, .lst [(.int (((2 : Int) * ((2 : Int) + y37.1)) * (((2 : Int) + y37.1) - (1 : Int)))), (.int (((2 : Int) + y37.1) * (((2 : Int) * ((2 : Int) + y37.1)) + (1 : Int))))]) :: (a_state, .lst vs37) :: os) := w39.new n49
      obtain ⟨F50, s50, w50, q50⟩ : ∃ F', Same F39 F' ∧ W F' _ ((a_state, .lst vs37) :: os) ∧ F' p49 = some (.lst [(.int (((2 : Int) * ((2 : Int) + y37.1)) * (((2 : Int) + y37.1) - (1 : Int)))), (.int (((2 : Int) + y37.1) * (((2 : Int) * ((2 : Int) + y37.1)) + (1 : Int))))]) := w49.freezeE (pre := [])
      replace h37 := A2.mono s50 h37
      replace h48 := A2.mono s50 h48
      replace sF := sF.trans s50
      refine ⟨_, rfl, _, _, rfl, rfl, (.inl (by constructor <;> decide)), _, rfl, _, _, _, _, rfl, w50, ?_⟩
      refine (post_bind hm).mono (fun y52 hm v52 F52 H52 w52 s52 r52 => ?_) (fun _ z => z)
      replace h48 := A2.mono s52 h48
      replace q50 := s52 _ _ q50
      replace h37 := A2.mono s52 h37
      replace sF := sF.trans s52
      obtain rfl : v52 = V.int y52 := r52
      refine ⟨_, rfl, _, _, rfl, rfl, (.inl (by constructor <;> decide)), _, _, rfl, rfl, _, rfl, _, _, _, _, rfl, w52, ?_⟩
      refine (post_bind hm).mono (fun y54 hm v54 F54 H54 w54 s54 r54 => ?_) (fun _ z => z)
      replace h48 := A2.mono s54 h48
      replace q50 := s54 _ _ q50
      replace h37 := A2.mono s54 h37
      replace sF := sF.trans s54
      obtain rfl : v54 = V.int y54 := r54
      have h55 : A2 (rep K F54) [(.int y52), (.int y54)] ([y52, y54] : (List Int)) := .cons rep_i (.cons rep_i (.nil))
      refine ⟨(by show 2 ≤ sizeLine; decide), fun p56 n56 => ?_⟩
      have w56 : W F54 _ ((p56, .lst [(.int y52), (.int y54)]) :: (a_state, .lst vs37) :: os) := w54.new n56
      refine ⟨_, rfl, (([y52, y54] : (List Int)) : (List Int)), (([(((2 : Int) * ((2 : Int) + y37.1)) * (((2 : Int) + y37.1) - (1 : Int))), (((2 : Int) + y37.1) * (((2 : Int) * ((2 : Int) + y37.1)) + (1 : Int)))] : (List Int)) : (List Int)), (rep_own (pre := []) w56 h55), (Rep.mono w56.same (rep_lst q50 h48)), _, rfl, ?_⟩
      have w57 : W F54 _ ((a_state, .lst vs37) :: os) := w56.drop (pre := [])
      refine post_ite hm (fun k58 hm => ?_) (fun k58 hm => ?_)
      · skip
        have hm := hZ39 _ (post_ok hm)
        exact (post_ok hm) _ _ _ _ w57 sF rep_b h37
      · skip
        exact hN39 _ (post_ok hm) _ _ ⟨_, _, _, rfl, (s39.trans (s50.trans (s52.trans s54))), w57⟩
    intro g39 σ39 H39 hI hm
    obtain ⟨F39, o39_5, o39_3, rfl, s39, w39⟩ := hI
    replace h37 := A2.mono s39 h37
    replace h40 := A2.mono s39 h40
    replace q42 := s39 _ _ q42
    replace sF := sF.trans s39
    obtain ⟨c59, hm⟩ := pb_mulW hm
    obtain ⟨c60, hm⟩ := pb_mulW hm
    obtain ⟨c63, hm⟩ := pb_mulW hm
    obtain ⟨c64, hm⟩ := pb_mulW hm
    have h66 : A2 (rep K F39) [(.int (((((2 : Int) + y37.1) * (((2 : Int) + y37.1) - (1 : Int))) * (((2 : Int) + y37.1) + (4 : Int))) / (3 : Int))), (.int ((((((2 : Int) * ((2 : Int) + y37.1)) + (1 : Int)) * ((2 : Int) + y37.1)) * (((2 : Int) + y37.1) + (1 : Int))) / (6 : Int)))] ([(((((2 : Int) + y37.1) * (((2 : Int) + y37.1) - (1 : Int))) * (((2 : Int) + y37.1) + (4 : Int))) / (3 : Int)), ((((((2 : Int) * ((2 : Int) + y37.1)) + (1 : Int)) * ((2 : Int) + y37.1)) * (((2 : Int) + y37.1) + (1 : Int))) / (6 : Int))] : (List Int)) := .cons rep_i (.cons rep_i (.nil))
    refine ⟨_, rfl, _, rfl, _, _, rfl, rfl, _, _, rfl, rfl, c59, _, rfl, _, _, rfl, rfl, _, _, rfl, rfl, c60, _, _, rfl, rfl, (by constructor <;> decide), _, rfl, _, _, rfl, rfl, (.inl (by constructor <;> decide)), _, _, rfl, rfl, _, rfl, _, _, rfl, rfl, c63, _, rfl, _, _, rfl, rfl, _, _, rfl, rfl, c64, _, _, rfl, rfl, (by constructor <;> decide), (by show 2 ≤ sizeLine; decide), fun p67 n67 => ?_⟩
    have w67 : W F39 _ ((p67, .lst [(.int (((((2 : Int) + y37.1) * (((2 : Int) + y37.1) - (1 : Int))) * (((2 : Int) + y37.1) + (4 : Int))) / (3 : Int))), (.int ((((((2 : Int) * ((2 : Int) + y37.1)) + (1 : Int)) * ((2 : Int) + y37.1)) * (((2 : Int) + y37.1) + (1 : Int))) / (6 : Int)))]) :: (a_state, .lst vs37) :: os) := w39.new n67
    obtain ⟨F68, s68, w68, q68⟩ : ∃ F', Same F39 F' ∧ W F' _ ((a_state, .lst vs37) :: os) ∧ F' p67 = some (.lst [(.int (((((2 : Int) + y37.1) * (((2 : Int) + y37.1) - (1 : Int))) * (((2 : Int) + y37.1) + (4 : Int))) / (3 : Int))), (.int ((((((2 : Int) * ((2 : Int) + y37.1)) + (1 : Int)) * ((2 : Int) + y37.1)) * (((2 : Int) + y37.1) + (1 : Int))) / (6 : Int)))]) := w67.freezeE (pre := [])
    replace h37 := A2.mono s68 h37
    replace h66 := A2.mono s68 h66
    replace sF := sF.trans s68
    refine ⟨_, rfl, _, _, rfl, rfl, (.inl (by constructor <;> decide)), _, _, _, _, rfl, w68, ?_⟩
    refine (post_bind hm).mono (fun y70 hm v70 F70 H70 w70 s70 r70 => ?_) (fun _ z => z)
    replace h66 := A2.mono s70 h66
    replace q68 := s70 _ _ q68
    replace h37 := A2.mono s70 h37
    replace sF := sF.trans s70
    obtain rfl : v70 = V.int y70 := r70
    refine ⟨_, rfl, _, _, rfl, rfl, (.inl (by constructor <;> decide)), _, _, rfl, rfl, _, _, _, _, rfl, w70, ?_⟩
    refine (post_bind hm).mono (fun y72 hm v72 F72 H72 w72 s72 r72 => ?_) (fun _ z => z)
    replace h66 := A2.mono s72 h66
    replace q68 := s72 _ _ q68
    replace h37 := A2.mono s72 h37
    replace sF := sF.trans s72
    obtain rfl : v72 = V.int y72 := r72
    have h73 : A2 (rep K F72) [(.int y70), (.int y72)] ([y70, y72] : (List Int)) := .cons rep_i (.cons rep_i (.nil))
    refine ⟨(by show 2 ≤ sizeLine; decide), fun p74 n74 => ?_⟩
    have w74 : W F72 _ ((p74, .lst [(.int y70), (.int y72)]) :: (a_state, .lst vs37) :: os) := w72.new n74
    have w75 : W F72 _ ((a_state, .lst vs37) :: os) := w74.drop (pre := [])
    exact ⟨_, rfl, (([y70, y72] : (List Int)) : (List Int)), (([(((((2 : Int) + y37.1) * (((2 : Int) + y37.1) - (1 : Int))) * (((2 : Int) + y37.1) + (4 : Int))) / (3 : Int)), ((((((2 : Int) * ((2 : Int) + y37.1)) + (1 : Int)) * ((2 : Int) + y37.1)) * (((2 : Int) + y37.1) + (1 : Int))) / (6 : Int))] : (List Int)) : (List Int)), (rep_own (pre := []) w74 h73), (Rep.mono w74.same (rep_lst q68 h66)), (post_ok hm) _ _ _ _ w75 sF rep_b h37⟩
def sp_law (K : Fg) : Sp := fun vs H Q E => ∃ (F : Hp) (os : List (Addr × HO)) (v_script : V) (x_script : Scr), vs = [v_script] ∧ W F H (os) ∧ rep K F v_script x_script ∧ Post (law x_script) (Ret K F os Q) noX
theorem sc_law : FnScope ["script", "cell", "state"] ["script"] (defScope s_law) := ⟨rfl, rfl, rfl, by decide +kernel, rfl, by decide +kernel, by decide +kernel⟩
theorem ok_law (T : Tx K mg A FD) : FnOk P w K mg base CX0 9 (A 45) (FD 45) ["script"] (sp_law K) := by
  refine T.d45.fn.ok sc_law (fun vs H Q E h => ?_) (fun cdv Ar outer s H vs Q E hr h => ?_)
  · obtain ⟨F, os, v_script, x_script, rfl, _⟩ := h
    rfl
  · obtain ⟨F0, os, v_script, x_script, rfl, w0, r_script, hm⟩ := h
    have sF : Same F0 F0 := Same.refl _
    obtain ⟨a1, rfl, q1⟩ := r_script
    have h1 : A2 (rep K F0) (x_script.l.map V.int) x_script.l := A2.of_ints
    refine ⟨_, (pss_cons (ps_for PassesOwn.never rfl (pi_listK (K := K) rfl (pe_call (ok_law_folded T) (hr.mono (by decide)) (by rfl) T.d33.mg T.d33.fn.kp T.d33.b .nil pass0 (pa_cons (pv 0) (pa_cons pe_int pa_nil)))) (pg_name (i := 1) sc_law.nd rfl (Or.inl rfl)) (pss_cons (ps_set (i := 2) sc_law.nd rfl (Or.inl rfl) (pe_call (ok_law_state T) (hr.mono (by decide)) (by rfl) T.d34.mg T.d34.fn.kp T.d34.b .nil pass0 (pa_cons (pv 1) pa_nil))) (pss_one (ps_if (PW.pt (pw_or (pt_not (pt_val (pe_call (ok_law_lines_right T) (hr.mono (by decide)) (by rfl) T.d41.mg T.d41.fn.kp T.d41.b .nil pass0 (pa_cons (pv 2) pa_nil)))) (pw_or (pt_not (pt_val (pe_call (ok_law_grid_right T) (hr.mono (by decide)) (by rfl) T.d42.mg T.d42.fn.kp T.d42.b .nil pass0 (pa_cons (pv 2) pa_nil)))) (pw_or1 (pt_not (pt_val (pe_call (ok_law_choices_right T) (hr.mono (by decide)) (by rfl) T.d44.mg T.d44.fn.kp T.d44.b .nil pass0 (pa_cons (pv 2) pa_nil)))))))) (pss_one (ps_ret pe_bl)) pss_nil)))) (pss_one (ps_ret pe_bl))), ?_⟩
    refine ⟨_, rfl, _, _, _, (x_script : Scr), _, rfl, w0, ⟨_, rfl, q1⟩, ?_⟩
    refine (post_bind hm).mono (fun y3 hm p3 us3 F3 H3 w3 s3 g3 => ?_) (fun _ z => z)
    replace q1 := s3.seq q1
    replace h1 := A2.mono s3 h1
    replace sF := sF.trans s3
    obtain ⟨F5, s5, w5, q5⟩ : ∃ F', Same F3 F' ∧ W F' _ (os) ∧ F' p3 = some (.lst us3) := w3.freezeE (pre := [])
    replace q1 := s5.seq q1
    replace h1 := A2.mono s5 h1
    replace g3 := A2.mono s5 g3
    replace sF := sF.trans s5
    refine ⟨_, rfl, ⟨_, SqL.of (w5.same _ _ q5)⟩, ?_⟩
    refine forX (tw_list (a := p3) g3) hm (fun (g2 : Unit) σ H' => ∃ (F' : Hp) (o2_2 : Option V) (o2_1 : Option V), σ = [some (.ref a1), o2_1, o2_2] ∧ Same F5 F' ∧ W F' H' (os)) ⟨_, _, _, rfl, Same.refl _, w5⟩ (fun g σ H' hI => by obtain ⟨F', _, _, _, s, w⟩ := hI; exact SqL.of (w.same _ _ (s _ _ q5))) ?_ ?_
    · -- a turn
      intro b2 g2 x2 σ2 H2 H2' N2 B2 P2 hI hy hN2 hB2 hZ2 hm
      obtain ⟨F2, o2_2, o2_1, rfl, s2, w2⟩ := hI
      replace q1 := s2.seq q1
      replace h1 := A2.mono s2 h1
      replace g3 := A2.mono s2 g3
      replace q5 := s2 _ _ q5
      replace sF := sF.trans s2
      obtain ⟨rfl, r6⟩ := hy
      obtain rfl : x2 = V.int b2 := r6
      refine ⟨_, rfl, _, _, _, rfl, w2, ?_⟩
      refine (post_bind hm).mono (fun y7 hm p7 us7 F7 H7 w7 s7 g7 => ?_) (fun _ z => z)
      replace h1 := A2.mono s7 h1
      replace q1 := s7.seq q1
      replace sF := sF.trans s7
      refine stepN ?_
      try dsimp only
      refine stepIf ?_
      refine joinT hm (fun (j9 : Bool × (List Int)) c H' => c = j9.1 ∧ ∃ (F' : Hp) (vs9_0 : List V), Same F7 F' ∧ W F' H' ((p7, .lst vs9_0) :: os) ∧ A2 (rep K F') vs9_0 j9.2) ?_ ?_
      · intro Q9 P9 q9 hm
        refine ⟨_, rfl, _, _, _, _, _, rfl, w7, g7, ?_⟩
        refine (post_bind hm).mono (fun y10 hm v10 vs10 F10 H10 w10 s10 r10 h10 => ?_) (fun _ z => z)
        replace h1 := A2.mono s10 h1
        replace q1 := s10.seq q1
        replace sF := sF.trans s10
        obtain rfl : v10 = V.bl y10.1 := r10
        refine ⟨_, rfl, ?_⟩
        refine post_ite hm (fun k11 hm => ?_) (fun k11 hm => ?_)
        · skip
          exact q9 _ (post_ok hm) _ _ ⟨rfl, _, _, s10, w10, h10⟩
        · skip
          refine ⟨_, rfl, _, _, _, _, _, rfl, w10, h10, ?_⟩
          refine (post_bind hm).mono (fun y13 hm v13 vs13 F13 H13 w13 s13 r13 h13 => ?_) (fun _ z => z)
          replace h1 := A2.mono s13 h1
          replace q1 := s13.seq q1
          replace sF := sF.trans s13
          obtain rfl : v13 = V.bl y13.1 := r13
          refine ⟨_, rfl, ?_⟩
          refine post_ite hm (fun k14 hm => ?_) (fun k14 hm => ?_)
          · skip
            exact q9 _ (post_ok hm) _ _ ⟨rfl, _, _, (s10.trans s13), w13, h13⟩
          · skip
            refine ⟨_, rfl, _, _, _, _, _, rfl, w13, h13, ?_⟩
            refine (post_bind hm).mono (fun y16 hm v16 vs16 F16 H16 w16 s16 r16 h16 => ?_) (fun _ z => z)
            replace h1 := A2.mono s16 h1
            replace q1 := s16.seq q1
            replace sF := sF.trans s16
            obtain rfl : v16 = V.bl y16.1 := r16
            exact ⟨_, rfl, q9 _ (post_ok hm) _ _ ⟨rfl, _, _, (s10.trans (s13.trans s16)), w16, h16⟩⟩
      intro j9 c9 H9 hc9 hm
      obtain ⟨rfl, F9, vs9_0, s9, w9, h9_0⟩ := hc9
      replace h1 := A2.mono s9 h1
      replace q1 := s9.seq q1
      replace sF := sF.trans s9
      refine post_ite hm (fun k18 hm => ?_) (fun k18 hm => ?_)
      · skip
        have hm := hZ2 _ (post_ok hm)
        have w19 : W F9 _ (os) := w9.drop (pre := [])
        exact (post_ok hm) _ _ _ w19 sF rep_b
      · skip
        have w20 : W F9 _ (os) := w9.drop (pre := [])
        exact hN2 _ (post_ok hm) _ _ ⟨_, _, _, rfl, (s2.trans (s7.trans s9)), w20⟩
    intro g2 σ2 H2 hI hm
    obtain ⟨F2, o2_2, o2_1, rfl, s2, w2⟩ := hI
    replace q1 := s2.seq q1
    replace h1 := A2.mono s2 h1
    replace g3 := A2.mono s2 g3
    replace q5 := s2 _ _ q5
    replace sF := sF.trans s2
    exact (post_ok hm) _ _ _ w2 sF rep_b
end
end G
/-! MA2: webs drawn from a pool -/
namespace G
open PySem L2 Z
structure TiesOk (b : Nat) (n : Int) (ts : List (Int × Int)) : Prop where
  rg : ∀ p ∈ ts, 0 ≤ p.1 ∧ p.1 < p.2 ∧ p.2 < n
  nd : ts.Nodup
  conn : Conn n ts
  len : ts.length ≤ b
theorem TiesOk.up {b c : Nat} {n : Int} {ts : List (Int × Int)} (h : TiesOk b n ts) (hl : b ≤ c) : TiesOk c n ts := ⟨h.rg, h.nd, h.conn, Nat.le_trans h.len hl⟩
structure WebOk (n : Int) (ts : List (Int × Int)) : Prop where
  n1 : 1 ≤ n
  n60 : n ≤ 60
  rg : ∀ p ∈ ts, 0 ≤ p.1 ∧ p.1 < p.2 ∧ p.2 < n
  nd : ts.Nodup
  conn : Conn n ts
  len : ts.length ≤ 700
  srt : sortP ts = ts
theorem WebOk.rg4 {n : Int} {ts : List (Int × Int)} (h : WebOk n ts) : ∀ q ∈ ts, 0 ≤ q.1 ∧ q.1 < n ∧ 0 ≤ q.2 ∧ q.2 < n := fun q hq => by
  have := h.rg q hq
  omega
def moved (o : List Int) (p : Int × Int) : Int × Int := (min2 (o.getD p.1.toNat 0) (o.getD p.2.toNat 0), max2 (o.getD p.1.toNat 0) (o.getD p.2.toNat 0))
theorem perm_get {o : List Int} {n : Int} (h : o.Perm (rng 0 n)) (n0 : 0 ≤ n) {k : Int} (k0 : 0 ≤ k) (k1 : k < n) : ∃ x, o[k.toNat]? = some x ∧ 0 ≤ x ∧ x < n := by
  have hl := h.length_eq
  rw [rng_length] at hl
  have hk : k.toNat < o.length := by omega
  refine ⟨o[k.toNat], List.getElem?_eq_getElem hk, ?_⟩
  exact rng_mem.mp (h.mem_iff.mp (List.getElem_mem hk))
theorem perm_getD {o : List Int} {n : Int} (h : o.Perm (rng 0 n)) (n0 : 0 ≤ n) {k : Int} (k0 : 0 ≤ k) (k1 : k < n) : 0 ≤ o.getD k.toNat 0 ∧ o.getD k.toNat 0 < n := by
  obtain ⟨x, e, x0, x1⟩ := perm_get h n0 k0 k1
  rw [List.getD_eq_getElem?_getD, e]
  exact ⟨x0, x1⟩
theorem perm_inj {o : List Int} {n : Int} (h : o.Perm (rng 0 n)) (n0 : 0 ≤ n) {j k : Int} (j0 : 0 ≤ j) (j1 : j < n) (k0 : 0 ≤ k) (k1 : k < n) (e : o.getD j.toNat 0 = o.getD k.toNat 0) : j = k := by
  have hl := h.length_eq
  rw [rng_length] at hl
  have hnd : o.Nodup := (h.nodup_iff).mpr (rng_nodup 0 n)
  have hj : j.toNat < o.length := by omega
  have hk : k.toNat < o.length := by omega
  rw [List.getD_eq_getElem?_getD, List.getD_eq_getElem?_getD, List.getElem?_eq_getElem hj, List.getElem?_eq_getElem hk] at e
  have e' : o[j.toNat] = o[k.toNat] := e
  have hpw := List.pairwise_iff_getElem.mp hnd
  rcases Nat.lt_trichotomy j.toNat k.toNat with q | q | q
  · exact absurd e' (hpw _ _ hj hk q)
  · omega
  · exact absurd e'.symm (hpw _ _ hk hj q)
theorem perm_surj {o : List Int} {n : Int} (h : o.Perm (rng 0 n)) (n0 : 0 ≤ n) {x : Int} (x0 : 0 ≤ x) (x1 : x < n) : ∃ k, 0 ≤ k ∧ k < n ∧ o.getD k.toNat 0 = x := by
  have hx : x ∈ o := h.mem_iff.mpr (rng_mem.mpr ⟨x0, x1⟩)
  obtain ⟨i, hi⟩ := List.mem_iff_getElem?.mp hx
  have hl := h.length_eq
  rw [rng_length] at hl
  have hil := (List.getElem?_eq_some_iff.mp hi).1
  refine ⟨i, by omega, by omega, ?_⟩
  rw [List.getD_eq_getElem?_getD, Int.toNat_natCast, hi]
  rfl
theorem mm_cases (a b : Int) : (min2 a b = a ∧ max2 a b = b ∧ a ≤ b) ∨ (min2 a b = b ∧ max2 a b = a ∧ b ≤ a) := by
  unfold min2 max2
  by_cases h : b < a
  · rw [if_pos h, if_neg (by omega)]
    exact .inr ⟨rfl, rfl, by omega⟩
  · rw [if_neg h]
    by_cases h2 : b > a
    · rw [if_pos h2]
      exact .inl ⟨rfl, rfl, by omega⟩
    · rw [if_neg h2]
      have : a = b := by omega
      subst this
      exact .inl ⟨rfl, rfl, by omega⟩
theorem moved_inj {o : List Int} {n : Int} (h : o.Perm (rng 0 n)) (n0 : 0 ≤ n) {p q : Int × Int} (hp : 0 ≤ p.1 ∧ p.1 < p.2 ∧ p.2 < n) (hq : 0 ≤ q.1 ∧ q.1 < q.2 ∧ q.2 < n) (e : moved o p = moved o q) : p = q := by
  unfold moved at e
  injection e with e1 e2
  have i1 := fun e => perm_inj h n0 (j := p.1) (k := q.1) hp.1 (by omega) hq.1 (by omega) e
  have i2 := fun e => perm_inj h n0 (j := p.2) (k := q.2) (by omega) hp.2.2 (by omega) hq.2.2 e
  have i3 := fun e => perm_inj h n0 (j := p.1) (k := q.2) hp.1 (by omega) (by omega) hq.2.2 e
  have i4 := fun e => perm_inj h n0 (j := p.2) (k := q.1) (by omega) hp.2.2 hq.1 (by omega) e
  rcases mm_cases (o.getD p.1.toNat 0) (o.getD p.2.toNat 0) with ⟨a1, a2, _⟩ | ⟨a1, a2, _⟩ <;> rcases mm_cases (o.getD q.1.toNat 0) (o.getD q.2.toNat 0) with ⟨b1, b2, _⟩ | ⟨b1, b2, _⟩ <;> rw [a1, b1] at e1 <;> rw [a2, b2] at e2
  · exact Prod.ext (i1 e1) (i2 e2)
  · have := i3 e1
    have := i4 e2
    omega
  · have := i4 e1
    have := i3 e2
    omega
  · exact Prod.ext (i1 e2) (i2 e1)
theorem moved_ok {o : List Int} {n : Int} {ts : List (Int × Int)} (ho : o.Perm (rng 0 n)) (n0 : 1 ≤ n) (n1 : n ≤ 60) (h : TiesOk 700 n ts) : WebOk n (sortP (ts.map (moved o))) := by
  have hperm := sortP_perm (ts.map (moved o))
  refine ⟨n0, n1, fun p hp => ?_, ?_, ?_, ?_, ?_⟩
  · obtain ⟨q, hq, rfl⟩ := List.mem_map.mp (hperm.mem_iff.mp hp)
    have hr := h.rg q hq
    have r1 := perm_getD ho (by omega) (k := q.1) hr.1 (by omega)
    have r2 := perm_getD ho (by omega) (k := q.2) (by omega) hr.2.2
    have ne : o.getD q.1.toNat 0 ≠ o.getD q.2.toNat 0 := fun e => by
      have := perm_inj ho (by omega) hr.1 (by omega) (by omega) hr.2.2 e
      omega
    unfold moved
    dsimp only
    rcases mm_cases (o.getD q.1.toNat 0) (o.getD q.2.toNat 0) with ⟨a1, a2, _⟩ | ⟨a1, a2, _⟩ <;> rw [a1, a2] <;> omega
  · refine hperm.nodup_iff.mpr ?_
    refine List.Pairwise.map (R := fun p q => p ≠ q ∧ p ∈ ts ∧ q ∈ ts) _ (fun p q hpq e => hpq.1 (moved_inj ho (by omega) (h.rg p hpq.2.1) (h.rg q hpq.2.2) e)) ?_
    exact h.nd.imp_of_mem fun hp hq hne => ⟨hne, hp, hq⟩
  · intro S h0 hc
    obtain ⟨r, r0, r1, er⟩ := perm_surj ho (by omega) (x := 0) (by omega) (by omega)
    have key := h.conn.any (S := fun k => S (o.getD k.toNat 0)) r0 r1 (by show S (o.getD r.toNat 0); rw [er]; exact h0) fun p hp => by
      have hm : moved o p ∈ sortP (ts.map (moved o)) := hperm.mem_iff.mpr (List.mem_map.mpr ⟨p, hp, rfl⟩)
      have := hc _ hm
      unfold moved at this
      dsimp only at this
      rcases mm_cases (o.getD p.1.toNat 0) (o.getD p.2.toNat 0) with ⟨a1, a2, _⟩ | ⟨a1, a2, _⟩
      · rw [a1, a2] at this
        exact this
      · rw [a1, a2] at this
        exact this.symm
    intro k k0 k1
    obtain ⟨j, j0, j1, ej⟩ := perm_surj ho (by omega) k0 k1
    rw [← ej]
    exact key j j0 j1
  · rw [hperm.length_eq, List.length_map]
    exact h.len
  · exact (sortP_eq (List.Perm.refl _) (sortP_sorted _)).symm
end G
/-! MB: neighbours and fars, as the program reckons them -/
namespace G
open PySem L2 Z
/-- the places tied to one, in the ties' order -/
def nbs (ts : List (Int × Int)) (i : Int) : List Int := ts.flatMap fun p => (if p.1 = i then [p.2] else []) ++ (if p.2 = i then [p.1] else [])
theorem nbs_snoc (ts : List (Int × Int)) (x : Int × Int) (i : Int) : nbs (ts ++ [x]) i = nbs ts i ++ ((if x.1 = i then [x.2] else []) ++ (if x.2 = i then [x.1] else [])) := by
  unfold nbs
  rw [List.flatMap_append]
  simp
theorem nbs_mem {ts : List (Int × Int)} {i j : Int} : j ∈ nbs ts i ↔ Adj ts i j := by
  unfold nbs Adj
  rw [List.mem_flatMap]
  constructor
  · rintro ⟨p, hp, h⟩
    rcases List.mem_append.mp h with h | h
    · split at h
      · rename_i e
        rw [List.mem_singleton] at h
        rw [← e, h]
        exact .inl hp
      · cases h
    · split at h
      · rename_i e
        rw [List.mem_singleton] at h
        rw [← e, h]
        exact .inr hp
      · cases h
  · rintro (h | h)
    · exact ⟨_, h, List.mem_append_left _ (by simp)⟩
    · exact ⟨_, h, List.mem_append_right _ (by simp)⟩
theorem nbs_len (ts : List (Int × Int)) (i : Int) : (nbs ts i).length ≤ 2 * ts.length := by
  induction ts with
  | nil => exact Nat.le_refl _
  | cons p ts ih =>
    have e : nbs (p :: ts) i = ((if p.1 = i then [p.2] else []) ++ (if p.2 = i then [p.1] else [])) ++ nbs ts i := rfl
    rw [e, List.length_append, List.length_append, List.length_cons]
    have h1 : (if p.1 = i then [p.2] else []).length ≤ 1 := by split <;> simp
    have h2 : (if p.2 = i then [p.1] else []).length ≤ 1 := by split <;> simp
    omega
theorem map_rng_get {α : Type} {n : Int} {F : Int → α} {j : Int} (h0 : 0 ≤ j) (h1 : j < n) : ((rng 0 n).map F)[j.toNat]? = some (F j) := by
  rw [List.getElem?_map, rng_atE (by omega)]
  show some (F (0 + (j.toNat : Int))) = _
  rw [show (0 : Int) + (j.toNat : Int) = j by omega]
theorem map_rng_set {α : Type} {n : Int} {F : Int → α} {j : Int} {y : α} (h0 : 0 ≤ j) : ((rng 0 n).map F).set j.toNat y = (rng 0 n).map fun i => if i = j then y else F i := by
  apply List.ext_getElem?
  intro k
  rw [List.getElem?_set, List.getElem?_map, List.getElem?_map, List.length_map]
  by_cases hk : k < (n - 0).toNat
  · rw [rng_atE hk]
    by_cases e : j.toNat = k
    · rw [if_pos e, if_pos (by rw [rng_length]; omega)]
      show some y = some (if (0 : Int) + (k : Int) = j then y else F (0 + k))
      rw [if_pos (by omega)]
    · rw [if_neg e]
      show some (F (0 + k)) = some (if (0 : Int) + (k : Int) = j then y else F (0 + k))
      rw [if_neg (by omega)]
  · rw [List.getElem?_eq_none (by rw [rng_length]; omega)]
    by_cases e : j.toNat = k
    · rw [if_pos e, if_neg (by rw [rng_length]; omega)]; rfl
    · rw [if_neg e]
      rfl
theorem map_rng_congr {α : Type} {n : Int} {F G : Int → α} (h : ∀ i, 0 ≤ i → i < n → F i = G i) : (rng 0 n).map F = (rng 0 n).map G := List.map_congr_left fun i hi => h i (rng_mem.mp hi).1 (rng_mem.mp hi).2
theorem range_get {N : Nat} {j : Int} (h0 : 0 ≤ j) (h1 : j < N) : getI (List.range N) j = R.ok j.toNat := by
  refine getI_eq h0 ?_
  rw [List.getElem?_range (by omega)]
def nears (n : Int) (ts : List (Int × Int)) : List (List Int) := (rng 0 n).map fun i => sortI (nbs ts i)
theorem near_lists_ok {n : Int} {ts : List (Int × Int)} (n0 : 0 ≤ n) (n1 : n < 1000) (hl : ts.length < 40000) (hr : ∀ p ∈ ts, 0 ≤ p.1 ∧ p.1 < n ∧ 0 ≤ p.2 ∧ p.2 < n) : near_lists (n, ⟨ts⟩) = R.ok (nears n ts) := by
  refine po_iff ?_
  unfold near_lists
  refine po_rng (by decide) (by decide) (by show -(2 ^ 62) ≤ n; omega) (by show n < 2 ^ 62; omega) ?_
  have hN : (rng 0 n).length = n.toNat := by rw [rng_length]; omega
  refine po_bind (po_mapStA (fun pre acc s => acc = List.range pre.length ∧ s = List.replicate pre.length []) (by show (rng 0 n).length < 100000; omega) ⟨rfl, rfl⟩ fun pre acc s x post e ⟨h1, h2⟩ => ?_) fun l5 ⟨a1, a2⟩ => ?_
  · refine po_newS ⟨?_, ?_⟩
    · show acc ++ [s.length] = _
      rw [h1, h2, List.length_replicate, List.length_append, List.length_singleton, List.range_succ]
    · show s ++ [[]] = _
      rw [h2, List.length_append, List.length_singleton, List.replicate_succ']
  · rw [hN] at a1 a2
    refine po_bind (po_foldP (fun pre g => g = (rng 0 n).map fun i => nbs pre i) ?_ fun pre g x post e hg => ?_) fun g11 hg => ?_
    · rw [a2]
      apply List.ext_getElem?
      intro k
      rw [List.getElem?_replicate, List.getElem?_map]
      by_cases hk : k < n.toNat
      · rw [if_pos hk, rng_atE (by omega)]; rfl
      · rw [if_neg hk, List.getElem?_eq_none (by rw [rng_length]; omega)]; rfl
    · obtain ⟨x1, x2, x3, x4⟩ := hr x (by rw [show ts = pre ++ x :: post from e]; simp)
      have hpl : pre.length < 40000 := by
        have : ts.length = pre.length + (post.length + 1) := by rw [show ts = pre ++ x :: post from e]; simp
        omega
      have hl1 := nbs_len pre x.1
      have hl2 := nbs_len pre x.2
      rw [a1]
      refine po_getE (range_get x1 (by omega)) (po_getS (by rw [hg]; exact map_rng_get x1 x2) (po_app (by omega) (po_setS ?_)))
      rw [hg, map_rng_set x1]
      refine po_getE (range_get x3 (by omega)) (po_getS (map_rng_get x3 x4) (po_app ?_ (po_setS ?_)))
      · split
        · rw [List.length_append, List.length_singleton]; omega
        · omega
      · rw [map_rng_set x3]
        show _ = _
        refine map_rng_congr fun i i0 i1 => ?_
        rw [nbs_snoc]
        by_cases e1 : x.1 = i
        · by_cases e2 : x.2 = i
          · subst e1
            rw [e2]
            simp
          · subst e1
            rw [if_neg (fun q => e2 q.symm), if_pos rfl, if_pos rfl, if_neg e2, List.append_nil]
        · by_cases e2 : x.2 = i
          · subst e2
            rw [if_pos rfl, if_neg (fun q => e1 q.symm), if_neg e1, if_pos rfl, List.nil_append]
          · rw [if_neg (fun q => e2 q.symm), if_neg (fun q => e1 q.symm), if_neg e1, if_neg e2, List.append_nil, List.append_nil]
    · have hg' : g11 = (rng 0 n).map fun i => nbs ts i := hg
      rw [a1]
      refine po_bind (Q := fun l => l = nears n ts) (po_eq (mapG_ok (g := fun b => sortI (nbs ts (b : Nat))) (by rw [List.length_range]; omega) fun b hb => ?_) ?_) fun l h => h
      · have hb' := List.mem_range.mp hb
        refine po_iff (po_getS (xs := nbs ts (b : Nat)) ?_ rfl)
        rw [hg']
        have := map_rng_get (n := n) (F := fun i => nbs ts i) (j := (b : Int)) (by omega) (by omega)
        rw [Int.toNat_natCast] at this
        exact this
      · unfold nears
        apply List.ext_getElem?
        intro k
        rw [List.getElem?_map, List.getElem?_map]
        by_cases hk : k < n.toNat
        · rw [rng_atE (by omega), List.getElem?_range hk]
          show some (sortI (nbs ts (k : Nat))) = some (sortI (nbs ts (0 + (k : Nat))))
          rw [Int.zero_add]
        · rw [List.getElem?_eq_none (by rw [List.length_range]; omega), List.getElem?_eq_none (by rw [rng_length]; omega)]; rfl
theorem sortI_mem {xs : List Int} {x : Int} : x ∈ sortI xs ↔ x ∈ xs := (sortI_perm xs).mem_iff
/-- so many empty lists -/
theorem empties_ok {N : Int} (h0 : 0 ≤ N) (h1 : N < 1000) : Post (mapStG (fun (g5 : (List (List Int))) (b5 : Int) => do
      let r9 ← newS g5 ([] : (List Int))
      R.ok (r9.1, r9.2)) ([] : List (List Int)) (rng 0 N)) (fun l => l.1 = List.range N.toNat ∧ l.2 = List.replicate N.toNat []) noX := by
  have hN : (rng 0 N).length = N.toNat := by rw [rng_length]; omega
  refine Post.mono (po_mapStA (fun pre acc s => acc = List.range pre.length ∧ s = List.replicate pre.length []) (by omega) ⟨rfl, rfl⟩ fun pre acc s x post e ⟨h1, h2⟩ => ?_) (fun l ⟨a1, a2⟩ => by rw [hN] at a1 a2; exact ⟨a1, a2⟩) fun _ z => z
  refine po_newS ⟨?_, ?_⟩
  · show acc ++ [s.length] = _
    rw [h1, h2, List.length_replicate, List.length_append, List.length_singleton, List.range_succ]
  · show s ++ [[]] = _
    rw [h2, List.length_append, List.length_singleton, List.replicate_succ']
/-- ties gathered at both ends -/
theorem gather_ok {n : Int} {ts : List (Int × Int)} (n0 : 0 ≤ n) (n1 : n < 1000) (hl : ts.length < 40000) (hr : ∀ p ∈ ts, 0 ≤ p.1 ∧ p.1 < n ∧ 0 ≤ p.2 ∧ p.2 < n) : Post (foldR (fun (g11 : (List (List Int))) (b11 : (Int × Int)) => do
      let t14 ← getI (List.range n.toNat) b11.1
      let x16 ← getS g11 t14
      let l17 ← app x16 b11.2
      let r17 ← setS g11 t14 l17
      let t18 ← getI (List.range n.toNat) b11.2
      let x20 ← getS r17 t18
      let l21 ← app x20 b11.1
      let r21 ← setS r17 t18 l21
      R.ok r21) (List.replicate n.toNat []) ts) (fun g => g = (rng 0 n).map fun i => nbs ts i) noX := by
  refine po_foldP (fun pre g => g = (rng 0 n).map fun i => nbs pre i) ?_ fun pre g x post e hg => ?_
  · apply List.ext_getElem?
    intro k
    rw [List.getElem?_replicate, List.getElem?_map]
    by_cases hk : k < n.toNat
    · rw [if_pos hk, rng_atE (by omega)]; rfl
    · rw [if_neg hk, List.getElem?_eq_none (by rw [rng_length]; omega)]; rfl
  · obtain ⟨x1, x2, x3, x4⟩ := hr x (by rw [show ts = pre ++ x :: post from e]; simp)
    have hpl : pre.length < 40000 := by
      have : ts.length = pre.length + (post.length + 1) := by rw [show ts = pre ++ x :: post from e]; simp
      omega
    have hl1 := nbs_len pre x.1
    have hl2 := nbs_len pre x.2
    refine po_getE (range_get x1 (by omega)) (po_getS (by rw [hg]; exact map_rng_get x1 x2) (po_app (by omega) (po_setS ?_)))
    rw [hg, map_rng_set x1]
    refine po_getE (range_get x3 (by omega)) (po_getS (map_rng_get x3 x4) (po_app ?_ (po_setS ?_)))
    · split
      · rw [List.length_append, List.length_singleton]; omega
      · omega
    · rw [map_rng_set x3]
      show _ = _
      refine map_rng_congr fun i i0 i1 => ?_
      rw [nbs_snoc]
      by_cases e1 : x.1 = i
      · by_cases e2 : x.2 = i
        · subst e1
          rw [e2]
          simp
        · subst e1
          rw [if_neg (fun q => e2 q.symm), if_pos rfl, if_pos rfl, if_neg e2, List.append_nil]
      · by_cases e2 : x.2 = i
        · subst e2
          rw [if_pos rfl, if_neg (fun q => e1 q.symm), if_neg e1, if_pos rfl, List.nil_append]
        · rw [if_neg (fun q => e2 q.symm), if_neg (fun q => e1 q.symm), if_neg e1, if_neg e2, List.append_nil, List.append_nil]
theorem deref_range {α : Type} {st : List (List α)} {k : Nat} (h : st.length = k) : deref st (List.range k) = R.ok st := by
  unfold deref
  have h1 : mapR (getS st) (List.range k) = R.ok ((List.range k).map fun i => st[i]?.getD []) := mapR_ok fun i hi => by
    have hi' := List.mem_range.mp hi
    unfold getS
    rw [List.getElem?_eq_getElem (by omega)]
    rfl
  rw [h1]
  congr 1
  apply List.ext_getElem?
  intro i
  rw [List.getElem?_map]
  by_cases hi : i < k
  · rw [List.getElem?_range hi, List.getElem?_eq_getElem (by omega)]
    show some (st[i]?.getD []) = _
    rw [List.getElem?_eq_getElem (by omega)]
    rfl
  · rw [List.getElem?_eq_none (by rw [List.length_range]; omega), List.getElem?_eq_none (by omega)]
    rfl
end G
/-! MC: drawn webs: neighbours, fars -/
namespace G
open PySem L2 Z
theorem web_near {n : Int} {ts : List (Int × Int)} (h : WebOk n ts) : near_lists (n, ⟨ts⟩) = R.ok (nears n ts) := near_lists_ok (by have := h.n1; omega) (by have := h.n60; omega) (by have := h.len; omega) h.rg4
theorem enum_mem {α : Type} {xs : List α} {b : Int × α} (h : b ∈ enum xs) : 0 ≤ b.1 ∧ b.1 < (xs.length : Int) ∧ xs[b.1.toNat]? = some b.2 := by
  unfold enum at h
  obtain ⟨i, hi⟩ := List.mem_iff_getElem?.mp h
  rw [List.getElem?_zip_eq_some] at hi
  obtain ⟨h1, h2⟩ := hi
  have hl := (List.getElem?_eq_some_iff.mp h2).1
  rw [rng_atE (by omega)] at h1
  have e : b.1 = (i : Int) := by
    injection h1 with h1
    omega
  rw [e]
  exact ⟨by omega, by omega, by rw [Int.toNat_natCast]; exact h2⟩
theorem web_dist {n : Int} {ts : List (Int × Int)} {p : Int} (h : WebOk n ts) (p0 : 0 ≤ p) (p1 : p < n) : IsDist n ts p (dst n ts p) := conn_ex h.rg4 h.conn p0 p1
theorem WebOk.adj {n : Int} {ts : List (Int × Int)} (h : WebOk n ts) {a b : Int} (q : Adj ts a b) : 0 ≤ a ∧ a < n ∧ 0 ≤ b ∧ b < n ∧ a ≠ b := by
  rcases q with q | q <;> have := h.rg _ q <;> dsimp only at this <;> omega
section
variable {n : Int} {ts : List (Int × Int)} (h : WebOk n ts)
include h
theorem dst_zero {p v : Int} (p0 : 0 ≤ p) (p1 : p < n) (v0 : 0 ≤ v) (v1 : v < n) : dst n ts p v = 0 ↔ v = p := by
  have d := web_dist h p0 p1
  constructor
  · intro e
    apply Classical.byContradiction
    intro hne
    obtain ⟨w, w0, w1, _, ew⟩ := d.desc v v0 v1 hne
    have := d.nn w w0 w1
    omega
  · rintro rfl
    exact d.zero
theorem dst_nn {p v : Int} (p0 : 0 ≤ p) (p1 : p < n) (v0 : 0 ≤ v) (v1 : v < n) : 0 ≤ dst n ts p v := (web_dist h p0 p1).nn v v0 v1
theorem dst_tri {a b x : Int} (q : Adj ts a b) (x0 : 0 ≤ x) (x1 : x < n) : dst n ts a x ≤ dst n ts b x + 1 := by
  obtain ⟨a0, a1, b0, b1, _⟩ := h.adj q
  have da := web_dist h a0 a1
  have db := web_dist h b0 b1
  have key : ∀ (m : Nat) (x : Int), (dst n ts b x).toNat ≤ m → 0 ≤ x → x < n → dst n ts a x ≤ dst n ts b x + 1 := by
    intro m
    induction m with
    | zero =>
      intro x hm x0 x1
      have hx := db.nn x x0 x1
      have e : x = b := (dst_zero h b0 b1 x0 x1).mp (by omega)
      subst e
      have := da.lip a x q
      rw [da.zero] at this
      rw [db.zero]
      exact this
    | succ m ih =>
      intro x hm x0 x1
      by_cases e : x = b
      · subst e
        have := da.lip a x q
        rw [da.zero] at this
        rw [db.zero]
        exact this
      · obtain ⟨y, y0, y1, hy, ey⟩ := db.desc x x0 x1 e
        have := db.nn y y0 y1
        have h1 := ih y (by omega) y0 y1
        have h2 := da.lip y x hy
        omega
  exact key _ x (Nat.le_refl _) x0 x1
theorem dst_le_symm {p v : Int} (p0 : 0 ≤ p) (p1 : p < n) (v0 : 0 ≤ v) (v1 : v < n) : dst n ts v p ≤ dst n ts p v := by
  have dp := web_dist h p0 p1
  have key : ∀ (m : Nat) (v : Int), (dst n ts p v).toNat ≤ m → 0 ≤ v → v < n → dst n ts v p ≤ dst n ts p v := by
    intro m
    induction m with
    | zero =>
      intro v hm v0 v1
      have hx := dp.nn v v0 v1
      have e : v = p := (dst_zero h p0 p1 v0 v1).mp (by omega)
      subst e
      exact Int.le_refl _
    | succ m ih =>
      intro v hm v0 v1
      by_cases e : v = p
      · subst e
        exact Int.le_refl _
      · obtain ⟨w, w0, w1, hw, ew⟩ := dp.desc v v0 v1 e
        have := dp.nn w w0 w1
        have h1 := ih w (by omega) w0 w1
        have h2 := dst_tri h hw.symm p0 p1
        omega
  exact key _ v (Nat.le_refl _) v0 v1
theorem dst_symm {p v : Int} (p0 : 0 ≤ p) (p1 : p < n) (v0 : 0 ≤ v) (v1 : v < n) : dst n ts v p = dst n ts p v := Int.le_antisymm (dst_le_symm h p0 p1 v0 v1) (dst_le_symm h v0 v1 p0 p1)
/-- neighbours are just one far -/
theorem dst_one {p v : Int} (p0 : 0 ≤ p) (p1 : p < n) (v0 : 0 ≤ v) (v1 : v < n) : dst n ts p v = 1 ↔ Adj ts p v := by
  have d := web_dist h p0 p1
  constructor
  · intro e
    obtain ⟨w, w0, w1, hw, ew⟩ := d.desc v v0 v1 (fun q => by
      have := (dst_zero h p0 p1 v0 v1).mpr q
      omega)
    have : w = p := (dst_zero h p0 p1 w0 w1).mp (by omega)
    rw [← this]
    exact hw
  · intro q
    have h1 := d.lip p v q
    rw [d.zero] at h1
    have h2 := d.nn v v0 v1
    have h3 : dst n ts p v ≠ 0 := fun e => (h.adj q).2.2.2.2 ((dst_zero h p0 p1 v0 v1).mp e).symm
    omega
end
theorem perm_nodup {xs ys : List Int} (h1 : xs.Nodup) (h2 : ys.Nodup) (h : ∀ x, x ∈ xs ↔ x ∈ ys) : xs.Perm ys := by
  rw [List.perm_iff_count]
  intro a
  rw [h1.count, h2.count]
  by_cases q : a ∈ xs
  · rw [if_pos q, if_pos ((h a).mp q)]
  · rw [if_neg q, if_neg (fun z => q ((h a).mpr z))]
theorem nbs_nodup {ts : List (Int × Int)} (hn : ts.Nodup) (hr : ∀ p ∈ ts, p.1 < p.2) (i : Int) : (nbs ts i).Nodup := by
  induction ts with
  | nil => exact List.nodup_nil
  | cons p ts ih =>
    have e : nbs (p :: ts) i = ((if p.1 = i then [p.2] else []) ++ (if p.2 = i then [p.1] else [])) ++ nbs ts i := rfl
    obtain ⟨hn1, hn2⟩ := List.nodup_cons.mp hn
    have ih' := ih hn2 fun q hq => hr q (List.mem_cons_of_mem _ hq)
    have hp := hr p List.mem_cons_self
    rw [e]
    by_cases h1 : p.1 = i
    · have h2 : p.2 ≠ i := by omega
      rw [if_pos h1, if_neg h2, List.append_nil]
      refine List.nodup_cons.mpr ⟨fun q => ?_, ih'⟩
      rcases nbs_mem.mp q with q | q
      · exact hn1 (by rw [← h1] at q; exact q)
      · have := hr _ (List.mem_cons_of_mem _ q)
        dsimp only at this
        omega
    · by_cases h2 : p.2 = i
      · rw [if_neg h1, if_pos h2, List.nil_append]
        refine List.nodup_cons.mpr ⟨fun q => ?_, ih'⟩
        rcases nbs_mem.mp q with q | q
        · have := hr _ (List.mem_cons_of_mem _ q)
          dsimp only at this
          omega
        · exact hn1 (by rw [← h2] at q; exact q)
      · rw [if_neg h1, if_neg h2, List.append_nil, List.nil_append]
        exact ih'
theorem rng_sorted (i j : Int) : (rng i j).Pairwise (· < ·) := by
  unfold rng
  refine List.Pairwise.map _ (fun a b h => ?_) List.pairwise_lt_range
  show i + (a : Int) < i + b
  omega
/-- the neighbours of a place, gathered otherwise -/
theorem sort_nbs {n : Int} {ts : List (Int × Int)} (h : WebOk n ts) (i : Int) (P : Int → Bool) (hP : ∀ v, 0 ≤ v → v < n → (P v = true ↔ Adj ts i v)) : sortI (nbs ts i) = (rng 0 n).filter P := by
  refine (sortI_eq ?_ ?_).symm
  · refine perm_nodup ((rng_nodup 0 n).filter _) (nbs_nodup h.nd (fun p hp => (h.rg p hp).2.1) i) fun x => ?_
    rw [List.mem_filter, nbs_mem, rng_mem]
    constructor
    · rintro ⟨⟨x0, x1⟩, hx⟩
      exact (hP x x0 x1).mp hx
    · intro hx
      have := h.adj hx
      exact ⟨⟨this.2.2.1, this.2.2.2.1⟩, (hP x this.2.2.1 this.2.2.2.1).mpr hx⟩
  · exact ((rng_sorted 0 n).sublist List.filter_sublist).imp fun h => Int.le_of_lt h
theorem nears_get {n p : Int} {ts : List (Int × Int)} (p0 : 0 ≤ p) (p1 : p < n) : getI (nears n ts) p = R.ok (sortI (nbs ts p)) := getI_eq p0 (map_rng_get p0 p1)
theorem nbs_len_n {n : Int} {ts : List (Int × Int)} (h : WebOk n ts) (i : Int) : (nbs ts i).length ≤ n.toNat := by
  have := nodup_le (nbs_nodup h.nd (fun p hp => (h.rg p hp).2.1) i) (ys := rng 0 n) fun x hx => by
    have := h.adj (nbs_mem.mp hx)
    exact rng_mem.mpr ⟨this.2.2.1, this.2.2.2.1⟩
  rw [rng_length] at this
  omega
theorem fil_ite {α : Type} (l : List α) (P : α → Bool) : l.filterMap (fun b => if P b = true then some b else none) = l.filter P := by
  induction l with
  | nil => rfl
  | cons a l ih =>
    rw [List.filterMap_cons, List.filter_cons]
    cases P a
    · exact ih
    · show a :: _ = a :: _
      rw [ih]
end G
/-! MF: fars, as the program reckons them -/
namespace G
open PySem L2 Z
/-! ### fars -/
section
variable {n : Int} {ts : List (Int × Int)} {p : Int}
structure Bfs (n : Int) (ts : List (Int × Int)) (p : Int) (at_ : Nat) (line : List Int) (F : Int → Option Int) : Prop where
  le : at_ ≤ line.length
  nd : line.Nodup
  rg : ∀ v ∈ line, 0 ≤ v ∧ v < n
  mem : ∀ v, 0 ≤ v → v < n → (v ∈ line ↔ (F v).isSome = true)
  p0 : F p = some 0
  nn : ∀ v d, F v = some d → 0 ≤ d
  par : ∀ v ∈ line, v = p ∨ ∃ w ∈ line, Adj ts w v ∧ ∃ d, F w = some d ∧ F v = some (d + 1)
  mono : line.Pairwise fun a b => (F a).getD 0 ≤ (F b).getD 0
  cap : ∀ v ∈ line, ∀ u ∈ line.drop at_, (F v).getD 0 ≤ (F u).getD 0 + 1
  done : ∀ i u, i < at_ → line[i]? = some u → ∀ w, Adj ts u w → w ∈ line ∧ (F w).getD 0 ≤ (F u).getD 0 + 1
/-- within a turn: the neighbours of u that are gone through -/
structure BfsIn (n : Int) (ts : List (Int × Int)) (p : Int) (at_ : Nat) (u : Int) (pre : List Int) (line : List Int) (F : Int → Option Int) : Prop where
  b : Bfs n ts p at_ line F
  u0 : line[at_]? = some u
  ok : ∀ w ∈ pre, w ∈ line ∧ (F w).getD 0 ≤ (F u).getD 0 + 1
theorem BfsIn.add {at_ : Nat} {u w : Int} {pre line : List Int} {F : Int → Option Int} {d : Int} (h : BfsIn n ts p at_ u pre line F) (hw : Adj ts u w) (w0 : 0 ≤ w) (w1 : w < n) (hn : F w = none) (hd : F u = some d) :
    BfsIn n ts p at_ u (pre ++ [w]) (line ++ [w]) (fun v => if v = w then some (d + 1) else F v) := by
  have b := h.b
  have hu : u ∈ line := List.mem_of_getElem? h.u0
  have hat : at_ < line.length := (List.getElem?_eq_some_iff.mp h.u0).1
  have hwl : w ∉ line := fun q => by
    have := (b.mem w w0 w1).mp q
    rw [hn] at this
    cases this
  have ne : ∀ v ∈ line, v ≠ w := fun v hv e => hwl (e ▸ hv)
  have eF : ∀ v ∈ line, (if v = w then some (d + 1) else F v) = F v := fun v hv => if_neg (ne v hv)
  have eW : (if w = w then some (d + 1) else F w) = some (d + 1) := if_pos rfl
  have hpl : p ∈ line ∨ True := .inr trivial
  have hd0 := b.nn u d hd
  have hud : u ∈ line.drop at_ := by
    rw [List.mem_iff_getElem?]
    exact ⟨0, by rw [List.getElem?_drop]; exact h.u0⟩
  refine ⟨⟨?_, ?_, ?_, ?_, ?_, ?_, ?_, ?_, ?_, ?_⟩, ?_, ?_⟩
  · rw [List.length_append]; omega
  · rw [List.nodup_append]
    refine ⟨b.nd, by simp, fun a ha c hc => ?_⟩
    rw [List.mem_singleton] at hc
    rw [hc]
    exact ne a ha
  · intro v hv
    rcases List.mem_append.mp hv with hv | hv
    · exact b.rg v hv
    · rw [List.mem_singleton] at hv
      rw [hv]; exact ⟨w0, w1⟩
  · intro v v0 v1
    by_cases e : v = w
    · subst e
      simp
    · show v ∈ line ++ [w] ↔ (if v = w then some (d + 1) else F v).isSome = true
      rw [if_neg e, ← b.mem v v0 v1]
      simp [e]
  · show (if p = w then some (d + 1) else F p) = some 0
    rw [if_neg]
    · exact b.p0
    · intro e
      rw [← e, b.p0] at hn
      cases hn
  · intro v e hv
    have hv' : (if v = w then some (d + 1) else F v) = some e := hv
    by_cases q : v = w
    · rw [if_pos q] at hv'
      cases hv'
      omega
    · rw [if_neg q] at hv'
      exact b.nn v e hv'
  · intro v hv
    rcases List.mem_append.mp hv with hv | hv
    · rcases b.par v hv with e | ⟨x, hx, ha, k, h1, h2⟩
      · exact .inl e
      · refine .inr ⟨x, List.mem_append_left _ hx, ha, k, ?_, ?_⟩
        · show (if x = w then some (d + 1) else F x) = some k
          rw [eF x hx]; exact h1
        · show (if v = w then some (d + 1) else F v) = some (k + 1)
          rw [eF v hv]; exact h2
    · rw [List.mem_singleton] at hv
      subst hv
      refine .inr ⟨u, List.mem_append_left _ hu, hw, d, ?_, eW⟩
      show (if u = v then some (d + 1) else F u) = some d
      rw [eF u hu]; exact hd
  · rw [List.pairwise_append]
    refine ⟨b.mono.imp_of_mem fun {a c} ha hc q => ?_, by simp, fun a ha c hc => ?_⟩
    · show (if a = w then some (d + 1) else F a).getD 0 ≤ (if c = w then some (d + 1) else F c).getD 0
      rw [eF a ha, eF c hc]; exact q
    · rw [List.mem_singleton] at hc
      subst hc
      show (if a = c then some (d + 1) else F a).getD 0 ≤ (if c = c then some (d + 1) else F c).getD 0
      rw [eF a ha, eW]
      have := b.cap a ha u hud
      rw [hd] at this
      exact this
  · intro v hv x hx
    rw [List.drop_append_of_le_length (by omega)] at hx
    show (if v = w then some (d + 1) else F v).getD 0 ≤ (if x = w then some (d + 1) else F x).getD 0 + 1
    have key : ∀ x, x ∈ line.drop at_ → d ≤ (F x).getD 0 := by
      intro x hx
      have hs : line.drop at_ = u :: line.drop (at_ + 1) := by
        rw [List.drop_eq_getElem_cons hat]
        have := (List.getElem?_eq_some_iff.mp h.u0).2
        rw [this]
      have hm := b.mono.sublist (List.drop_sublist at_ line)
      rw [hs] at hm hx
      rcases List.mem_cons.mp hx with rfl | hx
      · rw [hd]; exact Int.le_refl _
      · have := (List.pairwise_cons.mp hm).1 x hx
        rw [hd] at this
        exact this
    have hvd : (if v = w then some (d + 1) else F v).getD 0 ≤ d + 1 := by
      rcases List.mem_append.mp hv with hv | hv
      · rw [eF v hv]
        have := b.cap v hv u hud
        rw [hd] at this
        exact this
      · rw [List.mem_singleton] at hv
        rw [if_pos hv]; exact Int.le_refl _
    rcases List.mem_append.mp hx with hx | hx
    · rw [eF x (List.mem_of_mem_drop hx)]
      have := key x hx
      omega
    · rw [List.mem_singleton] at hx
      rw [if_pos hx]
      show _ ≤ (d + 1) + 1
      omega
  · intro i x hi hx y hy
    rw [List.getElem?_append_left (by omega)] at hx
    obtain ⟨h1, h2⟩ := b.done i x hi hx y hy
    refine ⟨List.mem_append_left _ h1, ?_⟩
    show (if y = w then some (d + 1) else F y).getD 0 ≤ (if x = w then some (d + 1) else F x).getD 0 + 1
    rw [eF y h1, eF x (List.mem_of_getElem? hx)]
    exact h2
  · rw [List.getElem?_append_left hat]; exact h.u0
  · intro v hv
    show v ∈ line ++ [w] ∧ (if v = w then some (d + 1) else F v).getD 0 ≤ (if u = w then some (d + 1) else F u).getD 0 + 1
    rw [eF u hu]
    rcases List.mem_append.mp hv with hv | hv
    · obtain ⟨h1, h2⟩ := h.ok v hv
      rw [eF v h1]
      exact ⟨List.mem_append_left _ h1, h2⟩
    · rw [List.mem_singleton] at hv
      rw [if_pos hv, hd, hv]
      exact ⟨List.mem_append_right _ (List.mem_singleton_self _), Int.le_refl _⟩
theorem BfsIn.skip {at_ : Nat} {u w : Int} {pre line : List Int} {F : Int → Option Int} (h : BfsIn n ts p at_ u pre line F) (hw : (F w).isSome = true) (w0 : 0 ≤ w) (w1 : w < n) : BfsIn n ts p at_ u (pre ++ [w]) line F := by
  refine ⟨h.b, h.u0, fun v hv => ?_⟩
  rcases List.mem_append.mp hv with hv | hv
  · exact h.ok v hv
  · rw [List.mem_singleton] at hv
    subst hv
    have hl := (h.b.mem v w0 w1).mpr hw
    refine ⟨hl, h.b.cap v hl u ?_⟩
    rw [List.mem_iff_getElem?]
    exact ⟨0, by rw [List.getElem?_drop]; exact h.u0⟩
theorem BfsIn.next {at_ : Nat} {u : Int} {nb line : List Int} {F : Int → Option Int} (h : BfsIn n ts p at_ u nb line F) (hnb : ∀ w, Adj ts u w → w ∈ nb) : Bfs n ts p (at_ + 1) line F := by
  have hat : at_ < line.length := (List.getElem?_eq_some_iff.mp h.u0).1
  refine { h.b with le := hat, cap := fun v hv x hx => h.b.cap v hv x ?_, done := fun i x hi hx w hw => ?_ }
  · exact (List.drop_sublist_drop_left line (Nat.le_succ at_)).subset hx
  · by_cases e : i = at_
    · subst e
      rw [h.u0] at hx
      cases hx
      exact h.ok w (hnb w hw)
    · exact h.b.done i x (by omega) hx w hw
theorem Bfs.isDist {line : List Int} {F : Int → Option Int} (b : Bfs n ts p line.length line F) (hc : Conn n ts) (hr : ∀ q ∈ ts, 0 ≤ q.1 ∧ q.1 < n ∧ 0 ≤ q.2 ∧ q.2 < n) (p0 : 0 ≤ p) (p1 : p < n) :
    (∀ v, 0 ≤ v → v < n → (F v).isSome = true) ∧ IsDist n ts p fun v => (F v).getD 0 := by
  have hp : p ∈ line := (b.mem p p0 p1).mpr (by rw [b.p0]; rfl)
  have cl : ∀ u w, u ∈ line → Adj ts u w → w ∈ line ∧ (F w).getD 0 ≤ (F u).getD 0 + 1 := by
    intro u w hu hw
    obtain ⟨i, hi⟩ := List.mem_iff_getElem?.mp hu
    exact b.done i u (List.getElem?_eq_some_iff.mp hi).1 hi w hw
  have all : ∀ k, 0 ≤ k → k < n → k ∈ line := hc.any (S := fun k => k ∈ line) p0 p1 hp fun q hq => ⟨fun h => (cl q.1 q.2 h (.inl hq)).1, fun h => (cl q.2 q.1 h (.inr hq)).1⟩
  refine ⟨fun v v0 v1 => (b.mem v v0 v1).mp (all v v0 v1), ⟨?_, fun v v0 v1 => ?_, fun a c h => ?_, fun v v0 v1 hne => ?_⟩⟩
  · show (F p).getD 0 = 0
    rw [b.p0]; rfl
  · show 0 ≤ (F v).getD 0
    cases e : F v with
    | none => exact Int.le_refl _
    | some d => exact b.nn v d e
  · have ra : 0 ≤ a ∧ a < n := by
      rcases h with h | h
      · exact ⟨(hr _ h).1, (hr _ h).2.1⟩
      · exact ⟨(hr _ h).2.2.1, (hr _ h).2.2.2⟩
    exact (cl a c (all a ra.1 ra.2) h).2
  · rcases b.par v (all v v0 v1) with e | ⟨w, hw, ha, d, h1, h2⟩
    · exact absurd e hne
    · refine ⟨w, (b.rg w hw).1, (b.rg w hw).2, ha, ?_⟩
      show (F w).getD 0 + 1 = (F v).getD 0
      rw [h1, h2]; rfl
end
theorem fars_by_post {n : Int} {ts : List (Int × Int)} {p : Int} (n1 : n < 900) (hr : ∀ q ∈ ts, 0 ≤ q.1 ∧ q.1 < n ∧ 0 ≤ q.2 ∧ q.2 < n) (hc : Conn n ts) (p0 : 0 ≤ p) (p1 : p < n) :
    Post (fars_by (nears n ts) p) (fun l => l = ((rng 0 n).map fun v => some (dst n ts p v)) ∧ IsDist n ts p (dst n ts p)) noX := by
  unfold fars_by
  have hN : (nears n ts).length = n.toNat := by unfold nears; rw [List.length_map, rng_length]; omega
  rw [hN]
  refine po_rep (by omega) (by omega) (by decide) ?_
  have e0 : repL ([none] : List (Option Int)) (n.toNat : Nat) = (rng 0 n).map fun _ => none := by
    unfold repL
    rw [Int.toNat_natCast]
    have h1 : (rng 0 n).length = n.toNat := by rw [rng_length]; omega
    rw [← h1]
    generalize rng 0 n = l
    induction l with
    | nil => rfl
    | cons a l ih =>
      rw [List.length_cons, List.replicate_succ, List.flatten_cons, ih]
      rfl
  rw [e0]
  refine po_set p0 (by rw [List.length_map, rng_length]; omega) ?_
  rw [map_rng_set p0]
  refine po_bind (Q := fun g => g.2.2 = ((rng 0 n).map fun v => some (dst n ts p v)) ∧ IsDist n ts p (dst n ts p)) (po_while (fun g => 0 ≤ g.1 ∧ ∃ F, g.2.2 = (rng 0 n).map F ∧ Bfs n ts p g.1.toNat g.2.1 F) (fun g => n.toNat - g.1.toNat) ?_ (n := fu 1000) ?_ ?_) fun g hg => hg
  · rintro ⟨a, line, fd⟩ ⟨a0, F, e1, b⟩
    have e1' : fd = (rng 0 n).map F := e1
    have a0' : 0 ≤ a := a0
    have b' : Bfs n ts p a.toNat line F := b
    clear e1 b a0
    subst e1'
    refine ⟨fun ht => ?_, fun hf => ?_⟩
    · have ht : a < (line.length : Int) := of_decide_eq_true ht
      refine po_get a0' ht fun u hu e2 => ?_
      obtain ⟨u0, u1⟩ := b'.rg u hu
      refine po_getE (getI_eq u0 (map_rng_get u0 u1)) ?_
      have hin : BfsIn n ts p a.toNat u [] line F := ⟨b', e2, fun _ h => nomatch h⟩
      refine po_bind (po_foldP (fun pre g => ∃ F', g.2 = (rng 0 n).map F' ∧ BfsIn n ts p a.toNat u pre g.1 F') ⟨F, rfl, hin⟩ ?_) ?_
      · rintro pre ⟨ln, fd⟩ w post ew ⟨F', e3, h3⟩
        have e3' : fd = (rng 0 n).map F' := e3
        have h3' : BfsIn n ts p a.toNat u pre ln F' := h3
        clear e3 h3
        subst e3'
        have hw : w ∈ sortI (nbs ts u) := by rw [show sortI (nbs ts u) = pre ++ w :: post from ew]; simp
        have hw := nbs_mem.mp (sortI_mem.mp hw)
        have rw' : 0 ≤ w ∧ w < n := by
          rcases hw with h | h
          · exact ⟨(hr _ h).2.2.1, (hr _ h).2.2.2⟩
          · exact ⟨(hr _ h).1, (hr _ h).2.1⟩
        obtain ⟨w0, w1⟩ := rw'
        refine po_getE (getI_eq w0 (map_rng_get w0 w1)) ?_
        refine po_if (fun c => ?_) (fun c => ?_)
        · have hn : F' w = none := by
            cases e : F' w with
            | none => rfl
            | some d => rw [e] at c; cases c
          refine po_getE (getI_eq a0' h3'.u0) (po_getE (getI_eq u0 (map_rng_get u0 u1)) ?_)
          have hus := (h3'.b.mem u u0 u1).mp (List.mem_of_getElem? h3'.u0)
          obtain ⟨d, hd⟩ := Option.isSome_iff_exists.mp hus
          have hlen : ln.length ≤ n.toNat := by
            have := nodup_le h3'.b.nd (ys := rng 0 n) fun v hv => rng_mem.mpr (h3'.b.rg v hv)
            rw [rng_length] at this
            omega
          refine po_ofO hd (po_set w0 (by rw [List.length_map, rng_length]; omega) (po_app (by show ln.length < 100000; omega) ?_))
          refine ⟨_, map_rng_set w0, ?_⟩
          exact h3'.add hw w0 w1 hn hd
        · refine ⟨F', rfl, h3'.skip ?_ w0 w1⟩
          cases e : F' w with
          | none => rw [e] at c; exact absurd rfl c
          | some d => rfl
      · rintro ⟨ln, fd⟩ ⟨F', e3, h3⟩
        have h3' : BfsIn n ts p a.toNat u (sortI (nbs ts u)) ln F' := h3
        have h4 := h3'.next fun w hw => sortI_mem.mpr (nbs_mem.mpr hw)
        have hat : a.toNat < ln.length := (List.getElem?_eq_some_iff.mp h3'.u0).1
        have hlen : ln.length ≤ n.toNat := by
          have := nodup_le h3'.b.nd (ys := rng 0 n) fun v hv => rng_mem.mpr (h3'.b.rg v hv)
          rw [rng_length] at this
          omega
        refine ⟨⟨by show 0 ≤ a + 1; omega, F', e3, ?_⟩, ?_⟩
        · show Bfs n ts p (a + 1).toNat ln F'
          rw [show (a + 1).toNat = a.toNat + 1 by omega]
          exact h4
        · show n.toNat - (a + 1).toNat < n.toNat - a.toNat
          omega
    · have hf : ¬ a < (line.length : Int) := of_decide_eq_false hf
      have hle := b'.le
      have ea : a.toNat = line.length := by omega
      rw [ea] at b'
      obtain ⟨h1, h2⟩ := b'.isDist hc hr p0 p1
      refine ⟨map_rng_congr fun v v0 v1 => ?_, dst_is h2⟩
      have h3 := dst_eq h2 v v0 v1
      obtain ⟨d, hd⟩ := Option.isSome_iff_exists.mp (h1 v v0 v1)
      have h3' : (F v).getD 0 = dst n ts p v := h3
      rw [hd] at h3' ⊢
      exact congrArg some h3'
  · refine ⟨Int.le_refl 0, _, rfl, ?_⟩
    show Bfs n ts p 0 [p] (fun i => if i = p then some 0 else none)
    refine ⟨Nat.zero_le _, by simp, fun v hv => ?_, fun v v0 v1 => ?_, if_pos rfl, fun v d hv => ?_, fun v hv => ?_, by simp, fun v hv u hu => ?_, fun i u hi => absurd hi (Nat.not_lt_zero _)⟩
    · rw [List.mem_singleton] at hv
      rw [hv]; exact ⟨p0, p1⟩
    · show v ∈ [p] ↔ (if v = p then some (0 : Int) else none).isSome = true
      rw [List.mem_singleton]
      by_cases e : v = p
      · rw [if_pos e]; simp [e]
      · rw [if_neg e]; simp [e]
    · have hv' : (if v = p then some (0 : Int) else none) = some d := hv
      split at hv'
      · cases hv'; exact Int.le_refl _
      · cases hv'
    · exact .inl (List.mem_singleton.mp hv)
    · rw [List.drop_zero] at hu
      rw [List.mem_singleton] at hv hu
      subst hv hu
      show (if u = u then some (0 : Int) else none).getD 0 ≤ (if u = u then some (0 : Int) else none).getD 0 + 1
      rw [if_pos rfl]
      decide
  · rw [fu_eq]
    show n.toNat - (0 : Int).toNat < 1000
    omega
theorem fars_by_ok {n : Int} {ts : List (Int × Int)} {p : Int} (n1 : n < 900) (hr : ∀ q ∈ ts, 0 ≤ q.1 ∧ q.1 < n ∧ 0 ≤ q.2 ∧ q.2 < n) (hc : Conn n ts) (p0 : 0 ≤ p) (p1 : p < n) :
    fars_by (nears n ts) p = R.ok ((rng 0 n).map fun v => some (dst n ts p v)) := po_iff ((fars_by_post n1 hr hc p0 p1).mono (fun _ h => h.1) fun _ h => h)
theorem web_fars {n : Int} {ts : List (Int × Int)} {p : Int} (h : WebOk n ts) (p0 : 0 ≤ p) (p1 : p < n) : fars_by (nears n ts) p = R.ok ((rng 0 n).map fun v => some (dst n ts p v)) := fars_by_ok (by have := h.n60; omega) h.rg4 h.conn p0 p1
end G
/-! MD: webs made, nothing refused -/
namespace G
open PySem L2 Z
def nrm (p : Int × Int) : Int × Int := (min2 p.1 p.2, max2 p.1 p.2)
theorem nrm_up {p : Int × Int} (h : p.1 < p.2) : nrm p = p := by
  unfold nrm min2 max2
  rw [if_neg (by omega), if_pos (by omega)]
theorem nrm_down {p : Int × Int} (h : p.1 < p.2) : nrm (p.2, p.1) = p := by
  unfold nrm min2 max2
  dsimp only
  rw [if_pos (by omega), if_neg (by omega)]
theorem made_ok {n : Int} {ts us : List (Int × Int)} (h : WebOk n ts) (hp : (us.map nrm).Perm ts) : made_web n us = R.ok (n, ⟨ts⟩) := by
  refine po_iff ?_
  unfold made_web
  have h1 := h.n1
  have h60 := h.n60
  refine po_if (fun c => ?_) fun _ => ?_
  · exfalso
    rw [decide_eq_true h1, decide_eq_true h60] at c
    exact absurd c (by decide)
  have hnd : (us.map nrm).Nodup := hp.nodup_iff.mpr h.nd
  have e1 : sorted_ties n us = R.ok ⟨ts⟩ := by
    refine po_iff ?_
    unfold sorted_ties
    refine po_bind (po_foldP (fun pre g => g = pre.map nrm) rfl fun pre g x post e hg => ?_) fun g hg => ?_
    · have hx : nrm x ∈ ts := hp.mem_iff.mp (List.mem_map.mpr ⟨x, by rw [e]; simp, rfl⟩)
      have hr := h.rg _ hx
      have hle : us.length ≤ 700 := by
        have := hp.length_eq
        rw [List.length_map] at this
        have := h.len
        omega
      have hel := congrArg List.length e
      simp at hel
      have hnin : nrm x ∉ pre.map nrm := by
        rw [e, List.map_append, List.map_cons] at hnd
        have := (List.nodup_append.mp hnd).2.2
        exact fun q => this _ q _ List.mem_cons_self rfl
      refine po_if (fun c => ?_) fun _ => po_app (by rw [hg, List.length_map]; omega) ?_
      · exfalso
        have hne : x.1 ≠ x.2 := fun e2 => by
          have : (nrm x).1 = (nrm x).2 := by
            unfold nrm min2 max2
            rw [e2]
          omega
        have c1 : ¬ (min2 x.1 x.2 < 0) := by have := hr.1; exact fun q => by unfold nrm at this; dsimp only at this; omega
        have c2 : ¬ (n ≤ max2 x.1 x.2) := by have := hr.2.2; exact fun q => by unfold nrm at this; dsimp only at this; omega
        have c3 : (min2 x.1 x.2, max2 x.1 x.2) ∉ g := by rw [hg]; exact hnin
        rw [decide_eq_false c1, decide_eq_false c2, decide_eq_false hne, inB_f.mpr c3] at c
        exact absurd c (by decide)
      · show _ = _
        rw [hg, List.map_append]
        rfl
    · show (⟨sortP g⟩ : Tup (Int × Int)) = ⟨ts⟩
      have e : sortP g = ts := by
        rw [show g = us.map nrm from hg]
        have : (sortP ts).Perm (us.map nrm) := (sortP_perm ts).trans hp.symm
        rw [← sortP_eq this (sortP_sorted ts)]
        exact h.srt
      rw [e]
  rw [e1, ok_bind, web_near h, ok_bind, web_fars h (Int.le_refl 0) (by omega), ok_bind]
  refine po_rng (by decide) (by decide) (by omega) (by omega) (po_bind (po_fold (fun _ => True) trivial fun s x _ hx => ?_) fun _ _ => rfl)
  obtain ⟨x0, x1⟩ := rng_mem.mp hx
  exact po_getE (getI_eq x0 (map_rng_get x0 x1)) trivial
theorem made_self {n : Int} {ts : List (Int × Int)} (h : WebOk n ts) : made_web n ts = R.ok (n, ⟨ts⟩) := made_ok h (by
  have : ts.map nrm = ts := by
    conv => rhs; rw [← List.map_id ts]
    exact List.map_congr_left fun p hp => nrm_up (h.rg p hp).2.1
  rw [this])
end G
namespace G
open PySem L2 Z
/-! ### draws -/
def Ok2 (s : List Int) : Prop := ∃ a b, s = [a, b] ∧ 0 ≤ a ∧ 0 ≤ b ∧ b < 2147483647
theorem next_ok {s : List Int} {m : Int} (h : Ok2 s) (h0 : 0 < m) (h1 : m < 1073741824) : Post (law_next s m) (fun p => 0 ≤ p.1 ∧ p.1 < m ∧ Ok2 p.2) noX := by
  obtain ⟨a, b, rfl, ha, hb, hb2⟩ := h
  unfold law_next
  refine po_getE (x := a) rfl ?_
  refine po_if (fun c => ?_) (fun c => ?_)
  · have c' : 0 < a := of_decide_eq_true c
    refine po_getE (x := a) rfl (po_mod h0 fun r0 r1 => po_getE (x := a) rfl (po_div h0 h1 (po_set (Int.le_refl 0) (by show (0 : Int) < 2; decide) ?_)))
    exact ⟨r0, r1, _, _, rfl, Int.ediv_nonneg ha (by omega), hb, hb2⟩
  · refine po_getE (x := b) rfl (po_set (by decide) (by show (1 : Int) < 2; decide) ?_)
    refine po_getE (x := (b * 69621 + 40692) % 2147483647) rfl (po_getE (x := (b * 69621 + 40692) % 2147483647) rfl ?_)
    have h2 : 0 ≤ (b * 69621 + 40692) % 2147483647 := Int.emod_nonneg _ (by decide)
    have h3 : (b * 69621 + 40692) % 2147483647 < 2147483647 := Int.emod_lt_of_pos _ (by decide)
    exact po_mul (by left; omega) (po_mod h0 fun r0 r1 => ⟨r0, r1, _, _, rfl, ha, h2, h3⟩)
theorem great_ok {s : List Int} {m : Int} (h : Ok2 s) (h0 : 0 < m) : Post (law_great s m) (fun p => 0 ≤ p.1 ∧ p.1 < m ∧ Ok2 p.2) noX := by
  unfold law_great
  refine po_bind (po_fold (fun g => Ok2 g.2) h fun g x hg _ => ?_) fun g hg => po_mod h0 fun r0 r1 => ⟨r0, r1, hg⟩
  exact po_bind (next_ok hg (by decide) (by decide)) fun y hy => hy.2.2
/-- looks as drawn: rising, among the places, at most so many -/
def Looks (m k : Int) (l : List Int) : Prop := l.Pairwise (· < ·) ∧ (∀ x ∈ l, 0 ≤ x ∧ x < m) ∧ (l.length : Int) ≤ k
theorem lt_of_sort {l : List Int} (h : l.Pairwise (· ≤ ·)) (n : l.Nodup) : l.Pairwise (· < ·) := by
  induction l with
  | nil => exact .nil
  | cons x l ih =>
    rw [List.pairwise_cons] at h ⊢
    rw [List.nodup_cons] at n
    exact ⟨fun y hy => by
      have := h.1 y hy
      have hne : x ≠ y := fun e => n.1 (e ▸ hy)
      omega, ih h.2 n.2⟩
theorem drawn_looks {s : List Int} {m k : Int} (h : Ok2 s) (h0 : 0 < m) (hk : 0 ≤ k) (hk2 : k < 1000) : Post (law_looks s m k) (fun p => Looks m k p.1 ∧ Ok2 p.2) noX := by
  unfold law_looks
  refine po_bind (next_ok (m := k + 1) h (by omega) (by omega)) fun y6 ⟨r0, r1, h1⟩ => ?_
  refine po_rng (by decide) (by decide) (by omega) (by omega) ?_
  refine po_bind (po_foldN (fun n g => Ok2 g.1 ∧ g.2.Nodup ∧ (∀ x ∈ g.2, 0 ≤ x ∧ x < m) ∧ g.2.length ≤ n) ⟨h1, List.nodup_nil, (fun _ z => nomatch z), Nat.le_refl _⟩ fun n g x hn ⟨g1, g2, g3, g4⟩ _ => ?_) fun g ⟨g1, g2, g3, g4⟩ => ?_
  · have hn' : n < 1000 := by rw [rng_length] at hn; omega
    refine po_bind (great_ok g1 h0) fun y9 ⟨_, _, h9⟩ => po_bind (next_ok h9 (by decide) (by decide)) fun y13 ⟨a0, a1, h13⟩ => ?_
    refine po_get (by unfold min2; split <;> omega) (by unfold min2; show _ < (6 : Int); split <;> omega) fun t14 _ _ => ?_
    refine po_bind (Q := fun p => Ok2 p.2) (po_bind (Q := fun j => Ok2 j.2 ∧ (j.1 = true → g.2 ≠ [])) ?_ fun j ⟨hj, hj2⟩ => ?_) fun g16 h16 => ?_
    · refine po_if (fun c => po_bind (next_ok h13 (by decide) (by decide)) fun y22 ⟨_, _, h22⟩ => ⟨h22, fun _ e => ?_⟩) fun c => ⟨h13, fun z => nomatch z⟩
      rw [e] at c
      exact absurd c (by decide)
    · refine po_if (fun c => po_last (hj2 c) fun t28 _ => po_bind (next_ok hj (by decide) (by decide)) fun y30 ⟨_, _, h30⟩ => h30) fun c => hj
    · refine po_mod h0 fun r0 r1 => po_if (fun c => po_mod h0 fun _ _ => po_app (by omega) ?_) fun c => ⟨h16, g2, g3, Nat.le_succ_of_le g4⟩
      have c' : ¬ (g16.1 % m ∈ g.2) := by simpa using c
      refine ⟨h16, ?_, fun x hx => ?_, by rw [List.length_append, List.length_singleton]; omega⟩
      · rw [List.nodup_append]
        refine ⟨g2, by simp, fun a ha b hb => ?_⟩
        rw [List.mem_singleton] at hb
        rw [hb]
        exact fun e => c' (e ▸ ha)
      · rcases List.mem_append.mp hx with hx | hx
        · exact g3 x hx
        · rw [List.mem_singleton] at hx
          rw [hx]
          exact ⟨r0, r1⟩
  · have hp := sortI_perm g.2
    refine ⟨⟨lt_of_sort (sortI_sorted _) (hp.symm.nodup g2), fun x hx => g3 x (hp.mem_iff.mp hx), ?_⟩, g1⟩
    rw [hp.length_eq]
    rw [rng_length] at g4
    omega
theorem cell_ok {sc : List Int} {k : Int} (h0 : 0 ≤ k) : Post (law_cell_at ⟨sc⟩ k) (fun _ => True) noX := by
  unfold law_cell_at
  refine po_if (fun c => po_get h0 (of_decide_eq_true c) fun _ _ _ => trivial) fun c => ?_
  refine po_bind (Q := fun _ => True) (po_if (fun c => ?_) fun _ => trivial) fun _ _ => trivial
  have hne : sc ≠ [] := fun e => by
    subst e
    exact absurd c (by decide)
  have hl : 0 < (sc.length : Int) := by
    have := List.length_pos_iff.mpr hne
    omega
  exact po_mod hl fun r0 r1 => po_get r0 r1 fun _ _ _ => trivial
theorem folded_ok {sc : List Int} {N : Int} (h : sc.length ≤ 63) (n0 : 0 < N) (n1 : N ≤ 100) : Post (law_folded ⟨sc⟩ N) (fun l => (l.length : Int) = N) noX := by
  unfold law_folded
  refine po_rng (by omega) (by omega) (by omega) (by omega) ?_
  have hN : ((rng 0 N).length : Int) = N := by rw [rng_length]; omega
  have hx : ∀ x ∈ rng 0 N, 0 ≤ x := fun x hx => (rng_mem.mp hx).1
  generalize hl : rng 0 N = l at hN hx ⊢
  refine po_bind (po_mapG (fun _ => True) (by omega) fun x h => po_bind (cell_ok (hx x h)) fun _ _ => po_ok trivial) fun l3 h3 => ?_
  have e : rngI N ((⟨sc⟩ : Scr).l.length : Int) = R.ok (rng N sc.length) := by
    unfold rngI
    rw [if_pos]
    exact ⟨by omega, by omega, by show _ ≤ (sc.length : Int); omega, by show (sc.length : Int) < _; omega⟩
  rw [e, ok_bind]
  have h3' : (l3.length : Int) = N := by rw [h3.1]; exact hN
  refine po_bind (po_fold (fun g => (g.length : Int) = N) h3' fun g x hg hx => ?_) fun g hg => po_ok hg
  obtain ⟨hx0, hx1⟩ := rng_mem.mp hx
  refine po_mod n0 fun r0 r1 => po_get r0 (by omega) fun _ _ _ => po_get (by omega) hx1 fun _ _ _ => po_set r0 (by omega) ?_
  show ((List.set _ _ _).length : Int) = N
  rw [List.length_set]
  exact hg
theorem state_ok (c : Int) : Post (law_state c) Ok2 noX := by
  unfold law_state
  refine po_bind (Q := fun g => 0 ≤ g) (po_if (fun k => ?_) fun _ => Int.le_refl 0) fun g hg => ?_
  · have : (10 : Int) ^ (18 : Int).toNat ≤ c := of_decide_eq_true k
    have h2 : (0 : Int) ≤ (10 : Int) ^ (18 : Int).toNat := by decide
    show 0 ≤ c
    omega
  · exact ⟨_, _, rfl, hg, Int.emod_nonneg _ (by decide), Int.emod_lt_of_pos _ (by decide)⟩
def kinds : List Str := [("places" : Str), ("ties" : Str), ("all" : Str)]
/-- the rising lists of at most so many -/
def subsN : Nat → Int → Nat → List (List Int)
  | _, _, 0 => [[]]
  | 0, _, _ => [[]]
  | j + 1, lo, n + 1 => (subsN j (lo + 1) n).map (lo :: ·) ++ subsN (j + 1) (lo + 1) n
theorem subsN_mem : ∀ {n j : Nat} {lo : Int} {l : List Int}, l.Pairwise (· < ·) → l.length ≤ j → (∀ x ∈ l, lo ≤ x ∧ x < lo + n) → l ∈ subsN j lo n
  | 0, j, lo, [], _, _, _ => by cases j <;> exact List.mem_cons_self
  | 0, j, lo, x :: l, _, _, h => by
    have := h x List.mem_cons_self
    omega
  | n + 1, 0, lo, [], _, _, _ => List.mem_cons_self
  | n + 1, 0, lo, x :: l, _, hl, _ => by
    rw [List.length_cons] at hl
    omega
  | n + 1, j + 1, lo, [], _, _, _ => List.mem_append_right _ (subsN_mem .nil (Nat.zero_le _) (fun _ z => nomatch z))
  | n + 1, j + 1, lo, x :: l, hp, hl, h => by
    rw [List.pairwise_cons] at hp
    rw [List.length_cons] at hl
    have hx := h x List.mem_cons_self
    by_cases e : x = lo
    · subst e
      refine List.mem_append_left _ (List.mem_map.mpr ⟨l, subsN_mem hp.2 (by omega) fun y hy => ?_, rfl⟩)
      have h1 := hp.1 y hy
      have h2 := h y (List.mem_cons_of_mem _ hy)
      omega
    · refine List.mem_append_right _ (subsN_mem (List.pairwise_cons.mpr hp) (by rw [List.length_cons]; omega) fun y hy => ?_)
      rcases List.mem_cons.mp hy with rfl | hy
      · omega
      · have h1 := hp.1 y hy
        have h2 := h y (List.mem_cons_of_mem _ hy)
        omega
theorem order_ok {s : List Int} {n : Int} (h : Ok2 s) (n0 : 0 ≤ n) (n1 : n ≤ 1000) : Post (law_order s n) (fun r => r.1.Perm (rng 0 n) ∧ Ok2 r.2) noX := by
  unfold law_order
  refine po_rng (by decide) (by decide) (by omega) (by omega) ?_
  refine po_bind (po_foldP (fun pre (g : List Int × List Int) => g.1.Perm pre ∧ Ok2 g.2) ⟨List.Perm.refl _, h⟩ ?_) fun g hg => po_ok hg
  rintro pre ⟨l, p⟩ x post e ⟨h1, h2⟩
  have h1' : l.Perm pre := h1
  have hx := rng_pre e
  obtain ⟨_, x0, x1⟩ := rng_split e
  have hl := h1'.length_eq
  refine po_bind (next_ok h2 (by omega) (by omega)) fun y ⟨y0, y1, hy⟩ => ?_
  have hi : insR l y.1 x = R.ok (l.take y.1.toNat ++ [x] ++ l.drop y.1.toNat) := by
    unfold insR
    rw [if_pos ⟨by omega, y0, by omega⟩]
  show Post (insR l y.1 x >>= _) _ _
  rw [hi, ok_bind]
  refine ⟨?_, hy⟩
  show (l.take y.1.toNat ++ [x] ++ l.drop y.1.toNat).Perm (pre ++ [x])
  have p1 : (l.take y.1.toNat ++ [x] ++ l.drop y.1.toNat).Perm (l.take y.1.toNat ++ l.drop y.1.toNat ++ [x]) := by
    rw [List.append_assoc, List.append_assoc]
    exact List.Perm.append_left _ List.perm_append_comm
  rw [List.take_append_drop] at p1
  exact p1.trans (h1'.append_right _)
theorem place_ok {n p : Int} {t : Tup (Int × Int)} (p0 : 0 ≤ p) (p1 : p < n) : place_asked (n, t) p = R.ok () := by
  unfold place_asked
  dsimp only
  rw [decide_eq_true p0, decide_eq_true p1]
  rfl
/-- how far each place is from one -/
noncomputable def farL (n : Int) (ts : List (Int × Int)) (p : Int) : List Int := (rng 0 n).map (dst n ts p)
theorem farL_get {n p v : Int} {ts : List (Int × Int)} (v0 : 0 ≤ v) (v1 : v < n) : getI (farL n ts p) v = R.ok (dst n ts p v) := getI_eq v0 (map_rng_get v0 v1)
theorem allS_map {α : Type} (l : List α) : allS (l.map some) = R.ok l := allS_iff.mpr rfl
theorem fars_ok {n p : Int} {ts : List (Int × Int)} (h : WebOk n ts) (p0 : 0 ≤ p) (p1 : p < n) : fars_from (n, ⟨ts⟩) p = R.ok (farL n ts p) := by
  unfold fars_from
  rw [place_ok p0 p1, ok_bind, web_near h, ok_bind, web_fars h p0 p1, ok_bind]
  have e : (rng 0 n).map (fun v => some (dst n ts p v)) = ((rng 0 n).map (dst n ts p)).map some := by rw [List.map_map]; rfl
  rw [e, allS_map]
  rfl
theorem between_ok {n p v : Int} {ts : List (Int × Int)} (h : WebOk n ts) (p0 : 0 ≤ p) (p1 : p < n) (v0 : 0 ≤ v) (v1 : v < n) : far_between (n, ⟨ts⟩) p v = R.ok (dst n ts p v) := by
  unfold far_between
  rw [place_ok p0 p1, ok_bind, place_ok v0 v1, ok_bind, web_near h, ok_bind, web_fars h p0 p1, ok_bind, getI_eq v0 (map_rng_get v0 v1)]
  rfl
/-- how far all places are from all -/
noncomputable def tabL (n : Int) (ts : List (Int × Int)) : List (List Int) := (rng 0 n).map fun p => (rng 0 n).map (dst n ts p)
theorem tab_get {n p : Int} {ts : List (Int × Int)} (p0 : 0 ≤ p) (p1 : p < n) : getI (tabL n ts) p = R.ok ((rng 0 n).map (dst n ts p)) := getI_eq p0 (map_rng_get p0 p1)
theorem row_get {n p v : Int} {ts : List (Int × Int)} (v0 : 0 ≤ v) (v1 : v < n) : getI ((rng 0 n).map (dst n ts p)) v = R.ok (dst n ts p v) := getI_eq v0 (map_rng_get v0 v1)
theorem table_ok {n : Int} {ts : List (Int × Int)} (h : WebOk n ts) : table_of (n, ⟨ts⟩) = R.ok (tabL n ts) := by
  have hn1 := h.n1
  have hn := h.n60
  refine po_iff ?_
  unfold table_of
  refine po_rng (by decide) (by decide) (by show -(2 ^ 62) ≤ n; omega) (by show n < 2 ^ 62; omega) ?_
  refine po_mapGE (g := fun p => (rng 0 n).map (dst n ts p)) (by show (rng 0 n).length < 100000; rw [rng_length]; omega) (fun p hp => ?_) rfl
  rw [fars_ok h (rng_mem.mp hp).1 (rng_mem.mp hp).2]
  rfl
/-- how far a thing is -/
noncomputable def farT (n : Int) (ts : List (Int × Int)) (p : Int) : Thing → Int
  | .pl i => dst n ts p i
  | .ti a b => min2 (dst n ts p a) (dst n ts p b)
def ThOk (n : Int) (ts : List (Int × Int)) : Thing → Prop
  | .pl i => 0 ≤ i ∧ i < n
  | .ti a b => (a, b) ∈ ts
def allT (n : Int) (ts : List (Int × Int)) : List Thing := mkpl (rng 0 n) ++ mkti ts
def kindT (n : Int) (ts : List (Int × Int)) (k : Str) : List Thing := if decide (k = "places") = true then mkpl (rng 0 n) else if decide (k = "ties") = true then mkti ts else allT n ts
theorem pl_mem {n : Int} {t : Thing} : t ∈ mkpl (rng 0 n) ↔ ∃ i, t = .pl i ∧ 0 ≤ i ∧ i < n := by
  unfold mkpl
  rw [List.mem_map]
  constructor
  · rintro ⟨i, hi, rfl⟩
    exact ⟨i, rfl, rng_mem.mp hi⟩
  · rintro ⟨i, rfl, hi⟩
    exact ⟨i, rng_mem.mpr hi, rfl⟩
theorem ti_mem {ts : List (Int × Int)} {t : Thing} : t ∈ mkti ts ↔ ∃ a b, t = .ti a b ∧ (a, b) ∈ ts := by
  unfold mkti
  rw [List.mem_map]
  constructor
  · rintro ⟨p, hp, rfl⟩
    exact ⟨p.1, p.2, rfl, hp⟩
  · rintro ⟨a, b, rfl, h⟩
    exact ⟨(a, b), h, rfl⟩
theorem allT_mem {n : Int} {ts : List (Int × Int)} {t : Thing} : t ∈ allT n ts ↔ ThOk n ts t := by
  unfold allT
  rw [List.mem_append, pl_mem, ti_mem]
  cases t with
  | pl i =>
    constructor
    · rintro (⟨j, e, h⟩ | ⟨a, b, e, _⟩)
      · cases e; exact h
      · cases e
    · intro h
      exact .inl ⟨i, rfl, h⟩
  | ti a b =>
    constructor
    · rintro (⟨j, e, h⟩ | ⟨c, d, e, h⟩)
      · cases e
      · cases e; exact h
    · intro h
      exact .inr ⟨a, b, rfl, h⟩
theorem kindT_ok {n : Int} {ts : List (Int × Int)} {k : Str} {t : Thing} (h : t ∈ kindT n ts k) : ThOk n ts t := by
  unfold kindT at h
  split at h
  · exact allT_mem.mp (List.mem_append_left _ h)
  · split at h
    · exact allT_mem.mp (List.mem_append_right _ h)
    · exact allT_mem.mp h
theorem allT_len {n : Int} {ts : List (Int × Int)} (n0 : 0 ≤ n) : ((allT n ts).length : Int) = n + ts.length := by
  unfold allT mkpl mkti
  rw [List.length_append, List.length_map, List.length_map, rng_length]
  omega
theorem things_ok {n : Int} {ts : List (Int × Int)} {k : Str} (h : WebOk n ts) : things_of (n, ⟨ts⟩) k = R.ok (kindT n ts k) := by
  have hn1 := h.n1
  have hn := h.n60
  have hl := h.len
  refine po_iff ?_
  unfold things_of kindT
  refine po_listRng (by decide) (by decide) (by show -(2 ^ 62) ≤ n; omega) (by show n < 2 ^ 62; omega) (by show (n - 0).toNat ≤ 100000; omega) ?_
  by_cases e1 : decide (k = "places") = true
  · rw [if_pos e1, if_pos e1]; rfl
  · rw [if_neg e1, if_neg e1]
    by_cases e2 : decide (k = "ties") = true
    · rw [if_pos e2, if_pos e2]; rfl
    · rw [if_neg e2, if_neg e2]
      refine po_extend ?_ rfl
      show (mkpl (rng 0 n)).length + (mkti ts).length < 100000
      unfold mkpl mkti
      rw [List.length_map, List.length_map, rng_length]
      omega
theorem far_by_ok {n p : Int} {ts : List (Int × Int)} {t : Thing} (h : WebOk n ts) (p0 : 0 ≤ p) (p1 : p < n) (ht : ThOk n ts t) : far_by (tabL n ts) p t = R.ok (farT n ts p t) := by
  unfold far_by
  cases t with
  | pl i =>
    show (asPl (.pl i) >>= _) = _
    rw [show asPl (.pl i) = R.ok i from rfl, ok_bind, tab_get p0 p1, ok_bind, row_get ht.1 ht.2]
    rfl
  | ti a b =>
    have hr := h.rg4 _ (show (a, b) ∈ ts from ht)
    show (asTi (.ti a b) >>= _) = _
    rw [show asTi (.ti a b) = R.ok (a, b) from rfl, ok_bind, tab_get p0 p1, ok_bind, row_get hr.1 hr.2.1, ok_bind, ok_bind, row_get hr.2.2.1 hr.2.2.2]
    rfl
/-- a rising list of places -/
structure LooksOk (n : Int) (ls : List Int) : Prop where
  rg : ∀ l ∈ ls, 0 ≤ l ∧ l < n
  up : ls.Pairwise (· < ·)
theorem LooksOk.len {n : Int} {ls : List Int} (h : LooksOk n ls) : ls.length ≤ n.toNat := by
  have := nodup_le (h.up.imp fun z => Int.ne_of_lt z) (ys := rng 0 n) fun v hv => rng_mem.mpr (h.rg v hv)
  rw [rng_length] at this
  omega
theorem looks_ok {n : Int} {t : Tup (Int × Int)} {ls : List Int} (h : LooksOk n ls) : looks_asked (n, t) ls = R.ok () := by
  refine po_iff ?_
  unfold looks_asked
  refine po_bind (po_fold (fun _ => True) trivial fun s x _ hx => ?_) fun _ _ => rfl
  obtain ⟨x0, x1, ex⟩ := enum_mem hx
  have hm := List.mem_of_getElem? ex
  have hr := h.rg _ hm
  refine po_bind (Q := fun j => j = false) (po_if (fun c => ?_) fun _ => ?_) fun j hj => ?_
  · rw [decide_eq_true hr.1, decide_eq_true (show x.2 < (n, t).1 from hr.2)] at c
    exact absurd c (by decide)
  · refine po_bind (Q := fun j => j = false) (po_if (fun c => ?_) fun _ => rfl) fun j hj => hj
    have c' := of_decide_eq_true c
    refine po_get (by omega) (by omega) fun y _ ey => ?_
    refine decide_eq_false ?_
    obtain ⟨i1, e1⟩ := List.getElem?_eq_some_iff.mp ey
    obtain ⟨i2, e2⟩ := List.getElem?_eq_some_iff.mp ex
    have := List.pairwise_iff_getElem.mp h.up _ _ i1 i2 (by omega)
    rw [e1, e2] at this
    omega
  · rw [hj]
    exact trivial
theorem zip_self {α β : Type} (f : α → β) (xs : List α) : xs.zip (xs.map f) = xs.map fun x => (x, f x) := by
  induction xs with
  | nil => rfl
  | cons x xs ih => rw [List.map_cons, List.zip_cons_cons, ih]; rfl
theorem cut_from {α : Type} (xs : List α) (k : Nat) : cutL xs (some (k : Int)) none = xs.drop k := by
  unfold cutL
  have e0 : HT.sIx xs.length 0 (some (k : Int)) = min k xs.length := HT.sIx_nat xs.length 0 k
  have e : HT.sIx xs.length xs.length none = xs.length := rfl
  rw [e, e0]
  by_cases h : k ≤ xs.length
  · rw [Nat.min_eq_left h, List.take_of_length_le (by rw [List.length_drop]; exact Nat.le_refl _)]
  · rw [Nat.min_eq_right (by omega), List.drop_of_length_le (Nat.le_refl _), List.drop_of_length_le (by omega), List.take_nil]
theorem cut_fromI {α : Type} (xs : List α) {k : Int} (k0 : 0 ≤ k) : cutL xs (some k) none = xs.drop k.toNat := by
  have := cut_from xs k.toNat
  rw [show ((k.toNat : Nat) : Int) = k by omega] at this
  exact this
theorem cut_nat {α : Type} (xs : List α) {k : Int} (k0 : 0 ≤ k) : cutL xs none (some k) = xs.take k.toNat := by
  have := cut_take xs k.toNat
  rw [show ((k.toNat : Nat) : Int) = k by omega] at this
  exact this
theorem cut_len {α : Type} {xs : List α} {i j : Option Int} : (cutL xs i j).length ≤ xs.length := by
  unfold cutL
  rw [List.length_take, List.length_drop]
  omega
theorem cut_sub {α : Type} {xs : List α} {i j : Option Int} {x : α} (h : x ∈ cutL xs i j) : x ∈ xs := by
  unfold cutL at h
  exact List.mem_of_mem_drop (List.mem_of_mem_take h)
/-! ### what has one code, in lists -/
section
variable {κ α : Type} [DecidableEq κ]
def kstep (ks : List κ) (k : κ) : List κ := if k ∈ ks then ks else ks ++ [k]
def keysG (c : α → κ) (ts : List α) : List κ := (ts.map c).foldl kstep []
def rowsG (c : α → κ) (ks : List κ) (ts : List α) : List (List α) := ks.map fun k => ts.filter fun t => decide (c t = k)
def likesG (c : α → κ) (ts : List α) : List (List α) := (rowsG c (keysG c ts) ts).filter fun r => decide ((1 : Int) < (r.length : Int))
theorem keysG_snoc (c : α → κ) (ts : List α) (t : α) : keysG c (ts ++ [t]) = kstep (keysG c ts) (c t) := by
  unfold keysG
  rw [List.map_append, List.foldl_append]
  rfl
theorem kstep_mem {ks : List κ} {k j : κ} : j ∈ kstep ks k ↔ j ∈ ks ∨ j = k := by
  unfold kstep
  by_cases h : k ∈ ks
  · rw [if_pos h]
    exact ⟨.inl, fun z => z.elim id fun e => e ▸ h⟩
  · rw [if_neg h]
    simp
theorem kstep_nodup {ks : List κ} {k : κ} (h : ks.Nodup) : (kstep ks k).Nodup := by
  unfold kstep
  by_cases q : k ∈ ks
  · rw [if_pos q]; exact h
  · rw [if_neg q]
    rw [List.nodup_append]
    refine ⟨h, by simp, fun a ha b hb e => ?_⟩
    simp at hb
    subst hb
    exact q (e ▸ ha)
theorem snoc_ind {α : Type} {P : List α → Prop} (h0 : P []) (hs : ∀ xs x, P xs → P (xs ++ [x])) (xs : List α) : P xs := by
  have : P xs.reverse.reverse := by
    induction xs.reverse with
    | nil => exact h0
    | cons x l ih =>
      rw [List.reverse_cons]
      exact hs _ _ ih
  rwa [List.reverse_reverse] at this
theorem keysG_mem {c : α → κ} {ts : List α} {k : κ} : k ∈ keysG c ts ↔ ∃ t ∈ ts, c t = k := by
  induction ts using snoc_ind with
  | h0 => simp [keysG]
  | hs ts t ih =>
    rw [keysG_snoc, kstep_mem, ih]
    constructor
    · rintro (⟨u, hu, e⟩ | rfl)
      · exact ⟨u, List.mem_append_left _ hu, e⟩
      · exact ⟨t, by simp, rfl⟩
    · rintro ⟨u, hu, e⟩
      rcases List.mem_append.mp hu with h | h
      · exact .inl ⟨u, h, e⟩
      · simp at h
        exact .inr (h ▸ e.symm)
theorem keysG_nodup {c : α → κ} {ts : List α} : (keysG c ts).Nodup := by
  induction ts using snoc_ind with
  | h0 => exact List.Pairwise.nil
  | hs ts t ih => rw [keysG_snoc]; exact kstep_nodup ih
theorem keysG_len {c : α → κ} {ts : List α} : (keysG c ts).length ≤ ts.length := by
  induction ts using snoc_ind with
  | h0 => exact Nat.le_refl _
  | hs ts t ih =>
    rw [keysG_snoc, List.length_append]
    unfold kstep
    split
    · omega
    · rw [List.length_append]; simp; omega
theorem fidx_mem {k : κ} : ∀ {ks : List κ}, k ∈ ks → ∃ j, fidx k ks = some j ∧ ks[j]? = some k
  | [], h => nomatch h
  | x :: xs, h => by
    by_cases e : x = k
    · exact ⟨0, by unfold fidx; rw [if_pos e], by rw [e]; rfl⟩
    · obtain ⟨j, h1, h2⟩ := fidx_mem (k := k) (ks := xs) ((List.mem_cons.mp h).resolve_left fun z => e z.symm)
      exact ⟨j + 1, by unfold fidx; rw [if_neg e, h1]; rfl, by simpa using h2⟩
/-- the rows once a new code has an empty row -/
theorem rowsG_new {c : α → κ} {ts : List α} {k : κ} (h : k ∉ keysG c ts) : rowsG c (keysG c ts ++ [k]) ts = rowsG c (keysG c ts) ts ++ [[]] := by
  unfold rowsG
  rw [List.map_append, List.map_cons, List.map_nil]
  congr 2
  rw [List.filter_eq_nil_iff]
  intro t ht e
  exact h (keysG_mem.mpr ⟨t, ht, of_decide_eq_true e⟩)
theorem rowsG_get {c : α → κ} {ks : List κ} {ts : List α} {j : Nat} {k : κ} (h : ks[j]? = some k) : (rowsG c ks ts)[j]? = some (ts.filter fun t => decide (c t = k)) := by
  unfold rowsG
  rw [List.getElem?_map, h]
  rfl
theorem rowsG_set {c : α → κ} {ks : List κ} {ts : List α} {t : α} {j : Nat} (hd : ks.Nodup) (h : ks[j]? = some (c t)) : (rowsG c ks ts).set j ((ts.filter fun u => decide (c u = c t)) ++ [t]) = rowsG c ks (ts ++ [t]) := by
  refine List.ext_getElem? fun i => ?_
  unfold rowsG
  rw [List.getElem?_set, List.getElem?_map, List.getElem?_map, List.length_map]
  obtain ⟨hj, ej⟩ := List.getElem?_eq_some_iff.mp h
  by_cases e : j = i
  · subst e
    rw [if_pos rfl, if_pos hj, h]
    simp
  · rw [if_neg e]
    cases q : ks[i]? with
    | none => rfl
    | some k =>
      have : c t ≠ k := fun z => by
        obtain ⟨hi, ei⟩ := List.getElem?_eq_some_iff.mp q
        rcases Nat.lt_or_gt_of_ne e with l | l
        · exact List.pairwise_iff_getElem.mp hd _ _ hj hi l (by rw [ej, ei, z])
        · exact List.pairwise_iff_getElem.mp hd _ _ hi hj l (by rw [ej, ei, z])
      simp [this]
theorem keysG_comp {β : Type} [DecidableEq β] {f : κ → β} (hf : ∀ a b, f a = f b → a = b) (c : α → κ) (ts : List α) : keysG (fun t => f (c t)) ts = (keysG c ts).map f := by
  induction ts using snoc_ind with
  | h0 => rfl
  | hs ts t ih =>
    rw [keysG_snoc, keysG_snoc, ih]
    unfold kstep
    by_cases h : c t ∈ keysG c ts
    · rw [if_pos h, if_pos (List.mem_map_of_mem h)]
    · rw [if_neg h, if_neg, List.map_append]
      · rfl
      · intro z
        obtain ⟨u, h1, h2⟩ := List.mem_map.mp z
        exact h (hf _ _ h2 ▸ h1)
theorem rowsG_comp {β : Type} [DecidableEq β] {f : κ → β} (hf : ∀ a b, f a = f b → a = b) (c : α → κ) (ks : List κ) (ts : List α) : rowsG (fun t => f (c t)) (ks.map f) ts = rowsG c ks ts := by
  unfold rowsG
  rw [List.map_map]
  refine List.map_congr_left fun k _ => List.filter_congr fun t _ => ?_
  by_cases e : c t = k
  · rw [decide_eq_true e, decide_eq_true (congrArg f e)]
  · rw [decide_eq_false e, decide_eq_false fun z => e (hf _ _ z)]
def mkG (i : Nat) : List κ → List (κ × Nat)
  | [] => []
  | k :: ks => (k, i) :: mkG (i + 1) ks
theorem mkG_len : ∀ (i : Nat) (ks : List κ), (mkG i ks).length = ks.length
  | _, [] => rfl
  | i, k :: ks => by show (mkG (i + 1) ks).length + 1 = _; rw [mkG_len]; rfl
theorem mkG_has {k : κ} : ∀ (i : Nat) (ks : List κ), mhas (mkG i ks) k = decide (k ∈ ks)
  | _, [] => rfl
  | i, j :: ks => by
    show (decide (j = k) || mhas (mkG (i + 1) ks) k) = _
    rw [mkG_has (i + 1) ks]
    by_cases e : j = k
    · rw [decide_eq_true e, decide_eq_true (show k ∈ j :: ks from e ▸ List.mem_cons_self)]; rfl
    · rw [decide_eq_false e, Bool.false_or]
      by_cases q : k ∈ ks
      · rw [decide_eq_true q, decide_eq_true (List.mem_cons_of_mem _ q)]
      · rw [decide_eq_false q, decide_eq_false fun z => (List.mem_cons.mp z).elim (fun w => e w.symm) q]
theorem mkG_snoc {k : κ} : ∀ (i : Nat) (ks : List κ), mkG i (ks ++ [k]) = mkG i ks ++ [(k, i + ks.length)]
  | _, [] => rfl
  | i, j :: ks => by
    show (j, i) :: mkG (i + 1) (ks ++ [k]) = (j, i) :: (mkG (i + 1) ks ++ [(k, i + (ks.length + 1))])
    rw [mkG_snoc (i + 1) ks, show i + 1 + ks.length = i + (ks.length + 1) by omega]
theorem mkG_get {k : κ} : ∀ (i : Nat) (ks : List κ), mget (mkG i ks) k = (fidx k ks).map (i + ·)
  | _, [] => rfl
  | i, j :: ks => by
    show mget ((j, i) :: mkG (i + 1) ks) k = _
    rw [mget_cons]
    unfold fidx
    by_cases e : j = k
    · rw [if_pos e, if_pos e]; rfl
    · rw [if_neg e, if_neg e, mkG_get (i + 1) ks, Option.map_map]
      cases fidx k ks with
      | none => rfl
      | some x => show some (i + 1 + x) = some (i + (x + 1)); congr 1; omega
theorem mkG_vals : ∀ (i : Nat) (ks : List κ), (mkG i ks).map (·.2) = List.range' i ks.length
  | _, [] => rfl
  | i, k :: ks => by
    show i :: (mkG (i + 1) ks).map (·.2) = List.range' i (ks.length + 1)
    rw [mkG_vals (i + 1) ks]
    rfl
end
theorem filSt_const {α β γ : Type} {f : γ → α → R (Option β × γ)} {g : α → Option β} {s : γ} : ∀ {xs : List α}, (∀ x ∈ xs, f s x = R.ok (g x, s)) → filSt f s xs = R.ok (xs.filterMap g, s)
  | [], _ => rfl
  | x :: xs, h => by
    unfold filSt
    rw [h x List.mem_cons_self, ok_bind]
    show filSt f s xs >>= _ = _
    rw [filSt_const fun y hy => h y (List.mem_cons_of_mem _ hy), ok_bind, List.filterMap_cons]
    cases g x <;> rfl
theorem mapR_some {α β : Type} {f : α → R β} {g : α → Option β} : ∀ {xs : List α}, (∀ x ∈ xs, ∃ y, g x = some y ∧ f x = R.ok y) → mapR f xs = R.ok (xs.filterMap g)
  | [], _ => rfl
  | x :: xs, h => by
    obtain ⟨y, h1, h2⟩ := h x List.mem_cons_self
    unfold mapR
    rw [h2, ok_bind, mapR_some fun y hy => h y (List.mem_cons_of_mem _ hy), List.filterMap_cons, h1]
    rfl
theorem range_pick {β γ : Type} (st : List β) (p : β → Option γ) : (List.range st.length).filterMap (fun i => st[i]?.bind p) = st.filterMap p := by
  have key : ∀ m, m ≤ st.length → (List.range m).filterMap (fun i => st[i]?.bind p) = (st.take m).filterMap p := by
    intro m
    induction m with
    | zero => intro _; rfl
    | succ m ih =>
      intro h
      have e : st[m]? = some st[m] := List.getElem?_eq_getElem (by omega)
      rw [List.range_succ, List.filterMap_append, ih (by omega), List.take_add_one, List.filterMap_append, e]
      congr 1
      simp [List.filterMap_cons, e]
  rw [key _ (Nat.le_refl _), List.take_length]
/-- the rows of two or more: their numbers, and what they hold -/
theorem pick_deref {β : Type} (st : List (List β)) : deref st ((List.range st.length).filterMap fun i => st[i]?.bind fun (r : List β) => if decide ((1 : Int) < (r.length : Int)) = true then some i else none) = R.ok (st.filter fun r => decide ((1 : Int) < (r.length : Int))) := by
  unfold deref
  rw [mapR_some (g := fun i => st[i]?)]
  · congr 1
    rw [List.filterMap_filterMap]
    have : (fun (i : Nat) => (st[i]?.bind fun (r : List β) => if decide ((1 : Int) < (r.length : Int)) = true then some i else none).bind fun i => st[i]?) = fun (i : Nat) => st[i]?.bind fun (r : List β) => if decide ((1 : Int) < (r.length : Int)) = true then some r else none := by
      funext i
      cases e : st[i]? with
      | none => rfl
      | some r =>
        show ((if decide ((1 : Int) < (r.length : Int)) = true then some i else none).bind fun i => st[i]?) = (if decide ((1 : Int) < (r.length : Int)) = true then some r else none)
        by_cases q : decide ((1 : Int) < (r.length : Int)) = true
        · rw [if_pos q, if_pos q]; exact e
        · rw [if_neg q, if_neg q]; rfl
    rw [this, range_pick st fun (r : List β) => if decide ((1 : Int) < (r.length : Int)) = true then some r else none]
    rw [fil_ite]
  · intro i hi
    obtain ⟨k, _, hk⟩ := List.mem_filterMap.mp hi
    cases e : st[k]? with
    | none => rw [e] at hk; cases hk
    | some r =>
      rw [e] at hk
      have : k = i := by
        change (if decide ((1 : Int) < (r.length : Int)) = true then some k else none) = some i at hk
        split at hk
        · exact Option.some.inj hk
        · cases hk
      subst this
      exact ⟨r, e, by unfold getS; rw [e]; rfl⟩
theorem kind_len {n : Int} {ts : List (Int × Int)} {k : Str} (h : WebOk n ts) : (kindT n ts k).length ≤ 800 := by
  have hn1 := h.n1
  have hn := h.n60
  have hl := h.len
  have : (kindT n ts k).length ≤ (allT n ts).length := by
    unfold kindT allT
    rw [List.length_append]
    split
    · omega
    · split
      · omega
      · rw [List.length_append]; omega
  have := allT_len (ts := ts) (show 0 ≤ n by omega)
  omega
noncomputable def codeT (n : Int) (ts : List (Int × Int)) (ls : List Int) (t : Thing) : List Int := ls.map fun l => farT n ts l t
noncomputable def likesL (n : Int) (ts : List (Int × Int)) (ls : List Int) (k : Str) : List (List Thing) := likesG (codeT n ts ls) (kindT n ts k)
theorem by_code_ok {n : Int} {ts : List (Int × Int)} {ls : List Int} {k : Str} (h : WebOk n ts) (hl : LooksOk n ls) : by_code (n, ⟨ts⟩) ls k = R.ok (mkG 0 (keysG (fun t => Tup.mk (codeT n ts ls t)) (kindT n ts k)), rowsG (codeT n ts ls) (keysG (codeT n ts ls) (kindT n ts k)) (kindT n ts k)) := by
  have hlen := hl.len
  have hn := h.n60
  have hk := kind_len (k := k) h
  have inj : ∀ a b : List Int, Tup.mk a = Tup.mk b → a = b := fun a b e => by injection e
  rw [← rowsG_comp inj, ← keysG_comp inj]
  refine po_iff ?_
  unfold by_code
  rw [table_ok h, ok_bind, things_ok h, ok_bind]
  generalize hc : (fun t => Tup.mk (codeT n ts ls t)) = c
  refine po_bind (po_foldP (fun pre s => s = (mkG 0 (keysG c pre), rowsG c (keysG c pre) pre)) rfl fun pre s t post hp hs => ?_) fun r hr => ?_
  · subst hs
    have ht : ThOk n ts t := kindT_ok (k := k) (by rw [hp]; simp)
    have hpl : pre.length ≤ 800 := by rw [hp, List.length_append] at hk; omega
    have hkl := keysG_len (c := c) (ts := pre)
    refine po_mapGE (g := fun l => farT n ts l t) (by omega) (fun l hm => by
      rw [far_by_ok h (hl.rg l hm).1 (hl.rg l hm).2 ht]
      rfl) ?_
    have ec : Tup.mk (ls.map fun l => farT n ts l t) = c t := by rw [← hc]; rfl
    rw [ec]
    refine po_bind (Q := fun g => g = (mkG 0 (keysG c (pre ++ [t])), rowsG c (keysG c (pre ++ [t])) pre)) (po_if (fun q => ?_) fun q => ?_) fun g hg => ?_
    · rw [mkG_has] at q
      have hm : c t ∉ keysG c pre := fun z => by rw [decide_eq_true z] at q; exact absurd q (by decide)
      rw [keysG_snoc]
      unfold kstep
      rw [if_neg hm, rowsG_new hm]
      refine po_newS (po_mput (by rw [mkG_len]; omega) ?_)
      show (_, _) = (_, _)
      rw [mput_new (by rw [mkG_has]; exact decide_eq_false hm), mkG_snoc]
      unfold rowsG
      rw [List.length_map, Nat.zero_add]
    · rw [mkG_has] at q
      have hm : c t ∈ keysG c pre := by
        by_cases z : c t ∈ keysG c pre
        · exact z
        · exfalso
          apply q
          rw [decide_eq_false z]
          rfl
      rw [keysG_snoc]
      unfold kstep
      rw [if_pos hm]
      exact rfl
    · subst hg
      have hd := keysG_nodup (c := c) (ts := pre ++ [t])
      obtain ⟨j, e1, e2⟩ := fidx_mem (k := c t) (ks := keysG c (pre ++ [t])) (keysG_mem.mpr ⟨t, by simp, rfl⟩)
      refine po_mgetE (x := j) (by rw [mkG_get, e1]; show some (0 + j) = _; rw [Nat.zero_add]) (po_getS (rowsG_get e2) (po_app ?_ (po_setS ?_)))
      · refine Nat.lt_of_le_of_lt (List.length_filter_le _ _) ?_
        omega
      · show (_, _) = (_, _)
        rw [rowsG_set hd e2]
  · subst hr
    exact rfl
theorem likes_pick {n : Int} {ts : List (Int × Int)} {ls : List Int} {k : Str} (h : WebOk n ts) : filStG (fun (g10 : (List (List Thing))) (b10 : Ix) => do
      let x14 ← getS g10 b10
      if (decide ((1 : Int) < (x14.length : Int))) = true then do
        R.ok ((some b10), g10)
      else
        R.ok (none, g10)) (rowsG (codeT n ts ls) (keysG (codeT n ts ls) (kindT n ts k)) (kindT n ts k)) ((mkG 0 (keysG (fun t => Tup.mk (codeT n ts ls t)) (kindT n ts k))).map (·.2)) =
    R.ok ((List.range (rowsG (codeT n ts ls) (keysG (codeT n ts ls) (kindT n ts k)) (kindT n ts k)).length).filterMap (fun i => (rowsG (codeT n ts ls) (keysG (codeT n ts ls) (kindT n ts k)) (kindT n ts k))[i]?.bind fun r => if decide ((1 : Int) < (r.length : Int)) = true then some i else none), rowsG (codeT n ts ls) (keysG (codeT n ts ls) (kindT n ts k)) (kindT n ts k)) := by
  have hk := kind_len (k := k) h
  have inj : ∀ a b : List Int, Tup.mk a = Tup.mk b → a = b := fun a b e => by injection e
  have hkl := keysG_len (c := codeT n ts ls) (ts := kindT n ts k)
  rw [mkG_vals, keysG_comp inj, List.length_map, ← List.range_eq_range']
  have e : (rowsG (codeT n ts ls) (keysG (codeT n ts ls) (kindT n ts k)) (kindT n ts k)).length = (keysG (codeT n ts ls) (kindT n ts k)).length := by unfold rowsG; rw [List.length_map]
  rw [e]
  unfold filStG
  rw [grd_t (decide_eq_true (by rw [List.length_range]; omega)), ok_bind]
  refine filSt_const fun i hi => ?_
  rw [List.mem_range, ← e] at hi
  unfold getS
  rw [List.getElem?_eq_getElem hi]
  show (if _ then _ else _) = _
  by_cases q : decide ((1 : Int) < (((rowsG (codeT n ts ls) (keysG (codeT n ts ls) (kindT n ts k)) (kindT n ts k))[i]).length : Int)) = true
  · rw [if_pos q]
    show _ = R.ok ((if _ then _ else _), _)
    rw [if_pos q]
  · rw [if_neg q]
    show _ = R.ok ((if _ then _ else _), _)
    rw [if_neg q]
theorem likes_by_ok {n : Int} {ts : List (Int × Int)} {ls : List Int} {k : Str} (h : WebOk n ts) (hl : LooksOk n ls) : likes_by (n, ⟨ts⟩) ls k = R.ok (likesL n ts ls k) := by
  unfold likes_by
  rw [looks_ok hl, ok_bind, by_code_ok h hl, ok_bind]
  show filStG _ (rowsG (codeT n ts ls) (keysG (codeT n ts ls) (kindT n ts k)) (kindT n ts k)) ((mkG 0 (keysG (fun t => Tup.mk (codeT n ts ls t)) (kindT n ts k))).map (·.2)) >>= _ = _
  rw [likes_pick h, ok_bind]
  show deref _ _ >>= _ = _
  rw [pick_deref, ok_bind]
  rfl
theorem is_known_ok {n : Int} {ts : List (Int × Int)} {ls : List Int} {k : Str} (h : WebOk n ts) (hl : LooksOk n ls) : is_known (n, ⟨ts⟩) ls k = R.ok (decide (likesL n ts ls k = [])) := by
  unfold is_known
  rw [likes_by_ok h hl, ok_bind]
def onT (p : Int) : Thing → Prop
  | .pl i => i = p
  | .ti c d => c = p ∨ d = p
/-- two unlike things are parted by some place of the one -/
theorem parted {n : Int} {ts : List (Int × Int)} {a b : Thing} (h : WebOk n ts) (ha : ThOk n ts a) (hb : ThOk n ts b) (hne : a ≠ b) : ∃ p, 0 ≤ p ∧ p < n ∧ farT n ts p a ≠ farT n ts p b := by
  have z : ∀ p, 0 ≤ p → p < n → ∀ t, ThOk n ts t → (farT n ts p t = 0 ↔ onT p t) := by
    intro p p0 p1 t ht
    cases t with
    | pl i => exact dst_zero h p0 p1 ht.1 ht.2
    | ti c d =>
      have hr := h.rg4 _ (show (c, d) ∈ ts from ht)
      have e1 := dst_zero h p0 p1 hr.1 hr.2.1
      have e2 := dst_zero h p0 p1 hr.2.2.1 hr.2.2.2
      have n1 := dst_nn h p0 p1 hr.1 hr.2.1
      have n2 := dst_nn h p0 p1 hr.2.2.1 hr.2.2.2
      dsimp only at e1 e2 n1 n2
      show min2 (dst n ts p c) (dst n ts p d) = 0 ↔ (c = p ∨ d = p)
      rw [← e1, ← e2]
      rcases mm_cases (dst n ts p c) (dst n ts p d) with ⟨q, _, _⟩ | ⟨q, _, _⟩ <;> rw [q] <;> omega
  apply Classical.byContradiction
  intro hc
  have hall : ∀ p, 0 ≤ p → p < n → farT n ts p a = farT n ts p b := fun p p0 p1 => Classical.byContradiction fun q => hc ⟨p, p0, p1, q⟩
  have key : ∀ p, 0 ≤ p → p < n → (onT p a ↔ onT p b) := fun p p0 p1 => by
    rw [← z p p0 p1 a ha, ← z p p0 p1 b hb, hall p p0 p1]
  cases a with
  | pl i =>
    cases b with
    | pl j =>
      have := (key i ha.1 ha.2).mp rfl
      have this' : j = i := this
      exact hne (by rw [this'])
    | ti c d =>
      have hr := h.rg _ (show (c, d) ∈ ts from hb)
      dsimp only at hr
      have k1 := (key c (by omega) (by omega)).mpr (.inl rfl)
      have k2 := (key d (by omega) (by omega)).mpr (.inr rfl)
      unfold onT at k1 k2
      omega
  | ti c d =>
    have hr := h.rg _ (show (c, d) ∈ ts from ha)
    dsimp only at hr
    cases b with
    | pl j =>
      have k1 := (key c (by omega) (by omega)).mp (.inl rfl)
      have k2 := (key d (by omega) (by omega)).mp (.inr rfl)
      unfold onT at k1 k2
      omega
    | ti e f =>
      have hs := h.rg _ (show (e, f) ∈ ts from hb)
      dsimp only at hs
      have k1 := (key c (by omega) (by omega)).mp (.inl rfl)
      have k2 := (key d (by omega) (by omega)).mp (.inr rfl)
      unfold onT at k1 k2
      have : c = e ∧ d = f := by omega
      exact hne (by rw [this.1, this.2])
theorem likesG_mem {κ α : Type} [DecidableEq κ] {c : α → κ} {ts : List α} {r : List α} : r ∈ likesG c ts ↔ ∃ t ∈ ts, r = ts.filter (fun u => decide (c u = c t)) ∧ 1 < r.length := by
  unfold likesG rowsG
  rw [List.mem_filter, List.mem_map]
  constructor
  · rintro ⟨⟨k, hk, rfl⟩, h2⟩
    obtain ⟨t, ht, rfl⟩ := keysG_mem.mp hk
    have := of_decide_eq_true h2
    exact ⟨t, ht, rfl, by omega⟩
  · rintro ⟨t, ht, e, h2⟩
    exact ⟨⟨c t, keysG_mem.mpr ⟨t, ht, rfl⟩, e.symm⟩, decide_eq_true (by omega)⟩
theorem two_long {α : Type} {a b : α} : ∀ {l : List α}, a ∈ l → b ∈ l → a ≠ b → 1 < l.length
  | [], h, _, _ => nomatch h
  | [x], h1, h2, hne => by
    rw [List.mem_singleton] at h1 h2
    exact absurd (h1.trans h2.symm) hne
  | _ :: _ :: _, _, _, _ => by simp
theorem codeT_eq {n : Int} {ts : List (Int × Int)} {ls : List Int} {a b : Thing} : codeT n ts ls a = codeT n ts ls b ↔ ∀ l ∈ ls, farT n ts l a = farT n ts l b := by
  unfold codeT
  exact List.map_inj_left
/-- two things of one code: a row has both -/
theorem likes_both {n : Int} {ts : List (Int × Int)} {ls : List Int} {k : Str} {a b : Thing} (ha : a ∈ kindT n ts k) (hb : b ∈ kindT n ts k) (hne : a ≠ b) : (∃ r ∈ likesL n ts ls k, a ∈ r ∧ b ∈ r) ↔ codeT n ts ls a = codeT n ts ls b := by
  constructor
  · rintro ⟨r, hr, h1, h2⟩
    obtain ⟨t, _, e, _⟩ := likesG_mem.mp hr
    rw [e] at h1 h2
    exact (of_decide_eq_true (List.mem_filter.mp h1).2).trans (of_decide_eq_true (List.mem_filter.mp h2).2).symm
  · intro e
    have h1 : a ∈ (kindT n ts k).filter fun u => decide (codeT n ts ls u = codeT n ts ls a) := List.mem_filter.mpr ⟨ha, decide_eq_true rfl⟩
    have h2 : b ∈ (kindT n ts k).filter fun u => decide (codeT n ts ls u = codeT n ts ls a) := List.mem_filter.mpr ⟨hb, decide_eq_true e.symm⟩
    exact ⟨_, likesG_mem.mpr ⟨a, ha, rfl, two_long h1 h2 hne⟩, h1, h2⟩
theorem kindT_nodup {n : Int} {ts : List (Int × Int)} {k : Str} (h : WebOk n ts) : (kindT n ts k).Nodup := by
  have h1 : (mkpl (rng 0 n)).Nodup := by
    unfold mkpl
    refine List.Pairwise.map _ (fun a b (e : a ≠ b) q => e ?_) (rng_nodup 0 n)
    injection q
  have h2 : (mkti ts).Nodup := by
    unfold mkti
    refine List.Pairwise.map _ (fun a b (e : a ≠ b) q => e ?_) h.nd
    injection q with q1 q2
    exact Prod.ext q1 q2
  unfold kindT
  split
  · exact h1
  · split
    · exact h2
    · unfold allT
      rw [List.nodup_append]
      refine ⟨h1, h2, fun a ha b hb e => ?_⟩
      obtain ⟨i, rfl, _⟩ := pl_mem.mp ha
      obtain ⟨c, d, rfl, _⟩ := ti_mem.mp hb
      cases e
/-- by all places each thing is known -/
theorem likes_all {n : Int} {ts : List (Int × Int)} {k : Str} (h : WebOk n ts) : likesL n ts (rng 0 n) k = [] := by
  rw [List.eq_nil_iff_forall_not_mem]
  intro r hr
  obtain ⟨t, _, e, hl⟩ := likesG_mem.mp hr
  have hd : r.Nodup := by rw [e]; exact (kindT_nodup h).filter _
  match r, hl, hd, e with
  | a :: b :: l, _, hd, e =>
    have hne : a ≠ b := fun q => (List.nodup_cons.mp hd).1 (q ▸ List.mem_cons_self)
    have h1 : a ∈ (kindT n ts k).filter fun u => decide (codeT n ts (rng 0 n) u = codeT n ts (rng 0 n) t) := e ▸ List.mem_cons_self
    have h2 : b ∈ (kindT n ts k).filter fun u => decide (codeT n ts (rng 0 n) u = codeT n ts (rng 0 n) t) := e ▸ List.mem_cons_of_mem _ List.mem_cons_self
    obtain ⟨p, p0, p1, hp⟩ := parted h (kindT_ok (List.mem_filter.mp h1).1) (kindT_ok (List.mem_filter.mp h2).1) hne
    exact hp (codeT_eq.mp ((of_decide_eq_true (List.mem_filter.mp h1).2).trans (of_decide_eq_true (List.mem_filter.mp h2).2).symm) p (rng_mem.mpr ⟨p0, p1⟩))
/-! the same web, its places called otherwise -/
section
variable {n : Int} {ts : List (Int × Int)} {o : List Int}
def nmO (o : List Int) (k : Int) : Int := o.getD k.toNat 0
def mvT (o : List Int) : Thing → Thing
  | .pl i => .pl (nmO o i)
  | .ti a b => .ti (moved o (a, b)).1 (moved o (a, b)).2
theorem moved_two (a b : Int) : moved o (a, b) = (nmO o a, nmO o b) ∨ moved o (a, b) = (nmO o b, nmO o a) := by
  unfold moved nmO
  rcases mm_cases (o.getD a.toNat 0) (o.getD b.toNat 0) with ⟨w1, w2, _⟩ | ⟨w1, w2, _⟩
  · exact .inl (by dsimp only; rw [w1, w2])
  · exact .inr (by dsimp only; rw [w1, w2])
variable (ho : o.Perm (rng 0 n)) (h : WebOk n ts)
include ho h
theorem moved_web : WebOk n (sortP (ts.map (moved o))) := moved_ok ho h.n1 h.n60 ⟨h.rg, h.nd, h.conn, h.len⟩
theorem nm_rg {a : Int} (a0 : 0 ≤ a) (a1 : a < n) : 0 ≤ nmO o a ∧ nmO o a < n := perm_getD ho (by omega) a0 a1
theorem nm_inj {a b : Int} (a0 : 0 ≤ a) (a1 : a < n) (b0 : 0 ≤ b) (b1 : b < n) (e : nmO o a = nmO o b) : a = b := perm_inj ho (by omega) a0 a1 b0 b1 e
theorem adj_moved {a b : Int} (a0 : 0 ≤ a) (a1 : a < n) (b0 : 0 ≤ b) (b1 : b < n) : Adj (sortP (ts.map (moved o))) (nmO o a) (nmO o b) ↔ Adj ts a b := by
  have hp := sortP_perm (ts.map (moved o))
  have back : ∀ x y, 0 ≤ x → x < n → 0 ≤ y → y < n → (nmO o x, nmO o y) ∈ sortP (ts.map (moved o)) → Adj ts x y := fun x y x0 x1 y0 y1 hm => by
    obtain ⟨q, hq, e⟩ := List.mem_map.mp (hp.mem_iff.mp hm)
    have hr := h.rg4 q hq
    obtain ⟨c, d⟩ := q
    rcases moved_two (o := o) c d with w | w <;> rw [w] at e <;> injection e with e1 e2
    · have i1 := nm_inj ho h hr.1 hr.2.1 x0 x1 e1
      have i2 := nm_inj ho h hr.2.2.1 hr.2.2.2 y0 y1 e2
      dsimp only at i1 i2
      subst i1
      subst i2
      exact .inl hq
    · have i1 := nm_inj ho h hr.2.2.1 hr.2.2.2 x0 x1 e1
      have i2 := nm_inj ho h hr.1 hr.2.1 y0 y1 e2
      dsimp only at i1 i2
      subst i1
      subst i2
      exact .inr hq
  have fwd : ∀ x y, (x, y) ∈ ts → Adj (sortP (ts.map (moved o))) (nmO o x) (nmO o y) := fun x y hm => by
    have : moved o (x, y) ∈ sortP (ts.map (moved o)) := hp.mem_iff.mpr (List.mem_map_of_mem hm)
    rcases moved_two (o := o) x y with w | w <;> rw [w] at this
    · exact .inl this
    · exact .inr this
  constructor
  · intro q
    rcases q with q | q
    · exact back a b a0 a1 b0 b1 q
    · exact (back b a b0 b1 a0 a1 q).symm
  · intro q
    rcases q with q | q
    · exact fwd a b q
    · exact (fwd b a q).symm
theorem dst_moved {p v : Int} (p0 : 0 ≤ p) (p1 : p < n) (v0 : 0 ≤ v) (v1 : v < n) : dst n (sortP (ts.map (moved o))) (nmO o p) (nmO o v) = dst n ts p v := by
  have h' := moved_web ho h
  have hI : ∀ x, ∃ y, 0 ≤ x → x < n → 0 ≤ y ∧ y < n ∧ nmO o y = x := fun x => by
    by_cases c : 0 ≤ x ∧ x < n
    · obtain ⟨y, y0, y1, e⟩ := perm_surj ho (by omega) c.1 c.2
      exact ⟨y, fun _ _ => ⟨y0, y1, e⟩⟩
    · exact ⟨0, fun a b => absurd ⟨a, b⟩ c⟩
  obtain ⟨I, hI⟩ := Classical.axiomOfChoice hI
  have hIO : ∀ x, 0 ≤ x → x < n → I (nmO o x) = x := fun x x0 x1 => by
    have hr := nm_rg ho h x0 x1
    obtain ⟨y0, y1, e⟩ := hI _ hr.1 hr.2
    exact nm_inj ho h y0 y1 x0 x1 e
  have hr := nm_rg ho h p0 p1
  have hrv := nm_rg ho h v0 v1
  have d := web_dist h p0 p1
  have key : IsDist n (sortP (ts.map (moved o))) (nmO o p) (fun w => dst n ts p (I w)) := by
    refine ⟨?_, fun w w0 w1 => ?_, fun a b q => ?_, fun w w0 w1 hne => ?_⟩
    · show dst n ts p (I (nmO o p)) = 0
      rw [hIO p p0 p1]
      exact d.zero
    · obtain ⟨y0, y1, _⟩ := hI w w0 w1
      exact d.nn _ y0 y1
    · obtain ⟨a0, a1, b0, b1, _⟩ := h'.adj q
      obtain ⟨x0, x1, ex⟩ := hI a a0 a1
      obtain ⟨y0, y1, ey⟩ := hI b b0 b1
      rw [← ex, ← ey] at q
      exact d.lip _ _ ((adj_moved ho h x0 x1 y0 y1).mp q)
    · obtain ⟨y0, y1, ey⟩ := hI w w0 w1
      have hyp : I w ≠ p := fun e => hne (by rw [← ey, e])
      obtain ⟨z, z0, z1, qz, ez⟩ := d.desc (I w) y0 y1 hyp
      have hz := nm_rg ho h z0 z1
      refine ⟨nmO o z, hz.1, hz.2, ?_, ?_⟩
      · have := (adj_moved ho h z0 z1 y0 y1).mpr qz
        rwa [ey] at this
      · show dst n ts p (I (nmO o z)) + 1 = _
        rw [hIO z z0 z1]
        exact ez
  rw [← dst_eq key _ hrv.1 hrv.2]
  show dst n ts p (I (nmO o v)) = _
  rw [hIO v v0 v1]
theorem mv_ok {X : Thing} (hX : ThOk n ts X) : ThOk n (sortP (ts.map (moved o))) (mvT o X) := by
  cases X with
  | pl i => exact nm_rg ho h hX.1 hX.2
  | ti a b =>
    show ((moved o (a, b)).1, (moved o (a, b)).2) ∈ _
    exact (sortP_perm _).mem_iff.mpr (List.mem_map_of_mem (f := moved o) (show (a, b) ∈ ts from hX))
theorem far_moved {X : Thing} {l : Int} (hX : ThOk n ts X) (l0 : 0 ≤ l) (l1 : l < n) : farT n (sortP (ts.map (moved o))) (nmO o l) (mvT o X) = farT n ts l X := by
  cases X with
  | pl i => exact dst_moved ho h l0 l1 hX.1 hX.2
  | ti a b =>
    have hab : (a, b) ∈ ts := hX
    have hr := h.rg4 _ hab
    have ea := dst_moved ho h l0 l1 (v := a) hr.1 hr.2.1
    have eb := dst_moved ho h l0 l1 (v := b) hr.2.2.1 hr.2.2.2
    show min2 (dst n _ (nmO o l) (moved o (a, b)).1) (dst n _ (nmO o l) (moved o (a, b)).2) = min2 (dst n ts l a) (dst n ts l b)
    rcases moved_two (o := o) a b with w | w <;> rw [w] <;> dsimp only <;> rw [ea, eb]
    rcases mm_cases (dst n ts l a) (dst n ts l b) with ⟨w1, _, c1⟩ | ⟨w1, _, c1⟩ <;> rcases mm_cases (dst n ts l b) (dst n ts l a) with ⟨w2, _, c2⟩ | ⟨w2, _, c2⟩ <;> rw [w1, w2] <;> omega
theorem mv_inj {X Y : Thing} (hX : ThOk n ts X) (hY : ThOk n ts Y) (e : mvT o X = mvT o Y) : X = Y := by
  cases X with
  | pl i =>
    cases Y with
    | pl j =>
      have e' : nmO o i = nmO o j := by injection e
      rw [nm_inj ho h hX.1 hX.2 hY.1 hY.2 e']
    | ti c d => cases e
  | ti a b =>
    cases Y with
    | pl j => cases e
    | ti c d =>
      have e' : moved o (a, b) = moved o (c, d) := by
        injection e with e1 e2
        exact Prod.ext e1 e2
      have := moved_inj ho (by have := h.n1; omega) (h.rg _ (show (a, b) ∈ ts from hX)) (h.rg _ (show (c, d) ∈ ts from hY)) e'
      injection this with e1 e2
      rw [e1, e2]
theorem kind_moved {k : Str} {X' : Thing} : X' ∈ kindT n (sortP (ts.map (moved o))) k ↔ ∃ X ∈ kindT n ts k, X' = mvT o X := by
  have pl : X' ∈ mkpl (rng 0 n) ↔ ∃ X ∈ mkpl (rng 0 n), X' = mvT o X := by
    rw [pl_mem]
    constructor
    · rintro ⟨i, rfl, i0, i1⟩
      obtain ⟨j, j0, j1, e⟩ := perm_surj ho (by omega) i0 i1
      exact ⟨.pl j, pl_mem.mpr ⟨j, rfl, j0, j1⟩, by rw [← e]; rfl⟩
    · rintro ⟨X, hX, rfl⟩
      obtain ⟨j, rfl, j0, j1⟩ := pl_mem.mp hX
      exact ⟨_, rfl, nm_rg ho h j0 j1⟩
  have ti : X' ∈ mkti (sortP (ts.map (moved o))) ↔ ∃ X ∈ mkti ts, X' = mvT o X := by
    rw [ti_mem]
    constructor
    · rintro ⟨a, b, rfl, hab⟩
      obtain ⟨q, hq, e⟩ := List.mem_map.mp ((sortP_perm _).mem_iff.mp hab)
      refine ⟨.ti q.1 q.2, ti_mem.mpr ⟨_, _, rfl, hq⟩, ?_⟩
      show _ = Thing.ti (moved o (q.1, q.2)).1 (moved o (q.1, q.2)).2
      rw [show (q.1, q.2) = q from rfl, e]
    · rintro ⟨X, hX, rfl⟩
      obtain ⟨a, b, rfl, hab⟩ := ti_mem.mp hX
      exact ⟨_, _, rfl, (sortP_perm _).mem_iff.mpr (List.mem_map_of_mem (f := moved o) hab)⟩
  unfold kindT
  split
  · exact pl
  · split
    · exact ti
    · unfold allT
      rw [List.mem_append, pl, ti]
      constructor
      · rintro (⟨X, hX, e⟩ | ⟨X, hX, e⟩)
        · exact ⟨X, List.mem_append_left _ hX, e⟩
        · exact ⟨X, List.mem_append_right _ hX, e⟩
      · rintro ⟨X, hX, e⟩
        rcases List.mem_append.mp hX with hX | hX
        · exact .inl ⟨X, hX, e⟩
        · exact .inr ⟨X, hX, e⟩
theorem looks_moved {ls : List Int} (hl : LooksOk n ls) : LooksOk n (sortI (ls.map (nmO o))) := by
  refine ⟨fun x hx => ?_, ?_⟩
  · obtain ⟨l, hm, rfl⟩ := List.mem_map.mp ((sortI_perm _).mem_iff.mp hx)
    exact nm_rg ho h (hl.rg l hm).1 (hl.rg l hm).2
  · have hd : (ls.map (nmO o)).Nodup := by
      refine List.pairwise_map.mpr (hl.up.imp_of_mem fun {a b} ha hb hab e => ?_)
      have := nm_inj ho h (hl.rg a ha).1 (hl.rg a ha).2 (hl.rg b hb).1 (hl.rg b hb).2 e
      omega
    have hd' : (sortI (ls.map (nmO o))).Nodup := (sortI_perm _).nodup_iff.mpr hd
    refine List.Pairwise.imp (R := fun a b => a ≤ b ∧ a ≠ b) (fun {a b} h => by omega) ?_
    exact (sortI_sorted _).and hd'
end
/-! ### small shapes, by looking -/
def pN (p : Nat × Nat) : Int × Int := ((p.1 : Int), (p.2 : Int))
/-- a shape: its ties, how far its places are -/
def shapeB (m : Nat) (us : List (Nat × Nat)) (d : Nat → Nat → Nat) : Bool :=
  (decide (1 ≤ m) && decide (m ≤ 60)) && (us.all (fun p => decide (p.1 < m) && (decide (p.2 < m) && !(Nat.beq p.1 p.2))) &&
  (decide ((us.map fun p => (min p.1 p.2, max p.1 p.2)).Nodup) && (decide (us.length ≤ 700) &&
  ((List.range m).all fun i => Nat.beq (d i i) 0 && (us.all (fun p => Nat.ble (d i p.2) (d i p.1 + 1) && Nat.ble (d i p.1) (d i p.2 + 1)) &&
    (List.range m).all fun v => Nat.beq v i || us.any fun p => (Nat.beq p.2 v && Nat.beq (d i p.1 + 1) (d i v)) || (Nat.beq p.1 v && Nat.beq (d i p.2 + 1) (d i v)))))))
def nrm34 (p : Int × Int) : Int × Int := (min2 p.1 p.2, max2 p.1 p.2)
/-- its web -/
def shW (us : List (Nat × Nat)) : List (Int × Int) := sortP ((us.map pN).map nrm34)
theorem nrm34_pN (p : Nat × Nat) : nrm34 (pN p) = pN (min p.1 p.2, max p.1 p.2) := by
  unfold nrm34 pN
  dsimp only
  rcases mm_cases (p.1 : Int) (p.2 : Int) with ⟨e1, e2, l⟩ | ⟨e1, e2, l⟩ <;> rw [e1, e2]
  · rw [show min p.1 p.2 = p.1 by omega, show max p.1 p.2 = p.2 by omega]
  · rw [show min p.1 p.2 = p.2 by omega, show max p.1 p.2 = p.1 by omega]
theorem shW_mem {us : List (Nat × Nat)} {p : Int × Int} : p ∈ shW us ↔ ∃ q ∈ us, p = pN (min q.1 q.2, max q.1 q.2) := by
  unfold shW
  rw [(sortP_perm _).mem_iff, List.mem_map]
  constructor
  · rintro ⟨r, hr, rfl⟩
    obtain ⟨q, hq, rfl⟩ := List.mem_map.mp hr
    exact ⟨q, hq, nrm34_pN q⟩
  · rintro ⟨q, hq, rfl⟩
    exact ⟨pN q, List.mem_map.mpr ⟨q, hq, rfl⟩, nrm34_pN q⟩
theorem shW_adj {us : List (Nat × Nat)} {a b : Int} : Adj (shW us) a b ↔ ∃ q ∈ us, (a = q.1 ∧ b = q.2) ∨ (a = q.2 ∧ b = q.1) := by
  unfold Adj
  rw [shW_mem, shW_mem]
  constructor
  · rintro (⟨q, hq, e⟩ | ⟨q, hq, e⟩) <;> (unfold pN at e; injection e with e1 e2; refine ⟨q, hq, ?_⟩; dsimp only at e1 e2; omega)
  · rintro ⟨q, hq, h⟩
    by_cases l : q.1 ≤ q.2
    · rcases h with ⟨rfl, rfl⟩ | ⟨rfl, rfl⟩
      · exact .inl ⟨q, hq, by unfold pN; rw [show min q.1 q.2 = q.1 by omega, show max q.1 q.2 = q.2 by omega]⟩
      · exact .inr ⟨q, hq, by unfold pN; rw [show min q.1 q.2 = q.1 by omega, show max q.1 q.2 = q.2 by omega]⟩
    · rcases h with ⟨rfl, rfl⟩ | ⟨rfl, rfl⟩
      · exact .inr ⟨q, hq, by unfold pN; rw [show min q.1 q.2 = q.2 by omega, show max q.1 q.2 = q.1 by omega]⟩
      · exact .inl ⟨q, hq, by unfold pN; rw [show min q.1 q.2 = q.2 by omega, show max q.1 q.2 = q.1 by omega]⟩
section
variable {m : Nat} {us : List (Nat × Nat)} {d : Nat → Nat → Nat} (h : shapeB m us d = true)
include h
theorem sh_parts : (1 ≤ m ∧ m ≤ 60) ∧ (∀ p ∈ us, p.1 < m ∧ p.2 < m ∧ p.1 ≠ p.2) ∧ (us.map fun p => (min p.1 p.2, max p.1 p.2)).Nodup ∧ us.length ≤ 700 ∧
    ∀ i, i < m → d i i = 0 ∧ (∀ p ∈ us, d i p.2 ≤ d i p.1 + 1 ∧ d i p.1 ≤ d i p.2 + 1) ∧ ∀ v, v < m → v ≠ i → ∃ p ∈ us, (p.2 = v ∧ d i p.1 + 1 = d i v) ∨ (p.1 = v ∧ d i p.2 + 1 = d i v) := by
  unfold shapeB at h
  rw [Bool.and_eq_true, Bool.and_eq_true, Bool.and_eq_true, Bool.and_eq_true, Bool.and_eq_true, decide_eq_true_eq, decide_eq_true_eq, decide_eq_true_eq, decide_eq_true_eq] at h
  obtain ⟨⟨h1, h2⟩, h3, h4, h5, h6⟩ := h
  refine ⟨⟨h1, h2⟩, fun p hp => ?_, h4, h5, fun i hi => ?_⟩
  · have := List.all_eq_true.mp h3 p hp
    rw [Bool.and_eq_true, Bool.and_eq_true, decide_eq_true_eq, decide_eq_true_eq, Bool.not_eq_true'] at this
    exact ⟨this.1, this.2.1, fun e => by rw [e, Nat.beq_refl] at this; exact absurd this.2.2 (by decide)⟩
  · have := List.all_eq_true.mp h6 i (List.mem_range.mpr hi)
    rw [Bool.and_eq_true, Bool.and_eq_true] at this
    obtain ⟨g1, g2, g3⟩ := this
    refine ⟨Nat.eq_of_beq_eq_true g1, fun p hp => ?_, fun v hv hne => ?_⟩
    · have := List.all_eq_true.mp g2 p hp
      rw [Bool.and_eq_true] at this
      exact ⟨Nat.le_of_ble_eq_true this.1, Nat.le_of_ble_eq_true this.2⟩
    · have := List.all_eq_true.mp g3 v (List.mem_range.mpr hv)
      rw [Bool.or_eq_true] at this
      rcases this with z | z
      · exact absurd (Nat.eq_of_beq_eq_true z) hne
      · obtain ⟨p, hp, z⟩ := List.any_eq_true.mp z
        rw [Bool.or_eq_true, Bool.and_eq_true, Bool.and_eq_true] at z
        exact ⟨p, hp, z.imp (fun z => ⟨Nat.eq_of_beq_eq_true z.1, Nat.eq_of_beq_eq_true z.2⟩) fun z => ⟨Nat.eq_of_beq_eq_true z.1, Nat.eq_of_beq_eq_true z.2⟩⟩
theorem sh_dist {i : Nat} (hi : i < m) : IsDist (m : Int) (shW us) (i : Int) fun v => (d i v.toNat : Int) := by
  obtain ⟨_, h3, _, _, h6⟩ := sh_parts h
  obtain ⟨g1, g2, g3⟩ := h6 i hi
  refine ⟨?_, fun _ _ _ => by omega, fun a b hab => ?_, fun v v0 v1 hne => ?_⟩
  · show ((d i (i : Int).toNat : Nat) : Int) = 0
    rw [Int.toNat_natCast, g1]; rfl
  · obtain ⟨q, hq, e⟩ := shW_adj.mp hab
    have := g2 q hq
    show ((d i b.toNat : Nat) : Int) ≤ (d i a.toNat : Nat) + 1
    rcases e with ⟨rfl, rfl⟩ | ⟨rfl, rfl⟩ <;> rw [Int.toNat_natCast, Int.toNat_natCast] <;> omega
  · obtain ⟨p, hp, z⟩ := g3 v.toNat (by omega) (by omega)
    have hp2 := h3 p hp
    rcases z with ⟨z1, z2⟩ | ⟨z1, z2⟩
    · refine ⟨p.1, by omega, by omega, shW_adj.mpr ⟨p, hp, .inl ⟨rfl, by omega⟩⟩, ?_⟩
      show ((d i (p.1 : Int).toNat : Nat) : Int) + 1 = (d i v.toNat : Nat)
      rw [Int.toNat_natCast]; omega
    · refine ⟨p.2, by omega, by omega, shW_adj.mpr ⟨p, hp, .inr ⟨rfl, by omega⟩⟩, ?_⟩
      show ((d i (p.2 : Int).toNat : Nat) : Int) + 1 = (d i v.toNat : Nat)
      rw [Int.toNat_natCast]; omega
theorem sh_conn : Conn (m : Int) (shW us) := by
  intro S h0 hc
  obtain ⟨⟨h1, _⟩, _⟩ := sh_parts h
  have D := sh_dist h (i := 0) (by omega)
  have key : ∀ (k : Nat) (v : Int), (d 0 v.toNat) = k → 0 ≤ v → v < m → S v := by
    intro k
    induction k using Nat.strongRecOn with
    | _ k ih =>
      intro v hk v0 v1
      by_cases e : v = 0
      · rw [e]; exact h0
      · obtain ⟨w, w0, w1, ha, ew⟩ := D.desc v v0 v1 e
        have ew' : ((d 0 w.toNat : Nat) : Int) + 1 = (d 0 v.toNat : Nat) := ew
        have := ih (d 0 w.toNat) (by omega) w rfl w0 w1
        rcases ha with ha | ha
        · exact (hc _ ha).mp this
        · exact (hc _ ha).mpr this
  exact fun v v0 v1 => key _ v rfl v0 v1
theorem pN_inj {p q : Nat × Nat} (e : pN p = pN q) : p = q := by
  unfold pN at e
  injection e with e1 e2
  exact Prod.ext (by omega) (by omega)
theorem sh_nd : ((us.map pN).map nrm34).Nodup := by
  obtain ⟨_, _, h4, _⟩ := sh_parts h
  have e : (us.map pN).map nrm34 = (us.map fun p => (min p.1 p.2, max p.1 p.2)).map pN := by
    rw [List.map_map, List.map_map]
    exact List.map_congr_left fun p _ => nrm34_pN p
  rw [e]
  exact List.Pairwise.map _ (fun a b (hne : a ≠ b) z => hne (pN_inj h z)) h4
theorem sh_ties : TiesOk 700 (m : Int) ((us.map pN).map nrm34) := by
  obtain ⟨_, h3, _, h5, _⟩ := sh_parts h
  refine ⟨fun p hp => ?_, sh_nd h, ?_, by rw [List.length_map, List.length_map]; exact h5⟩
  · obtain ⟨r, hr, rfl⟩ := List.mem_map.mp hp
    obtain ⟨q, hq, rfl⟩ := List.mem_map.mp hr
    rw [nrm34_pN]
    have := h3 q hq
    show (0 : Int) ≤ ((min q.1 q.2 : Nat) : Int) ∧ ((min q.1 q.2 : Nat) : Int) < ((max q.1 q.2 : Nat) : Int) ∧ ((max q.1 q.2 : Nat) : Int) < (m : Int)
    omega
  · exact (sh_conn h).mono fun p hp => (sortP_perm _).mem_iff.mp hp
theorem sh_web : WebOk (m : Int) (shW us) := by
  obtain ⟨⟨h1, h2⟩, _⟩ := sh_parts h
  have T := sh_ties h
  have P := sortP_perm ((us.map pN).map nrm34)
  refine ⟨by omega, by omega, fun p hp => T.rg p (P.mem_iff.mp hp), P.nodup_iff.mpr T.nd, sh_conn h, by unfold shW; rw [P.length_eq]; exact T.len, ?_⟩
  exact (sortP_eq (List.Perm.refl _) (sortP_sorted _)).symm
theorem sh_dst {i v : Int} (i0 : 0 ≤ i) (i1 : i < m) (v0 : 0 ≤ v) (v1 : v < m) : dst (m : Int) (shW us) i v = (d i.toNat v.toNat : Int) := by
  have D := sh_dist h (i := i.toNat) (by omega)
  rw [show ((i.toNat : Nat) : Int) = i by omega] at D
  exact (dst_eq D v v0 v1).symm
end
def nodupB : List Nat → Bool
  | [] => true
  | x :: l => !(l.any fun y => Nat.beq x y) && nodupB l
theorem nodupB_iff : ∀ {l : List Nat}, nodupB l = true ↔ l.Nodup
  | [] => ⟨fun _ => List.nodup_nil, fun _ => rfl⟩
  | x :: l => by
    have ih := nodupB_iff (l := l)
    unfold nodupB
    rw [Bool.and_eq_true, ih, List.nodup_cons, Bool.not_eq_true', ← Bool.not_eq_true, List.any_eq_true]
    constructor
    · rintro ⟨h1, h2⟩
      exact ⟨fun hx => h1 ⟨x, hx, Nat.beq_refl x⟩, h2⟩
    · rintro ⟨h1, h2⟩
      exact ⟨fun ⟨y, hy, e⟩ => h1 (by rw [Nat.eq_of_beq_eq_true e]; exact hy), h2⟩
theorem nodup_map_iff {α β : Type} {l : List α} (f : α → β) (hd : l.Nodup) : (l.map f).Nodup ↔ ∀ x ∈ l, ∀ y ∈ l, x ≠ y → f x ≠ f y := by
  induction l with
  | nil => exact ⟨fun _ _ h => (nomatch h), fun _ => List.nodup_nil⟩
  | cons a l ih =>
    obtain ⟨d1, d2⟩ := List.nodup_cons.mp hd
    rw [List.map_cons, List.nodup_cons, ih d2, List.mem_map]
    constructor
    · rintro ⟨h1, h2⟩ x hx y hy hne
      rcases List.mem_cons.mp hx with ex | hx'
      · rcases List.mem_cons.mp hy with ey | hy'
        · exact absurd (ex.trans ey.symm) hne
        · exact fun e => h1 ⟨y, hy', by rw [← e, ex]⟩
      · rcases List.mem_cons.mp hy with ey | hy'
        · exact fun e => h1 ⟨x, hx', by rw [e, ey]⟩
        · exact h2 x hx' y hy' hne
    · intro h
      exact ⟨fun ⟨y, hy, e⟩ => h a List.mem_cons_self y (List.mem_cons_of_mem _ hy) (fun z => d1 (z ▸ hy)) e.symm, fun x hx y hy hne => h x (List.mem_cons_of_mem _ hx) y (List.mem_cons_of_mem _ hy) hne⟩
/-- the things of a shape, places as a pair twice the same -/
def plN (m : Nat) : List (Nat × Nat) := (List.range m).map fun i => (i, i)
def tiN (us : List (Nat × Nat)) : List (Nat × Nat) := us.map fun p => (min p.1 p.2, max p.1 p.2)
def thN (m : Nat) (us : List (Nat × Nat)) (k : Str) : List (Nat × Nat) := if k = ("places" : Str) then plN m else if k = ("ties" : Str) then tiN us else plN m ++ tiN us
def mkT (p : Nat × Nat) : Thing := if p.1 = p.2 then .pl p.1 else .ti p.1 p.2
def cdS (d : Nat → Nat → Nat) (ls : List Nat) (p : Nat × Nat) : Nat := ls.foldl (fun c l => c * 64 + min (d l p.1) (d l p.2)) 0
def knownB (m : Nat) (us : List (Nat × Nat)) (d : Nat → Nat → Nat) (k : Str) (ls : List Nat) : Bool := nodupB ((thN m us k).map (cdS d ls))
theorem cdS_eq {d : Nat → Nat → Nat} {p q : Nat × Nat} : ∀ (ls : List Nat), (∀ l ∈ ls, min (d l p.1) (d l p.2) < 64 ∧ min (d l q.1) (d l q.2) < 64) → (cdS d ls p = cdS d ls q ↔ ∀ l ∈ ls, min (d l p.1) (d l p.2) = min (d l q.1) (d l q.2)) := by
  have key : ∀ (ls : List Nat) (c e : Nat), (∀ l ∈ ls, min (d l p.1) (d l p.2) < 64 ∧ min (d l q.1) (d l q.2) < 64) → (ls.foldl (fun c l => c * 64 + min (d l p.1) (d l p.2)) c = ls.foldl (fun c l => c * 64 + min (d l q.1) (d l q.2)) e ↔ c = e ∧ ∀ l ∈ ls, min (d l p.1) (d l p.2) = min (d l q.1) (d l q.2)) := by
    intro ls
    induction ls with
    | nil => exact fun c e _ => ⟨fun h => ⟨h, fun _ z => nomatch z⟩, fun h => h.1⟩
    | cons l ls ih =>
      intro c e hl
      have h0 := hl l List.mem_cons_self
      rw [List.foldl_cons, List.foldl_cons, ih _ _ fun x hx => hl x (List.mem_cons_of_mem _ hx)]
      constructor
      · rintro ⟨h1, h2⟩
        refine ⟨by omega, fun x hx => ?_⟩
        rcases List.mem_cons.mp hx with rfl | hx
        · omega
        · exact h2 x hx
      · rintro ⟨h1, h2⟩
        have := h2 l List.mem_cons_self
        exact ⟨by omega, fun x hx => h2 x (List.mem_cons_of_mem _ hx)⟩
  intro ls hl
  unfold cdS
  rw [key ls 0 0 hl]
  exact ⟨fun h => h.2, fun h => ⟨rfl, h⟩⟩
theorem known_iff34 {n : Int} {ts : List (Int × Int)} {ls : List Int} {k : Str} (h : WebOk n ts) : likesL n ts ls k = [] ↔ ∀ X ∈ kindT n ts k, ∀ Y ∈ kindT n ts k, X ≠ Y → codeT n ts ls X ≠ codeT n ts ls Y := by
  constructor
  · intro e X hX Y hY hne he
    obtain ⟨r, hr, _⟩ := (likes_both hX hY hne).mpr he
    rw [e] at hr
    cases hr
  · intro hd
    refine List.eq_nil_iff_forall_not_mem.mpr fun r hr => ?_
    obtain ⟨t, ht, e, hlen⟩ := likesG_mem.mp hr
    have hn : r.Nodup := e ▸ (kindT_nodup h).filter _
    have e0 : r[0] ∈ r := List.getElem_mem (by omega)
    have e1 : r[1] ∈ r := List.getElem_mem (by omega)
    have hne : r[0] ≠ r[1] := fun z => by
      have := (List.getElem_inj hn).mp z
      omega
    have m0 : r[0] ∈ (kindT n ts k).filter (fun u => decide (codeT n ts ls u = codeT n ts ls t)) := e ▸ e0
    have m1 : r[1] ∈ (kindT n ts k).filter (fun u => decide (codeT n ts ls u = codeT n ts ls t)) := e ▸ e1
    exact hd _ (List.mem_filter.mp m0).1 _ (List.mem_filter.mp m1).1 hne ((of_decide_eq_true (List.mem_filter.mp m0).2).trans (of_decide_eq_true (List.mem_filter.mp m1).2).symm)
section
variable {m : Nat} {us : List (Nat × Nat)} {d : Nat → Nat → Nat} {k : Str} (h : shapeB m us d = true)
include h
theorem th_rg {p : Nat × Nat} (hp : p ∈ thN m us k) : p.1 < m ∧ p.2 < m ∧ p.1 ≤ p.2 := by
  obtain ⟨_, h3, _⟩ := sh_parts h
  have pl : p ∈ plN m → p.1 < m ∧ p.2 < m ∧ p.1 ≤ p.2 := fun hp => by
    obtain ⟨i, hi, rfl⟩ := List.mem_map.mp hp
    have := List.mem_range.mp hi
    exact ⟨this, this, Nat.le_refl _⟩
  have ti : p ∈ tiN us → p.1 < m ∧ p.2 < m ∧ p.1 ≤ p.2 := fun hp => by
    obtain ⟨q, hq, rfl⟩ := List.mem_map.mp hp
    have := h3 q hq
    show min q.1 q.2 < m ∧ max q.1 q.2 < m ∧ min q.1 q.2 ≤ max q.1 q.2
    omega
  unfold thN at hp
  split at hp
  · exact pl hp
  · split at hp
    · exact ti hp
    · exact (List.mem_append.mp hp).elim pl ti
theorem plN_nd : (plN m).Nodup := by
  unfold plN
  exact List.Pairwise.map _ (fun a b (hne : a ≠ b) z => hne (by injection z)) List.nodup_range
theorem ti_ne {p : Nat × Nat} (hp : p ∈ tiN us) : p.1 ≠ p.2 := by
  obtain ⟨_, h3, _⟩ := sh_parts h
  obtain ⟨q, hq, rfl⟩ := List.mem_map.mp hp
  have := h3 q hq
  show min q.1 q.2 ≠ max q.1 q.2
  omega
theorem th_nd : (thN m us k).Nodup := by
  obtain ⟨_, _, h4, _⟩ := sh_parts h
  have t : (tiN us).Nodup := h4
  unfold thN
  split
  · exact plN_nd h
  · split
    · exact t
    · rw [List.nodup_append]
      refine ⟨plN_nd h, t, fun a ha b hb e => ?_⟩
      obtain ⟨i, _, rfl⟩ := List.mem_map.mp ha
      exact ti_ne h hb (by rw [← e])
theorem th_mem {X : Thing} : X ∈ kindT (m : Int) (shW us) k ↔ ∃ p ∈ thN m us k, X = mkT p := by
  have pl : ∀ X, X ∈ mkpl (rng 0 (m : Int)) ↔ ∃ p ∈ plN m, X = mkT p := fun X => by
    rw [pl_mem]
    constructor
    · rintro ⟨i, rfl, i0, i1⟩
      refine ⟨(i.toNat, i.toNat), List.mem_map.mpr ⟨i.toNat, List.mem_range.mpr (by omega), rfl⟩, ?_⟩
      unfold mkT
      rw [if_pos rfl]
      congr 1
      show i = ((i.toNat : Nat) : Int)
      omega
    · rintro ⟨p, hp, rfl⟩
      obtain ⟨i, hi, rfl⟩ := List.mem_map.mp hp
      have := List.mem_range.mp hi
      exact ⟨(i : Int), by unfold mkT; rw [if_pos rfl], by omega, by omega⟩
  have ti : ∀ X, X ∈ mkti (shW us) ↔ ∃ p ∈ tiN us, X = mkT p := fun X => by
    rw [ti_mem]
    constructor
    · rintro ⟨a, b, rfl, hab⟩
      obtain ⟨q, hq, e⟩ := shW_mem.mp hab
      have hm : (min q.1 q.2, max q.1 q.2) ∈ tiN us := List.mem_map.mpr ⟨q, hq, rfl⟩
      refine ⟨_, hm, ?_⟩
      unfold mkT
      rw [if_neg (ti_ne h hm)]
      unfold pN at e
      injection e with e1 e2
      rw [e1, e2]
    · rintro ⟨p, hp, rfl⟩
      obtain ⟨q, hq, e⟩ := List.mem_map.mp hp
      unfold mkT
      rw [if_neg (ti_ne h hp)]
      exact ⟨_, _, rfl, shW_mem.mpr ⟨q, hq, by rw [← e]; rfl⟩⟩
  unfold kindT thN
  by_cases h1 : k = ("places" : Str)
  · rw [if_pos (decide_eq_true h1), if_pos h1]; exact pl X
  · rw [if_neg (by rw [decide_eq_true_eq]; exact h1), if_neg h1]
    by_cases h2 : k = ("ties" : Str)
    · rw [if_pos (decide_eq_true h2), if_pos h2]; exact ti X
    · rw [if_neg (by rw [decide_eq_true_eq]; exact h2), if_neg h2]
      unfold allT
      rw [List.mem_append, pl, ti]
      constructor
      · rintro (⟨p, hp, e⟩ | ⟨p, hp, e⟩)
        · exact ⟨p, List.mem_append_left _ hp, e⟩
        · exact ⟨p, List.mem_append_right _ hp, e⟩
      · rintro ⟨p, hp, e⟩
        rcases List.mem_append.mp hp with hp | hp
        · exact .inl ⟨p, hp, e⟩
        · exact .inr ⟨p, hp, e⟩
theorem th_inj {p q : Nat × Nat} (e : mkT p = mkT q) : p = q := by
  unfold mkT at e
  split at e
  · split at e
    · injection e with e1
      exact Prod.ext (by omega) (by omega)
    · cases e
  · split at e
    · cases e
    · injection e with e1 e2
      exact Prod.ext (by omega) (by omega)
theorem th_far {p : Nat × Nat} (hp : p ∈ thN m us k) {l : Int} (l0 : 0 ≤ l) (l1 : l < m) : farT (m : Int) (shW us) l (mkT p) = (min (d l.toNat p.1) (d l.toNat p.2) : Nat) := by
  have hr := th_rg h hp
  unfold mkT
  by_cases q : p.1 = p.2
  · rw [if_pos q]
    show dst (m : Int) (shW us) l (p.1 : Int) = _
    rw [sh_dst h l0 l1 (by omega) (by omega), Int.toNat_natCast, q, Nat.min_self]
  · rw [if_neg q]
    show min2 (dst (m : Int) (shW us) l (p.1 : Int)) (dst (m : Int) (shW us) l (p.2 : Int)) = _
    rw [sh_dst h l0 l1 (by omega) (by omega), sh_dst h l0 l1 (by omega) (by omega), Int.toNat_natCast, Int.toNat_natCast]
    rcases mm_cases (d l.toNat p.1 : Int) (d l.toNat p.2 : Int) with ⟨e1, _, _⟩ | ⟨e1, _, _⟩ <;> rw [e1] <;> omega
theorem sh_known {ls : List Int} (hl : ∀ l ∈ ls, 0 ≤ l ∧ l < (m : Int)) : (∀ X ∈ kindT (m : Int) (shW us) k, ∀ Y ∈ kindT (m : Int) (shW us) k, X ≠ Y → codeT (m : Int) (shW us) ls X ≠ codeT (m : Int) (shW us) ls Y) ↔ knownB m us d k (ls.map Int.toNat) = true := by
  have lt64 : ∀ p ∈ thN m us k, ∀ l ∈ ls.map Int.toNat, min (d l p.1) (d l p.2) < 64 := fun p hp l hm => by
    obtain ⟨z, hz, rfl⟩ := List.mem_map.mp hm
    have hr := th_rg h hp
    have hz' := hl z hz
    have h60 := (sh_parts h).1.2
    have e := sh_dst h hz'.1 hz'.2 (v := (p.1 : Int)) (by omega) (by omega)
    have := (web_dist (sh_web h) hz'.1 hz'.2).lt (p.1 : Int) (by omega) (by omega)
    rw [e, Int.toNat_natCast] at this
    omega
  have ce : ∀ p ∈ thN m us k, ∀ q ∈ thN m us k, codeT (m : Int) (shW us) ls (mkT p) = codeT (m : Int) (shW us) ls (mkT q) ↔ cdS d (ls.map Int.toNat) p = cdS d (ls.map Int.toNat) q := fun p hp q hq => by
    rw [codeT_eq, cdS_eq _ fun l hm => ⟨lt64 p hp l hm, lt64 q hq l hm⟩]
    constructor
    · intro e l hm
      obtain ⟨z, hz, rfl⟩ := List.mem_map.mp hm
      have hz' := hl z hz
      have := e z hz
      rw [th_far h hp hz'.1 hz'.2, th_far h hq hz'.1 hz'.2] at this
      omega
    · intro e z hz
      have hz' := hl z hz
      rw [th_far h hp hz'.1 hz'.2, th_far h hq hz'.1 hz'.2, e z.toNat (List.mem_map.mpr ⟨z, hz, rfl⟩)]
  unfold knownB
  rw [nodupB_iff, nodup_map_iff _ (th_nd h)]
  constructor
  · intro H p hp q hq hne e
    exact H (mkT p) ((th_mem h).mpr ⟨p, hp, rfl⟩) (mkT q) ((th_mem h).mpr ⟨q, hq, rfl⟩) (fun z => hne (th_inj h z)) ((ce p hp q hq).mpr e)
  · intro H X hX Y hY hne e
    obtain ⟨p, hp, rfl⟩ := (th_mem h).mp hX
    obtain ⟨q, hq, rfl⟩ := (th_mem h).mp hY
    exact H p hp q hq (fun z => hne (by rw [z])) ((ce p hp q hq).mp e)
/-- what is known in a shape whose places are called otherwise -/
theorem named_known {o : List Int} (ho : o.Perm (rng 0 (m : Int))) {ls : List Int} (hl : LooksOk (m : Int) ls) : is_known ((m : Int), ⟨sortP ((shW us).map (moved o))⟩) (sortI (ls.map (nmO o))) k = R.ok (knownB m us d k (ls.map Int.toNat)) := by
  have hw := sh_web h
  have hw' := moved_web ho hw
  rw [is_known_ok hw' (looks_moved ho hw hl)]
  congr 1
  rw [Bool.eq_iff_iff, decide_eq_true_iff, known_iff34 hw', ← sh_known h hl.rg]
  have ce : ∀ X Y, X ∈ kindT (m : Int) (shW us) k → Y ∈ kindT (m : Int) (shW us) k → (codeT (m : Int) (sortP ((shW us).map (moved o))) (sortI (ls.map (nmO o))) (mvT o X) = codeT (m : Int) (sortP ((shW us).map (moved o))) (sortI (ls.map (nmO o))) (mvT o Y) ↔ codeT (m : Int) (shW us) ls X = codeT (m : Int) (shW us) ls Y) := fun X Y hX hY => by
    rw [codeT_eq, codeT_eq]
    constructor
    · intro e l hm
      have hr := hl.rg l hm
      have := e (nmO o l) (sortI_mem.mpr (List.mem_map.mpr ⟨l, hm, rfl⟩))
      rw [far_moved ho hw (kindT_ok hX) hr.1 hr.2, far_moved ho hw (kindT_ok hY) hr.1 hr.2] at this
      exact this
    · intro e l hm
      obtain ⟨z, hz, rfl⟩ := List.mem_map.mp (sortI_mem.mp hm)
      have hr := hl.rg z hz
      rw [far_moved ho hw (kindT_ok hX) hr.1 hr.2, far_moved ho hw (kindT_ok hY) hr.1 hr.2]
      exact e z hz
  constructor
  · intro H X hX Y hY hne e
    exact H _ ((kind_moved ho hw).mpr ⟨X, hX, rfl⟩) _ ((kind_moved ho hw).mpr ⟨Y, hY, rfl⟩) (fun z => hne (mv_inj ho hw (kindT_ok hX) (kindT_ok hY) z)) ((ce X Y hX hY).mpr e)
  · intro H X' hX' Y' hY' hne e
    obtain ⟨X, hX, rfl⟩ := (kind_moved ho hw).mp hX'
    obtain ⟨Y, hY, rfl⟩ := (kind_moved ho hw).mp hY'
    exact H X hX Y hY (fun z => hne (by rw [z])) ((ce X Y hX hY).mp e)
/-- a web made of a shape, its places called otherwise -/
theorem named_web {o : List Int} (ho : o.Perm (rng 0 (m : Int))) {us2 : List (Int × Int)} (e : us2 = us.map pN) : law_named o (m : Int) us2 = R.ok ((m : Int), ⟨sortP ((shW us).map (moved o))⟩) := by
  subst e
  obtain ⟨⟨h1, h2⟩, h3, _, h5, _⟩ := sh_parts h
  refine po_iff ?_
  unfold law_named
  refine po_mapGE (g := fun p => (nmO o p.1, nmO o p.2)) (by rw [List.length_map]; omega) (fun p hp => ?_) ?_
  · obtain ⟨q, hq, rfl⟩ := List.mem_map.mp hp
    have hr := h3 q hq
    obtain ⟨x, ex, _⟩ := perm_get ho (by omega) (k := ((q.1 : Nat) : Int)) (by omega) (by omega)
    obtain ⟨y, ey, _⟩ := perm_get ho (by omega) (k := ((q.2 : Nat) : Int)) (by omega) (by omega)
    refine po_iff (po_getE (x := nmO o (q.1 : Int)) (getI_eq (by show (0 : Int) ≤ (q.1 : Int); omega) ?_) (po_getE (x := nmO o (q.2 : Int)) (getI_eq (by show (0 : Int) ≤ (q.2 : Int); omega) ?_) rfl))
    · show o[((q.1 : Int)).toNat]? = some (o.getD ((q.1 : Int)).toNat 0)
      rw [List.getD_eq_getElem?_getD, ex]; rfl
    · show o[((q.2 : Int)).toNat]? = some (o.getD ((q.2 : Int)).toNat 0)
      rw [List.getD_eq_getElem?_getD, ey]; rfl
  · have hw' := moved_web ho (sh_web h)
    have e : made_web (m : Int) ((us.map pN).map fun p => (nmO o p.1, nmO o p.2)) = R.ok ((m : Int), ⟨sortP ((shW us).map (moved o))⟩) := made_ok hw' ?_
    · show Post (made_web (m : Int) ((us.map pN).map fun p => (nmO o p.1, nmO o p.2)) >>= _) _ _
      rw [e, ok_bind]
      exact rfl
    refine List.Perm.trans ?_ (sortP_perm _).symm
    refine List.Perm.trans ?_ ((sortP_perm ((us.map pN).map nrm34)).symm.map (moved o))
    refine List.Perm.of_eq ?_
    rw [List.map_map, List.map_map, List.map_map, List.map_map]
    refine List.map_congr_left fun q hq => ?_
    show nrm (nmO o (q.1 : Int), nmO o (q.2 : Int)) = moved o (nrm34 (pN q))
    rw [nrm34_pN]
    unfold moved nrm nmO pN
    dsimp only
    by_cases l : q.1 ≤ q.2
    · rw [show min q.1 q.2 = q.1 by omega, show max q.1 q.2 = q.2 by omega]
    · rw [show min q.1 q.2 = q.2 by omega, show max q.1 q.2 = q.1 by omega]
      rcases mm_cases (o.getD ((q.1 : Nat) : Int).toNat 0) (o.getD ((q.2 : Nat) : Int).toNat 0) with ⟨e1, e2, l1⟩ | ⟨e1, e2, l1⟩ <;> rcases mm_cases (o.getD ((q.2 : Nat) : Int).toNat 0) (o.getD ((q.1 : Nat) : Int).toNat 0) with ⟨e3, e4, l2⟩ | ⟨e3, e4, l2⟩ <;> rw [e1, e2, e3, e4]
      · congr 1 <;> omega
      · congr 1 <;> omega
end
/-! ### grids -/
abbrev T2 (a b : Int) : Tup Int := ⟨[a, b]⟩
/-- a whole side between the two -/
def Kn (W H a b c d : Int) : Prop := (a = c ∧ (a = 0 ∨ a = W - 1) ∧ ((b = 0 ∧ d = H - 1) ∨ (b = H - 1 ∧ d = 0))) ∨ (b = d ∧ (b = 0 ∨ b = H - 1) ∧ ((a = 0 ∧ c = W - 1) ∨ (a = W - 1 ∧ c = 0)))
instance (W H a b c d : Int) : Decidable (Kn W H a b c d) := by unfold Kn; infer_instance
theorem sort2g (x y : Int) : sortI [x, y] = if x ≤ y then [x, y] else [y, x] := by
  split
  · exact (sortI_eq (List.Perm.refl _) (by simpa using by assumption)).symm
  · exact (sortI_eq (List.Perm.swap _ _ _) (by simp; omega)).symm
theorem sort_twog {x y L : Int} (hL : 0 ≤ L) : sortI [x, y] = [0, L] ↔ (x = 0 ∧ y = L) ∨ (x = L ∧ y = 0) := by
  rw [sort2g]
  split <;> simp <;> omega
theorem inB_two {x a b : Int} : inB x [a, b] = decide (x = a ∨ x = b) := by
  unfold inB
  rw [decide_eq_decide]
  simp
theorem at0 (a b : Int) : getI [a, b] 0 = R.ok a := rfl
theorem at1 (a b : Int) : getI [a, b] 1 = R.ok b := rfl
theorem rng2 : rng 0 2 = [0, 1] := rfl
theorem grid_eq {W H a b c d : Int} (hW : 2 ≤ W) (hH : 2 ≤ H) : grid_known W H (T2 a b) (T2 c d) = R.ok (decide (Kn W H a b c d)) := by
  have e0 : (1 : Int) - 0 = 1 := rfl
  have e1 : (1 : Int) - 1 = 0 := rfl
  unfold grid_known side_number
  simp only [rng2, foldX, inB_two, e0, e1, at0, at1, ok_bind, List.mem_cons, List.mem_nil_iff, or_false, sort_twog (show 0 ≤ H - 1 by omega), sort_twog (show 0 ≤ W - 1 by omega), decide_eq_true_eq]
  by_cases h1 : a = c <;> by_cases h2 : (a = 0 ∨ a = W - 1) <;> by_cases h3 : ((b = 0 ∧ d = H - 1) ∨ (b = H - 1 ∧ d = 0)) <;> by_cases h4 : b = d <;> by_cases h5 : (b = 0 ∨ b = H - 1) <;> by_cases h6 : ((a = 0 ∧ c = W - 1) ∨ (a = W - 1 ∧ c = 0)) <;> (first | rw [if_pos h1] | rw [if_neg h1]) <;> (try rw [if_pos h2]) <;> (try rw [if_neg h2]) <;> (try rw [decide_eq_true h2]) <;> (try rw [decide_eq_false h2]) <;> (try rw [if_pos h3]) <;> (try rw [if_neg h3]) <;> (try rw [decide_eq_true h5]) <;> (try rw [decide_eq_false h5]) <;> (try rw [if_pos h4]) <;> (try rw [if_neg h4]) <;> (try rw [if_pos h5]) <;> (try rw [if_neg h5]) <;> (try rw [if_pos h6]) <;> (try rw [if_neg h6]) <;> (unfold Kn; first | exact congrArg R.ok (decide_eq_true (by omega)).symm | exact congrArg R.ok (decide_eq_false (by omega)).symm)
/-! ### rows, rings, grids -/
def rowU (m : Nat) : List (Nat × Nat) := (List.range (m - 1)).map fun k => (k, k + 1)
def rowD (i j : Nat) : Nat := (i - j) + (j - i)
def ringU (m : Nat) : List (Nat × Nat) := (List.range m).map fun k => (k, (k + 1) % m)
def ringD (m i j : Nat) : Nat := min ((i + m - j) % m) ((j + m - i) % m)
def gridU (W H : Nat) : List (Nat × Nat) := ((List.range (W * H)).filterMap fun k => if Nat.beq (k % H) (H - 1) then none else some (k, k + 1)) ++ (List.range (W * H - H)).map fun k => (k, k + H)
def gridD (H i j : Nat) : Nat := rowD (i / H) (j / H) + rowD (i % H) (j % H)
theorem rowS : (List.range 12).all (fun i => shapeB (i + 1) (rowU (i + 1)) rowD) = true := by decide +kernel
theorem ringS : (List.range 8).all (fun i => shapeB (i + 3) (ringU (i + 3)) (ringD (i + 3))) = true := by decide +kernel
theorem gridS : [2, 3, 4].all (fun W => [2, 3].all fun H => shapeB (W * H) (gridU W H) (gridD H)) = true := by decide +kernel
def okB (x : R Bool) (b : Bool) : Bool := match x with
  | .ok a => a == b
  | _ => false
theorem okB_of {x : R Bool} {b : Bool} (h : okB x b = true) : x = R.ok b := by
  cases x with
  | ok a => rw [show a = b from eq_of_beq h]
  | exc e => exact nomatch (show false = true from h)
  | bad => exact nomatch (show false = true from h)
def okI (x : R Int) (b : Int) : Bool := match x with
  | .ok a => a == b
  | _ => false
theorem okI_of {x : R Int} {b : Int} (h : okI x b = true) : x = R.ok b := by
  cases x with
  | ok a => rw [show a = b from eq_of_beq h]
  | exc e => exact nomatch (show false = true from h)
  | bad => exact nomatch (show false = true from h)
def chkL (f : Int → List Int → Str → R Bool) (j m : Nat) (us : List (Nat × Nat)) (d : Nat → Nat → Nat) : Bool := (subsN j 0 m).all fun l => kinds.all fun k => okB (f m l k) (knownB m us d k (l.map Int.toNat))
theorem rowK : (List.range 12).all (fun i => chkL row_known 3 (i + 1) (rowU (i + 1)) rowD) = true := by decide +kernel
theorem ringK : (List.range 8).all (fun i => chkL ring_known 4 (i + 3) (ringU (i + 3)) (ringD (i + 3))) = true := by decide +kernel
theorem ringF : (List.range 8).all (fun i => (List.range (i + 3)).all fun a => (List.range (i + 3)).all fun b => okI (ring_far ((i + 3 : Nat) : Int) (a : Int) (b : Int)) (ringD (i + 3) a b : Int)) = true := by decide +kernel
def gridB (W H p q : Nat) : Bool := Nat.beq p q || (decide (Kn (W : Int) (H : Int) ((p / H : Nat) : Int) ((p % H : Nat) : Int) ((q / H : Nat) : Int) ((q % H : Nat) : Int)) == knownB (W * H) (gridU W H) (gridD H) "places" [min p q, max p q])
theorem gridK : [2, 3, 4].all (fun W => [2, 3].all fun H => (List.range (W * H)).all fun p => (List.range (W * H)).all fun q => gridB W H p q) = true := by decide +kernel
def cntR (m few : Int) (k : Str) : R Int := do
  let y13 ← law_sets m few
  let l15 ← filG (fun (b15 : List Int) => do
      let y19 ← ring_known m b15 k
      if y19 = true then do
        R.ok (some b15)
      else
        R.ok none) y13
  R.ok (l15.length : Int)
def chkC (m : Int) : Bool := [((2 : Int), ("places" : Str)), ((2 : Int), ("ties" : Str)), ((3 : Int), ("all" : Str))].all fun p => match ring_choices m p.2, cntR m p.1 p.2 with
  | .ok a, .ok b => a == b
  | _, _ => false
theorem choK : (List.range 8).all (fun i => chkC ((i + 3 : Nat) : Int)) = true := by decide +kernel
end G
namespace G
open PySem L2 Z
/-! ### counts of choices -/
theorem two_dvd (h : Int) : ∃ x, h * (h - 1) = 2 * x := by
  obtain ⟨k, hk⟩ : ∃ k, h = 2 * k ∨ h = 2 * k + 1 := ⟨h / 2, by omega⟩
  rcases hk with hk | hk
  · exact ⟨k * (2 * k - 1), by subst hk; grind⟩
  · exact ⟨k * (2 * k + 1), by subst hk; grind⟩
theorem six_dvd (h : Int) : ∃ x, h * (h - 1) * (h + 1) = 6 * x := by
  obtain ⟨k, hk⟩ : ∃ k, h = 6 * k ∨ h = 6 * k + 1 ∨ h = 6 * k + 2 ∨ h = 6 * k + 3 ∨ h = 6 * k + 4 ∨ h = 6 * k + 5 := ⟨h / 6, by omega⟩
  rcases hk with hk | hk | hk | hk | hk | hk
  · exact ⟨k * (6 * k - 1) * (6 * k + 1), by subst hk; grind⟩
  · exact ⟨(6 * k + 1) * k * (6 * k + 2), by subst hk; grind⟩
  · exact ⟨(3 * k + 1) * (6 * k + 1) * (2 * k + 1), by subst hk; grind⟩
  · exact ⟨(2 * k + 1) * (3 * k + 1) * (6 * k + 4), by subst hk; grind⟩
  · exact ⟨(3 * k + 2) * (2 * k + 1) * (6 * k + 5), by subst hk; grind⟩
  · exact ⟨(6 * k + 5) * (3 * k + 2) * (2 * k + 2), by subst hk; grind⟩
theorem div_of {a b c : Int} (hb : b ≠ 0) (h : a = b * c) : a / b = c := by
  rw [h, Int.mul_ediv_cancel_left _ hb]
def big : Int := 1000000000000000000000000000000000000000000000000000000000010
theorem fit1 {i : Int} (h : -big ≤ i ∧ i ≤ big) : i.natAbs < 2 ^ 400 := by
  have : i.natAbs ≤ big.natAbs := by unfold big at *; omega
  exact Nat.lt_of_le_of_lt this (by decide +kernel)
theorem fit2 {i j : Int} (hi : 0 ≤ i ∧ i ≤ big) (hj : 0 ≤ j ∧ j ≤ big) : (i * j).natAbs < 2 ^ 400 := by
  rw [Int.natAbs_mul]
  have h1 : i.natAbs ≤ big.natAbs := by unfold big at *; omega
  have h2 : j.natAbs ≤ big.natAbs := by unfold big at *; omega
  exact Nat.lt_of_le_of_lt (Nat.mul_le_mul h1 h2) (by decide +kernel)
theorem choices_pt {m : Int} {k : Str} (hk : k ≠ ("all" : Str)) (h0 : 1 ≤ m) (h1 : m ≤ big) : ring_choices m k = R.ok (m * (m - 1) / 2 - m / 2 * (1 - m % 2)) := by
  unfold ring_choices
  rw [if_neg (by rw [decide_eq_true_eq]; exact hk), po_mulW (fit1 ⟨by unfold big at *; omega, h1⟩) (fit1 ⟨by unfold big at *; omega, by omega⟩), ok_bind, po_mulW (fit1 ⟨by unfold big at *; omega, by omega⟩) (fit1 ⟨by unfold big at *; omega, by unfold big at *; omega⟩), ok_bind]
theorem choices_all {m : Int} (h0 : 2 ≤ m) (h1 : m ≤ big) : ring_choices m "all" = R.ok (m * (m - 1) * (m - 2) / 6 - m * ((m - m / 2 - 1) * (m - m / 2 - 1 - 1) / 2)) := by
  unfold ring_choices
  have a1 : 0 ≤ m - m / 2 - 1 := by omega
  have b1 : m - m / 2 - 1 ≤ big := by omega
  have f6 : ((m - m / 2 - 1) * (m - m / 2 - 1 - 1) / 2).natAbs < 2 ^ 400 := by
    obtain ⟨x, hx⟩ := two_dvd (m - m / 2 - 1)
    rw [div_of (by decide) hx]
    have e : ((m - m / 2 - 1) * (m - m / 2 - 1 - 1)).natAbs = 2 * x.natAbs := by rw [hx, Int.natAbs_mul]; rfl
    have : ((m - m / 2 - 1) * (m - m / 2 - 1 - 1)).natAbs < 2 ^ 400 := by
      by_cases q : m - m / 2 - 1 = 0
      · rw [q]; decide
      · exact fit2 ⟨a1, b1⟩ ⟨by omega, by omega⟩
    omega
  rw [if_pos (by decide), po_mulW (fit1 ⟨by unfold big at *; omega, h1⟩) (fit1 ⟨by unfold big at *; omega, by omega⟩), ok_bind,
    po_mulW (fit2 ⟨by omega, h1⟩ ⟨by omega, by omega⟩) (fit1 ⟨by unfold big at *; omega, by omega⟩), ok_bind,
    po_mulW (fit1 ⟨by unfold big at *; omega, b1⟩) (fit1 ⟨by unfold big at *; omega, by omega⟩), ok_bind, po_mulW (fit1 ⟨by unfold big at *; omega, h1⟩) f6, ok_bind]
theorem even_pt (h : Int) : 2 * h * (2 * h - 1) / 2 - 2 * h / 2 * (1 - 2 * h % 2) = 2 * h * (h - 1) := by
  rw [div_of (by decide) (show 2 * h * (2 * h - 1) = 2 * (h * (2 * h - 1)) by grind), show 2 * h / 2 = h by omega, show 2 * h % 2 = 0 by omega]
  grind
theorem odd_pt (h : Int) : (2 * h + 1) * (2 * h + 1 - 1) / 2 - (2 * h + 1) / 2 * (1 - (2 * h + 1) % 2) = h * (2 * h + 1) := by
  rw [div_of (by decide) (show (2 * h + 1) * (2 * h + 1 - 1) = 2 * (h * (2 * h + 1)) by grind), show (2 * h + 1) / 2 = h by omega, show (2 * h + 1) % 2 = 1 by omega]
  grind
theorem even_all (h : Int) : 2 * h * (2 * h - 1) * (2 * h - 2) / 6 - 2 * h * ((2 * h - 2 * h / 2 - 1) * (2 * h - 2 * h / 2 - 1 - 1) / 2) = h * (h - 1) * (h + 4) / 3 := by
  obtain ⟨z, hz⟩ := six_dvd h
  obtain ⟨x, hx⟩ := two_dvd (h - 1)
  rw [show 2 * h / 2 = h by omega, show 2 * h - h - 1 = h - 1 by omega, div_of (by decide) hx,
    div_of (by decide) (show 2 * h * (2 * h - 1) * (2 * h - 2) = 6 * (8 * z - 2 * (h * (h - 1))) by grind),
    div_of (by decide) (show h * (h - 1) * (h + 4) = 3 * (2 * z + h * (h - 1)) by grind)]
  grind
theorem odd_all (h : Int) : (2 * h + 1) * (2 * h + 1 - 1) * (2 * h + 1 - 2) / 6 - (2 * h + 1) * ((2 * h + 1 - (2 * h + 1) / 2 - 1) * (2 * h + 1 - (2 * h + 1) / 2 - 1 - 1) / 2) = (2 * h + 1) * h * (h + 1) / 6 := by
  obtain ⟨z, hz⟩ := six_dvd (2 * h)
  obtain ⟨w, hw⟩ := six_dvd h
  obtain ⟨x, hx⟩ := two_dvd h
  obtain ⟨y, hy⟩ := two_dvd (h + 1)
  rw [show (2 * h + 1) / 2 = h by omega, show 2 * h + 1 - h - 1 = h by omega, div_of (by decide) hx,
    div_of (by decide) (show (2 * h + 1) * (2 * h + 1 - 1) * (2 * h + 1 - 2) = 6 * z by grind),
    div_of (by decide) (show (2 * h + 1) * h * (h + 1) = 6 * (2 * w + y) by grind)]
  grind
/-! ### the small ones -/
theorem row_sh {m : Int} (h0 : 1 ≤ m) (h1 : m ≤ 12) : shapeB m.toNat (rowU m.toNat) rowD = true := by
  have := List.all_eq_true.mp rowS (m.toNat - 1) (List.mem_range.mpr (by omega))
  rw [show m.toNat - 1 + 1 = m.toNat by omega] at this
  exact this
theorem ring_sh {m : Int} (h0 : 3 ≤ m) (h1 : m ≤ 10) : shapeB m.toNat (ringU m.toNat) (ringD m.toNat) = true := by
  have := List.all_eq_true.mp ringS (m.toNat - 3) (List.mem_range.mpr (by omega))
  rw [show m.toNat - 3 + 3 = m.toNat by omega] at this
  exact this
theorem chk_of {f : Int → List Int → Str → R Bool} {j m : Nat} {us : List (Nat × Nat)} {d : Nat → Nat → Nat} (h : chkL f j m us d = true) {l : List Int} {k : Str} (hl : Looks (m : Int) (j : Int) l) (hk : k ∈ kinds) : f m l k = R.ok (knownB m us d k (l.map Int.toNat)) := by
  obtain ⟨p, r, n⟩ := hl
  have hm : l ∈ subsN j 0 m := subsN_mem p (by omega) fun x hx => by
    have := r x hx
    omega
  exact okB_of (List.all_eq_true.mp (List.all_eq_true.mp h l hm) k hk)
theorem row_kn {m : Int} (h0 : 1 ≤ m) (h1 : m ≤ 12) {l : List Int} {k : Str} (hl : Looks m 3 l) (hk : k ∈ kinds) : row_known m l k = R.ok (knownB m.toNat (rowU m.toNat) rowD k (l.map Int.toNat)) := by
  have := List.all_eq_true.mp rowK (m.toNat - 1) (List.mem_range.mpr (by omega))
  rw [show m.toNat - 1 + 1 = m.toNat by omega] at this
  have := chk_of this (l := l) (k := k) (by rw [show ((m.toNat : Nat) : Int) = m by omega]; exact hl) hk
  rw [show ((m.toNat : Nat) : Int) = m by omega] at this
  exact this
theorem ring_kn {m : Int} (h0 : 3 ≤ m) (h1 : m ≤ 10) {l : List Int} {k : Str} (hl : Looks m 4 l) (hk : k ∈ kinds) : ring_known m l k = R.ok (knownB m.toNat (ringU m.toNat) (ringD m.toNat) k (l.map Int.toNat)) := by
  have := List.all_eq_true.mp ringK (m.toNat - 3) (List.mem_range.mpr (by omega))
  rw [show m.toNat - 3 + 3 = m.toNat by omega] at this
  have := chk_of this (l := l) (k := k) (by rw [show ((m.toNat : Nat) : Int) = m by omega]; exact hl) hk
  rw [show ((m.toNat : Nat) : Int) = m by omega] at this
  exact this
theorem ring_ff {m a b : Int} (h0 : 3 ≤ m) (h1 : m ≤ 10) (a0 : 0 ≤ a) (a1 : a < m) (b0 : 0 ≤ b) (b1 : b < m) : ring_far m a b = R.ok (ringD m.toNat a.toNat b.toNat : Int) := by
  have := List.all_eq_true.mp ringF (m.toNat - 3) (List.mem_range.mpr (by omega))
  rw [show m.toNat - 3 + 3 = m.toNat by omega] at this
  have := okI_of (List.all_eq_true.mp (List.all_eq_true.mp this a.toNat (List.mem_range.mpr (by omega))) b.toNat (List.mem_range.mpr (by omega)))
  rw [show ((m.toNat : Nat) : Int) = m by omega, show ((a.toNat : Nat) : Int) = a by omega, show ((b.toNat : Nat) : Int) = b by omega] at this
  exact this
theorem rng_cast (n : Int) : rng 0 n = (List.range n.toNat).map fun k : Nat => (k : Int) := by
  unfold rng
  rw [show (n - 0).toNat = n.toNat by omega]
  exact List.map_congr_left fun k _ => by omega
theorem nm_get {m : Int} {o : List Int} (ho : o.Perm (rng 0 m)) {x : Int} (x0 : 0 ≤ x) (x1 : x < m) : getI o x = R.ok (nmO o x) := by
  obtain ⟨y, ey, _⟩ := perm_get ho (by omega) x0 x1
  refine getI_eq x0 ?_
  unfold nmO
  rw [List.getD_eq_getElem?_getD, ey]
  rfl
theorem nm_map {m : Int} {o : List Int} (ho : o.Perm (rng 0 m)) {l : List Int} (hl : ∀ x ∈ l, 0 ≤ x ∧ x < m) (hn : l.length < 1000) : mapG (fun (b : Int) => do
    let t ← getI o b
    R.ok t) l = R.ok (l.map (nmO o)) := mapG_ok (by omega) fun x hx => by
  rw [nm_get ho (hl x hx).1 (hl x hx).2]
  rfl
theorem kind3 : ([("places" : Str), ("ties" : Str), ("all" : Str)] : List Str) = kinds := rfl
theorem line_row {s : List Int} {m : Int} {o l : List Int} (h0 : 1 ≤ m) (h1 : m ≤ 12) (ho : o.Perm (rng 0 m)) (hl : Looks m 3 l) : law_line s (m, ⟨sortP ((shW (rowU m.toNat)).map (moved o))⟩) o l = R.ok (true, s) := by
  refine po_iff ?_
  unfold law_line
  rw [kind3]
  refine po_bind (po_foldX (fun _ => True) trivial fun _ k _ hk => ?_) fun r ⟨_, e, _⟩ => by rw [e]; exact rfl
  have hlen : l.length < 1000 := by have := hl.2.2; omega
  have hs := row_sh h0 h1
  have e := named_known (k := k) hs (o := o) (by rw [show ((m.toNat : Nat) : Int) = m by omega]; exact ho) (ls := l) (by rw [show ((m.toNat : Nat) : Int) = m by omega]; exact ⟨hl.2.1, hl.1⟩)
  rw [show ((m.toNat : Nat) : Int) = m by omega] at e
  rw [row_kn h0 h1 hl hk, ok_bind, nm_map ho hl.2.1 hlen, ok_bind]
  refine po_bind (Q := fun j => j = false) (po_if (fun c => absurd c (by decide)) fun _ => ?_) fun j hj => ?_
  · rw [e, ok_bind, decide_eq_true rfl]
    rfl
  · rw [hj]
    exact po_if (fun c => absurd c (by decide)) fun _ => ⟨(), rfl, trivial⟩
theorem line_ring {s : List Int} {m : Int} {o l : List Int} (h0 : 3 ≤ m) (h1 : m ≤ 10) (ho : o.Perm (rng 0 m)) (hl : Looks m 4 l) : law_linering s (m, ⟨sortP ((shW (ringU m.toNat)).map (moved o))⟩) o l = R.ok (true, s) := by
  refine po_iff ?_
  unfold law_linering
  rw [kind3]
  refine po_bind (po_foldX (fun _ => True) trivial fun _ k _ hk => ?_) fun r ⟨_, e, _⟩ => by rw [e]; exact rfl
  have hlen : l.length < 1000 := by have := hl.2.2; omega
  have hs := ring_sh h0 h1
  have e := named_known (k := k) hs (o := o) (by rw [show ((m.toNat : Nat) : Int) = m by omega]; exact ho) (ls := l) (by rw [show ((m.toNat : Nat) : Int) = m by omega]; exact ⟨hl.2.1, hl.1⟩)
  rw [show ((m.toNat : Nat) : Int) = m by omega] at e
  rw [ring_kn h0 h1 hl hk, ok_bind, nm_map ho hl.2.1 hlen, ok_bind]
  refine po_bind (Q := fun j => j = false) (po_if (fun c => absurd c (by decide)) fun _ => ?_) fun j hj => ?_
  · rw [e, ok_bind, decide_eq_true rfl]
    rfl
  · rw [hj]
    exact po_if (fun c => absurd c (by decide)) fun _ => ⟨(), rfl, trivial⟩
theorem lines_ok {s : List Int} (h : Ok2 s) : Post (law_lines_right s) (fun r => r.1 = true ∧ Ok2 r.2) noX := by
  unfold law_lines_right
  refine po_bind (next_ok h (by decide) (by decide)) fun y2 ⟨a0, a1, p2⟩ => ?_
  generalize hm : (1 : Int) + y2.1 = m
  have m1 : 1 ≤ m := by omega
  have m2 : m ≤ 12 := by omega
  have em : ((m.toNat : Nat) : Int) = m := by omega
  refine po_bind (order_ok p2 (by omega) (by omega)) fun y3 ⟨ho, p3⟩ => ?_
  refine po_rng (by decide) (by decide) (by omega) (by omega) ?_
  refine po_mapGE (g := fun b => (b, b + 1)) (by rw [rng_length]; omega) (fun _ _ => rfl) ?_
  have e1 := named_web (row_sh m1 m2) (o := y3.1) (by rw [em]; exact ho) (us2 := (rng 0 (m - 1)).map fun b => (b, b + 1)) (by
    rw [rng_cast]
    unfold rowU
    rw [List.map_map, List.map_map, show (m - 1).toNat = m.toNat - 1 by omega]
    exact List.map_congr_left fun k _ => by show ((k : Int), (k : Int) + 1) = pN (k, k + 1); unfold pN; rfl)
  rw [em] at e1
  rw [e1, ok_bind]
  refine po_bind (drawn_looks p3 (by omega) (by decide) (by decide)) fun y15 ⟨hl, p15⟩ => ?_
  show Post (law_line y15.2 (m, _) y3.1 y15.1 >>= _) _ _
  rw [line_row m1 m2 ho hl, ok_bind]
  refine po_if (fun c => absurd c Bool.false_ne_true) fun _ => ?_
  refine po_bind (next_ok p15 (by decide) (by decide)) fun y20 ⟨b0, b1, p20⟩ => ?_
  clear hm e1
  generalize hm : (3 : Int) + y20.1 = m
  have m1 : 3 ≤ m := by omega
  have m2 : m ≤ 10 := by omega
  have em : ((m.toNat : Nat) : Int) = m := by omega
  refine po_bind (order_ok p20 (by omega) (by omega)) fun y21 ⟨ho, p21⟩ => ?_
  refine po_rng (by decide) (by decide) (by omega) (by omega) ?_
  refine po_mapGE (g := fun b => (b, (b + 1) % m)) (by rw [rng_length]; omega) (fun b _ => by rw [modI_ok (by omega)]; rfl) ?_
  have e1 := named_web (ring_sh m1 m2) (o := y21.1) (by rw [em]; exact ho) (us2 := (rng 0 m).map fun b => (b, (b + 1) % m)) (by
    rw [rng_cast]
    unfold ringU
    rw [List.map_map, List.map_map]
    exact List.map_congr_left fun k _ => by
      show ((k : Int), ((k : Int) + 1) % m) = pN (k, (k + 1) % m.toNat)
      unfold pN
      dsimp only
      rw [Int.natCast_emod, em]
      rfl)
  rw [em] at e1
  rw [e1, ok_bind]
  refine po_bind (next_ok p21 (by omega) (by omega)) fun y34 ⟨c0, c1, p34⟩ => po_bind (next_ok p34 (by omega) (by omega)) fun y35 ⟨d0, d1, p35⟩ => ?_
  have hs := ring_sh m1 m2
  have hw := sh_web hs
  rw [em] at hw
  have hw' := moved_web ho hw
  have q1 := nm_rg ho hw c0 c1
  have q2 := nm_rg ho hw d0 d1
  have ed : dst m (sortP ((shW (ringU m.toNat)).map (moved y21.1))) (nmO y21.1 y34.1) (nmO y21.1 y35.1) = (ringD m.toNat y34.1.toNat y35.1.toNat : Int) := by
    rw [dst_moved ho hw c0 c1 d0 d1]
    have := sh_dst hs (i := y34.1) (v := y35.1) c0 (by omega) d0 (by omega)
    rw [em] at this
    exact this
  rw [ring_ff m1 m2 c0 c1 d0 d1, ok_bind, nm_get ho c0 c1, ok_bind, nm_get ho d0 d1, ok_bind, between_ok hw' q1.1 q1.2 q2.1 q2.2, ok_bind, ed]
  refine po_if (fun c => ?_) fun _ => ?_
  · rw [decide_eq_true rfl] at c
    cases c
  refine po_bind (po_foldX (fun g => Ok2 g) p35 fun g b hg _ => ?_) fun r ⟨g, e, hg⟩ => by rw [e]; exact ⟨rfl, hg⟩
  refine po_bind (drawn_looks hg (by omega) (by decide) (by decide)) fun y42 ⟨hl, p42⟩ => ?_
  show Post (law_linering y42.2 (m, _) y21.1 y42.1 >>= _) _ _
  rw [line_ring m1 m2 ho hl, ok_bind]
  exact po_if (fun c => absurd c Bool.false_ne_true) fun _ => ⟨_, rfl, p42⟩
/-! ### grids -/
theorem grid_sh {W H : Int} (w0 : 2 ≤ W) (w1 : W ≤ 4) (h0 : 2 ≤ H) (h1 : H ≤ 3) : shapeB (W.toNat * H.toNat) (gridU W.toNat H.toNat) (gridD H.toNat) = true := by
  have a : W.toNat ∈ [2, 3, 4] := by simp; omega
  have b : H.toNat ∈ [2, 3] := by simp; omega
  exact List.all_eq_true.mp (List.all_eq_true.mp gridS _ a) _ b
theorem grid_us {W H : Int} (w0 : 2 ≤ W) (w1 : W ≤ 4) (h0 : 2 ≤ H) (h1 : H ≤ 3) : ((rng 0 (W * H)).filterMap fun b => if (!decide (b % H = H - 1)) = true then some (b, b + 1) else none) ++ ((rng 0 (W * H - H)).map fun b => (b, b + H)) = (gridU W.toNat H.toNat).map pN := by
  have hW : W = 2 ∨ W = 3 ∨ W = 4 := by omega
  have hH : H = 2 ∨ H = 3 := by omega
  rcases hW with rfl | rfl | rfl <;> rcases hH with rfl | rfl <;> decide +kernel
theorem grid_kn {W H p q : Int} (w0 : 2 ≤ W) (w1 : W ≤ 4) (h0 : 2 ≤ H) (h1 : H ≤ 3) (p0 : 0 ≤ p) (p1 : p < W * H) (q0 : 0 ≤ q) (q1 : q < W * H) (hne : p ≠ q) : grid_known W H ⟨[p / H, p % H]⟩ ⟨[q / H, q % H]⟩ = R.ok (knownB (W.toNat * H.toNat) (gridU W.toNat H.toNat) (gridD H.toNat) "places" [min p.toNat q.toNat, max p.toNat q.toNat]) := by
  have a : W.toNat ∈ [2, 3, 4] := by simp; omega
  have b : H.toNat ∈ [2, 3] := by simp; omega
  have eW : ((W.toNat : Nat) : Int) = W := by omega
  have eH : ((H.toNat : Nat) : Int) = H := by omega
  have ep : ((p.toNat : Nat) : Int) = p := by omega
  have eq : ((q.toNat : Nat) : Int) = q := by omega
  have em : ((W.toNat * H.toNat : Nat) : Int) = W * H := by rw [Int.natCast_mul, eW, eH]
  have hp : p.toNat < W.toNat * H.toNat := by omega
  have hq : q.toNat < W.toNat * H.toNat := by omega
  have g := List.all_eq_true.mp (List.all_eq_true.mp (List.all_eq_true.mp (List.all_eq_true.mp gridK _ a) _ b) p.toNat (List.mem_range.mpr hp)) q.toNat (List.mem_range.mpr hq)
  unfold gridB at g
  rw [Bool.or_eq_true] at g
  rcases g with g | g
  · have := Nat.eq_of_beq_eq_true g
    omega
  · have g' := eq_of_beq g
    rw [eW, eH, Int.natCast_ediv, Int.natCast_emod, Int.natCast_ediv, Int.natCast_emod, eH, ep, eq] at g'
    show grid_known W H (T2 (p / H) (p % H)) (T2 (q / H) (q % H)) = _
    rw [grid_eq w0 h0, g']
theorem grid_ok {s : List Int} (h : Ok2 s) : Post (law_grid_right s) (fun r => r.1 = true ∧ Ok2 r.2) noX := by
  unfold law_grid_right
  refine po_bind (next_ok h (by decide) (by decide)) fun y2 ⟨a0, a1, p2⟩ => po_bind (next_ok p2 (by decide) (by decide)) fun y3 ⟨b0, b1, p3⟩ => ?_
  generalize hW : (2 : Int) + y2.1 = W
  generalize hH : (2 : Int) + y3.1 = H
  have w0 : 2 ≤ W := by omega
  have w1 : W ≤ 4 := by omega
  have h0 : 2 ≤ H := by omega
  have h1 : H ≤ 3 := by omega
  have eW : ((W.toNat : Nat) : Int) = W := by omega
  have eH : ((H.toNat : Nat) : Int) = H := by omega
  have em : ((W.toNat * H.toNat : Nat) : Int) = W * H := by rw [Int.natCast_mul, eW, eH]
  have hWc : W = 2 ∨ W = 3 ∨ W = 4 := by omega
  have hHc : H = 2 ∨ H = 3 := by omega
  have m0 : 4 ≤ W * H ∧ W * H ≤ 12 ∧ H < W * H := by rcases hWc with e | e | e <;> rcases hHc with f | f <;> rw [e, f] <;> decide
  have mu : mulI W H = R.ok (W * H) := mulI_ok (.inl ⟨by omega, by omega⟩)
  simp only [mu, ok_bind]
  generalize hM : W * H = M at m0 em mu
  refine po_bind (order_ok p3 (by omega) (by omega)) fun y6 ⟨ho, p6⟩ => ?_
  refine po_rng (by decide) (by decide) (by omega) (by omega) ?_
  refine po_filGE (g := fun b => if (!decide (b % H = H - 1)) = true then some (b, b + 1) else none) (by rw [rng_length]; omega) (fun b _ => by
    rw [modI_ok (by omega), ok_bind]
    by_cases q : (!decide (b % H = H - 1)) = true
    · rw [if_pos q, if_pos q]
    · rw [if_neg q, if_neg q]) ?_
  refine po_rng (by decide) (by decide) (by omega) (by omega) ?_
  refine po_mapGE (g := fun b => (b, b + H)) (by rw [rng_length]; omega) (fun _ _ => rfl) ?_
  refine po_extend ?_ ?_
  · have := List.length_filterMap_le (fun b => if (!decide (b % H = H - 1)) = true then some (b, b + 1) else none) (rng 0 M)
    rw [List.length_map, rng_length]
    rw [rng_length] at this
    omega
  have hs := grid_sh w0 w1 h0 h1
  have hus := grid_us w0 w1 h0 h1
  rw [hM] at hus
  have e1 := named_web hs (o := y6.1) (by rw [em]; exact ho) hus
  rw [em] at e1
  rw [e1, ok_bind]
  have hw := sh_web hs
  rw [em] at hw
  refine po_bind (po_foldX (fun g => Ok2 g) p6 fun g b hg hb => ?_) fun r ⟨g, e, hg⟩ => by rw [e]; exact ⟨rfl, hg⟩
  have hb' := rng_mem.mp hb
  refine po_bind (next_ok hg (by omega) (by omega)) fun y33 ⟨c0, c1, p33⟩ => po_bind (next_ok p33 (by omega) (by omega)) fun y35 ⟨d0, d1, p35⟩ => ?_
  refine po_mod (by omega) fun t0 t1 => ?_
  have hne0 : y33.1 ≠ (y33.1 + 1 + y35.1) % M := fun e => by
    by_cases q : y33.1 + 1 + y35.1 < M
    · rw [Int.emod_eq_of_lt (by omega) q] at e
      omega
    · have : (y33.1 + 1 + y35.1) % M = y33.1 + 1 + y35.1 - M := by
        rw [← Int.sub_emod_right, Int.emod_eq_of_lt (by omega) (by omega)]
      omega
  refine po_bind (Q := fun g => (0 ≤ g.1 ∧ g.1 < M) ∧ (0 ≤ g.2 ∧ g.2 < M) ∧ g.1 ≠ g.2) (po_if (fun c => ?_) fun _ => ⟨⟨c0, c1⟩, ⟨t0, t1⟩, hne0⟩) fun g38 ⟨⟨u0, u1⟩, ⟨v0, v1⟩, hne⟩ => ?_
  · have c' : (1 : Int) < b := of_decide_eq_true c
    have : b = 2 ∨ b = 3 := by omega
    rcases this with rfl | rfl
    · refine po_getE (x := [(0 : Int), H - 1]) rfl (po_un2 ?_)
      exact ⟨⟨Int.le_refl 0, by show (0 : Int) < M; omega⟩, ⟨by show (0 : Int) ≤ H - 1; omega, by show H - 1 < M; omega⟩, by show (0 : Int) ≠ H - 1; omega⟩
    · refine po_getE (x := [(0 : Int), M - 1]) rfl (po_un2 ?_)
      exact ⟨⟨Int.le_refl 0, by show (0 : Int) < M; omega⟩, ⟨by show (0 : Int) ≤ M - 1; omega, by show M - 1 < M; omega⟩, by show (0 : Int) ≠ M - 1; omega⟩
  · obtain ⟨p, q⟩ := g38
    have u0' : 0 ≤ p := u0
    have u1' : p < M := u1
    have v0' : 0 ≤ q := v0
    have v1' : q < M := v1
    have hne' : p ≠ q := hne
    show Post (getI y6.1 p >>= _) _ _
    rw [nm_get ho u0' u1', ok_bind]
    show Post (getI y6.1 q >>= _) _ _
    rw [nm_get ho v0' v1', ok_bind]
    show Post (divI p H >>= _) _ _
    rw [divI_ok (by omega) (by omega), ok_bind]
    show Post (modI p H >>= _) _ _
    rw [modI_ok (by omega), ok_bind]
    show Post (divI q H >>= _) _ _
    rw [divI_ok (by omega) (by omega), ok_bind]
    show Post (modI q H >>= _) _ _
    rw [modI_ok (by omega), ok_bind]
    show Post (grid_known W H ⟨[p / H, p % H]⟩ ⟨[q / H, q % H]⟩ >>= _) _ _
    rw [grid_kn w0 w1 h0 h1 u0' (by rw [hM]; exact u1') v0' (by rw [hM]; exact v1') hne', ok_bind]
    have hl : LooksOk M [min p q, max p q] := ⟨fun l hl => by
      rcases List.mem_cons.mp hl with rfl | hl
      · omega
      · rw [List.mem_singleton.mp hl]; omega, by
      refine List.pairwise_cons.mpr ⟨fun y hy => ?_, List.pairwise_singleton _ _⟩
      rw [List.mem_singleton.mp hy]
      omega⟩
    have e := named_known (k := "places") hs (o := y6.1) (by rw [em]; exact ho) (ls := [min p q, max p q]) (by rw [em]; exact hl)
    rw [em] at e
    have es : sortI ([min p q, max p q].map (nmO y6.1)) = sortI [nmO y6.1 p, nmO y6.1 q] := by
      refine sort_uniq ((sortI_perm _).trans (List.Perm.trans ?_ (sortI_perm _).symm)) (sortI_sorted _) (sortI_sorted _)
      by_cases z : p ≤ q
      · rw [show min p q = p by omega, show max p q = q by omega]
        exact List.Perm.refl _
      · rw [show min p q = q by omega, show max p q = p by omega]
        exact List.Perm.swap _ _ _
    rw [es] at e
    have el : [min p q, max p q].map Int.toNat = [min p.toNat q.toNat, max p.toNat q.toNat] := by
      show [(min p q).toNat, (max p q).toNat] = _
      congr 1
      · omega
      · congr 1; omega
    rw [el] at e
    refine po_bind (Q := fun j => j = false) (po_if (fun c => absurd c (by decide)) fun _ => ?_) fun j hj => ?_
    · rw [e, ok_bind, decide_eq_true rfl]
      rfl
    · rw [hj]
      exact po_if (fun c => absurd c (by decide)) fun _ => ⟨_, rfl, p35⟩
theorem cho_of {m few : Int} {k : Str} (h0 : 3 ≤ m) (h1 : m ≤ 10) (hk : (few, k) ∈ [((2 : Int), ("places" : Str)), ((2 : Int), ("ties" : Str)), ((3 : Int), ("all" : Str))]) : ∃ c : Int, ring_choices m k = R.ok c ∧ cntR m few k = R.ok c := by
  have := List.all_eq_true.mp choK (m.toNat - 3) (List.mem_range.mpr (by omega))
  rw [show m.toNat - 3 + 3 = m.toNat by omega, show ((m.toNat : Nat) : Int) = m by omega] at this
  have g := List.all_eq_true.mp this (few, k) hk
  have g' : (match ring_choices m k, cntR m few k with
    | .ok a, .ok b => a == b
    | _, _ => false) = true := g
  cases q1 : ring_choices m k with
  | ok a =>
    cases q2 : cntR m few k with
    | ok b =>
      rw [q1, q2] at g'
      have e : a = b := eq_of_beq g'
      exact ⟨a, rfl, by rw [e]⟩
    | exc e => rw [q1, q2] at g'; cases g'
    | bad => rw [q1, q2] at g'; cases g'
  | exc e => rw [q1] at g'; cases g'
  | bad => rw [q1] at g'; cases g'
theorem choices_ok {s : List Int} (h : Ok2 s) : Post (law_choices_right s) (fun r => r.1 = true ∧ Ok2 r.2) noX := by
  unfold law_choices_right
  refine po_bind (next_ok h (by decide) (by decide)) fun y2 ⟨a0, a1, p2⟩ => ?_
  refine po_bind (po_foldX (fun _ => True) trivial fun _ b _ hb => ?_) fun r ⟨_, e, _⟩ => ?_
  · obtain ⟨few, k⟩ := b
    obtain ⟨c, e1, e2⟩ := cho_of (m := 3 + y2.1) (by omega) (by omega) hb
    show Post (ring_choices (3 + y2.1) k >>= _) _ _
    rw [e1, ok_bind]
    unfold cntR at e2
    obtain ⟨S, e3, e4⟩ := bind_ok_iff.mp e2
    obtain ⟨l, e5, e6⟩ := bind_ok_iff.mp e4
    have e6' : (l.length : Int) = c := by
      have : R.ok (l.length : Int) = R.ok c := e6
      injection this
    show Post (law_sets (3 + y2.1) few >>= _) _ _
    rw [e3, ok_bind]
    show Post (filG _ S >>= _) _ _
    rw [e5, ok_bind, e6', decide_eq_true rfl]
    exact po_if (fun c => absurd c (by decide)) fun _ => ⟨(), rfl, trivial⟩
  · rw [e]
    have c3 : (10 : Int) ^ (59 : Int).toNat = 100000000000000000000000000000000000000000000000000000000000 := by decide +kernel
    have e5 : mulW (5 : Int) ((10 : Int) ^ ((59 : Int) : Int).toNat) = R.ok ((5 : Int) * ((10 : Int) ^ ((59 : Int) : Int).toNat)) := po_mulW (by decide +kernel) (by decide +kernel)
    dsimp only
    rw [e5, ok_bind]
    refine po_bind (next_ok p2 (by decide) (by decide)) fun y35 ⟨b0, b1, p35⟩ => ?_
    refine po_get b0 (by show y35.1 < 3; exact b1) fun t36 ht _ => ?_
    have ht' : 0 < t36 ∧ t36 + 2 ≤ 500000000000000000000000000000000000000000000000000000000000 := by
      have c1 : (10 : Int) ^ (2 : Int).toNat = 100 := by decide +kernel
      have c2 : (10 : Int) ^ (20 : Int).toNat = 100000000000000000000 := by decide +kernel
      rw [c1, c2, c3] at ht
      rcases List.mem_cons.mp ht with rfl | ht
      · decide
      · rcases List.mem_cons.mp ht with rfl | ht
        · decide
        · rw [List.mem_singleton.mp ht]; decide
    refine po_bind (great_ok p35 ht'.1) fun y37 ⟨c0, c1, p37⟩ => ?_
    generalize hh : (2 : Int) + y37.1 = H
    have H0 : 2 ≤ H := by omega
    have H1 : H ≤ 500000000000000000000000000000000000000000000000000000000000 := by omega
    have B1 : 2 * H + 1 ≤ big := by unfold big; omega
    have ev : (2 * H : Int) = 2 * H := rfl
    refine po_bind (po_foldX (fun _ => True) trivial fun _ k _ hk => ?_) fun r ⟨_, e, _⟩ => ?_
    · have hk' : k ≠ ("all" : Str) := by
        rcases List.mem_cons.mp hk with rfl | hk
        · decide
        · rw [List.mem_singleton.mp hk]; decide
      rw [po_mulW (fit1 ⟨by unfold big at *; omega, by omega⟩) (fit1 ⟨by unfold big at *; omega, by omega⟩), ok_bind, po_mulW (fit1 ⟨by unfold big at *; omega, by omega⟩) (fit1 ⟨by unfold big at *; omega, by omega⟩), ok_bind,
        choices_pt hk' (by omega) (by omega), ok_bind, choices_pt hk' (by omega) (by omega), ok_bind, even_pt, odd_pt, decide_eq_true rfl]
      exact po_if (fun c => absurd c (by decide)) fun _ => ⟨(), rfl, trivial⟩
    · rw [e]
      dsimp only
      rw [po_mulW (fit1 ⟨by unfold big at *; omega, by unfold big at *; omega⟩) (fit1 ⟨by unfold big at *; omega, by unfold big at *; omega⟩), ok_bind, po_mulW (fit2 ⟨by omega, by omega⟩ ⟨by omega, by omega⟩) (fit1 ⟨by unfold big at *; omega, by unfold big at *; omega⟩), ok_bind,
        po_mulW (fit1 ⟨by unfold big at *; omega, by unfold big at *; omega⟩) (fit1 ⟨by unfold big at *; omega, by unfold big at *; omega⟩), ok_bind, po_mulW (fit2 ⟨by omega, by omega⟩ ⟨by omega, by omega⟩) (fit1 ⟨by unfold big at *; omega, by unfold big at *; omega⟩), ok_bind,
        choices_all (by omega) (by omega), ok_bind, choices_all (by omega) (by omega), ok_bind, even_all, odd_all, decide_eq_true rfl]
      exact ⟨rfl, p37⟩
theorem law_true (ns : List Int) (h : ns.length ≤ 63) : law ⟨ns⟩ = R.ok true := by
  refine po_iff ?_
  unfold law
  refine po_bind (folded_ok h (by decide) (by decide)) fun y3 _ => ?_
  refine po_bind (po_foldX (fun _ => True) trivial fun _ b _ _ => ?_) fun r ⟨_, e, _⟩ => by rw [e]; exact rfl
  refine po_bind (state_ok b) fun y7 h7 => ?_
  refine po_bind (Q := fun j => j.1 = false) ?_ fun j hj => ?_
  · refine po_bind (lines_ok h7) fun y10 ⟨e10, p10⟩ => ?_
    rw [e10]
    refine po_if (fun c => absurd c (by decide)) fun _ => po_bind (grid_ok p10) fun y13 ⟨e13, p13⟩ => ?_
    rw [e13]
    refine po_if (fun c => absurd c (by decide)) fun _ => po_bind (choices_ok p13) fun y16 ⟨e16, _⟩ => ?_
    rw [e16]
    rfl
  · rw [hj]
    exact po_if (fun c => absurd c (by decide)) fun _ => ⟨(), rfl, trivial⟩
end G
namespace G
open PySem L2 Z
open Rep (rep)
theorem dn_mk {K : Fg} {h : Heap} {mg : Str → Option Value} (X : K.In h) (G : h.Ns mainGlobals mg) {x y : Str} {st : Stmt} {ps : List Str} {f : Addr} {od an : Option Addr} {sl : Array (Option Value)} {oc kV dc pm cd ct : Value}
    (a : PySem.W.nsIn K mainGlobals x = some (some (.ref f))) (l : K.lookup f = some ⟨oc, od, .func (PySem.W.fnOf y y (defArgs st) (defBody st) (defScope st) .none kV dc pm an cd ct), sl⟩) (c : PySem.W.codeIn K cd y = true) (k : PySem.W.keepIn K (.ref f) = true)
    (b : ∀ (kV doc pm : Value) (an : Option Addr) (cdv ct : Value) (us : List Value), us.length = ps.length → bindArgs (PySem.W.fnOf y y (defArgs st) (defBody st) (defScope st) .none kV doc pm an cdv ct) ⟨us, []⟩ = pure (ps.zip us)) :
    Dn K mg x y st ps f (PySem.W.fnOf y y (defArgs st) (defBody st) (defScope st) .none kV dc pm an cd ct) := ⟨fun_mk l c k, PySem.W.mg_of X G a, (fun_mk l c k).binds b⟩
theorem all_mk {l : PySem.W.OpenLaw} {w : World} {K : PySem.W.Frag} {h : Heap} {mg : Str → Option Value} {fa : Addr} (X : K.In h) (G : h.Ns mainGlobals mg) (hfa : mg "law" = some (.ref fa))
    {f7 : Addr} {od7 an7 : Option Addr} {sl7 : Array (Option Value)} {oc7 kV7 dc7 pm7 cd7 ct7 : Value}
    {f8 : Addr} {od8 an8 : Option Addr} {sl8 : Array (Option Value)} {oc8 kV8 dc8 pm8 cd8 ct8 : Value}
    {f9 : Addr} {od9 an9 : Option Addr} {sl9 : Array (Option Value)} {oc9 kV9 dc9 pm9 cd9 ct9 : Value}
    {f10 : Addr} {od10 an10 : Option Addr} {sl10 : Array (Option Value)} {oc10 kV10 dc10 pm10 cd10 ct10 : Value}
    {f11 : Addr} {od11 an11 : Option Addr} {sl11 : Array (Option Value)} {oc11 kV11 dc11 pm11 cd11 ct11 : Value}
    {f12 : Addr} {od12 an12 : Option Addr} {sl12 : Array (Option Value)} {oc12 kV12 dc12 pm12 cd12 ct12 : Value}
    {f13 : Addr} {od13 an13 : Option Addr} {sl13 : Array (Option Value)} {oc13 kV13 dc13 pm13 cd13 ct13 : Value}
    {f16 : Addr} {od16 an16 : Option Addr} {sl16 : Array (Option Value)} {oc16 kV16 dc16 pm16 cd16 ct16 : Value}
    {f17 : Addr} {od17 an17 : Option Addr} {sl17 : Array (Option Value)} {oc17 kV17 dc17 pm17 cd17 ct17 : Value}
    {f18 : Addr} {od18 an18 : Option Addr} {sl18 : Array (Option Value)} {oc18 kV18 dc18 pm18 cd18 ct18 : Value}
    {f19 : Addr} {od19 an19 : Option Addr} {sl19 : Array (Option Value)} {oc19 kV19 dc19 pm19 cd19 ct19 : Value}
    {f20 : Addr} {od20 an20 : Option Addr} {sl20 : Array (Option Value)} {oc20 kV20 dc20 pm20 cd20 ct20 : Value}
    {f21 : Addr} {od21 an21 : Option Addr} {sl21 : Array (Option Value)} {oc21 kV21 dc21 pm21 cd21 ct21 : Value}
    {f22 : Addr} {od22 an22 : Option Addr} {sl22 : Array (Option Value)} {oc22 kV22 dc22 pm22 cd22 ct22 : Value}
    {f24 : Addr} {od24 an24 : Option Addr} {sl24 : Array (Option Value)} {oc24 kV24 dc24 pm24 cd24 ct24 : Value}
    {f25 : Addr} {od25 an25 : Option Addr} {sl25 : Array (Option Value)} {oc25 kV25 dc25 pm25 cd25 ct25 : Value}
    {f26 : Addr} {od26 an26 : Option Addr} {sl26 : Array (Option Value)} {oc26 kV26 dc26 pm26 cd26 ct26 : Value}
    {f27 : Addr} {od27 an27 : Option Addr} {sl27 : Array (Option Value)} {oc27 kV27 dc27 pm27 cd27 ct27 : Value}
    {f28 : Addr} {od28 an28 : Option Addr} {sl28 : Array (Option Value)} {oc28 kV28 dc28 pm28 cd28 ct28 : Value}
    {f29 : Addr} {od29 an29 : Option Addr} {sl29 : Array (Option Value)} {oc29 kV29 dc29 pm29 cd29 ct29 : Value}
    {f30 : Addr} {od30 an30 : Option Addr} {sl30 : Array (Option Value)} {oc30 kV30 dc30 pm30 cd30 ct30 : Value}
    {f32 : Addr} {od32 an32 : Option Addr} {sl32 : Array (Option Value)} {oc32 kV32 dc32 pm32 cd32 ct32 : Value}
    {f33 : Addr} {od33 an33 : Option Addr} {sl33 : Array (Option Value)} {oc33 kV33 dc33 pm33 cd33 ct33 : Value}
    {f34 : Addr} {od34 an34 : Option Addr} {sl34 : Array (Option Value)} {oc34 kV34 dc34 pm34 cd34 ct34 : Value}
    {f35 : Addr} {od35 an35 : Option Addr} {sl35 : Array (Option Value)} {oc35 kV35 dc35 pm35 cd35 ct35 : Value}
    {f36 : Addr} {od36 an36 : Option Addr} {sl36 : Array (Option Value)} {oc36 kV36 dc36 pm36 cd36 ct36 : Value}
    {f37 : Addr} {od37 an37 : Option Addr} {sl37 : Array (Option Value)} {oc37 kV37 dc37 pm37 cd37 ct37 : Value}
    {f38 : Addr} {od38 an38 : Option Addr} {sl38 : Array (Option Value)} {oc38 kV38 dc38 pm38 cd38 ct38 : Value}
    {f39 : Addr} {od39 an39 : Option Addr} {sl39 : Array (Option Value)} {oc39 kV39 dc39 pm39 cd39 ct39 : Value}
    {f40 : Addr} {od40 an40 : Option Addr} {sl40 : Array (Option Value)} {oc40 kV40 dc40 pm40 cd40 ct40 : Value}
    {f41 : Addr} {od41 an41 : Option Addr} {sl41 : Array (Option Value)} {oc41 kV41 dc41 pm41 cd41 ct41 : Value}
    {f42 : Addr} {od42 an42 : Option Addr} {sl42 : Array (Option Value)} {oc42 kV42 dc42 pm42 cd42 ct42 : Value}
    {f43 : Addr} {od43 an43 : Option Addr} {sl43 : Array (Option Value)} {oc43 kV43 dc43 pm43 cd43 ct43 : Value}
    {f44 : Addr} {od44 an44 : Option Addr} {sl44 : Array (Option Value)} {oc44 kV44 dc44 pm44 cd44 ct44 : Value}
    {f45 : Addr} {od45 an45 : Option Addr} {sl45 : Array (Option Value)} {oc45 kV45 dc45 pm45 cd45 ct45 : Value}
    {tk_MOST_PLACES : Tok}
    (a7 : PySem.W.nsIn K mainGlobals "row_known" = some (some (.ref f7))) (l7 : K.lookup f7 = some ⟨oc7, od7, .func (PySem.W.fnOf "row_known" "row_known" (defArgs s_row_known) (defBody s_row_known) (defScope s_row_known) .none kV7 dc7 pm7 an7 cd7 ct7), sl7⟩) (c7 : PySem.W.codeIn K cd7 "row_known" = true) (k7 : PySem.W.keepIn K (.ref f7) = true)
    (a8 : PySem.W.nsIn K mainGlobals "gaps_round" = some (some (.ref f8))) (l8 : K.lookup f8 = some ⟨oc8, od8, .func (PySem.W.fnOf "gaps_round" "gaps_round" (defArgs s_gaps_round) (defBody s_gaps_round) (defScope s_gaps_round) .none kV8 dc8 pm8 an8 cd8 ct8), sl8⟩) (c8 : PySem.W.codeIn K cd8 "gaps_round" = true) (k8 : PySem.W.keepIn K (.ref f8) = true)
    (a9 : PySem.W.nsIn K mainGlobals "ring_known" = some (some (.ref f9))) (l9 : K.lookup f9 = some ⟨oc9, od9, .func (PySem.W.fnOf "ring_known" "ring_known" (defArgs s_ring_known) (defBody s_ring_known) (defScope s_ring_known) .none kV9 dc9 pm9 an9 cd9 ct9), sl9⟩) (c9 : PySem.W.codeIn K cd9 "ring_known" = true) (k9 : PySem.W.keepIn K (.ref f9) = true)
    (a10 : PySem.W.nsIn K mainGlobals "side_number" = some (some (.ref f10))) (l10 : K.lookup f10 = some ⟨oc10, od10, .func (PySem.W.fnOf "side_number" "side_number" (defArgs s_side_number) (defBody s_side_number) (defScope s_side_number) .none kV10 dc10 pm10 an10 cd10 ct10), sl10⟩) (c10 : PySem.W.codeIn K cd10 "side_number" = true) (k10 : PySem.W.keepIn K (.ref f10) = true)
    (a11 : PySem.W.nsIn K mainGlobals "grid_known" = some (some (.ref f11))) (l11 : K.lookup f11 = some ⟨oc11, od11, .func (PySem.W.fnOf "grid_known" "grid_known" (defArgs s_grid_known) (defBody s_grid_known) (defScope s_grid_known) .none kV11 dc11 pm11 an11 cd11 ct11), sl11⟩) (c11 : PySem.W.codeIn K cd11 "grid_known" = true) (k11 : PySem.W.keepIn K (.ref f11) = true)
    (a12 : PySem.W.nsIn K mainGlobals "ring_far" = some (some (.ref f12))) (l12 : K.lookup f12 = some ⟨oc12, od12, .func (PySem.W.fnOf "ring_far" "ring_far" (defArgs s_ring_far) (defBody s_ring_far) (defScope s_ring_far) .none kV12 dc12 pm12 an12 cd12 ct12), sl12⟩) (c12 : PySem.W.codeIn K cd12 "ring_far" = true) (k12 : PySem.W.keepIn K (.ref f12) = true)
    (a13 : PySem.W.nsIn K mainGlobals "ring_choices" = some (some (.ref f13))) (l13 : K.lookup f13 = some ⟨oc13, od13, .func (PySem.W.fnOf "ring_choices" "ring_choices" (defArgs s_ring_choices) (defBody s_ring_choices) (defScope s_ring_choices) .none kV13 dc13 pm13 an13 cd13 ct13), sl13⟩) (c13 : PySem.W.codeIn K cd13 "ring_choices" = true) (k13 : PySem.W.keepIn K (.ref f13) = true)
    (a16 : PySem.W.nsIn K mainGlobals "near_lists" = some (some (.ref f16))) (l16 : K.lookup f16 = some ⟨oc16, od16, .func (PySem.W.fnOf "near_lists" "near_lists" (defArgs s_near_lists) (defBody s_near_lists) (defScope s_near_lists) .none kV16 dc16 pm16 an16 cd16 ct16), sl16⟩) (c16 : PySem.W.codeIn K cd16 "near_lists" = true) (k16 : PySem.W.keepIn K (.ref f16) = true)
    (a17 : PySem.W.nsIn K mainGlobals "fars_by" = some (some (.ref f17))) (l17 : K.lookup f17 = some ⟨oc17, od17, .func (PySem.W.fnOf "fars_by" "fars_by" (defArgs s_fars_by) (defBody s_fars_by) (defScope s_fars_by) .none kV17 dc17 pm17 an17 cd17 ct17), sl17⟩) (c17 : PySem.W.codeIn K cd17 "fars_by" = true) (k17 : PySem.W.keepIn K (.ref f17) = true)
    (a18 : PySem.W.nsIn K mainGlobals "sorted_ties" = some (some (.ref f18))) (l18 : K.lookup f18 = some ⟨oc18, od18, .func (PySem.W.fnOf "sorted_ties" "sorted_ties" (defArgs s_sorted_ties) (defBody s_sorted_ties) (defScope s_sorted_ties) .none kV18 dc18 pm18 an18 cd18 ct18), sl18⟩) (c18 : PySem.W.codeIn K cd18 "sorted_ties" = true) (k18 : PySem.W.keepIn K (.ref f18) = true)
    (a19 : PySem.W.nsIn K mainGlobals "made_web" = some (some (.ref f19))) (l19 : K.lookup f19 = some ⟨oc19, od19, .func (PySem.W.fnOf "made_web" "made_web" (defArgs s_made_web) (defBody s_made_web) (defScope s_made_web) .none kV19 dc19 pm19 an19 cd19 ct19), sl19⟩) (c19 : PySem.W.codeIn K cd19 "made_web" = true) (k19 : PySem.W.keepIn K (.ref f19) = true)
    (a20 : PySem.W.nsIn K mainGlobals "place_asked" = some (some (.ref f20))) (l20 : K.lookup f20 = some ⟨oc20, od20, .func (PySem.W.fnOf "place_asked" "place_asked" (defArgs s_place_asked) (defBody s_place_asked) (defScope s_place_asked) .none kV20 dc20 pm20 an20 cd20 ct20), sl20⟩) (c20 : PySem.W.codeIn K cd20 "place_asked" = true) (k20 : PySem.W.keepIn K (.ref f20) = true)
    (a21 : PySem.W.nsIn K mainGlobals "fars_from" = some (some (.ref f21))) (l21 : K.lookup f21 = some ⟨oc21, od21, .func (PySem.W.fnOf "fars_from" "fars_from" (defArgs s_fars_from) (defBody s_fars_from) (defScope s_fars_from) .none kV21 dc21 pm21 an21 cd21 ct21), sl21⟩) (c21 : PySem.W.codeIn K cd21 "fars_from" = true) (k21 : PySem.W.keepIn K (.ref f21) = true)
    (a22 : PySem.W.nsIn K mainGlobals "far_between" = some (some (.ref f22))) (l22 : K.lookup f22 = some ⟨oc22, od22, .func (PySem.W.fnOf "far_between" "far_between" (defArgs s_far_between) (defBody s_far_between) (defScope s_far_between) .none kV22 dc22 pm22 an22 cd22 ct22), sl22⟩) (c22 : PySem.W.codeIn K cd22 "far_between" = true) (k22 : PySem.W.keepIn K (.ref f22) = true)
    (a24 : PySem.W.nsIn K mainGlobals "table_of" = some (some (.ref f24))) (l24 : K.lookup f24 = some ⟨oc24, od24, .func (PySem.W.fnOf "table_of" "table_of" (defArgs s_table_of) (defBody s_table_of) (defScope s_table_of) .none kV24 dc24 pm24 an24 cd24 ct24), sl24⟩) (c24 : PySem.W.codeIn K cd24 "table_of" = true) (k24 : PySem.W.keepIn K (.ref f24) = true)
    (a25 : PySem.W.nsIn K mainGlobals "things_of" = some (some (.ref f25))) (l25 : K.lookup f25 = some ⟨oc25, od25, .func (PySem.W.fnOf "things_of" "things_of" (defArgs s_things_of) (defBody s_things_of) (defScope s_things_of) .none kV25 dc25 pm25 an25 cd25 ct25), sl25⟩) (c25 : PySem.W.codeIn K cd25 "things_of" = true) (k25 : PySem.W.keepIn K (.ref f25) = true)
    (a26 : PySem.W.nsIn K mainGlobals "looks_asked" = some (some (.ref f26))) (l26 : K.lookup f26 = some ⟨oc26, od26, .func (PySem.W.fnOf "looks_asked" "looks_asked" (defArgs s_looks_asked) (defBody s_looks_asked) (defScope s_looks_asked) .none kV26 dc26 pm26 an26 cd26 ct26), sl26⟩) (c26 : PySem.W.codeIn K cd26 "looks_asked" = true) (k26 : PySem.W.keepIn K (.ref f26) = true)
    (a27 : PySem.W.nsIn K mainGlobals "far_by" = some (some (.ref f27))) (l27 : K.lookup f27 = some ⟨oc27, od27, .func (PySem.W.fnOf "far_by" "far_by" (defArgs s_far_by) (defBody s_far_by) (defScope s_far_by) .none kV27 dc27 pm27 an27 cd27 ct27), sl27⟩) (c27 : PySem.W.codeIn K cd27 "far_by" = true) (k27 : PySem.W.keepIn K (.ref f27) = true)
    (a28 : PySem.W.nsIn K mainGlobals "by_code" = some (some (.ref f28))) (l28 : K.lookup f28 = some ⟨oc28, od28, .func (PySem.W.fnOf "by_code" "by_code" (defArgs s_by_code) (defBody s_by_code) (defScope s_by_code) .none kV28 dc28 pm28 an28 cd28 ct28), sl28⟩) (c28 : PySem.W.codeIn K cd28 "by_code" = true) (k28 : PySem.W.keepIn K (.ref f28) = true)
    (a29 : PySem.W.nsIn K mainGlobals "likes_by" = some (some (.ref f29))) (l29 : K.lookup f29 = some ⟨oc29, od29, .func (PySem.W.fnOf "likes_by" "likes_by" (defArgs s_likes_by) (defBody s_likes_by) (defScope s_likes_by) .none kV29 dc29 pm29 an29 cd29 ct29), sl29⟩) (c29 : PySem.W.codeIn K cd29 "likes_by" = true) (k29 : PySem.W.keepIn K (.ref f29) = true)
    (a30 : PySem.W.nsIn K mainGlobals "is_known" = some (some (.ref f30))) (l30 : K.lookup f30 = some ⟨oc30, od30, .func (PySem.W.fnOf "is_known" "is_known" (defArgs s_is_known) (defBody s_is_known) (defScope s_is_known) .none kV30 dc30 pm30 an30 cd30 ct30), sl30⟩) (c30 : PySem.W.codeIn K cd30 "is_known" = true) (k30 : PySem.W.keepIn K (.ref f30) = true)
    (a32 : PySem.W.nsIn K mainGlobals "_law_cell_at" = some (some (.ref f32))) (l32 : K.lookup f32 = some ⟨oc32, od32, .func (PySem.W.fnOf "_law_cell_at" "_law_cell_at" (defArgs s_law_cell_at) (defBody s_law_cell_at) (defScope s_law_cell_at) .none kV32 dc32 pm32 an32 cd32 ct32), sl32⟩) (c32 : PySem.W.codeIn K cd32 "_law_cell_at" = true) (k32 : PySem.W.keepIn K (.ref f32) = true)
    (a33 : PySem.W.nsIn K mainGlobals "_law_folded" = some (some (.ref f33))) (l33 : K.lookup f33 = some ⟨oc33, od33, .func (PySem.W.fnOf "_law_folded" "_law_folded" (defArgs s_law_folded) (defBody s_law_folded) (defScope s_law_folded) .none kV33 dc33 pm33 an33 cd33 ct33), sl33⟩) (c33 : PySem.W.codeIn K cd33 "_law_folded" = true) (k33 : PySem.W.keepIn K (.ref f33) = true)
    (a34 : PySem.W.nsIn K mainGlobals "_law_state" = some (some (.ref f34))) (l34 : K.lookup f34 = some ⟨oc34, od34, .func (PySem.W.fnOf "_law_state" "_law_state" (defArgs s_law_state) (defBody s_law_state) (defScope s_law_state) .none kV34 dc34 pm34 an34 cd34 ct34), sl34⟩) (c34 : PySem.W.codeIn K cd34 "_law_state" = true) (k34 : PySem.W.keepIn K (.ref f34) = true)
    (a35 : PySem.W.nsIn K mainGlobals "_law_next" = some (some (.ref f35))) (l35 : K.lookup f35 = some ⟨oc35, od35, .func (PySem.W.fnOf "_law_next" "_law_next" (defArgs s_law_next) (defBody s_law_next) (defScope s_law_next) .none kV35 dc35 pm35 an35 cd35 ct35), sl35⟩) (c35 : PySem.W.codeIn K cd35 "_law_next" = true) (k35 : PySem.W.keepIn K (.ref f35) = true)
    (a36 : PySem.W.nsIn K mainGlobals "_law_great" = some (some (.ref f36))) (l36 : K.lookup f36 = some ⟨oc36, od36, .func (PySem.W.fnOf "_law_great" "_law_great" (defArgs s_law_great) (defBody s_law_great) (defScope s_law_great) .none kV36 dc36 pm36 an36 cd36 ct36), sl36⟩) (c36 : PySem.W.codeIn K cd36 "_law_great" = true) (k36 : PySem.W.keepIn K (.ref f36) = true)
    (a37 : PySem.W.nsIn K mainGlobals "_law_looks" = some (some (.ref f37))) (l37 : K.lookup f37 = some ⟨oc37, od37, .func (PySem.W.fnOf "_law_looks" "_law_looks" (defArgs s_law_looks) (defBody s_law_looks) (defScope s_law_looks) .none kV37 dc37 pm37 an37 cd37 ct37), sl37⟩) (c37 : PySem.W.codeIn K cd37 "_law_looks" = true) (k37 : PySem.W.keepIn K (.ref f37) = true)
    (a38 : PySem.W.nsIn K mainGlobals "_law_order" = some (some (.ref f38))) (l38 : K.lookup f38 = some ⟨oc38, od38, .func (PySem.W.fnOf "_law_order" "_law_order" (defArgs s_law_order) (defBody s_law_order) (defScope s_law_order) .none kV38 dc38 pm38 an38 cd38 ct38), sl38⟩) (c38 : PySem.W.codeIn K cd38 "_law_order" = true) (k38 : PySem.W.keepIn K (.ref f38) = true)
    (a39 : PySem.W.nsIn K mainGlobals "_law_named" = some (some (.ref f39))) (l39 : K.lookup f39 = some ⟨oc39, od39, .func (PySem.W.fnOf "_law_named" "_law_named" (defArgs s_law_named) (defBody s_law_named) (defScope s_law_named) .none kV39 dc39 pm39 an39 cd39 ct39), sl39⟩) (c39 : PySem.W.codeIn K cd39 "_law_named" = true) (k39 : PySem.W.keepIn K (.ref f39) = true)
    (a40 : PySem.W.nsIn K mainGlobals "_law_line" = some (some (.ref f40))) (l40 : K.lookup f40 = some ⟨oc40, od40, .func (PySem.W.fnOf "_law_line" "_law_line" (defArgs s_law_line) (defBody s_law_line) (defScope s_law_line) .none kV40 dc40 pm40 an40 cd40 ct40), sl40⟩) (c40 : PySem.W.codeIn K cd40 "_law_line" = true) (k40 : PySem.W.keepIn K (.ref f40) = true)
    (a41 : PySem.W.nsIn K mainGlobals "_law_lines_right" = some (some (.ref f41))) (l41 : K.lookup f41 = some ⟨oc41, od41, .func (PySem.W.fnOf "_law_lines_right" "_law_lines_right" (defArgs s_law_lines_right) (defBody s_law_lines_right) (defScope s_law_lines_right) .none kV41 dc41 pm41 an41 cd41 ct41), sl41⟩) (c41 : PySem.W.codeIn K cd41 "_law_lines_right" = true) (k41 : PySem.W.keepIn K (.ref f41) = true)
    (a42 : PySem.W.nsIn K mainGlobals "_law_grid_right" = some (some (.ref f42))) (l42 : K.lookup f42 = some ⟨oc42, od42, .func (PySem.W.fnOf "_law_grid_right" "_law_grid_right" (defArgs s_law_grid_right) (defBody s_law_grid_right) (defScope s_law_grid_right) .none kV42 dc42 pm42 an42 cd42 ct42), sl42⟩) (c42 : PySem.W.codeIn K cd42 "_law_grid_right" = true) (k42 : PySem.W.keepIn K (.ref f42) = true)
    (a43 : PySem.W.nsIn K mainGlobals "_law_sets" = some (some (.ref f43))) (l43 : K.lookup f43 = some ⟨oc43, od43, .func (PySem.W.fnOf "_law_sets" "_law_sets" (defArgs s_law_sets) (defBody s_law_sets) (defScope s_law_sets) .none kV43 dc43 pm43 an43 cd43 ct43), sl43⟩) (c43 : PySem.W.codeIn K cd43 "_law_sets" = true) (k43 : PySem.W.keepIn K (.ref f43) = true)
    (a44 : PySem.W.nsIn K mainGlobals "_law_choices_right" = some (some (.ref f44))) (l44 : K.lookup f44 = some ⟨oc44, od44, .func (PySem.W.fnOf "_law_choices_right" "_law_choices_right" (defArgs s_law_choices_right) (defBody s_law_choices_right) (defScope s_law_choices_right) .none kV44 dc44 pm44 an44 cd44 ct44), sl44⟩) (c44 : PySem.W.codeIn K cd44 "_law_choices_right" = true) (k44 : PySem.W.keepIn K (.ref f44) = true)
    (a45 : PySem.W.nsIn K mainGlobals "law" = some (some (.ref f45))) (l45 : K.lookup f45 = some ⟨oc45, od45, .func (PySem.W.fnOf "law" "law" (defArgs s_law) (defBody s_law) (defScope s_law) .none kV45 dc45 pm45 an45 cd45 ct45), sl45⟩) (c45 : PySem.W.codeIn K cd45 "law" = true) (k45 : PySem.W.keepIn K (.ref f45) = true)
    (kc_MOST_PLACES : PySem.W.nsIn K mainGlobals "MOST_PLACES" = some (some (.int 60 tk_MOST_PLACES)))
    (z_all : PySem.W.nsIn K mainGlobals "all" = some none)
    (z_bool : PySem.W.nsIn K mainGlobals "bool" = some none)
    (z_enumerate : PySem.W.nsIn K mainGlobals "enumerate" = some none)
    (z_int : PySem.W.nsIn K mainGlobals "int" = some none)
    (z_isinstance : PySem.W.nsIn K mainGlobals "isinstance" = some none)
    (z_len : PySem.W.nsIn K mainGlobals "len" = some none)
    (z_list : PySem.W.nsIn K mainGlobals "list" = some none)
    (z_max : PySem.W.nsIn K mainGlobals "max" = some none)
    (z_min : PySem.W.nsIn K mainGlobals "min" = some none)
    (z_range : PySem.W.nsIn K mainGlobals "range" = some none)
    (z_sorted : PySem.W.nsIn K mainGlobals "sorted" = some none)
    (z_tuple : PySem.W.nsIn K mainGlobals "tuple" = some none) :
    ∃ fd : FuncData, (∀ (s : Shared) (v : Value), BindsTo s fd ⟨[v], []⟩ [("script", v)]) ∧ ∀ base : Heap, K.In base → base.Ns mainGlobals mg → FnOk l.prog w K mg base CX0 9 fa fd ["script"] (sp_law K) := by
  have e := hfa.symm.trans (PySem.W.mg_of X G a45)
  cases e
  let A : Nat → Addr := fun i => match i with | 7 => f7 | 8 => f8 | 9 => f9 | 10 => f10 | 11 => f11 | 12 => f12 | 13 => f13 | 16 => f16 | 17 => f17 | 18 => f18 | 19 => f19 | 20 => f20 | 21 => f21 | 22 => f22 | 24 => f24 | 25 => f25 | 26 => f26 | 27 => f27 | 28 => f28 | 29 => f29 | 30 => f30 | 32 => f32 | 33 => f33 | 34 => f34 | 35 => f35 | 36 => f36 | 37 => f37 | 38 => f38 | 39 => f39 | 40 => f40 | 41 => f41 | 42 => f42 | 43 => f43 | 44 => f44 | 45 => fa | _ => fa
  let FD : Nat → FuncData := fun i => match i with | 7 => (PySem.W.fnOf "row_known" "row_known" (defArgs s_row_known) (defBody s_row_known) (defScope s_row_known) .none kV7 dc7 pm7 an7 cd7 ct7) | 8 => (PySem.W.fnOf "gaps_round" "gaps_round" (defArgs s_gaps_round) (defBody s_gaps_round) (defScope s_gaps_round) .none kV8 dc8 pm8 an8 cd8 ct8) | 9 => (PySem.W.fnOf "ring_known" "ring_known" (defArgs s_ring_known) (defBody s_ring_known) (defScope s_ring_known) .none kV9 dc9 pm9 an9 cd9 ct9) | 10 => (PySem.W.fnOf "side_number" "side_number" (defArgs s_side_number) (defBody s_side_number) (defScope s_side_number) .none kV10 dc10 pm10 an10 cd10 ct10) | 11 => (PySem.W.fnOf "grid_known" "grid_known" (defArgs s_grid_known) (defBody s_grid_known) (defScope s_grid_known) .none kV11 dc11 pm11 an11 cd11 ct11) | 12 => (PySem.W.fnOf "ring_far" "ring_far" (defArgs s_ring_far) (defBody s_ring_far) (defScope s_ring_far) .none kV12 dc12 pm12 an12 cd12 ct12) | 13 => (PySem.W.fnOf "ring_choices" "ring_choices" (defArgs s_ring_choices) (defBody s_ring_choices) (defScope s_ring_choices) .none kV13 dc13 pm13 an13 cd13 ct13) | 16 => (PySem.W.fnOf "near_lists" "near_lists" (defArgs s_near_lists) (defBody s_near_lists) (defScope s_near_lists) .none kV16 dc16 pm16 an16 cd16 ct16) | 17 => (PySem.W.fnOf "fars_by" "fars_by" (defArgs s_fars_by) (defBody s_fars_by) (defScope s_fars_by) .none kV17 dc17 pm17 an17 cd17 ct17) | 18 => (PySem.W.fnOf "sorted_ties" "sorted_ties" (defArgs s_sorted_ties) (defBody s_sorted_ties) (defScope s_sorted_ties) .none kV18 dc18 pm18 an18 cd18 ct18) | 19 => (PySem.W.fnOf "made_web" "made_web" (defArgs s_made_web) (defBody s_made_web) (defScope s_made_web) .none kV19 dc19 pm19 an19 cd19 ct19) | 20 => (PySem.W.fnOf "place_asked" "place_asked" (defArgs s_place_asked) (defBody s_place_asked) (defScope s_place_asked) .none kV20 dc20 pm20 an20 cd20 ct20) | 21 => (PySem.W.fnOf "fars_from" "fars_from" (defArgs s_fars_from) (defBody s_fars_from) (defScope s_fars_from) .none kV21 dc21 pm21 an21 cd21 ct21) | 22 => (PySem.W.fnOf "far_between" "far_between" (defArgs s_far_between) (defBody s_far_between) (defScope s_far_between) .none kV22 dc22 pm22 an22 cd22 ct22) | 24 => (PySem.W.fnOf "table_of" "table_of" (defArgs s_table_of) (defBody s_table_of) (defScope s_table_of) .none kV24 dc24 pm24 an24 cd24 ct24) | 25 => (PySem.W.fnOf "things_of" "things_of" (defArgs s_things_of) (defBody s_things_of) (defScope s_things_of) .none kV25 dc25 pm25 an25 cd25 ct25) | 26 => (PySem.W.fnOf "looks_asked" "looks_asked" (defArgs s_looks_asked) (defBody s_looks_asked) (defScope s_looks_asked) .none kV26 dc26 pm26 an26 cd26 ct26) | 27 => (PySem.W.fnOf "far_by" "far_by" (defArgs s_far_by) (defBody s_far_by) (defScope s_far_by) .none kV27 dc27 pm27 an27 cd27 ct27) | 28 => (PySem.W.fnOf "by_code" "by_code" (defArgs s_by_code) (defBody s_by_code) (defScope s_by_code) .none kV28 dc28 pm28 an28 cd28 ct28) | 29 => (PySem.W.fnOf "likes_by" "likes_by" (defArgs s_likes_by) (defBody s_likes_by) (defScope s_likes_by) .none kV29 dc29 pm29 an29 cd29 ct29) | 30 => (PySem.W.fnOf "is_known" "is_known" (defArgs s_is_known) (defBody s_is_known) (defScope s_is_known) .none kV30 dc30 pm30 an30 cd30 ct30) | 32 => (PySem.W.fnOf "_law_cell_at" "_law_cell_at" (defArgs s_law_cell_at) (defBody s_law_cell_at) (defScope s_law_cell_at) .none kV32 dc32 pm32 an32 cd32 ct32) | 33 => (PySem.W.fnOf "_law_folded" "_law_folded" (defArgs s_law_folded) (defBody s_law_folded) (defScope s_law_folded) .none kV33 dc33 pm33 an33 cd33 ct33) | 34 => (PySem.W.fnOf "_law_state" "_law_state" (defArgs s_law_state) (defBody s_law_state) (defScope s_law_state) .none kV34 dc34 pm34 an34 cd34 ct34) | 35 => (PySem.W.fnOf "_law_next" "_law_next" (defArgs s_law_next) (defBody s_law_next) (defScope s_law_next) .none kV35 dc35 pm35 an35 cd35 ct35) | 36 => (PySem.W.fnOf "_law_great" "_law_great" (defArgs s_law_great) (defBody s_law_great) (defScope s_law_great) .none kV36 dc36 pm36 an36 cd36 ct36) | 37 => (PySem.W.fnOf "_law_looks" "_law_looks" (defArgs s_law_looks) (defBody s_law_looks) (defScope s_law_looks) .none kV37 dc37 pm37 an37 cd37 ct37) | 38 => (PySem.W.fnOf "_law_order" "_law_order" (defArgs s_law_order) (defBody s_law_order) (defScope s_law_order) .none kV38 dc38 pm38 an38 cd38 ct38) | 39 => (PySem.W.fnOf "_law_named" "_law_named" (defArgs s_law_named) (defBody s_law_named) (defScope s_law_named) .none kV39 dc39 pm39 an39 cd39 ct39) | 40 => (PySem.W.fnOf "_law_line" "_law_line" (defArgs s_law_line) (defBody s_law_line) (defScope s_law_line) .none kV40 dc40 pm40 an40 cd40 ct40) | 41 => (PySem.W.fnOf "_law_lines_right" "_law_lines_right" (defArgs s_law_lines_right) (defBody s_law_lines_right) (defScope s_law_lines_right) .none kV41 dc41 pm41 an41 cd41 ct41) | 42 => (PySem.W.fnOf "_law_grid_right" "_law_grid_right" (defArgs s_law_grid_right) (defBody s_law_grid_right) (defScope s_law_grid_right) .none kV42 dc42 pm42 an42 cd42 ct42) | 43 => (PySem.W.fnOf "_law_sets" "_law_sets" (defArgs s_law_sets) (defBody s_law_sets) (defScope s_law_sets) .none kV43 dc43 pm43 an43 cd43 ct43) | 44 => (PySem.W.fnOf "_law_choices_right" "_law_choices_right" (defArgs s_law_choices_right) (defBody s_law_choices_right) (defScope s_law_choices_right) .none kV44 dc44 pm44 an44 cd44 ct44) | 45 => (PySem.W.fnOf "law" "law" (defArgs s_law) (defBody s_law) (defScope s_law) .none kV45 dc45 pm45 an45 cd45 ct45) | _ => (PySem.W.fnOf "law" "law" (defArgs s_law) (defBody s_law) (defScope s_law) .none kV45 dc45 pm45 an45 cd45 ct45)
  have T : Tx K mg A FD := {
    d7 := dn_mk (st := s_row_known) (ps := ["many", "looks", "kind"]) X G a7 l7 c7 k7 fun _ _ _ _ _ _ us hl => match us, hl with | [_, _, _], _ => rfl
    d8 := dn_mk (st := s_gaps_round) (ps := ["many", "looks"]) X G a8 l8 c8 k8 fun _ _ _ _ _ _ us hl => match us, hl with | [_, _], _ => rfl
    d9 := dn_mk (st := s_ring_known) (ps := ["many", "looks", "kind"]) X G a9 l9 c9 k9 fun _ _ _ _ _ _ us hl => match us, hl with | [_, _, _], _ => rfl
    d10 := dn_mk (st := s_side_number) (ps := ["sizes", "one", "other"]) X G a10 l10 c10 k10 fun _ _ _ _ _ _ us hl => match us, hl with | [_, _, _], _ => rfl
    d11 := dn_mk (st := s_grid_known) (ps := ["wide", "high", "one", "other"]) X G a11 l11 c11 k11 fun _ _ _ _ _ _ us hl => match us, hl with | [_, _, _, _], _ => rfl
    d12 := dn_mk (st := s_ring_far) (ps := ["many", "one", "other"]) X G a12 l12 c12 k12 fun _ _ _ _ _ _ us hl => match us, hl with | [_, _, _], _ => rfl
    d13 := dn_mk (st := s_ring_choices) (ps := ["many", "kind"]) X G a13 l13 c13 k13 fun _ _ _ _ _ _ us hl => match us, hl with | [_, _], _ => rfl
    d16 := dn_mk (st := s_near_lists) (ps := ["web"]) X G a16 l16 c16 k16 fun _ _ _ _ _ _ us hl => match us, hl with | [_], _ => rfl
    d17 := dn_mk (st := s_fars_by) (ps := ["near", "place"]) X G a17 l17 c17 k17 fun _ _ _ _ _ _ us hl => match us, hl with | [_, _], _ => rfl
    d18 := dn_mk (st := s_sorted_ties) (ps := ["many", "ties"]) X G a18 l18 c18 k18 fun _ _ _ _ _ _ us hl => match us, hl with | [_, _], _ => rfl
    d19 := dn_mk (st := s_made_web) (ps := ["many", "ties"]) X G a19 l19 c19 k19 fun _ _ _ _ _ _ us hl => match us, hl with | [_, _], _ => rfl
    d20 := dn_mk (st := s_place_asked) (ps := ["web", "place"]) X G a20 l20 c20 k20 fun _ _ _ _ _ _ us hl => match us, hl with | [_, _], _ => rfl
    d21 := dn_mk (st := s_fars_from) (ps := ["web", "place"]) X G a21 l21 c21 k21 fun _ _ _ _ _ _ us hl => match us, hl with | [_, _], _ => rfl
    d22 := dn_mk (st := s_far_between) (ps := ["web", "one", "other"]) X G a22 l22 c22 k22 fun _ _ _ _ _ _ us hl => match us, hl with | [_, _, _], _ => rfl
    d24 := dn_mk (st := s_table_of) (ps := ["web"]) X G a24 l24 c24 k24 fun _ _ _ _ _ _ us hl => match us, hl with | [_], _ => rfl
    d25 := dn_mk (st := s_things_of) (ps := ["web", "kind"]) X G a25 l25 c25 k25 fun _ _ _ _ _ _ us hl => match us, hl with | [_, _], _ => rfl
    d26 := dn_mk (st := s_looks_asked) (ps := ["web", "looks"]) X G a26 l26 c26 k26 fun _ _ _ _ _ _ us hl => match us, hl with | [_, _], _ => rfl
    d27 := dn_mk (st := s_far_by) (ps := ["table", "look", "thing"]) X G a27 l27 c27 k27 fun _ _ _ _ _ _ us hl => match us, hl with | [_, _, _], _ => rfl
    d28 := dn_mk (st := s_by_code) (ps := ["web", "looks", "kind"]) X G a28 l28 c28 k28 fun _ _ _ _ _ _ us hl => match us, hl with | [_, _, _], _ => rfl
    d29 := dn_mk (st := s_likes_by) (ps := ["web", "looks", "kind"]) X G a29 l29 c29 k29 fun _ _ _ _ _ _ us hl => match us, hl with | [_, _, _], _ => rfl
    d30 := dn_mk (st := s_is_known) (ps := ["web", "looks", "kind"]) X G a30 l30 c30 k30 fun _ _ _ _ _ _ us hl => match us, hl with | [_, _, _], _ => rfl
    d32 := dn_mk (st := s_law_cell_at) (ps := ["script", "k"]) X G a32 l32 c32 k32 fun _ _ _ _ _ _ us hl => match us, hl with | [_, _], _ => rfl
    d33 := dn_mk (st := s_law_folded) (ps := ["script", "many"]) X G a33 l33 c33 k33 fun _ _ _ _ _ _ us hl => match us, hl with | [_, _], _ => rfl
    d34 := dn_mk (st := s_law_state) (ps := ["cell"]) X G a34 l34 c34 k34 fun _ _ _ _ _ _ us hl => match us, hl with | [_], _ => rfl
    d35 := dn_mk (st := s_law_next) (ps := ["state", "many"]) X G a35 l35 c35 k35 fun _ _ _ _ _ _ us hl => match us, hl with | [_, _], _ => rfl
    d36 := dn_mk (st := s_law_great) (ps := ["state", "top"]) X G a36 l36 c36 k36 fun _ _ _ _ _ _ us hl => match us, hl with | [_, _], _ => rfl
    d37 := dn_mk (st := s_law_looks) (ps := ["state", "many", "most"]) X G a37 l37 c37 k37 fun _ _ _ _ _ _ us hl => match us, hl with | [_, _, _], _ => rfl
    d38 := dn_mk (st := s_law_order) (ps := ["state", "many"]) X G a38 l38 c38 k38 fun _ _ _ _ _ _ us hl => match us, hl with | [_, _], _ => rfl
    d39 := dn_mk (st := s_law_named) (ps := ["names", "many", "ties"]) X G a39 l39 c39 k39 fun _ _ _ _ _ _ us hl => match us, hl with | [_, _, _], _ => rfl
    d40 := dn_mk (st := s_law_line) (ps := ["state", "web", "names", "looks", "told"]) X G a40 l40 c40 k40 fun _ _ _ _ _ _ us hl => match us, hl with | [_, _, _, _, _], _ => rfl
    d41 := dn_mk (st := s_law_lines_right) (ps := ["state"]) X G a41 l41 c41 k41 fun _ _ _ _ _ _ us hl => match us, hl with | [_], _ => rfl
    d42 := dn_mk (st := s_law_grid_right) (ps := ["state"]) X G a42 l42 c42 k42 fun _ _ _ _ _ _ us hl => match us, hl with | [_], _ => rfl
    d43 := dn_mk (st := s_law_sets) (ps := ["many", "few"]) X G a43 l43 c43 k43 fun _ _ _ _ _ _ us hl => match us, hl with | [_, _], _ => rfl
    d44 := dn_mk (st := s_law_choices_right) (ps := ["state"]) X G a44 l44 c44 k44 fun _ _ _ _ _ _ us hl => match us, hl with | [_], _ => rfl
    d45 := dn_mk (st := s_law) (ps := ["script"]) X G a45 l45 c45 k45 fun _ _ _ _ _ _ us hl => match us, hl with | [_], _ => rfl
    nf_ring_known := a9
    nf_row_known := a7
    n_all := PySem.W.mg_none_of X G z_all
    n_bool := PySem.W.mg_none_of X G z_bool
    n_enumerate := PySem.W.mg_none_of X G z_enumerate
    n_int := PySem.W.mg_none_of X G z_int
    n_isinstance := PySem.W.mg_none_of X G z_isinstance
    n_len := PySem.W.mg_none_of X G z_len
    n_list := PySem.W.mg_none_of X G z_list
    n_max := PySem.W.mg_none_of X G z_max
    n_min := PySem.W.mg_none_of X G z_min
    n_range := PySem.W.mg_none_of X G z_range
    n_sorted := PySem.W.mg_none_of X G z_sorted
    n_tuple := PySem.W.mg_none_of X G z_tuple
    c_MOST_PLACES := ⟨_, PySem.W.mg_of X G kc_MOST_PLACES⟩ }
  exact ⟨(PySem.W.fnOf "law" "law" (defArgs s_law) (defBody s_law) (defScope s_law) .none kV45 dc45 pm45 an45 cd45 ct45), fun s v => .of_eq rfl, fun base _ _ => ok_law (A := A) (FD := FD) T⟩
theorem walk {l : PySem.W.OpenLaw} {q : Program} {loose : List Str} {XP : (Str → Option Value) → Heap → Prop} {YP : World → Heap → Prop} {d : DefRec} {K : Params → PySem.W.Frag} (hn : l.most = some 63) (hdf : d.params.defaults = [])
    (hY : ∀ (w : World) (h : Heap), YP w h → (K w.params).In h)
    (F : ∀ (w : World) (mg : Str → Option Value) (fa : Addr) (h : Heap), (K w.params).In h → h.Ns mainGlobals mg → mg d.name = some (.ref fa) →
      ∃ fd : FuncData, (∀ (s : Shared) (u : Value), BindsTo s fd ⟨[u], []⟩ [("script", u)]) ∧ ∀ base : Heap, (K w.params).In base → base.Ns mainGlobals mg → FnOk l.prog w (K w.params) mg base CX0 9 fa fd ["script"] (sp_law (K w.params))) :
    PySem.W.WalkO q loose XP YP l.row.toRowW d [] (fun f vs => PySem.call f vs) :=
  L2.walk_of (n := 63) (k := 9) (x := "script") (CX := fun _ => CX0) (sp := fun w => sp_law (K w.params)) hn (by decide) hdf ⟨rfl, by decide, by decide⟩ hY F
    (fun _ H a ns hl _ hS => ⟨H, [], .ref a, ⟨ns⟩, rfl, ⟨Same.refl _, (fun _ z => nomatch z), List.Pairwise.nil, (fun _ z => nomatch z)⟩, ⟨a, rfl, hS⟩, by rw [law_true ns hl]; exact fun v F2 H2 w s r => r⟩) fun _ _ _ _ _ z => z
end G
open PySem PySem.W PyProof.Rows
set_option maxRecDepth 100000 in
set_option maxHeartbeats 0 in
theorem PySem.Challenge.cw_farhail_k34_whole_shapes_are_webs_holds : PySem.Challenge.rw_farhail_k34_whole_shapes_are_webs.Holds := by
  w_on; o_law; k_head; (case hw => w_witness2)
  k_fill
  refine G.walk (l := PySem.Challenge.rw_farhail_k34_whole_shapes_are_webs) rfl rfl (fun w h Y => PySem.W.kIn_of Y) ?F
  case F =>
    intro w mg fa h KX Gn hmg
    refine' G.all_mk KX Gn hmg ?a7 ?l7 ?c7 ?k7 ?a8 ?l8 ?c8 ?k8 ?a9 ?l9 ?c9 ?k9 ?a10 ?l10 ?c10 ?k10 ?a11 ?l11 ?c11 ?k11 ?a12 ?l12 ?c12 ?k12 ?a13 ?l13 ?c13 ?k13 ?a16 ?l16 ?c16 ?k16 ?a17 ?l17 ?c17 ?k17 ?a18 ?l18 ?c18 ?k18 ?a19 ?l19 ?c19 ?k19 ?a20 ?l20 ?c20 ?k20 ?a21 ?l21 ?c21 ?k21 ?a22 ?l22 ?c22 ?k22 ?a24 ?l24 ?c24 ?k24 ?a25 ?l25 ?c25 ?k25 ?a26 ?l26 ?c26 ?k26 ?a27 ?l27 ?c27 ?k27 ?a28 ?l28 ?c28 ?k28 ?a29 ?l29 ?c29 ?k29 ?a30 ?l30 ?c30 ?k30 ?a32 ?l32 ?c32 ?k32 ?a33 ?l33 ?c33 ?k33 ?a34 ?l34 ?c34 ?k34 ?a35 ?l35 ?c35 ?k35 ?a36 ?l36 ?c36 ?k36 ?a37 ?l37 ?c37 ?k37 ?a38 ?l38 ?c38 ?k38 ?a39 ?l39 ?c39 ?k39 ?a40 ?l40 ?c40 ?k40 ?a41 ?l41 ?c41 ?k41 ?a42 ?l42 ?c42 ?k42 ?a43 ?l43 ?c43 ?k43 ?a44 ?l44 ?c44 ?k44 ?a45 ?l45 ?c45 ?k45 ?kc_MOST_PLACES ?z_all ?z_bool ?z_enumerate ?z_int ?z_isinstance ?z_len ?z_list ?z_max ?z_min ?z_range ?z_sorted ?z_tuple
    (case a7 => k_is); (case l7 => k_is); (case c7 => k_is); (case k7 => k_is)
    (case a8 => k_is); (case l8 => k_is); (case c8 => k_is); (case k8 => k_is)
    (case a9 => k_is); (case l9 => k_is); (case c9 => k_is); (case k9 => k_is)
    (case a10 => k_is); (case l10 => k_is); (case c10 => k_is); (case k10 => k_is)
    (case a11 => k_is); (case l11 => k_is); (case c11 => k_is); (case k11 => k_is)
    (case a12 => k_is); (case l12 => k_is); (case c12 => k_is); (case k12 => k_is)
    (case a13 => k_is); (case l13 => k_is); (case c13 => k_is); (case k13 => k_is)
    (case a16 => k_is); (case l16 => k_is); (case c16 => k_is); (case k16 => k_is)
    (case a17 => k_is); (case l17 => k_is); (case c17 => k_is); (case k17 => k_is)
    (case a18 => k_is); (case l18 => k_is); (case c18 => k_is); (case k18 => k_is)
    (case a19 => k_is); (case l19 => k_is); (case c19 => k_is); (case k19 => k_is)
    (case a20 => k_is); (case l20 => k_is); (case c20 => k_is); (case k20 => k_is)
    (case a21 => k_is); (case l21 => k_is); (case c21 => k_is); (case k21 => k_is)
    (case a22 => k_is); (case l22 => k_is); (case c22 => k_is); (case k22 => k_is)
    (case a24 => k_is); (case l24 => k_is); (case c24 => k_is); (case k24 => k_is)
    (case a25 => k_is); (case l25 => k_is); (case c25 => k_is); (case k25 => k_is)
    (case a26 => k_is); (case l26 => k_is); (case c26 => k_is); (case k26 => k_is)
    (case a27 => k_is); (case l27 => k_is); (case c27 => k_is); (case k27 => k_is)
    (case a28 => k_is); (case l28 => k_is); (case c28 => k_is); (case k28 => k_is)
    (case a29 => k_is); (case l29 => k_is); (case c29 => k_is); (case k29 => k_is)
    (case a30 => k_is); (case l30 => k_is); (case c30 => k_is); (case k30 => k_is)
    (case a32 => k_is); (case l32 => k_is); (case c32 => k_is); (case k32 => k_is)
    (case a33 => k_is); (case l33 => k_is); (case c33 => k_is); (case k33 => k_is)
    (case a34 => k_is); (case l34 => k_is); (case c34 => k_is); (case k34 => k_is)
    (case a35 => k_is); (case l35 => k_is); (case c35 => k_is); (case k35 => k_is)
    (case a36 => k_is); (case l36 => k_is); (case c36 => k_is); (case k36 => k_is)
    (case a37 => k_is); (case l37 => k_is); (case c37 => k_is); (case k37 => k_is)
    (case a38 => k_is); (case l38 => k_is); (case c38 => k_is); (case k38 => k_is)
    (case a39 => k_is); (case l39 => k_is); (case c39 => k_is); (case k39 => k_is)
    (case a40 => k_is); (case l40 => k_is); (case c40 => k_is); (case k40 => k_is)
    (case a41 => k_is); (case l41 => k_is); (case c41 => k_is); (case k41 => k_is)
    (case a42 => k_is); (case l42 => k_is); (case c42 => k_is); (case k42 => k_is)
    (case a43 => k_is); (case l43 => k_is); (case c43 => k_is); (case k43 => k_is)
    (case a44 => k_is); (case l44 => k_is); (case c44 => k_is); (case k44 => k_is)
    (case a45 => k_is); (case l45 => k_is); (case c45 => k_is); (case k45 => k_is)
    (case kc_MOST_PLACES => k_is)
    (case z_all => k_is)
    (case z_bool => k_is)
    (case z_enumerate => k_is)
    (case z_int => k_is)
    (case z_isinstance => k_is)
    (case z_len => k_is)
    (case z_list => k_is)
    (case z_max => k_is)
    (case z_min => k_is)
    (case z_range => k_is)
    (case z_sorted => k_is)
    (case z_tuple => k_is)
#print axioms PySem.Challenge.cw_farhail_k34_whole_shapes_are_webs_holds
