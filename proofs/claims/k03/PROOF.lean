import PyProof.Rows.All
import Wide.All
import OpenK.AllK
import Wide.FinOn
import HandS.ForMost
import HandS.Wide
import HandS.Walk
import HandS.Deep
import HandS.SortInts
import HandS.Flow
import HandS.IsInst
import PyProof.P3In
import HandS.TupSets
import HandS.Dict
import HandS.Conv
import HandS.SortRule
import KE.KIsAll
import HandS.Base
import HandS.Call
import HandS.Exc
import HandS.ExcOwn
import HandS.ExcIs
import HandS.ExcValue
import HandS.TryOnly
import HandS.WordsExc
import HandS.TupAny
import HandS.DictTup
import KE.KDictWalk
import KE.KExcIs
import HandS.List
import HandS.ExcInit
import HandS.ExcField
import HandS.ClsMeth
import HandS.Iter
import HandS.SetFor
import HandS.Strs
import HandS.More
import PySem.Challenge.RW_farhail_k03_webs_refused
set_option Elab.async false
set_option linter.all false
set_option maxRecDepth 100000
set_option maxHeartbeats 4000000
/-! Z0: results with refusals, data as it stands in a heap, the heap in a frozen part and cells of one's own -/
namespace Z
open PySem L2

abbrev Fg := PySem.W.Frag

/-! ### results -/
structure Exn where
  cls : Str
  arg : Int
  deriving DecidableEq

inductive R (α : Type) where
  | ok (a : α)
  | exc (e : Exn)
  | bad

def R.bind {α β : Type} (m : R α) (f : α → R β) : R β :=
  match m with
  | .ok a => f a
  | .exc e => .exc e
  | .bad => .bad
instance : Monad R where
  pure := R.ok
  bind := R.bind
section
variable {α β γ : Type}
theorem ok_bind (a : α) (f : α → R β) : (R.ok a >>= f) = f a := rfl
theorem pure_bind' (a : α) (f : α → R β) : ((pure a : R α) >>= f) = f a := rfl
theorem exc_bind (e : Exn) (f : α → R β) : ((R.exc e : R α) >>= f) = R.exc e := rfl
theorem bad_bind (f : α → R β) : ((R.bad : R α) >>= f) = R.bad := rfl
theorem pure_ok (a : α) : (pure a : R α) = R.ok a := rfl
theorem bind_bind (m : R α) (f : α → R β) (g : β → R γ) : ((m >>= f) >>= g) = (m >>= fun a => f a >>= g) := by
  cases m <;> rfl
theorem bind_ok_iff {m : R α} {f : α → R β} {b : β} : (m >>= f) = R.ok b ↔ ∃ a, m = R.ok a ∧ f a = R.ok b := by
  cases m with
  | ok a => exact ⟨fun h => ⟨a, rfl, h⟩, fun ⟨_, h1, h2⟩ => by cases h1; exact h2⟩
  | exc e => exact ⟨fun h => (nomatch (show R.exc e = R.ok b from h)), fun ⟨_, h1, _⟩ => nomatch h1⟩
  | bad => exact ⟨fun h => (nomatch (show R.bad = R.ok b from h)), fun ⟨_, h1, _⟩ => nomatch h1⟩
def grd (b : Bool) : R Unit := if b = true then .ok () else .bad
theorem grd_t {b : Bool} (h : b = true) : grd b = R.ok () := by rw [h]; rfl
def ofO (o : Option α) : R α :=
  match o with
  | some a => .ok a
  | none => .bad
theorem ofO_some (a : α) : ofO (some a) = R.ok a := rfl
/-- the item at an index of any sign -/
def getI (xs : List α) (i : Int) : R α := ofO (atI xs i)
/-- the list with another item at an index -/
def setI (xs : List α) (i : Int) (x : α) : R (List α) :=
  match ixN xs.length i with
  | some j => .ok (xs.set j x)
  | none => .bad
/-- a list of at most a thousand items grows by one -/
def app (xs : List α) (x : α) : R (List α) := if xs.length < 100000 then .ok (xs ++ [x]) else .bad
def extend (xs ys : List α) : R (List α) := if xs.length + ys.length < 100000 then .ok (xs ++ ys) else .bad
@[irreducible] def mulI (i j : Int) : R Int := if (-(2 ^ 64) < i ∧ i < 2 ^ 64) ∨ (-(2 ^ 64) < j ∧ j < 2 ^ 64) then .ok (i * j) else .bad
@[irreducible] def modI (i j : Int) : R Int := if 0 < j then .ok (i % j) else .bad
@[irreducible] def divI (i j : Int) : R Int := if 0 < j ∧ j.natAbs.log2 < 9000 then .ok (i / j) else .bad
@[irreducible] def powI (i j : Int) : R Int := if 0 ≤ j ∧ j ≤ 1000000 ∧ i.natAbs < 2 ^ 64 then .ok (i ^ j.toNat) else .bad
/-- the ints from i on below j -/
def rng (i j : Int) : List Int := (List.range (j - i).toNat).map fun (k : Nat) => i + (k : Int)
@[irreducible] def rngI (i j : Int) : R (List Int) := if -(2 ^ 62) ≤ i ∧ i < 2 ^ 62 ∧ -(2 ^ 62) ≤ j ∧ j < 2 ^ 62 then .ok (rng i j) else .bad
/-- items for items -/
def mapR (f : α → R β) : List α → R (List β)
  | [] => .ok []
  | x :: xs => do
    let y ← f x
    let ys ← mapR f xs
    pure (y :: ys)
/-- a fold whose turn may leave -/
def foldR (f : β → α → R β) : β → List α → R β
  | s, [] => .ok s
  | s, x :: xs => f s x >>= fun s' => foldR f s' xs
/-- a fold whose turn may end the whole with a value (inl), or the loop alone (inr inl) -/
def foldX {ρ : Type} (f : β → α → R (Sum ρ (Bool × β))) : β → List α → R (Sum ρ β)
  | s, [] => .ok (.inr s)
  | s, x :: xs => f s x >>= fun r =>
    match r with
    | .inl z => .ok (.inl z)
    | .inr (true, s') => foldX f s' xs
    | .inr (false, s') => .ok (.inr s')
/-- what holds of a result -/
def Post (m : R α) (P : α → Prop) (E : Exn → Prop) : Prop :=
  match m with
  | .ok a => P a
  | .exc e => E e
  | .bad => False
variable {P P' : α → Prop} {Q : β → Prop} {E E' : Exn → Prop}
theorem Post.mono {m : R α} (h : Post m P E) (hP : ∀ a, P a → P' a) (hE : ∀ e, E e → E' e) : Post m P' E' := by
  cases m with
  | ok a => exact hP a h
  | exc e => exact hE e h
  | bad => exact h
theorem post_bind {m : R α} {f : α → R β} (h : Post (m >>= f) Q E) : Post m (fun a => Post (f a) Q E) E := by
  cases m <;> exact h
theorem post_ok {a : α} (h : Post (R.ok a) P E) : P a := h
theorem pb_ok {a : α} {f : α → R β} (h : Post (R.ok a >>= f) Q E) : Post (f a) Q E := h
theorem pb_pure {a : α} {f : α → R β} (h : Post ((pure a : R α) >>= f) Q E) : Post (f a) Q E := h
theorem pb_assoc {m : R α} {f : α → R β} {g : β → R γ} {Q : γ → Prop} (h : Post ((m >>= f) >>= g) Q E) : Post (m >>= fun a => f a >>= g) Q E := by
  rw [bind_bind] at h
  exact h
theorem pb_grd {b : Bool} {f : Unit → R β} (h : Post (grd b >>= f) Q E) : b = true ∧ Post (f ()) Q E := by
  cases b with
  | true => exact ⟨rfl, h⟩
  | false => exact (show False from h).elim
theorem pb_ofO {o : Option α} {f : α → R β} (h : Post (ofO o >>= f) Q E) : ∃ a, o = some a ∧ Post (f a) Q E := by
  cases o with
  | some a => exact ⟨a, rfl, h⟩
  | none => exact (show False from h).elim
theorem pb_get {xs : List α} {i : Int} {f : α → R β} (h : Post (getI xs i >>= f) Q E) : ∃ a, atI xs i = some a ∧ Post (f a) Q E := pb_ofO h
theorem pb_set {xs : List α} {i : Int} {x : α} {f : List α → R β} (h : Post (setI xs i x >>= f) Q E) : ∃ j, ixN xs.length i = some j ∧ Post (f (xs.set j x)) Q E := by
  unfold setI at h
  cases e : ixN xs.length i with
  | some j => rw [e] at h; exact ⟨j, rfl, h⟩
  | none => rw [e] at h; exact (show False from h).elim
theorem pb_if {c : Prop} [Decidable c] {a : α} {f : α → R β} (h : Post ((if c then R.ok a else R.bad) >>= f) Q E) : c ∧ Post (f a) Q E := by
  by_cases hc : c
  · rw [if_pos hc] at h
    exact ⟨hc, h⟩
  · rw [if_neg hc] at h
    exact (show False from h).elim
theorem line5 : 100000 ≤ sizeLine := by decide
theorem pb_app {xs : List α} {x : α} {f : List α → R β} (h : Post (app xs x >>= f) Q E) : xs.length < sizeLine ∧ Post (f (xs ++ [x])) Q E :=
  let ⟨a, b⟩ := pb_if h
  ⟨Nat.lt_of_lt_of_le a line5, b⟩
theorem pb_extend {xs ys : List α} {f : List α → R β} (h : Post (extend xs ys >>= f) Q E) : xs.length + ys.length ≤ sizeLine ∧ Post (f (xs ++ ys)) Q E :=
  let ⟨a, b⟩ := pb_if h
  ⟨Nat.le_of_lt (Nat.lt_of_lt_of_le a line5), b⟩
theorem pb_mul {i j : Int} {f : Int → R β} (h : Post (mulI i j >>= f) Q E) : CMul i j ∧ Post (f (i * j)) Q E := by
  unfold mulI at h
  exact let ⟨a, b⟩ := pb_if (c := (-(2 ^ 64) < i ∧ i < 2 ^ 64) ∨ (-(2 ^ 64) < j ∧ j < 2 ^ 64)) h
  ⟨a, b⟩
theorem pb_mod {i j : Int} {f : Int → R β} (h : Post (modI i j >>= f) Q E) : 0 < j ∧ Post (f (i % j)) Q E := by
  unfold modI at h
  exact pb_if h
theorem pb_div {i j : Int} {f : Int → R β} (h : Post (divI i j >>= f) Q E) : CDivW i j ∧ Post (f (i / j)) Q E := by
  unfold divI at h
  exact let ⟨a, b⟩ := pb_if (c := 0 < j ∧ j.natAbs.log2 < 9000) h
  ⟨a, b⟩
theorem pb_pow {i j : Int} {f : Int → R β} (h : Post (powI i j >>= f) Q E) : CPow i j ∧ Post (f (i ^ j.toNat)) Q E := by
  unfold powI at h
  exact let ⟨a, b⟩ := pb_if (c := 0 ≤ j ∧ j ≤ 1000000 ∧ i.natAbs < 2 ^ 64) h
  ⟨a, b⟩
theorem pb_rng {i j : Int} {f : List Int → R β} (h : Post (rngI i j >>= f) Q E) : (-(2 ^ 62) ≤ i ∧ i < 2 ^ 62 ∧ -(2 ^ 62) ≤ j ∧ j < 2 ^ 62) ∧ Post (f (rng i j)) Q E := by
  unfold rngI at h
  exact pb_if h
theorem post_ite {c : Bool} {m n : R α} {A B : Prop} (h : Post (if c = true then m else n) P E) (ht : c = true → Post m P E → A) (hf : c = false → Post n P E → B) : if c = true then A else B := by
  cases c with
  | true => exact ht rfl h
  | false => exact hf rfl h
theorem post_ite2 {c : Bool} {m n : R α} {A : Prop} (h : Post (if c = true then m else n) P E) (ht : c = true → Post m P E → A) (hf : c = false → Post n P E → A) : A := by
  cases c with
  | true => exact ht rfl h
  | false => exact hf rfl h
theorem pb_ite {c : Bool} {m n : R α} {f : α → R β} (h : Post ((if c = true then m else n) >>= f) Q E) : Post (if c = true then m >>= f else n >>= f) Q E := by
  cases c <;> exact h
theorem pb_foldR {f : γ → α → R γ} {s : γ} {x : α} {xs : List α} {g : γ → R β} (h : Post (foldR f s (x :: xs) >>= g) Q E) : Post (f s x >>= fun s' => foldR f s' xs >>= g) Q E := by
  have h' : Post ((f s x >>= fun s' => foldR f s' xs) >>= g) Q E := h
  rw [bind_bind] at h'
  exact h'
end

/-! ### lists of values and what they stand for -/
inductive A2 {α : Type} (r : V → α → Prop) : List V → List α → Prop
  | nil : A2 r [] []
  | cons {v : V} {x : α} {vs : List V} {xs : List α} : r v x → A2 r vs xs → A2 r (v :: vs) (x :: xs)
section
variable {α : Type} {r r' : V → α → Prop} {vs us : List V} {xs ys : List α} {v : V} {x : α}
theorem A2.length : ∀ {vs : List V} {xs : List α}, A2 r vs xs → vs.length = xs.length
  | _, _, .nil => rfl
  | _, _, .cons _ t => by rw [List.length_cons, List.length_cons, A2.length t]
theorem A2.imp (f : ∀ v x, r v x → r' v x) : ∀ {vs : List V} {xs : List α}, A2 r vs xs → A2 r' vs xs
  | _, _, .nil => .nil
  | _, _, .cons h t => .cons (f _ _ h) (A2.imp f t)
theorem A2.append : ∀ {vs us : List V} {xs ys : List α}, A2 r vs xs → A2 r us ys → A2 r (vs ++ us) (xs ++ ys)
  | _, _, _, _, .nil, h => h
  | _, _, _, _, .cons a t, h => .cons a (A2.append t h)
theorem A2.snoc (h : A2 r vs xs) (a : r v x) : A2 r (vs ++ [v]) (xs ++ [x]) := h.append (.cons a .nil)
theorem A2.get : ∀ {vs : List V} {xs : List α} {i : Nat} {x : α}, A2 r vs xs → xs[i]? = some x → ∃ v, vs[i]? = some v ∧ r v x
  | _, _, _, _, .nil, e => by simp at e
  | _, _, 0, _, .cons a _, e => by simp at e; subst e; exact ⟨_, rfl, a⟩
  | _, _, i + 1, x, .cons _ t, e => by
    obtain ⟨v, h1, h2⟩ := A2.get (i := i) (x := x) t (by simpa using e)
    exact ⟨v, by simpa using h1, h2⟩
theorem A2.getV : ∀ {vs : List V} {xs : List α} {i : Nat} {v : V}, A2 r vs xs → vs[i]? = some v → ∃ x, xs[i]? = some x ∧ r v x
  | _, _, _, _, .nil, e => by simp at e
  | _, _, 0, _, .cons a _, e => by simp at e; subst e; exact ⟨_, rfl, a⟩
  | _, _, i + 1, x, .cons _ t, e => by
    obtain ⟨v, h1, h2⟩ := A2.getV (i := i) (v := x) t (by simpa using e)
    exact ⟨v, by simpa using h1, h2⟩
theorem A2.at {i : Int} (h : A2 r vs xs) (e : atI xs i = some x) : ∃ v, atI vs i = some v ∧ r v x := by
  unfold atI at e ⊢
  rw [h.length]
  cases q : ixN xs.length i with
  | none => rw [q] at e; cases e
  | some j =>
    rw [q] at e
    exact h.get e
theorem A2.set (a : r v x) : ∀ {vs : List V} {xs : List α} (i : Nat), A2 r vs xs → A2 r (vs.set i v) (xs.set i x)
  | _, _, _, .nil => .nil
  | _, _, 0, .cons _ t => .cons a t
  | _, _, i + 1, .cons q t => .cons q (A2.set a i t)
theorem A2.take : ∀ {vs : List V} {xs : List α} (n : Nat), A2 r vs xs → A2 r (vs.take n) (xs.take n)
  | _, _, 0, _ => .nil
  | _, _, _ + 1, .nil => .nil
  | _, _, n + 1, .cons a t => .cons a (A2.take n t)
theorem A2.drop : ∀ {vs : List V} {xs : List α} (n : Nat), A2 r vs xs → A2 r (vs.drop n) (xs.drop n)
  | _, _, 0, h => h
  | _, _, _ + 1, .nil => .nil
  | _, _, n + 1, .cons _ t => A2.drop n t
theorem A2.reverse : ∀ {vs : List V} {xs : List α}, A2 r vs xs → A2 r vs.reverse xs.reverse
  | _, _, .nil => .nil
  | _, _, .cons a t => by
    rw [List.reverse_cons, List.reverse_cons]
    exact (A2.reverse t).snoc a
theorem A2.eraseIdx : ∀ {vs : List V} {xs : List α} (i : Nat), A2 r vs xs → A2 r (vs.eraseIdx i) (xs.eraseIdx i)
  | _, _, _, .nil => .nil
  | _, _, 0, .cons _ t => t
  | _, _, i + 1, .cons a t => .cons a (A2.eraseIdx i t)
theorem A2.dropLast : ∀ {vs : List V} {xs : List α}, A2 r vs xs → A2 r vs.dropLast xs.dropLast
  | _, _, .nil => .nil
  | _, _, .cons _ .nil => .nil
  | _, _, .cons a (.cons b t) => .cons a (A2.dropLast (.cons b t))
theorem A2.repl {n : Nat} (a : r v x) : A2 r (List.replicate n v) (List.replicate n x) := by
  induction n with
  | zero => exact .nil
  | succ n ih => exact .cons a ih
end

/-! ### data in a heap -/
theorem Same.seqT {K : Fg} {H H' : Hp} {a : Addr} {xs : List V} (e : Same H H') (h : SqT K H a xs) : SqT K H' a xs := by
  rcases h with (h | ⟨o, h⟩) | h
  · exact .inl (.inl (e _ _ h))
  · exact .inl (.inr ⟨o, e _ _ h⟩)
  · exact .inr h
class Rep (α : Type) where
  rep : Fg → Hp → V → α → Prop
  mono : ∀ {K : Fg} {H H' : Hp} {v : V} {x : α}, Same H H' → rep K H v x → rep K H' v x
open Rep (rep)
section
variable {α β : Type} [Rep α] [Rep β] {K : Fg} {H H' : Hp} {v : V}
theorem A2.mono {vs : List V} {xs : List α} (s : Same H H') (h : A2 (rep K H) vs xs) : A2 (rep K H') vs xs := h.imp fun _ _ => Rep.mono s
instance : Rep Int := ⟨fun _ _ v x => v = .int x, fun _ h => h⟩
instance : Rep Bool := ⟨fun _ _ v x => v = .bl x, fun _ h => h⟩
instance : Rep Unit := ⟨fun _ _ v _ => v = .non, fun _ h => h⟩
instance : Rep Str := ⟨fun _ _ v x => v = .str x, fun _ h => h⟩
instance repOpt : Rep (Option α) := ⟨fun K H v x => match x with
  | none => v = .non
  | some y => rep K H v y, fun {_ _ _ _ x} s h => by
    cases x with
    | none => exact h
    | some y => exact Rep.mono (α := α) s h⟩
instance repPair : Rep (α × β) := ⟨fun K H v x => ∃ a u w, v = .ref a ∧ H a = some (.tup [u, w]) ∧ rep K H u x.1 ∧ rep K H w x.2,
  fun s ⟨a, u, w, e, q, h1, h2⟩ => ⟨a, u, w, e, s _ _ q, Rep.mono s h1, Rep.mono s h2⟩⟩
instance repList : Rep (List α) := ⟨fun K H v xs => ∃ a vs, v = .ref a ∧ H a = some (.lst vs) ∧ A2 (rep K H) vs xs,
  fun s ⟨a, vs, e, q, h⟩ => ⟨a, vs, e, s _ _ q, h.mono s⟩⟩
/-- the script -/
structure Scr where
  l : List Int
  deriving DecidableEq
instance repScr : Rep Scr := ⟨fun K H v xs => ∃ a, v = .ref a ∧ SqL K H a (xs.l.map V.int), fun s ⟨a, e, q⟩ => ⟨a, e, s.seq q⟩⟩
/-- a tuple of any number of like things -/
structure Tup (α : Type) where
  l : List α
  deriving DecidableEq
instance repTup : Rep (Tup α) := ⟨fun K H v xs => ∃ a vs, v = .ref a ∧ H a = some (.tup vs) ∧ A2 (rep K H) vs xs.l,
  fun s ⟨a, vs, e, q, h⟩ => ⟨a, vs, e, s _ _ q, h.mono s⟩⟩
/-- a place, or a pair -/
inductive Thing where
  | pl (i : Int)
  | ti (a b : Int)
  deriving DecidableEq
instance repThing : Rep Thing := ⟨fun K H v x => match x with
  | .pl i => v = .int i
  | .ti a b => rep K H v (a, b), fun {_ _ _ _ x} s h => by
    cases x with
    | pl i => exact h
    | ti a b => exact Rep.mono (α := Int × Int) s h⟩
theorem A2.ints {vs : List V} {xs : List Int} (h : A2 (rep K H) vs xs) : vs = xs.map V.int := by
  induction h with
  | nil => rfl
  | cons a _ ih =>
    have a' : _ = V.int _ := a
    rw [a', ih]
    rfl
theorem A2.of_ints {xs : List Int} : A2 (rep K H) (xs.map V.int) xs := by
  induction xs with
  | nil => exact .nil
  | cons x xs ih => exact .cons rfl ih
theorem A2.bools {vs : List V} {xs : List Bool} (h : A2 (rep K H) vs xs) : vs = xs.map V.bl := by
  induction h with
  | nil => rfl
  | cons a _ ih =>
    have a' : _ = V.bl _ := a
    rw [a', ih]
    rfl
end

/-! ### the heap: F, frozen, is read alone; the cells os are one's own, not in F -/
structure W (F H : Hp) (os : List (Addr × HO)) : Prop where
  same : Same F H
  own : ∀ p ∈ os, H p.1 = some p.2 ∧ F p.1 = none
  nd : os.Pairwise fun p q => p.1 ≠ q.1
  nt : ∀ p ∈ os, ∀ vs, p.2 ≠ .tup vs
theorem same_new {H : Hp} {p : Addr} {o : HO} (h : H p = none) : Same H (upd H p o) := fun a u e => by
  rw [upd_ne (ne_of_none e h)]
  exact e
section
variable {F H : Hp} {os pre post : List (Addr × HO)} {a p : Addr} {o o' : HO}
theorem W.free (w : W F H os) (n : H p = none) : F p = none := w.same.free n
theorem W.get (w : W F H (pre ++ (a, o) :: post)) : H a = some o := (w.own (a, o) (List.mem_append_right _ List.mem_cons_self)).1
theorem W.no (w : W F H (pre ++ (a, o) :: post)) : F a = none := (w.own (a, o) (List.mem_append_right _ List.mem_cons_self)).2
theorem W.ne (w : W F H os) (n : H p = none) : ∀ q ∈ os, q.1 ≠ p := fun q hq e => by
  have h := (w.own q hq).1
  rw [e, n] at h
  cases h
/-- a new thing, never to be written -/
theorem W.frz (w : W F H os) (n : H p = none) : W (upd F p o) (upd H p o) os where
  same := fun b u e => by
    by_cases hb : b = p
    · subst hb
      rw [upd_same] at e ⊢
      exact e
    · rw [upd_ne hb] at e ⊢
      exact w.same b u e
  own := fun q hq => by
    have hne := w.ne n q hq
    rw [upd_ne hne, upd_ne hne]
    exact w.own q hq
  nd := w.nd
  nt := w.nt
theorem W.frzS (w : W F H os) (n : H p = none) : Same F (upd F p o) := same_new (w.free n)
/-- a new cell of one's own -/
theorem W.new (w : W F H os) (n : H p = none) (ho : ∀ vs, o ≠ .tup vs := by exact fun _ h => nomatch h) : W F (upd H p o) ((p, o) :: os) where
  same := w.same.trans (same_new n)
  own := fun q hq => by
    rcases List.mem_cons.mp hq with rfl | hq
    · exact ⟨upd_same, w.free n⟩
    · rw [upd_ne (w.ne n q hq)]
      exact w.own q hq
  nd := List.pairwise_cons.mpr ⟨fun q hq => fun e => w.ne n q hq e.symm, w.nd⟩
  nt := fun q hq => by
    rcases List.mem_cons.mp hq with rfl | hq
    · exact ho
    · exact w.nt q hq
/-- a cell of one's own is written -/
theorem W.set (w : W F H (pre ++ (a, o) :: post)) (ho : ∀ vs, o' ≠ .tup vs := by exact fun _ h => nomatch h) : W F (upd H a o') (pre ++ (a, o') :: post) where
  same := fun b u e => by
    have hn := w.no
    rw [upd_ne (ne_of_none e hn)]
    exact w.same b u e
  own := fun q hq => by
    have nd := w.nd
    rw [List.pairwise_append] at nd
    obtain ⟨_, n2, n3⟩ := nd
    rw [List.pairwise_cons] at n2
    rcases List.mem_append.mp hq with hq | hq
    · have hne : q.1 ≠ a := n3 q hq (a, o) List.mem_cons_self
      rw [upd_ne hne]
      exact w.own q (List.mem_append_left _ hq)
    · rcases List.mem_cons.mp hq with rfl | hq
      · exact ⟨upd_same, w.no⟩
      · have hne : q.1 ≠ a := fun e => n2.1 q hq e.symm
        rw [upd_ne hne]
        exact w.own q (List.mem_append_right _ (List.mem_cons_of_mem _ hq))
  nd := by
    have nd := w.nd
    rw [List.pairwise_append] at nd ⊢
    obtain ⟨n1, n2, n3⟩ := nd
    rw [List.pairwise_cons] at n2 ⊢
    refine ⟨n1, ⟨n2.1, n2.2⟩, fun x hx y hy => ?_⟩
    rcases List.mem_cons.mp hy with rfl | hy
    · exact n3 x hx (a, o) List.mem_cons_self
    · exact n3 x hx y (List.mem_cons_of_mem _ hy)
  nt := fun q hq => by
    rcases List.mem_append.mp hq with hq | hq
    · exact w.nt q (List.mem_append_left _ hq)
    · rcases List.mem_cons.mp hq with rfl | hq
      · exact ho
      · exact w.nt q (List.mem_append_right _ (List.mem_cons_of_mem _ hq))
/-- a cell is forgotten -/
theorem W.drop (w : W F H (pre ++ (a, o) :: post)) : W F H (pre ++ post) where
  same := w.same
  own := fun q hq => w.own q (by
    rcases List.mem_append.mp hq with h | h
    · exact List.mem_append_left _ h
    · exact List.mem_append_right _ (List.mem_cons_of_mem _ h))
  nd := by
    have nd := w.nd
    rw [List.pairwise_append] at nd ⊢
    obtain ⟨n1, n2, n3⟩ := nd
    rw [List.pairwise_cons] at n2
    exact ⟨n1, n2.2, fun x hx y hy => n3 x hx y (List.mem_cons_of_mem _ hy)⟩
  nt := fun q hq => w.nt q (by
    rcases List.mem_append.mp hq with h | h
    · exact List.mem_append_left _ h
    · exact List.mem_append_right _ (List.mem_cons_of_mem _ h))
/-- a cell of one's own is never written again -/
theorem W.freeze (w : W F H (pre ++ (a, o) :: post)) : W (upd F a o) H (pre ++ post) where
  same := fun b u e => by
    by_cases hb : b = a
    · subst hb
      rw [upd_same] at e
      rw [← e]
      exact w.get
    · rw [upd_ne hb] at e
      exact w.same b u e
  own := fun q hq => by
    have nd := w.nd
    rw [List.pairwise_append] at nd
    obtain ⟨n1, n2, n3⟩ := nd
    rw [List.pairwise_cons] at n2
    have hne : q.1 ≠ a := by
      rcases List.mem_append.mp hq with h | h
      · exact n3 q h (a, o) List.mem_cons_self
      · exact fun e => n2.1 q h e.symm
    have h := w.drop.own q hq
    rw [upd_ne hne]
    exact h
  nd := w.drop.nd
  nt := w.drop.nt
theorem W.freezeS (w : W F H (pre ++ (a, o) :: post)) : Same F (upd F a o) := same_new w.no
/-- a cell is told first -/
theorem W.front (w : W F H (pre ++ (a, o) :: post)) : W F H ((a, o) :: (pre ++ post)) where
  same := w.same
  own := fun x hx => w.own x (by
    rcases List.mem_cons.mp hx with rfl | h
    · exact List.mem_append_right _ List.mem_cons_self
    · rcases List.mem_append.mp h with h | h
      · exact List.mem_append_left _ h
      · exact List.mem_append_right _ (List.mem_cons_of_mem _ h))
  nd := by
    have nd := w.nd
    have nd' := w.drop.nd
    rw [List.pairwise_append] at nd
    obtain ⟨n1, n2, n3⟩ := nd
    rw [List.pairwise_cons] at n2
    refine List.pairwise_cons.mpr ⟨fun x hx => ?_, nd'⟩
    rcases List.mem_append.mp hx with h | h
    · exact fun e => n3 x h (a, o) List.mem_cons_self e.symm
    · exact n2.1 x h
  nt := fun x hx => w.nt x (by
    rcases List.mem_cons.mp hx with rfl | h
    · exact List.mem_append_right _ List.mem_cons_self
    · rcases List.mem_append.mp h with h | h
      · exact List.mem_append_left _ h
      · exact List.mem_append_right _ (List.mem_cons_of_mem _ h))
end

/-! ### what a call hands back -/
section
variable {α β : Type} [Rep α] [Rep β]
/-- a value of the frozen part -/
def Ret (K : Fg) (F : Hp) (os : List (Addr × HO)) (Q : VK) (y : α) : Prop := ∀ v F' H', W F' H' os → Same F F' → rep K F' v y → Q v H'
/-- a new list, the caller's own -/
def RetL (K : Fg) (F : Hp) (os : List (Addr × HO)) (Q : VK) (ys : List α) : Prop := ∀ p vs F' H', W F' H' ((p, .lst vs) :: os) → Same F F' → A2 (rep K F') vs ys → Q (.ref p) H'
/-- a value, and what the list at a holds now -/
def RetM (K : Fg) (F : Hp) (a : Addr) (os : List (Addr × HO)) (Q : VK) (y : α × List β) : Prop :=
  ∀ v vs F' H', W F' H' ((a, .lst vs) :: os) → Same F F' → rep K F' v y.1 → A2 (rep K F') vs y.2 → Q v H'
/-- a new list, the caller's own, and what the list at a holds now -/
def RetLM (K : Fg) (F : Hp) (a : Addr) (os : List (Addr × HO)) (Q : VK) (y : List α × List β) : Prop :=
  ∀ p us vs F' H', W F' H' ((p, .lst us) :: (a, .lst vs) :: os) → Same F F' → A2 (rep K F') us y.1 → A2 (rep K F') vs y.2 → Q (.ref p) H'
def noX : Exn → Prop := fun _ => False
end
end Z
/-! Z1: loops, comprehensions and joins against their mirrors; calls by typed data -/
namespace Z
open PySem L2
open Rep (rep)

/-! ### ways that join -/
section
variable {γ δ : Type} {m : R γ} {k : γ → R δ} {P : δ → Prop} {X : Exn → Prop}
theorem joinS {t u : TS} {D : Ends} {σ : St} {H : Hp} (hm : Post (m >>= k) P X) (J : γ → St → Hp → Prop)
    (h : ∀ (N : St → Hp → Prop) (P' : γ → Prop), (∀ g, P' g → ∀ σ' H', J g σ' H' → N σ' H') → Post m P' X → t { D with nx := N } σ H)
    (h2 : ∀ g σ' H', J g σ' H' → Post (k g) P X → u D σ' H') : tSeq t u D σ H :=
  h _ _ (fun g p σ' H' j => h2 g σ' H' j p) (post_bind hm)
theorem joinT {t : TT} {σ : St} {H : Hp} {Q : Bool → Hp → Prop} (hm : Post (m >>= k) P X) (J : γ → Bool → Hp → Prop)
    (h : ∀ (Q' : Bool → Hp → Prop) (P' : γ → Prop), (∀ g, P' g → ∀ c H', J g c H' → Q' c H') → Post m P' X → t σ H Q')
    (h2 : ∀ g c H', J g c H' → Post (k g) P X → Q c H') : t σ H Q :=
  h _ _ (fun g p c H' j => h2 g c H' j p) (post_bind hm)
theorem joinE {t : TE} {σ : St} {H : Hp} {Q : VK} (hm : Post (m >>= k) P X) (J : γ → V → Hp → Prop)
    (h : ∀ (Q' : VK) (P' : γ → Prop), (∀ g, P' g → ∀ c H', J g c H' → Q' c H') → Post m P' X → t σ H Q')
    (h2 : ∀ g c H', J g c H' → Post (k g) P X → Q c H') : t σ H Q :=
  h _ _ (fun g p c H' j => h2 g c H' j p) (post_bind hm)
/-- a test of a value that is told -/
theorem cutT {t : TT} {σ : St} {H : Hp} {Q : Bool → Hp → Prop} (J : Bool → Hp → Prop) (h : ∀ Q' : Bool → Hp → Prop, (∀ c H', J c H' → Q' c H') → t σ H Q') (h2 : ∀ c H', J c H' → Q c H') : t σ H Q := h _ h2
theorem cutE {t : TE} {σ : St} {H : Hp} {Q : VK} (J : V → Hp → Prop) (h : ∀ Q' : VK, (∀ c H', J c H' → Q' c H') → t σ H Q') (h2 : ∀ c H', J c H' → Q c H') : t σ H Q := h _ h2
theorem ifB {c : Bool} {A B : Prop} (h1 : c = true → A) (h2 : c = false → B) : if c = true then A else B := by
  cases c with
  | true => exact h1 rfl
  | false => exact h2 rfl
end

/-! ### what is walked, typed -/
structure TW (J : It) {β : Type} (items : List β) (G : Hp → Prop) (Y : β → Hp → V → Hp → Prop) : Prop where
  walk : Walk J items.length G (fun i H x H' => ∃ b, items[i]? = some b ∧ Y b H x H')
section
variable {K : Fg} {F : Hp} {a : Addr} {α β : Type} [Rep α] [Rep β] {vs us : List V} {xs : List α} {ys : List β}
theorem tw_list (h : A2 (rep K F) vs xs) : TW (Itl K a) xs (fun H => SqL K H a vs) (fun b H x H' => H' = H ∧ rep K F x b) := ⟨by
  rw [← h.length]
  exact walk_list.mono (fun _ g => g) fun i H x H' _ _ y => by
    obtain ⟨y1, y2⟩ := y
    obtain ⟨b, h1, h2⟩ := h.getV y2
    exact ⟨b, h1, y1, h2⟩⟩
theorem tw_tup (h : A2 (rep K F) vs xs) : TW (Itt K a) xs (fun H => SqT K H a vs) (fun b H x H' => H' = H ∧ rep K F x b) := ⟨by
  rw [← h.length]
  exact walk_tup.mono (fun _ g => g) fun i H x H' _ _ y => by
    obtain ⟨y1, y2⟩ := y
    obtain ⟨b, h1, h2⟩ := h.getV y2
    exact ⟨b, h1, y1, h2⟩⟩
theorem rng_length (i j : Int) : (rng i j).length = (j - i).toNat := by
  unfold rng
  rw [List.length_map, List.length_range]
theorem rng_get {i j : Int} {n : Nat} (h : n < (j - i).toNat) : (rng i j)[n]? = some (i + (n : Int)) := by
  unfold rng
  rw [List.getElem?_map, List.getElem?_range h]
  rfl
theorem tw_rng {i j : Int} : TW (Itr i (j - i).toNat) (rng i j) (fun _ => True) (fun b H x H' => H' = H ∧ x = .int b) := ⟨by
  rw [rng_length]
  exact walk_range.mono (fun _ g => g) fun n H x H' hn _ y => ⟨_, rng_get hn, y.1, y.2⟩⟩
theorem tw_rng0 {j : Int} : TW (Itr 0 j.toNat) (rng 0 j) (fun _ => True) (fun b H x H' => H' = H ∧ x = .int b) := by
  have h := tw_rng (i := 0) (j := j)
  rw [Int.sub_zero] at h
  exact h
/-- pairs of a place and the item there -/
def enum (xs : List α) : List (Int × α) := (rng 0 xs.length).zip xs
theorem enum_length (xs : List α) : (enum xs).length = xs.length := by
  unfold enum
  rw [List.length_zip, rng_length]
  omega
theorem enum_get {xs : List α} {i : Nat} {x : α} (h : xs[i]? = some x) : (enum xs)[i]? = some ((i : Int), x) := by
  have hl := (List.getElem?_eq_some_iff.mp h).1
  unfold enum
  rw [List.getElem?_zip_eq_some]
  refine ⟨?_, h⟩
  rw [rng_get (by omega)]
  simp
theorem tw_enum (h : A2 (rep K F) vs xs) : TW (Ite K a) (enum xs) (fun H => SqL K H a vs) (fun b H v H' => ∃ T x, v = .ref T ∧ H T = none ∧ H' = upd H T (.tup [.int b.1, x]) ∧ rep K F x b.2) := ⟨by
  rw [enum_length, ← h.length]
  exact walk_enum.mono (fun _ g => g) fun i H x H' _ _ y => by
    obtain ⟨T, u, w, e1, e2, e3, e4, e5⟩ := y
    obtain ⟨b, h1, h2⟩ := h.getV e5
    cases e4
    exact ⟨((i : Int), b), enum_get h1, T, w, e1, e2, e3, h2⟩⟩
theorem tw_zip {b : Addr} (h : A2 (rep K F) vs xs) (h' : A2 (rep K F) us ys) : TW (Itz K a b) (xs.zip ys) (fun H => SqL K H a vs ∧ SqL K H b us) (fun p H v H' => ∃ T x y, v = .ref T ∧ H T = none ∧ H' = upd H T (.tup [x, y]) ∧ rep K F x p.1 ∧ rep K F y p.2) := ⟨by
  rw [List.length_zip, ← h.length, ← h'.length]
  exact (walk_zip rfl).mono (fun _ g => g) fun i H x H' _ _ y => by
    obtain ⟨T, u, w, e1, e2, e3, e4, e5⟩ := y
    obtain ⟨c, h1, h2⟩ := h.getV e4
    obtain ⟨d, h3, h4⟩ := h'.getV e5
    refine ⟨(c, d), ?_, T, u, w, e1, e2, e3, h2, h4⟩
    rw [List.getElem?_zip_eq_some]
    exact ⟨h1, h3⟩⟩
end

/-! ### for -/
section
variable {J : It} {β γ δ ρ : Type} {items : List β} {G : Hp → Prop} {Y : β → Hp → V → Hp → Prop} {g : TG} {tb : TS} {D : Ends} {σ : St} {H : Hp} {P : δ → Prop} {X : Exn → Prop}
theorem drop_cons {l : List β} {i : Nat} {b : β} (h : l[i]? = some b) : l.drop i = b :: l.drop (i + 1) := by
  obtain ⟨hl, e⟩ := List.getElem?_eq_some_iff.mp h
  rw [List.drop_eq_getElem_cons hl, e]
theorem forS (tw : TW J items G Y) {body : γ → β → R γ} {s0 : γ} {k : γ → R δ} (hm : Post (foldR body s0 items >>= k) P X) (I : γ → St → Hp → Prop) (h0 : I s0 σ H) (hG : ∀ c σ H, I c σ H → G H)
    (hs : ∀ (b : β) (c : γ) (x : V) (σ : St) (H H' : Hp) (N : St → Hp → Prop) (P' : γ → Prop), I c σ H → Y b H x H' → (∀ c', P' c' → ∀ σ' H', I c' σ' H' → N σ' H') → Post (body c b) P' X → g x σ H' fun σ2 H2 => tb { D with nx := N, ct := N, bk := D.nx } σ2 H2)
    (hd : ∀ c σ H, I c σ H → Post (k c) P X → D.nx σ H) :
    ∃ W : Nat → Nat → St → Hp → Prop, (∃ m, W 0 m σ H) ∧ ∀ i m σ H, W i m σ H →
      (J.stop i H ∧ D.nx σ H) ∨ (J.go i H ∧ ∃ N : St → Hp → Prop, (∀ σ' H', N σ' H' → ∃ m', m' < m ∧ W (i + 1) m' σ' H') ∧ ∀ x H', J.yld i H x H' → g x σ H' fun σ2 H2 => tb { D with nx := N, ct := N, bk := D.nx } σ2 H2) := by
  refine for_it tw.walk (fun i σ H => ∃ c, I c σ H ∧ Post (foldR body c (items.drop i) >>= k) P X) ⟨s0, h0, hm⟩ (fun i σ H _ ⟨c, h, _⟩ => hG c σ H h) ?_ ?_
  · rintro i x σ H H' hi ⟨c, h, hm⟩ ⟨b, hb, y⟩
    rw [drop_cons hb] at hm
    exact hs b c x σ H H' _ _ h y (fun c' p' σ' H' h' => ⟨c', h', p'⟩) (post_bind (pb_foldR hm))
  · rintro σ H ⟨c, h, hm⟩
    rw [List.drop_length] at hm
    exact hd c σ H h hm
/-- a for that may end the whole, or itself -/
theorem forX (tw : TW J items G Y) {body : γ → β → R (Sum ρ (Bool × γ))} {s0 : γ} {k : Sum ρ γ → R δ} (hm : Post (foldX body s0 items >>= k) P X) (I : γ → St → Hp → Prop) (h0 : I s0 σ H) (hG : ∀ c σ H, I c σ H → G H)
    (hs : ∀ (b : β) (c : γ) (x : V) (σ : St) (H H' : Hp) (N B : St → Hp → Prop) (P' : Sum ρ (Bool × γ) → Prop), I c σ H → Y b H x H' → (∀ c', P' (.inr (true, c')) → ∀ σ' H', I c' σ' H' → N σ' H') → (∀ c', P' (.inr (false, c')) → ∀ σ' H', I c' σ' H' → B σ' H') →
      (∀ z, P' (.inl z) → Post (k (.inl z)) P X) → Post (body c b) P' X → g x σ H' fun σ2 H2 => tb { D with nx := N, ct := N, bk := B } σ2 H2)
    (hd : ∀ c σ H, I c σ H → Post (k (.inr c)) P X → D.nx σ H) :
    ∃ W : Nat → Nat → St → Hp → Prop, (∃ m, W 0 m σ H) ∧ ∀ i m σ H, W i m σ H →
      (J.stop i H ∧ D.nx σ H) ∨ (J.go i H ∧ ∃ N : St → Hp → Prop, (∀ σ' H', N σ' H' → ∃ m', m' < m ∧ W (i + 1) m' σ' H') ∧ ∀ x H', J.yld i H x H' → g x σ H' fun σ2 H2 => tb { D with nx := N, ct := N, bk := D.nx } σ2 H2) := by
  refine for_it tw.walk (fun i σ H => ∃ c, I c σ H ∧ Post (foldX body c (items.drop i) >>= k) P X) ⟨s0, h0, hm⟩ (fun i σ H _ ⟨c, h, _⟩ => hG c σ H h) ?_ ?_
  · rintro i x σ H H' hi ⟨c, h, hm⟩ ⟨b, hb, y⟩
    rw [drop_cons hb] at hm
    have hm' : Post ((body c b >>= fun r => match r with
      | .inl z => (R.ok (.inl z) : R (Sum ρ γ))
      | .inr (true, s') => foldX body s' (items.drop (i + 1))
      | .inr (false, s') => R.ok (.inr s')) >>= k) P X := hm
    rw [bind_bind] at hm'
    exact hs b c x σ H H' _ _ _ h y (fun c' p' σ' H' h' => ⟨c', h', p'⟩) (fun c' p' σ' H' h' => hd c' σ' H' h' p') (fun z p' => p') (post_bind hm')
  · rintro σ H ⟨c, h, hm⟩
    rw [List.drop_length] at hm
    exact hd c σ H h hm
end
/-! ### comprehensions -/
/-- items for items, of a list that is not too long -/
def mapG {α β : Type} (f : α → R β) (xs : List α) : R (List β) := grd (decide (xs.length < 100000)) >>= fun _ => mapR f xs
/-- items for some items -/
def filR {α β : Type} (f : α → R (Option β)) : List α → R (List β)
  | [] => .ok []
  | x :: xs => f x >>= fun o => filR f xs >>= fun ys => match o with
    | some y => .ok (y :: ys)
    | none => .ok ys
def filG {α β : Type} (f : α → R (Option β)) (xs : List α) : R (List β) := grd (decide (xs.length < 100000)) >>= fun _ => filR f xs
/-- items for items, by a state that turns -/
def mapSt {α β γ : Type} (f : γ → α → R (β × γ)) : γ → List α → R (List β × γ)
  | s, [] => .ok ([], s)
  | s, x :: xs => f s x >>= fun p => mapSt f p.2 xs >>= fun q => .ok (p.1 :: q.1, q.2)
def mapStG {α β γ : Type} (f : γ → α → R (β × γ)) (s : γ) (xs : List α) : R (List β × γ) := grd (decide (xs.length < 100000)) >>= fun _ => mapSt f s xs
/-- items for some items, by a state that turns -/
def filSt {α β γ : Type} (f : γ → α → R (Option β × γ)) : γ → List α → R (List β × γ)
  | s, [] => .ok ([], s)
  | s, x :: xs => f s x >>= fun p => filSt f p.2 xs >>= fun q => match p.1 with
    | some y => .ok (y :: q.1, q.2)
    | none => .ok q
def filStG {α β γ : Type} (f : γ → α → R (Option β × γ)) (s : γ) (xs : List α) : R (List β × γ) := grd (decide (xs.length < 100000)) >>= fun _ => filSt f s xs
section
variable {J : It} {β γ δ ε : Type} {items : List β} {G : Hp → Prop} {Y : β → Hp → V → Hp → Prop} {g : TG} {tt : TT} {te : TE} {P : ε → Prop} {X : Exn → Prop} {K : Fg} {vs : List Nat} {σ : St} {F H1 : Hp} {os : List (Addr × HO)} {D : Addr} {Qd : Hp → Prop}
/-- what is asked of a comprehension's list D behind its walk J: by the readings' own words -/
abbrev LcAsk (J : It) (g : TG) (tt : TT) (te : TE) (vs : List Nat) (σ : St) (H1 : Hp) (D : Addr) (Qd : Hp → Prop) : Prop :=
  ∃ W : Nat → Nat → Hp → Prop, (∃ m, W 0 m (upd H1 D (.lst []))) ∧ ∀ i m H, W i m H →
      (J.stop i H ∧ Qd H) ∨ (J.go i H ∧ ∃ Nx : Hp → Prop, (∀ H', Nx H' → ∃ m', m' < m ∧ W (i + 1) m' H') ∧ ∀ x H', J.yld i H x H' → g x (wipe σ vs) H' fun σ2 H2 => wipe σ2 vs = wipe σ vs ∧ tt σ2 H2 fun b H3 =>
        if b = true then te σ2 H3 fun y H4 => ∃ acc, H4 D = some (.lst acc) ∧ acc.length < sizeLine ∧ Nx (upd H4 D (.lst (acc ++ [y]))) else Nx H3)
/-- the state and the items told of a comprehension: os by the state -/
theorem lcFil [Rep δ] (tw : TW J items G Y) {f : γ → β → R (Option δ × γ)} {s0 : γ} {k : List δ × γ → R ε} (hm : Post (filStG f s0 items >>= k) P X) (O : γ → Hp → List (Addr × HO) → Prop) (w : W F H1 os) (o0 : O s0 F os) (nD : H1 D = none)
    (hG : ∀ c F' H' os' acc, Same F F' → W F' H' ((D, .lst acc) :: os') → O c F' os' → G H')
    (hs : ∀ (b : β) (c : γ) (x : V) (F' H' H'' : Hp) (os' : List (Addr × HO)) (acc : List V) (N : V → Hp → Prop) (N0 : Hp → Prop) (P' : Option δ × γ → Prop), Same F F' → W F' H' ((D, .lst acc) :: os') → O c F' os' → Y b H' x H'' →
      (∀ d c', P' (some d, c') → ∀ y F'' H'' os'', W F'' H'' ((D, .lst acc) :: os'') → Same F' F'' → O c' F'' os'' → rep K F'' y d → N y H'') →
      (∀ c', P' (none, c') → ∀ F'' H'' os'', W F'' H'' ((D, .lst acc) :: os'') → Same F' F'' → O c' F'' os'' → N0 H'') → Post (f c b) P' X →
      g x (wipe σ vs) H'' fun σ2 H2 => wipe σ2 vs = wipe σ vs ∧ tt σ2 H2 fun b H3 => if b = true then te σ2 H3 N else N0 H3)
    (hd : ∀ c us F' H' os' ys, Same F F' → W F' H' ((D, .lst us) :: os') → O c F' os' → A2 (rep K F') us ys → Post (k (ys, c)) P X → Qd H') : LcAsk J g tt te vs σ H1 D Qd := by
  obtain ⟨hlen, hm⟩ := pb_grd (pb_assoc hm)
  have hlen : items.length < sizeLine := Nat.lt_of_lt_of_le (of_decide_eq_true hlen) line5
  refine lc_it tw.walk (fun i H => ∃ c F' os' us ys, i ≤ items.length ∧ Same F F' ∧ W F' H ((D, .lst us) :: os') ∧ O c F' os' ∧ A2 (rep K F') us ys ∧ ys.length ≤ i ∧ Post (filSt f c (items.drop i) >>= fun q => k (ys ++ q.1, q.2)) P X) ?_ ?_ ?_ ?_
  · exact ⟨s0, F, os, [], [], Nat.zero_le _, Same.refl _, w.new nD, o0, .nil, Nat.le_refl _, hm⟩
  · rintro i H _ ⟨c, F', os', us, ys, _, s, w', o, _⟩
    exact hG c F' H os' us s w' o
  · rintro i x H H' hi ⟨c, F', os', us, ys, _, s, w', o, h, hl, hm⟩ ⟨b, hb, y⟩
    rw [drop_cons hb] at hm
    have hm' : Post ((f c b >>= fun p => filSt f p.2 (items.drop (i + 1)) >>= fun q => match p.1 with
      | some y => (R.ok (y :: q.1, q.2) : R (List δ × γ))
      | none => R.ok q) >>= fun q => k (ys ++ q.1, q.2)) P X := hm
    rw [bind_bind] at hm'
    have hm2 := post_bind hm'
    have hul : us.length = ys.length := h.length
    refine hs b c x F' H H' os' us (fun y H4 => ∃ acc, H4 D = some (.lst acc) ∧ acc.length < sizeLine ∧ _) _ _ s w' o y ?_ ?_ hm2
    · intro d c' p2 y F'' H'' os'' w2 s2 o2 r2
      refine ⟨us, w2.get (pre := []), by omega, c', F'', os'', us ++ [y], ys ++ [d], hi, s.trans s2, w2.set (pre := []), o2, (h.mono s2).snoc r2, by rw [List.length_append, List.length_singleton]; omega, ?_⟩
      have p3 : Post ((filSt f c' (items.drop (i + 1)) >>= fun q => (R.ok (d :: q.1, q.2) : R (List δ × γ))) >>= fun q => k (ys ++ q.1, q.2)) P X := p2
      rw [bind_bind] at p3
      have e : (fun q : List δ × γ => (R.ok (d :: q.1, q.2) : R (List δ × γ)) >>= fun q => k (ys ++ q.1, q.2)) = fun q => k (ys ++ [d] ++ q.1, q.2) := by
        funext q
        show k (ys ++ (d :: q.1), q.2) = k (ys ++ [d] ++ q.1, q.2)
        rw [List.append_assoc]
        rfl
      rw [e] at p3
      exact p3
    · intro c' p2 F'' H'' os'' w2 s2 o2
      refine ⟨c', F'', os'', us, ys, hi, s.trans s2, w2, o2, h.mono s2, by omega, ?_⟩
      have p3 : Post ((filSt f c' (items.drop (i + 1)) >>= fun q => (R.ok q : R (List δ × γ))) >>= fun q => k (ys ++ q.1, q.2)) P X := p2
      rw [bind_bind] at p3
      exact p3
  · rintro H ⟨c, F', os', us, ys, _, s, w', o, h, _, hm⟩
    rw [List.drop_length] at hm
    have hm' : Post (k (ys ++ [], c)) P X := hm
    rw [List.append_nil] at hm'
    exact hd c us F' H os' ys s w' o h hm'
/-- without a test -/
theorem lcMap [Rep δ] (tw : TW J items G Y) {f : γ → β → R (δ × γ)} {s0 : γ} {k : List δ × γ → R ε} (hm : Post (mapStG f s0 items >>= k) P X) (O : γ → Hp → List (Addr × HO) → Prop) (w : W F H1 os) (o0 : O s0 F os) (nD : H1 D = none)
    (hG : ∀ c F' H' os' acc, Same F F' → W F' H' ((D, .lst acc) :: os') → O c F' os' → G H')
    (hs : ∀ (b : β) (c : γ) (x : V) (F' H' H'' : Hp) (os' : List (Addr × HO)) (acc : List V) (N : V → Hp → Prop) (P' : δ × γ → Prop), Same F F' → W F' H' ((D, .lst acc) :: os') → O c F' os' → Y b H' x H'' →
      (∀ d c', P' (d, c') → ∀ y F'' H'' os'', W F'' H'' ((D, .lst acc) :: os'') → Same F' F'' → O c' F'' os'' → rep K F'' y d → N y H'') → Post (f c b) P' X →
      g x (wipe σ vs) H'' fun σ2 H2 => wipe σ2 vs = wipe σ vs ∧ te σ2 H2 N)
    (hd : ∀ c us F' H' os' ys, Same F F' → W F' H' ((D, .lst us) :: os') → O c F' os' → A2 (rep K F') us ys → Post (k (ys, c)) P X → Qd H') : LcAsk J g tYes te vs σ H1 D Qd := by
  have e : ∀ (s : γ) (l : List β), filSt (fun c b => f c b >>= fun p => R.ok (some p.1, p.2)) s l = mapSt f s l := by
    intro s l
    induction l generalizing s with
    | nil => rfl
    | cons b l ih =>
      show ((f s b >>= fun p => R.ok (some p.1, p.2)) >>= fun p => filSt (fun c b => f c b >>= fun p => R.ok (some p.1, p.2)) p.2 l >>= fun q => match p.1 with
        | some y => (R.ok (y :: q.1, q.2) : R (List δ × γ))
        | none => R.ok q) = (f s b >>= fun p => mapSt f p.2 l >>= fun q => .ok (p.1 :: q.1, q.2))
      rw [bind_bind]
      refine congrArg (f s b >>= ·) ?_
      funext p
      show (filSt (fun c b => f c b >>= fun p => R.ok (some p.1, p.2)) p.2 l >>= fun q => (R.ok (p.1 :: q.1, q.2) : R (List δ × γ))) = _
      rw [ih]
  have hm' : Post (filStG (fun c b => f c b >>= fun p => R.ok (some p.1, p.2)) s0 items >>= k) P X := by
    unfold filStG
    simp only [e]
    exact hm
  refine lcFil tw hm' O w o0 nD hG (fun b c x F' H' H'' os' acc N N0 P' s w' o y hN hN0 hp => ?_) hd
  exact hs b c x F' H' H'' os' acc N _ s w' o y (fun d c' p2 y F'' H'' os'' w2 s2 o2 r2 => hN d c' p2 y F'' H'' os'' w2 s2 o2 r2) (post_bind hp)
/-- without a state -/
theorem lcM [Rep δ] (tw : TW J items G Y) {f : β → R δ} {k : List δ → R ε} (hm : Post (mapG f items >>= k) P X) (w : W F H1 os) (nD : H1 D = none)
    (hG : ∀ F' H' acc, Same F F' → W F' H' ((D, .lst acc) :: os) → G H')
    (hs : ∀ (b : β) (x : V) (F' H' H'' : Hp) (acc : List V) (N : V → Hp → Prop) (P' : δ → Prop), Same F F' → W F' H' ((D, .lst acc) :: os) → Y b H' x H'' →
      (∀ d, P' d → ∀ y F'' H'', W F'' H'' ((D, .lst acc) :: os) → Same F' F'' → rep K F'' y d → N y H'') → Post (f b) P' X →
      g x (wipe σ vs) H'' fun σ2 H2 => wipe σ2 vs = wipe σ vs ∧ te σ2 H2 N)
    (hd : ∀ us F' H' ys, Same F F' → W F' H' ((D, .lst us) :: os) → A2 (rep K F') us ys → Post (k ys) P X → Qd H') : LcAsk J g tYes te vs σ H1 D Qd := by
  have e : ∀ (l : List β), (mapSt (fun (_ : Unit) b => f b >>= fun d => R.ok (d, ())) () l >>= fun q => R.ok q.1) = mapR f l := by
    intro l
    induction l with
    | nil => rfl
    | cons b l ih =>
      show (((f b >>= fun d => R.ok (d, ())) >>= fun p => mapSt (fun (_ : Unit) b => f b >>= fun d => R.ok (d, ())) p.2 l >>= fun q => (R.ok (p.1 :: q.1, q.2) : R (List δ × Unit))) >>= fun q => R.ok q.1) = (f b >>= fun y => mapR f l >>= fun ys => R.ok (y :: ys))
      rw [bind_bind, bind_bind]
      refine congrArg (f b >>= ·) ?_
      funext d
      show ((mapSt (fun (_ : Unit) b => f b >>= fun d => R.ok (d, ())) () l >>= fun q => (R.ok (d :: q.1, q.2) : R (List δ × Unit))) >>= fun q => R.ok q.1) = _
      rw [bind_bind, ← ih, bind_bind]
      rfl
  have hm' : Post (mapStG (fun (_ : Unit) b => f b >>= fun d => R.ok (d, ())) () items >>= fun q => k q.1) P X := by
    have e2 : (mapStG (fun (_ : Unit) b => f b >>= fun d => R.ok (d, ())) () items >>= fun q => R.ok q.1) = mapG f items := by
      unfold mapStG mapG
      rw [bind_bind]
      simp only [e]
    have h2 : Post ((mapStG (fun (_ : Unit) b => f b >>= fun d => R.ok (d, ())) () items >>= fun q => R.ok q.1) >>= k) P X := by
      rw [e2]
      exact hm
    rw [bind_bind] at h2
    exact h2
  refine lcMap tw hm' (fun _ _ os' => os = os') w rfl nD (fun c F' H' os' acc s w' o => by subst o; exact hG F' H' acc s w') (fun b c x F' H' H'' os' acc N P' s w' o y hN hp => ?_) (fun c us F' H' os' ys s w' o h hm => by subst o; exact hd us F' H' ys s w' h hm)
  subst o
  exact hs b x F' H' H'' acc N _ s w' y (fun d p2 y F'' H'' w2 s2 r2 => hN d () p2 y F'' H'' _ w2 s2 rfl r2) (post_bind hp)
/-- .. with a test -/
theorem lcF [Rep δ] (tw : TW J items G Y) {f : β → R (Option δ)} {k : List δ → R ε} (hm : Post (filG f items >>= k) P X) (w : W F H1 os) (nD : H1 D = none)
    (hG : ∀ F' H' acc, Same F F' → W F' H' ((D, .lst acc) :: os) → G H')
    (hs : ∀ (b : β) (x : V) (F' H' H'' : Hp) (acc : List V) (N : V → Hp → Prop) (N0 : Hp → Prop) (P' : Option δ → Prop), Same F F' → W F' H' ((D, .lst acc) :: os) → Y b H' x H'' →
      (∀ d, P' (some d) → ∀ y F'' H'', W F'' H'' ((D, .lst acc) :: os) → Same F' F'' → rep K F'' y d → N y H'') →
      (P' none → ∀ F'' H'', W F'' H'' ((D, .lst acc) :: os) → Same F' F'' → N0 H'') → Post (f b) P' X →
      g x (wipe σ vs) H'' fun σ2 H2 => wipe σ2 vs = wipe σ vs ∧ tt σ2 H2 fun b H3 => if b = true then te σ2 H3 N else N0 H3)
    (hd : ∀ us F' H' ys, Same F F' → W F' H' ((D, .lst us) :: os) → A2 (rep K F') us ys → Post (k ys) P X → Qd H') : LcAsk J g tt te vs σ H1 D Qd := by
  have e : ∀ (l : List β), (filSt (fun (_ : Unit) b => f b >>= fun d => R.ok (d, ())) () l >>= fun q => R.ok q.1) = filR f l := by
    intro l
    induction l with
    | nil => rfl
    | cons b l ih =>
      show (((f b >>= fun d => R.ok (d, ())) >>= fun p => filSt (fun (_ : Unit) b => f b >>= fun d => R.ok (d, ())) p.2 l >>= fun q => match p.1 with
        | some y => (R.ok (y :: q.1, q.2) : R (List δ × Unit))
        | none => R.ok q) >>= fun q => R.ok q.1) = (f b >>= fun o => filR f l >>= fun ys => match o with
        | some y => .ok (y :: ys)
        | none => .ok ys)
      rw [bind_bind, bind_bind]
      refine congrArg (f b >>= ·) ?_
      funext d
      show ((filSt (fun (_ : Unit) b => f b >>= fun d => R.ok (d, ())) () l >>= fun q => match d with
        | some y => (R.ok (y :: q.1, q.2) : R (List δ × Unit))
        | none => R.ok q) >>= fun q => R.ok q.1) = _
      rw [bind_bind, ← ih, bind_bind]
      cases d <;> rfl
  have hm' : Post (filStG (fun (_ : Unit) b => f b >>= fun d => R.ok (d, ())) () items >>= fun q => k q.1) P X := by
    have e2 : (filStG (fun (_ : Unit) b => f b >>= fun d => R.ok (d, ())) () items >>= fun q => R.ok q.1) = filG f items := by
      unfold filStG filG
      rw [bind_bind]
      simp only [e]
    have h2 : Post ((filStG (fun (_ : Unit) b => f b >>= fun d => R.ok (d, ())) () items >>= fun q => R.ok q.1) >>= k) P X := by
      rw [e2]
      exact hm
    rw [bind_bind] at h2
    exact h2
  refine lcFil tw hm' (fun _ _ os' => os = os') w rfl nD (fun c F' H' os' acc s w' o => by subst o; exact hG F' H' acc s w') (fun b c x F' H' H'' os' acc N N0 P' s w' o y hN hN0 hp => ?_) (fun c us F' H' os' ys s w' o h hm => by subst o; exact hd us F' H' ys s w' h hm)
  subst o
  exact hs b x F' H' H'' acc N N0 _ s w' y (fun d p2 y F'' H'' w2 s2 r2 => hN d () p2 y F'' H'' _ w2 s2 rfl r2) (fun p2 F'' H'' w2 s2 => hN0 () p2 F'' H'' _ w2 s2 rfl) (post_bind hp)
end
end Z
namespace Z
open PySem L2
open Rep (rep)
/-! ### short words for a walk -/
section
variable {F F1 F2 H H1 : Hp} {os os' pre post : List (Addr × HO)} {a p : Addr} {o o' : HO} {K : Fg}
theorem W.frzE (w : W F H os) (n : H p = none) : ∃ F', Same F F' ∧ W F' (upd H p o) os ∧ F' p = some o := ⟨_, w.frzS n, w.frz n, upd_same⟩
theorem W.freezeE (w : W F H (pre ++ (a, o) :: post)) : ∃ F', Same F F' ∧ W F' H (pre ++ post) ∧ F' a = some o := ⟨_, w.freezeS, w.freeze, upd_same⟩
/-- a cell that was lent to a call as frozen comes back -/
theorem W.unfreeze (w : W F1 H os) (s : Same F F1) (n : F a = none) (k : F1 a = some o) (ho : ∀ vs, o ≠ .tup vs := by exact fun _ h => nomatch h) : ∃ F', Same F F' ∧ W F' H ((a, o) :: os) := by
  refine ⟨fun b => if b = a then none else F1 b, fun b u e => ?_, fun b u e => ?_, fun q hq => ?_, ?_, fun q hq => ?_⟩
  · have hb : b ≠ a := ne_of_none e n
    show (if b = a then none else F1 b) = some u
    rw [if_neg hb]
    exact s b u e
  · by_cases hb : b = a
    · have e' : (if b = a then none else F1 b) = some u := e
      rw [if_pos hb] at e'
      cases e'
    · have e' : (if b = a then none else F1 b) = some u := e
      rw [if_neg hb] at e'
      exact w.same b u e'
  · rcases List.mem_cons.mp hq with rfl | hq
    · exact ⟨w.same _ _ k, if_pos rfl⟩
    · have h := w.own q hq
      have hb : q.1 ≠ a := fun e => by
        rw [e, k] at h
        cases h.2
      exact ⟨h.1, by show (if q.1 = a then none else F1 q.1) = none; rw [if_neg hb]; exact h.2⟩
  · refine List.pairwise_cons.mpr ⟨fun q hq e => ?_, w.nd⟩
    have h := (w.own q hq).2
    have e' : a = q.1 := e
    rw [← e', k] at h
    cases h
  · rcases List.mem_cons.mp hq with rfl | hq
    · exact ho
    · exact w.nt q hq
theorem rep_own {α : Type} [Rep α] {vs : List V} {xs : List α} (w : W F H (pre ++ (a, .lst vs) :: post)) (h : A2 (rep K F) vs xs) : rep K H (.ref a) xs := ⟨a, vs, rfl, w.get, h.mono w.same⟩
theorem rep_lst {α : Type} [Rep α] {vs : List V} {xs : List α} (q : F a = some (.lst vs)) (h : A2 (rep K F) vs xs) : rep K F (.ref a) xs := ⟨a, vs, rfl, q, h⟩
theorem rep_tup {α : Type} [Rep α] {vs : List V} {xs : List α} (q : F a = some (.tup vs)) (h : A2 (rep K F) vs xs) : rep K F (.ref a) (Tup.mk xs) := ⟨a, vs, rfl, q, h⟩
theorem rep_pair {α β : Type} [Rep α] [Rep β] {u v : V} {x : α} {y : β} (q : F a = some (.tup [u, v])) (h1 : rep K F u x) (h2 : rep K F v y) : rep K F (.ref a) (x, y) := ⟨a, u, v, rfl, q, h1, h2⟩
theorem ints_q {vs : List V} {xs : List Int} (q : SqL K H a vs) (h : A2 (rep K F) vs xs) : SqL K H a (xs.map V.int) := h.ints ▸ q
theorem Room.units65 {k : Nat} {A : Around} (r : Room k A) : A.units + 65 < cLine := by
  have := r.un
  omega
theorem sl_cut {α : Type} {r : V → α → Prop} {vs : List V} {xs : List α} (h : A2 r vs xs) (lo hi : Option Int) : A2 r (cutV vs lo hi) (((xs.drop (HT.sIx xs.length 0 lo)).take (HT.sIx xs.length xs.length hi - HT.sIx xs.length 0 lo))) := by
  unfold cutV
  rw [h.length]
  exact (h.drop _).take _
/-- xs[lo:hi] -/
def cutL {α : Type} (xs : List α) (lo hi : Option Int) : List α := (xs.drop (HT.sIx xs.length 0 lo)).take (HT.sIx xs.length xs.length hi - HT.sIx xs.length 0 lo)
end
end Z
namespace Z
open PySem L2
open Rep (rep)
/-- a while by its fuel -/
def whileR {γ : Type} (c : γ → R Bool) (b : γ → R γ) : Nat → γ → R γ
  | 0, _ => .bad
  | n + 1, s => c s >>= fun t => if t = true then b s >>= fun s' => whileR c b n s' else .ok s
section
variable {γ δ : Type} {P : δ → Prop} {X : Exn → Prop} {tc : TT} {tb : TS} {D : Ends} {σ : St} {H : Hp}
theorem whileS {c : γ → R Bool} {b : γ → R γ} {n : Nat} {s0 : γ} {k : γ → R δ} (hm : Post (whileR c b n s0 >>= k) P X) (I : γ → St → Hp → Prop) (h0 : I s0 σ H)
    (hc : ∀ (g : γ) (σ : St) (H : Hp) (Q' : Bool → Hp → Prop) (P' : Bool → Prop), I g σ H → (∀ t, P' t → ∀ H', I g σ H' → Q' t H') → Post (c g) P' X → tc σ H Q')
    (hs : ∀ (g : γ) (σ : St) (H : Hp) (N : St → Hp → Prop) (P' : γ → Prop), I g σ H → (∀ g', P' g' → ∀ σ' H', I g' σ' H' → N σ' H') → Post (b g) P' X → tb { D with nx := N, ct := N, bk := D.nx } σ H)
    (hd : ∀ g σ H, I g σ H → Post (k g) P X → D.nx σ H) : tWhile tc tb D σ H := by
  refine ⟨fun m σ H => ∃ g, I g σ H ∧ Post (whileR c b m g >>= k) P X, ⟨n, s0, h0, hm⟩, ?_⟩
  rintro m σ H ⟨g, h, hm⟩
  cases m with
  | zero => exact (show False from hm).elim
  | succ m =>
    have hm' : Post ((c g >>= fun t => if t = true then b g >>= fun s' => whileR c b m s' else .ok g) >>= k) P X := hm
    rw [bind_bind] at hm'
    refine hc g σ H _ _ h (fun t p H' h' => ?_) (post_bind hm')
    cases t with
    | false => exact iteF (hd g σ H' h' p)
    | true =>
      refine iteT ?_
      have p' : Post ((b g >>= fun s' => whileR c b m s') >>= k) P X := p
      rw [bind_bind] at p'
      exact ⟨fun σ' H' => ∃ g', I g' σ' H' ∧ Post (whileR c b m g' >>= k) P X, fun σ' H' ⟨g', h1, h2⟩ => ⟨m, Nat.lt_succ_self m, g', h1, h2⟩, hs g σ H' _ _ h' (fun g' p2 σ' H' h2 => ⟨g', h2, p2⟩) (post_bind p')⟩
end
section
variable {α β : Type} {Q : β → Prop} {E : Exn → Prop}
theorem pn_set {xs : List α} {i : Int} {x : α} {f : List α → R β} (h : Post (setI xs i x >>= f) Q E) : ∃ j ys, ixN xs.length i = some j ∧ ys = xs.set j x ∧ Post (f ys) Q E :=
  let ⟨j, a, b⟩ := pb_set h
  ⟨j, _, a, rfl, b⟩
theorem pn_app {xs : List α} {x : α} {f : List α → R β} (h : Post (app xs x >>= f) Q E) : ∃ ys, xs.length < sizeLine ∧ ys = xs ++ [x] ∧ Post (f ys) Q E :=
  let ⟨a, b⟩ := pb_app h
  ⟨_, a, rfl, b⟩
theorem pn_extend {xs ys : List α} {f : List α → R β} (h : Post (extend xs ys >>= f) Q E) : ∃ zs, xs.length + ys.length ≤ sizeLine ∧ zs = xs ++ ys ∧ Post (f zs) Q E :=
  let ⟨a, b⟩ := pb_extend h
  ⟨_, a, rfl, b⟩
theorem A2.lt {r : V → α → Prop} {vs : List V} {xs : List α} {n : Nat} (h : A2 r vs xs) (z : xs.length < n) : vs.length < n := by rw [h.length]; exact z
theorem A2.ix {r : V → α → Prop} {vs : List V} {xs : List α} {i : Int} {j : Nat} (h : A2 r vs xs) (z : ixN xs.length i = some j) : ixN vs.length i = some j := by rw [h.length]; exact z
theorem A2.le2 {γ : Type} {r : V → α → Prop} {r' : V → γ → Prop} {vs us : List V} {xs : List α} {ys : List γ} {n : Nat} (h : A2 r vs xs) (h' : A2 r' us ys) (z : xs.length + ys.length ≤ n) : vs.length + us.length ≤ n := by rw [h.length, h'.length]; exact z
/-- the last item, and the rest -/
def popI (xs : List α) : R (α × List α) := match xs.getLast? with
  | some x => .ok (x, xs.dropLast)
  | none => .bad
def popAt (xs : List α) (i : Int) : R (α × List α) := match ixN xs.length i with
  | some j => match xs[j]? with
    | some x => .ok (x, xs.eraseIdx j)
    | none => .bad
  | none => .bad
theorem pn_popAt {xs : List α} {i : Int} {f : α × List α → R β} (h : Post (popAt xs i >>= f) Q E) : ∃ j x ys, ixN xs.length i = some j ∧ xs[j]? = some x ∧ ys = xs.eraseIdx j ∧ Post (f (x, ys)) Q E := by
  unfold popAt at h
  cases e : ixN xs.length i with
  | none => rw [e] at h; exact (show False from h).elim
  | some j =>
    rw [e] at h
    cases e2 : xs[j]? with
    | none =>
      have h' : Post ((match xs[j]? with
        | some x => (R.ok (x, xs.eraseIdx j) : R (α × List α))
        | none => .bad) >>= f) Q E := h
      rw [e2] at h'
      exact (show False from h').elim
    | some x =>
      have h' : Post ((match xs[j]? with
        | some x => (R.ok (x, xs.eraseIdx j) : R (α × List α))
        | none => .bad) >>= f) Q E := h
      rw [e2] at h'
      exact ⟨j, x, _, rfl, e2, rfl, h'⟩
end
section
variable {K : Fg} {F : Hp}
theorem rep_i {i : Int} : rep K F (.int i) i := rfl
theorem rep_b {i : Bool} : rep K F (.bl i) i := rfl
theorem rep_s {i : Str} : rep K F (.str i) i := rfl
theorem rep_n : rep K F .non () := rfl
end
end Z
namespace Z
open PySem L2
section
variable {X : Cx} {D : Ends} {σ : L2.St} {H : Hp}
def tC1 (v : V) : TE := fun _ H Q => True ∧ Q v H
theorem pe_int1 {i j pos} : PE X (.Constant (.int i) j pos) (tC1 (.int i)) := ⟨fun pins s σ H Q I h => pe_int.run pins s σ H Q I h.2⟩
theorem pe_bl1 {i j pos} : PE X (.Constant (.bool i) j pos) (tC1 (.bl i)) := ⟨fun pins s σ H Q I h => pe_bl.run pins s σ H Q I h.2⟩
theorem pe_str1 {i j pos} : PE X (.Constant (.str i) j pos) (tC1 (.str i)) := ⟨fun pins s σ H Q I h => pe_str.run pins s σ H Q I h.2⟩
theorem pe_non1 {j pos} : PE X (.Constant .none j pos) (tC1 .non) := ⟨fun pins s σ H Q I h => pe_non.run pins s σ H Q I h.2⟩
theorem stepN {i : Nat} {v : V} {Q : L2.St → Hp → Prop} (h : Q (σ.set i (some v)) H) : gName i v σ H Q := h
theorem stepX (h : D.nx σ H) : tNext D σ H := h
theorem stepSeq {t u : TS} (h : t { D with nx := u D } σ H) : tSeq t u D σ H := h
theorem stepIf {c : TT} {a b : TS} (h : c σ H fun t H1 => if t = true then a D σ H1 else b D σ H1) : tIfS c a b D σ H := h
theorem stepRet {te : TE} (h : te σ H D.rt) : tRet te D σ H := h
theorem stepAsg {te : TE} {g : TG} (h : te σ H fun x H1 => g x σ H1 D.nx) : tAsg te g D σ H := h
theorem stepDrop {te : TE} (h : te σ H fun _ H1 => D.nx σ H1) : tDrop te D σ H := h
end
end Z
namespace Z
open PySem L2
open Rep (rep)
section
variable {α : Type} [Rep α] {K : Fg} {F : Hp} {v : V} {x : α}
theorem rep_none : rep K F .non (none : Option α) := rfl
theorem rep_some (h : rep K F v x) : rep K F v (some x) := h
theorem rep_pl {i : Int} : rep K F (.int i) (Thing.pl i) := rfl
theorem rep_ti {a b : Int} (h : rep K F v (a, b)) : rep K F v (Thing.ti a b) := h
end
end Z
/-! Z2: rules by typed data -/
namespace Z
open PySem L2 PySem.Spec PyProof.Rows
open Rep (rep)

/-! ### data that is compared -/
class Dat (α : Type) extends Rep α where
  toD : α → PyData
  dmax : Nat
  dp : ∀ {K : Fg} {H : Hp} {v : V} {x : α}, rep K H v x → Dp K H v (toD x)
  lay : ∀ x : α, (toD x).canLay0 = true
  dep : ∀ x : α, (toD x).depth ≤ dmax
  eqv : ∀ x y : α, PyData.eqv (toD x) (toD y) = true ↔ x = y
section
variable {α β : Type} {K : Fg} {H : Hp}
instance : Dat Int where
  toD := .int
  dmax := 0
  dp := fun h => by
    have h' : _ = V.int _ := h
    subst h'
    exact .int _
  lay := fun x => by simp only [PyData.canLay0]
  dep := fun x => by simp only [PyData.depth, Nat.le_refl]
  eqv := fun x y => by simp [PyData.eqv]
instance : Dat Bool where
  toD := .bool
  dmax := 0
  dp := fun h => by
    have h' : _ = V.bl _ := h
    subst h'
    exact .bl _
  lay := fun x => by simp only [PyData.canLay0]
  dep := fun x => by simp only [PyData.depth, Nat.le_refl]
  eqv := fun x y => by simp [PyData.eqv]
instance datOptInt : Dat (Option Int) where
  toD := fun x => match x with
    | none => .none
    | some i => .int i
  dmax := 0
  dp := fun {K H v x} h => by
    cases x with
    | none =>
      have h' : v = V.non := h
      subst h'
      exact .non
    | some i =>
      have h' : v = V.int i := h
      subst h'
      exact .int _
  lay := fun x => by cases x <;> simp only [PyData.canLay0]
  dep := fun x => by cases x <;> simp only [PyData.depth, Nat.le_refl]
  eqv := fun x y => by cases x <;> cases y <;> simp [PyData.eqv]
instance datPair [Dat α] [Dat β] : Dat (α × β) where
  toD := fun x => .tuple [Dat.toD x.1, Dat.toD x.2]
  dmax := max (Dat.dmax α) (Dat.dmax β) + 1
  dp := fun {K H v x} h => by
    obtain ⟨a, u, w, rfl, q, h1, h2⟩ := h
    exact .tup (SqT.of q) (.cons (Dat.dp h1) (.cons (Dat.dp h2) .nil))
  lay := fun x => by simp only [PyData.canLay0, PyData.canLayAll0, Dat.lay, Bool.and_true]
  dep := fun x => by
    have h1 := Dat.dep x.1
    have h2 := Dat.dep x.2
    simp only [PyData.depth, PyData.depthAll]
    omega
  eqv := fun x y => by
    obtain ⟨x1, x2⟩ := x
    obtain ⟨y1, y2⟩ := y
    simp only [PyData.eqv, PyData.eqvAll, Bool.and_true, Bool.and_eq_true, Dat.eqv, Prod.mk.injEq]
theorem dp_all [Dat α] : ∀ {vs : List V} {xs : List α}, A2 (rep K H) vs xs → DpAll K H vs (xs.map Dat.toD)
  | _, _, .nil => .nil
  | _, _, .cons h t => .cons (Dat.dp h) (dp_all t)
theorem lay_all [Dat α] : ∀ xs : List α, PyData.canLayAll0 (xs.map Dat.toD) = true
  | [] => by simp only [List.map_nil, PyData.canLayAll0]
  | x :: xs => by simp only [List.map_cons, PyData.canLayAll0, Dat.lay, lay_all xs, Bool.and_true]
theorem dep_all [Dat α] : ∀ xs : List α, PyData.depthAll (xs.map Dat.toD) ≤ Dat.dmax α
  | [] => by simp only [List.map_nil, PyData.depthAll, Nat.zero_le]
  | x :: xs => by
    have h1 := dep_all xs
    have h2 := Dat.dep x
    simp only [List.map_cons, PyData.depthAll]
    omega
theorem eqv_all [Dat α] : ∀ xs ys : List α, PyData.eqvAll (xs.map Dat.toD) (ys.map Dat.toD) = true ↔ xs = ys
  | [], [] => by simp [PyData.eqvAll]
  | x :: xs, [] => by simp [PyData.eqvAll]
  | [], y :: ys => by simp [PyData.eqvAll]
  | x :: xs, y :: ys => by simp only [List.map_cons, PyData.eqvAll, Bool.and_eq_true, Dat.eqv, eqv_all xs ys, List.cons.injEq]
instance datList [Dat α] : Dat (List α) where
  toD := fun xs => .list (xs.map Dat.toD)
  dmax := Dat.dmax α + 1
  dp := fun {K H v x} h => by
    obtain ⟨a, vs, rfl, q, h⟩ := h
    exact .lst (SqL.of q) (dp_all h)
  lay := fun x => by
    simp only [PyData.canLay0]
    exact lay_all x
  dep := fun x => by
    have h := dep_all x
    simp only [PyData.depth]
    omega
  eqv := fun x y => by
    simp only [PyData.eqv]
    exact eqv_all x y
instance datTup [Dat α] : Dat (Tup α) where
  toD := fun xs => .tuple (xs.l.map Dat.toD)
  dmax := Dat.dmax α + 1
  dp := fun {K H v x} h => by
    obtain ⟨a, vs, rfl, q, h⟩ := h
    exact .tup (SqT.of q) (dp_all h)
  lay := fun x => by
    simp only [PyData.canLay0]
    exact lay_all x.l
  dep := fun x => by
    have h := dep_all x.l
    simp only [PyData.depth]
    omega
  eqv := fun x y => by
    obtain ⟨x⟩ := x
    obtain ⟨y⟩ := y
    simp only [PyData.eqv, Tup.mk.injEq]
    exact eqv_all x y
instance datThing : Dat Thing where
  toD := fun x => match x with
    | .pl i => .int i
    | .ti a b => .tuple [.int a, .int b]
  dmax := 1
  dp := fun {K H v x} h => by
    cases x with
    | pl i =>
      have h' : v = V.int i := h
      subst h'
      exact .int _
    | ti a b =>
      obtain ⟨p, u, w, rfl, q, h1, h2⟩ := (show rep K H v (a, b) from h)
      have h1' : u = V.int a := h1
      have h2' : w = V.int b := h2
      subst h1' h2'
      exact .tup (SqT.of q) (.cons (.int _) (.cons (.int _) .nil))
  lay := fun x => by cases x <;> simp [PyData.canLay0, PyData.canLayAll0]
  dep := fun x => by cases x <;> simp [PyData.depth, PyData.depthAll]
  eqv := fun x y => by cases x <;> cases y <;> simp [PyData.eqv, PyData.eqvAll]
instance datScr : Dat Scr where
  toD := fun xs => .list (xs.l.map PyData.int)
  dmax := 1
  dp := fun {K H v x} h => by
    obtain ⟨a, rfl, q⟩ := h
    have e : ∀ l : List Int, DpAll K H (l.map V.int) (l.map PyData.int) := fun l => by
      induction l with
      | nil => exact .nil
      | cons x l ih => exact .cons (.int _) ih
    exact .lst q (e x.l)
  lay := fun x => by
    simp only [PyData.canLay0]
    exact lay_all (α := Int) x.l
  dep := fun x => by
    have h := dep_all (α := Int) x.l
    have h' : PyData.depthAll (x.l.map PyData.int) ≤ 0 := h
    simp only [PyData.depth]
    omega
  eqv := fun x y => by
    obtain ⟨x⟩ := x
    obtain ⟨y⟩ := y
    simp only [PyData.eqv, Scr.mk.injEq]
    exact eqv_all (α := Int) x y
theorem shapedD [Dat α] (hd : Dat.dmax α ≤ 60) (x : α) : SeqAt.shaped (Dat.toD x) = true := by
  have h := Dat.dep x
  show ((Dat.toD x).canLay0 && decide ((Dat.toD x).depth ≤ 64)) = true
  rw [Bool.and_eq_true]
  exact ⟨Dat.lay x, decide_eq_true (by omega)⟩
theorem eqvD [Dat α] [DecidableEq α] (x y : α) : PyData.eqv (Dat.toD x) (Dat.toD y) = decide (x = y) := by
  by_cases h : x = y
  · rw [decide_eq_true h]
    exact (Dat.eqv x y).mpr h
  · rw [decide_eq_false h]
    exact Bool.eq_false_iff.mpr fun e => h ((Dat.eqv x y).mp e)
theorem anyD [Dat α] [DecidableEq α] (x : α) : ∀ ys : List α, ((ys.map Dat.toD).any fun z => PyData.eqv z (Dat.toD x)) = decide (x ∈ ys)
  | [] => by simp
  | y :: ys => by
    rw [List.map_cons, List.any_cons, anyD x ys, eqvD]
    by_cases h : y = x
    · subst h; simp
    · have h' : ¬ x = y := fun e => h e.symm
      simp [h, h']
end

section
variable {X : Cx} {α β : Type} {K : Fg}
/-- ==, != of data -/
theorem op_eqDt (hK : X.K = K) (α : Type) [Dat α] [DecidableEq α] (hd : Dat.dmax α ≤ 60) (hu : X.A.units + 64 < cLine) : OpR X (compareOp .Eq) (fun x y H Q => ∃ a b : α, rep K H x a ∧ rep K H y b ∧ Q (.bl (decide (a = b))) H) := by
  subst hK
  intro pins s σ H x y v u Q I rx ry ⟨a, b, h1, h2, q⟩
  exact op_eqD hu pins s σ H x y v u Q I rx ry ⟨Dat.toD a, Dat.toD b, Dat.dp h1, Dat.dp h2, shapedD hd a, shapedD hd b, by rw [eqvD]; exact q⟩
theorem op_neDt (hK : X.K = K) (α : Type) [Dat α] [DecidableEq α] (hd : Dat.dmax α ≤ 60) (hu : X.A.units + 64 < cLine) : OpR X (compareOp .NotEq) (fun x y H Q => ∃ a b : α, rep K H x a ∧ rep K H y b ∧ Q (.bl (!decide (a = b))) H) := by
  subst hK
  intro pins s σ H x y v u Q I rx ry ⟨a, b, h1, h2, q⟩
  exact op_neD hu pins s σ H x y v u Q I rx ry ⟨Dat.toD a, Dat.toD b, Dat.dp h1, Dat.dp h2, shapedD hd a, shapedD hd b, by rw [eqvD]; exact q⟩
/-- in, not in a list, a tuple of data -/
theorem op_inL (hK : X.K = K) (α : Type) [Dat α] [DecidableEq α] (hd : Dat.dmax α ≤ 50) (hu : X.A.units + 65 < cLine) : OpR X (compareOp .In) (fun x y H Q => ∃ (a : α) (b : List α), rep K H x a ∧ rep K H y b ∧ Q (.bl (decide (a ∈ b))) H) := by
  subst hK
  intro pins s σ H x y v u Q I rx ry ⟨a, b, h1, h2, q⟩
  exact op_inD hu pins s σ H x y v u Q I rx ry ⟨Dat.toD a, b.map Dat.toD, Dat.dp h1, Dat.dp h2, shapedD (by omega) a, shapedD (α := List α) (by show Dat.dmax α + 1 ≤ 60; omega) b, by rw [anyD]; exact q⟩
theorem op_notInL (hK : X.K = K) (α : Type) [Dat α] [DecidableEq α] (hd : Dat.dmax α ≤ 50) (hu : X.A.units + 65 < cLine) : OpR X (compareOp .NotIn) (fun x y H Q => ∃ (a : α) (b : List α), rep K H x a ∧ rep K H y b ∧ Q (.bl (!decide (a ∈ b))) H) := by
  subst hK
  intro pins s σ H x y v u Q I rx ry ⟨a, b, h1, h2, q⟩
  exact op_notInD hu pins s σ H x y v u Q I rx ry ⟨Dat.toD a, b.map Dat.toD, Dat.dp h1, Dat.dp h2, shapedD (by omega) a, shapedD (α := List α) (by show Dat.dmax α + 1 ≤ 60; omega) b, by rw [anyD]; exact q⟩
theorem op_inT (hK : X.K = K) (α : Type) [Dat α] [DecidableEq α] (hd : Dat.dmax α ≤ 50) (hu : X.A.units + 65 < cLine) : OpR X (compareOp .In) (fun x y H Q => ∃ (a : α) (b : Tup α), rep K H x a ∧ rep K H y b ∧ Q (.bl (decide (a ∈ b.l))) H) := by
  subst hK
  intro pins s σ H x y v u Q I rx ry ⟨a, b, h1, h2, q⟩
  have sd := shapedD (by omega : Dat.dmax α ≤ 60) a
  have se : SeqAt.shaped (.tuple (b.l.map Dat.toD)) = true := shapedD (α := Tup α) (by show Dat.dmax α + 1 ≤ 60; omega) b
  obtain ⟨as, r1⟩ := Dp.reads I (Dat.toD a) x v (Dat.dp h1) rx
  obtain ⟨bs, r2⟩ := Dp.reads I (.tuple (b.l.map Dat.toD)) y u (Dat.dp h2) ry
  refine SeqAt.in_tuple_reads r2 r1 (SeqAt.canLay_of_shaped se) (SeqAt.canLay_of_shaped sd) (room_in_shaped sd hu) ?_
  rw [anyD]
  exact ⟨.bl _, H, I, rfl, q⟩
theorem op_notInT (hK : X.K = K) (α : Type) [Dat α] [DecidableEq α] (hd : Dat.dmax α ≤ 50) (hu : X.A.units + 65 < cLine) : OpR X (compareOp .NotIn) (fun x y H Q => ∃ (a : α) (b : Tup α), rep K H x a ∧ rep K H y b ∧ Q (.bl (!decide (a ∈ b.l))) H) := by
  subst hK
  intro pins s σ H x y v u Q I rx ry ⟨a, b, h1, h2, q⟩
  have sd := shapedD (by omega : Dat.dmax α ≤ 60) a
  have se : SeqAt.shaped (.tuple (b.l.map Dat.toD)) = true := shapedD (α := Tup α) (by show Dat.dmax α + 1 ≤ 60; omega) b
  obtain ⟨as, r1⟩ := Dp.reads I (Dat.toD a) x v (Dat.dp h1) rx
  obtain ⟨bs, r2⟩ := Dp.reads I (.tuple (b.l.map Dat.toD)) y u (Dat.dp h2) ry
  refine SeqAt.notIn_tuple_reads r2 r1 (SeqAt.canLay_of_shaped se) (SeqAt.canLay_of_shaped sd) (room_in_shaped sd hu) ?_
  rw [anyD]
  exact ⟨.bl _, H, I, rfl, q⟩
/-- == of texts -/
theorem decS (x y : Str) : decide (V.str x = V.str y) = decide (x = y) := by
  by_cases h : x = y
  · subst h; simp
  · rw [decide_eq_false h, decide_eq_false (fun e => h (V.str.inj e))]
theorem op_eqS : OpR X (compareOp .Eq) (fun x y H Q => ∃ a b : Str, x = .str a ∧ y = .str b ∧ Q (.bl (decide (a = b))) H) := by
  intro pins s σ H x y v u Q I rx ry ⟨a, b, h1, h2, q⟩
  subst h1 h2
  exact op_eq pins s σ H _ _ v u Q I rx ry ⟨rfl, by rw [decS]; exact q⟩
theorem op_neS : OpR X (compareOp .NotEq) (fun x y H Q => ∃ a b : Str, x = .str a ∧ y = .str b ∧ Q (.bl (!decide (a = b))) H) := by
  intro pins s σ H x y v u Q I rx ry ⟨a, b, h1, h2, q⟩
  subst h1 h2
  exact op_ne pins s σ H _ _ v u Q I rx ry ⟨rfl, by rw [decS]; exact q⟩
/-- == of truths -/
theorem decB (x y : Bool) : decide (V.bl x = V.bl y) = decide (x = y) := by
  cases x <;> cases y <;> rfl
theorem op_eqB : OpR X (compareOp .Eq) (fun x y H Q => ∃ a b : Bool, x = .bl a ∧ y = .bl b ∧ Q (.bl (decide (a = b))) H) := by
  intro pins s σ H x y v u Q I rx ry ⟨a, b, h1, h2, q⟩
  subst h1 h2
  exact op_eq pins s σ H _ _ v u Q I rx ry ⟨rfl, by rw [decB]; exact q⟩
theorem op_neB : OpR X (compareOp .NotEq) (fun x y H Q => ∃ a b : Bool, x = .bl a ∧ y = .bl b ∧ Q (.bl (!decide (a = b))) H) := by
  intro pins s σ H x y v u Q I rx ry ⟨a, b, h1, h2, q⟩
  subst h1 h2
  exact op_ne pins s σ H _ _ v u Q I rx ry ⟨rfl, by rw [decB]; exact q⟩

/-! ### built-ins -/
theorem call_lenN (hK : X.K = K) : CallR X (.builtin "len") (fun xs H Q => ∃ (p : Addr) (ys : List V) (n : Nat), xs = [.ref p] ∧ (SqL K H p ys ∨ SqT K H p ys) ∧ ys.length = n ∧ Q (.int (n : Int)) H) := by
  subst hK
  intro pins s σ H xs us Q I r ⟨p, ys, n, e, h, hn, q⟩
  subst hn
  exact call_len_seq pins s σ H xs us Q I r ⟨p, ys, e, h, q⟩
def absI (i : Int) : Int := if i < 0 then -i else i
def max2 (i j : Int) : Int := if j > i then j else i
def min2 (i j : Int) : Int := if j < i then j else i
/-- the greatest, the least of a list -/
def maxL (xs : List Int) : R Int := ofO xs.max?
def minL (xs : List Int) : R Int := ofO xs.min?
theorem pb_max {δ : Type} {xs : List Int} {f : Int → R δ} {P : δ → Prop} {E : Exn → Prop} (h : Post (maxL xs >>= f) P E) : ∃ m, xs.max? = some m ∧ Post (f m) P E := pb_ofO h
theorem pb_min {δ : Type} {xs : List Int} {f : Int → R δ} {P : δ → Prop} {E : Exn → Prop} (h : Post (minL xs >>= f) P E) : ∃ m, xs.min? = some m ∧ Post (f m) P E := pb_ofO h
theorem cr_maxI (hK : X.K = K) (hc : X.calm = true) : CallR X (.builtin "max") (fun vs H Q => ∃ (a : Addr) (ns : List Int) (m : Int), vs = [V.ref a] ∧ SqL K H a (ns.map V.int) ∧ ns.max? = some m ∧ Q (.int m) H) := by
  subst hK
  intro pins s σ H xs us Q I r ⟨a, ns, m, e, h, hm, q⟩
  obtain ⟨h1, h2⟩ := List.max?_eq_some_iff.mp hm
  refine cr_max hc pins s σ H xs us Q I r ⟨a, ns, e, h, ?_, fun k h3 h4 => ?_⟩
  · exact List.length_pos_of_mem h1
  · have e1 : k = m := Int.le_antisymm (h2 k h3) (h4 m h1)
    subst e1
    exact q
theorem cr_minI (hK : X.K = K) (hc : X.calm = true) : CallR X (.builtin "min") (fun vs H Q => ∃ (a : Addr) (ns : List Int) (m : Int), vs = [V.ref a] ∧ SqL K H a (ns.map V.int) ∧ ns.min? = some m ∧ Q (.int m) H) := by
  subst hK
  intro pins s σ H xs us Q I r ⟨a, ns, m, e, h, hm, q⟩
  obtain ⟨h1, h2⟩ := List.min?_eq_some_iff.mp hm
  refine cr_min hc pins s σ H xs us Q I r ⟨a, ns, e, h, ?_, fun k h3 h4 => ?_⟩
  · exact List.length_pos_of_mem h1
  · have e1 : k = m := Int.le_antisymm (h4 m h1) (h2 k h3)
    subst e1
    exact q
/-- the ints in order -/
def sortI (xs : List Int) : List Int := xs.mergeSort fun a b => decide (a ≤ b)
theorem sortI_perm (xs : List Int) : (sortI xs).Perm xs := List.mergeSort_perm xs _
theorem sortI_sorted (xs : List Int) : (sortI xs).Pairwise (· ≤ ·) := by
  have h := List.pairwise_mergeSort (le := fun a b : Int => decide (a ≤ b)) (fun a b c h1 h2 => by simp only [decide_eq_true_eq] at *; omega) (fun a b => by simp only [Bool.or_eq_true, decide_eq_true_eq]; omega) xs
  exact h.imp fun h => by simpa using h
theorem sort_uniq {xs ys : List Int} (h : xs.Perm ys) (hx : xs.Pairwise (· ≤ ·)) (hy : ys.Pairwise (· ≤ ·)) : xs = ys := by
  induction xs generalizing ys with
  | nil => exact (List.nil_perm.mp h).symm
  | cons x xs ih =>
    cases ys with
    | nil => exact absurd h.symm (by simp)
    | cons y ys =>
      rw [List.pairwise_cons] at hx hy
      have e : x = y := by
        have h1 : x ∈ y :: ys := h.mem_iff.mp List.mem_cons_self
        have h2 : y ∈ x :: xs := h.mem_iff.mpr List.mem_cons_self
        rcases List.mem_cons.mp h1 with h1 | h1
        · exact h1
        · rcases List.mem_cons.mp h2 with h2 | h2
          · exact h2.symm
          · have := hx.1 y h2
            have := hy.1 x h1
            omega
      subst e
      rw [ih (List.perm_cons x |>.mp h) hx.2 hy.2]
theorem sortI_eq {xs ys : List Int} (h : ys.Perm xs) (hy : ys.Pairwise (· ≤ ·)) : ys = sortI xs := sort_uniq (h.trans (sortI_perm xs).symm) hy (sortI_sorted xs)
theorem cr_sortI (hK : X.K = K) : CallR X (.builtin "sorted") (fun vs H Q => ∃ (a : Addr) (ns : List Int), vs = [V.ref a] ∧ SqL K H a (ns.map V.int) ∧ ∀ p, H p = none → Q (.ref p) (upd H p (.lst ((sortI ns).map V.int)))) := by
  subst hK
  intro pins s σ H xs us Q I r ⟨a, ns, e, h, q⟩
  refine cr_sortedI pins s σ H xs us Q I r ⟨a, ns, e, h, fun ns' p h1 h2 hp => ?_⟩
  rw [sortI_eq h1 h2]
  exact q p hp
theorem ix_listK (hK : X.K = K) : IxR X (rIxL K) := hK ▸ ix_list
theorem ix_tupK (hK : X.K = K) : IxR X (rIxT K) := hK ▸ ix_tup
theorem sl_listK (hK : X.K = K) : SlR X (rSlL K) := hK ▸ sl_list
theorem cr_sumK (hK : X.K = K) (hc : X.calm = true) : CallR X (.builtin "sum") (rSum K) := hK ▸ cr_sum hc
theorem call_list_ofK (hK : X.K = K) : CallR X (.type "list") (fun xs H Q => ∃ p ys, xs = [.ref p] ∧ (SqL K H p ys ∨ SqT K H p ys) ∧ ∀ l, H l = none → Q (.ref l) (upd H l (.lst ys))) := hK ▸ call_list_of
theorem call_tuple_ofK (hK : X.K = K) : CallR X (.type "tuple") (fun xs H Q => ∃ p ys, xs = [.ref p] ∧ ((SqL K H p ys ∧ ∀ l, H l = none → Q (.ref l) (upd H l (.tup ys))) ∨ (SqT K H p ys ∧ Q (.ref p) H))) := hK ▸ call_tuple_of
theorem pi_listK {tg l : Expr} {tl : TE} (hK : X.K = K) (hl : PE X l tl) : PI X tg l (iList K tl) := hK ▸ pi_list hl
theorem pi_tupK {tg l : Expr} {tl : TE} (hK : X.K = K) (hl : PE X l tl) : PI X tg l (iTup K tl) := hK ▸ pi_tup hl
theorem pi_k {tg l : Expr} {wi : Fg → TI} (hK : X.K = K) (h : PI X tg l (wi X.K)) : PI X tg l (wi K) := hK ▸ h
theorem pe_k {e : Expr} {t : Fg → TE} (hK : X.K = K) (h : PE X e (t X.K)) : PE X e (t K) := hK ▸ h
theorem pg_k {tg : Expr} {t : Fg → TG} (hK : X.K = K) (h : PG X tg (t X.K)) : PG X tg (t K) := hK ▸ h
end
end Z
/-! Z3: sets of tuples by their number, isinstance -/
namespace Z
open PySem L2 PySem.Spec PyProof.Rows
open Rep (rep)
/-- each once -/
def nub {α : Type} [DecidableEq α] : List α → List α
  | [] => []
  | x :: xs => if x ∈ xs then nub xs else x :: nub xs
section
variable {α : Type} [DecidableEq α]
theorem nub_mem {y : α} : ∀ {xs : List α}, y ∈ nub xs ↔ y ∈ xs
  | [] => Iff.rfl
  | x :: xs => by
    unfold nub
    by_cases h : x ∈ xs
    · rw [if_pos h, nub_mem]
      exact ⟨List.mem_cons_of_mem _, fun q => (List.mem_cons.mp q).elim (fun e => e ▸ h) id⟩
    · rw [if_neg h, List.mem_cons, List.mem_cons, nub_mem]
theorem nub_nodup : ∀ (xs : List α), (nub xs).Nodup
  | [] => List.nodup_nil
  | x :: xs => by
    unfold nub
    by_cases h : x ∈ xs
    · rw [if_pos h]
      exact nub_nodup xs
    · rw [if_neg h]
      exact List.nodup_cons.mpr ⟨fun q => h (nub_mem.mp q), nub_nodup xs⟩
theorem nub_le : ∀ (xs : List α), (nub xs).length ≤ xs.length
  | [] => Nat.le_refl _
  | x :: xs => by
    unfold nub
    have := nub_le xs
    by_cases h : x ∈ xs
    · rw [if_pos h, List.length_cons]
      omega
    · rw [if_neg h, List.length_cons, List.length_cons]
      omega
theorem nub_len : ∀ {xs : List α}, (nub xs).length = xs.length ↔ xs.Nodup
  | [] => by simp [nub]
  | x :: xs => by
    unfold nub
    by_cases h : x ∈ xs
    · rw [if_pos h, List.length_cons]
      have := nub_le xs
      constructor
      · intro e
        omega
      · intro e
        exact absurd h (List.nodup_cons.mp e).1
    · rw [if_neg h, List.length_cons, List.length_cons, List.nodup_cons]
      constructor
      · intro e
        exact ⟨h, nub_len.mp (by omega)⟩
      · intro e
        rw [nub_len.mpr e.2]
theorem nodup_le : ∀ {xs ys : List α}, xs.Nodup → (∀ y ∈ xs, y ∈ ys) → xs.length ≤ ys.length
  | [], _, _, _ => Nat.zero_le _
  | x :: xs, ys, h, hs => by
    obtain ⟨h1, h2⟩ := List.nodup_cons.mp h
    have hx : x ∈ ys := hs x List.mem_cons_self
    have := nodup_le (xs := xs) (ys := ys.erase x) h2 fun y hy => (List.mem_erase_of_ne (show y ≠ x from fun e => by subst e; exact h1 hy)).mpr (hs y (List.mem_cons_of_mem _ hy))
    rw [List.length_erase_of_mem hx] at this
    have := List.length_pos_of_mem hx
    rw [List.length_cons]
    omega
theorem nodup_len {xs ys : List α} (h1 : xs.Nodup) (h2 : ys.Nodup) (h : ∀ y, y ∈ xs ↔ y ∈ ys) : xs.length = ys.length := by
  refine Nat.le_antisymm ?_ ?_
  · exact nodup_le h1 fun y hy => (h y).mp hy
  · exact nodup_le h2 fun y hy => (h y).mpr hy
end
section
variable {X : Cx} {K : Fg} {P : Program} {w : World} {F H : Hp}
/-- tuples of ints by their places -/
theorem tups_ks : ∀ {vs : List V} {xs : List (Tup Int)}, A2 (rep K H) vs xs → ∃ ks : List (Addr × List Int), vs = ks.map (fun p => V.ref p.1) ∧ ks.map (·.2) = xs.map (·.l) ∧ ∀ p ∈ ks, H p.1 = some (.tup (p.2.map V.int))
  | _, _, .nil => ⟨[], rfl, rfl, fun _ h => nomatch h⟩
  | _, _, .cons (x := x) h t => by
    obtain ⟨ks, h1, h2, h3⟩ := tups_ks t
    obtain ⟨a, us, rfl, q, hu⟩ := h
    refine ⟨(a, x.l) :: ks, by rw [h1]; rfl, by rw [List.map_cons, List.map_cons, h2], fun p hp => ?_⟩
    rcases List.mem_cons.mp hp with rfl | hp
    · rw [← hu.ints]
      exact q
    · exact h3 p hp
theorem setT0_len {pins : List (Addr × Obj)} {σ : L2.St} {s : Shared} {a : Addr} {L : List (Addr × List Int)} {Q : VK} (I : Inv X pins σ H s) (R : SetT0 X.prog X.w s.heap a L) (q : (L.map (·.2)).Nodup → Q (.int (L.length : Nat)) H) :
    wpAny (model X.prog X.w) X.A (call (.builtin "len") [.ref a]) (EP X pins σ Q) X.xe s := by
  obtain ⟨es, ep, t, ⟨o, ho, hex, hd⟩, hr, ht, hn, _, _, _, hf⟩ := R.ex
  have hsz : es.size = L.length := by
    have h := congrArg List.length hr
    unfold rowsOf at h
    rw [Array.length_toList, List.length_map] at h
    exact h
  have hps : t.place.size = L.length := by
    have := ht.sz
    rw [List.length_map] at this
    exact this
  have hroom := R.ex
  obtain ⟨_, _, t', ⟨o', ho', _, hd'⟩, _, _, _, _, _, hm, _⟩ := hroom
  rw [ho] at ho'
  cases ho'
  rw [hd] at hd'
  cases hd'
  have hfit : t.fits es.size = true := by
    unfold SetTable.fits SetTable.fill
    rw [ht.dm, hps, hsz]
    simp
    omega
  exact call_len_set ho hex hd hfit (by rw [hsz]; omega) ⟨.int (L.length : Nat), H, I.tok _, ⟨_, by rw [hsz]⟩, q hn⟩
/-- set(xs) of tuples, then len of it -/
theorem cr_setT (hK : X.K = K) (hP : X.prog = P) (hw : X.w = w) (hc : X.calm = true) (hu : X.A.units + 64 < cLine) : CallR X (.type "set") (fun xs H Q => ∃ (ys : List (Tup Int)) (v : V), xs = [v] ∧ rep K H v ys ∧ ys.length < 64 ∧
    ∀ a L, H a = none → ((L.map (·.2)).Nodup → L.length = (nub ys).length) → Q (.ref a) (upd H a (SetTO P w a L))) := by
  subst hK hP hw
  intro pins s σ H xs us Q I r ⟨ys, v, e, hr, hl, q⟩
  obtain ⟨a, vs, rfl, hq, h⟩ := hr
  obtain ⟨ks, h1, h2, h3⟩ := tups_ks h
  subst h1
  have hks : ks.length = ys.length := by
    have := congrArg List.length h2
    simpa using this
  refine cr_setOfT hc hu pins s σ H xs us Q I r ⟨a, ks, e, SqL.of hq, fun p hp => SqT.of (h3 p hp), by omega, fun b L hb hsub hall => q b L hb fun hn => ?_⟩
  have key : (L.map (·.2)).length = ((nub ys).map (·.l)).length := by
    refine nodup_len hn ?_ fun y => ?_
    · have inj : ∀ x y : Tup Int, x.l = y.l → x = y := fun x y e => by cases x; cases y; simp at e; rw [e]
      refine List.Pairwise.map (R := (· ≠ ·)) _ (fun x y hxy e => hxy (inj x y e)) (nub_nodup ys)
    · constructor
      · intro hy
        obtain ⟨p, hp, rfl⟩ := List.mem_map.mp hy
        have h4 : p.2 ∈ ks.map (·.2) := List.mem_map.mpr ⟨p, hsub p hp, rfl⟩
        rw [h2] at h4
        obtain ⟨z, hz, e⟩ := List.mem_map.mp h4
        exact List.mem_map.mpr ⟨z, nub_mem.mpr hz, e⟩
      · intro hy
        obtain ⟨z, hz, rfl⟩ := List.mem_map.mp hy
        have h4 : z.l ∈ ks.map (·.2) := by
          rw [h2]
          exact List.mem_map.mpr ⟨z, nub_mem.mp hz, rfl⟩
        obtain ⟨p, hp, e⟩ := List.mem_map.mp h4
        rw [← e]
        exact hall p hp
  rw [List.length_map, List.length_map] at key
  exact key
theorem call_lenT (hP : X.prog = P) (hw : X.w = w) : CallR X (.builtin "len") (fun xs H Q => ∃ (a : Addr) (L : List (Addr × List Int)) (n : Nat), xs = [.ref a] ∧ H a = some (SetTO P w a L) ∧ ((L.map (·.2)).Nodup → L.length = n) ∧ Q (.int (n : Nat)) H) := by
  subst hP hw
  intro pins s σ H xs us Q I r ⟨a, L, n, e, ha, hn, q⟩
  subst e
  rw [Vals.ref1 r]
  have R : SetT0 X.prog X.w s.heap a L := (show ObjOk X.prog X.w H s.heap a (SetTO X.prog X.w a L) from I.hok a _ ha).1
  exact setT0_len I R fun nd => by rw [hn nd]; exact q
/-- isinstance of a plain value and a built-in class -/
theorem call_isB (hK : X.K = K) : CallR X (.builtin "isinstance") (fun xs H Q => ∃ (x : V) (a b : String) (r : Bool), xs = [x, .ty b] ∧ TyOf K H x (.type a) ∧ kitB a b = some r ∧ Q (.bl r) H) := by
  subst hK
  intro pins s σ H xs us Q I r ⟨x, a, b, c, e, h1, h2, q⟩
  exact call_isi pins s σ H xs us Q I r ⟨x, .ty b, .type a, .type b, c, e, .ty b, .base h1, kit_ty h2, q⟩
end
end Z
namespace Z
open PySem L2 PySem.Spec PyProof.Rows
open Rep (rep)
section
variable {α : Type}
/-- the first place of an item -/
def fidx [DecidableEq α] (y : α) : List α → Option Nat
  | [] => none
  | x :: xs => if x = y then some 0 else (fidx y xs).map (· + 1)
def idxR [DecidableEq α] (xs : List α) (y : α) : R Int := ofO ((fidx y xs).map fun j => ((j : Nat) : Int))
theorem fidx_spec [DecidableEq α] {y : α} : ∀ {xs : List α} {j : Nat}, fidx y xs = some j → xs[j]? = some y ∧ ∀ m z, m < j → xs[m]? = some z → z ≠ y
  | [], j, h => nomatch h
  | x :: xs, j, h => by
    unfold fidx at h
    by_cases e : x = y
    · rw [if_pos e] at h
      cases h
      subst e
      exact ⟨rfl, fun m z hm => absurd hm (Nat.not_lt_zero _)⟩
    · rw [if_neg e] at h
      cases q : fidx y xs with
      | none => rw [q] at h; cases h
      | some k =>
        rw [q] at h
        cases h
        obtain ⟨h1, h2⟩ := fidx_spec q
        refine ⟨by simpa using h1, fun m z hm hz => ?_⟩
        cases m with
        | zero =>
          simp at hz
          subst hz
          exact e
        | succ m => exact h2 m z (Nat.lt_of_succ_lt_succ hm) (by simpa using hz)
variable {δ : Type} {P : δ → Prop} {E : Exn → Prop}
theorem pb_idx [DecidableEq α] {xs : List α} {y : α} {f : Int → R δ} (h : Post (idxR xs y >>= f) P E) : ∃ j : Nat, fidx y xs = some j ∧ Post (f (j : Int)) P E := by
  unfold idxR at h
  cases q : fidx y xs with
  | none => rw [q] at h; exact (show False from h).elim
  | some j => rw [q] at h; exact ⟨j, rfl, h⟩
end
section
variable {X : Cx} {K : Fg} {F H : Hp}
theorem A2.strs {vs : List V} {xs : List Str} (h : A2 (rep K H) vs xs) : vs = xs.map V.str := by
  induction h with
  | nil => rfl
  | cons a _ ih =>
    have a' : _ = V.str _ := a
    rw [a', ih]
    rfl
theorem bools_q {a : Addr} {vs : List V} {xs : List Bool} (q : SqL K H a vs) (h : A2 (rep K F) vs xs) : SqL K H a (xs.map V.bl) := h.bools ▸ q
theorem strs_q {a : Addr} {vs : List V} {xs : List Str} (q : SqL K H a vs) (h : A2 (rep K F) vs xs) : SqL K H a (xs.map V.str) := h.strs ▸ q
theorem mt_indexS (hK : X.K = K) : MtR X "list.index" (fun x xs H Q => ∃ (a : Addr) (ys : List Str) (y : Str) (j : Nat), x = V.ref a ∧ xs = [.str y] ∧ SqL K H a (ys.map V.str) ∧ fidx y ys = some j ∧ Q (.int (j : Int)) H) := by
  subst hK
  intro pins s σ H x xs v us Q I rx rxs ⟨a, ys, y, j, e1, e2, hs, hj, q⟩
  obtain ⟨h1, h2⟩ := fidx_spec hj
  refine mt_index pins s σ H x xs v us Q I rx rxs ⟨a, _, .str y, j, .str y, e1, e2, hs, rfl, ?_, ?_, ?_, fun m z hm hz => ?_, q⟩
  · rw [List.all_eq_true]
    intro z hz
    obtain ⟨t, _, rfl⟩ := List.mem_map.mp hz
    rfl
  · rw [List.getElem?_map, h1]
    rfl
  · show (y == y) = true
    simp
  · rw [List.getElem?_map] at hz
    cases e : ys[m]? with
    | none => rw [e] at hz; cases hz
    | some t =>
      rw [e] at hz
      cases hz
      have := h2 m t hm e
      show (t == y) = false
      simpa using this
theorem mt_indexI (hK : X.K = K) : MtR X "list.index" (fun x xs H Q => ∃ (a : Addr) (ys : List Int) (y : Int) (j : Nat), x = V.ref a ∧ xs = [.int y] ∧ SqL K H a (ys.map V.int) ∧ fidx y ys = some j ∧ Q (.int (j : Int)) H) := by
  subst hK
  intro pins s σ H x xs v us Q I rx rxs ⟨a, ys, y, j, e1, e2, hs, hj, q⟩
  obtain ⟨h1, h2⟩ := fidx_spec hj
  refine mt_index pins s σ H x xs v us Q I rx rxs ⟨a, _, .int y, j, .int y, e1, e2, hs, rfl, ?_, ?_, ?_, fun m z hm hz => ?_, q⟩
  · rw [List.all_eq_true]
    intro z hz
    obtain ⟨t, _, rfl⟩ := List.mem_map.mp hz
    rfl
  · rw [List.getElem?_map, h1]
    rfl
  · show (y == y) = true
    simp
  · rw [List.getElem?_map] at hz
    cases e : ys[m]? with
    | none => rw [e] at hz; cases hz
    | some t =>
      rw [e] at hz
      cases hz
      have := h2 m t hm e
      show (t == y) = false
      simpa using this
theorem cr_allK (hK : X.K = K) (hc : X.calm = true) : CallR X (.builtin "all") (rAll K) := hK ▸ cr_all hc
theorem cr_anyK (hK : X.K = K) (hc : X.calm = true) : CallR X (.builtin "any") (rAny K) := hK ▸ cr_any hc
end
end Z
namespace HT
open PySem PySem.Spec PyProof.Rows
section
variable {prog : Program} {w : World} {A : Around} {E : Value → Shared → Prop} {s : Shared}
/-- t[::-1] of a tuple of two -/
theorem zrev_two {t sl : Addr} {x y vs : Value} {Q : Value → Shared → Prop} (ht : IsTup s.heap t #[x, y]) (hs : s.heap.IsSliceOf sl .none .none vs) (pl : IsPart .none none) (ps : IsPart vs (some (-1)))
    (h : Q (.ref s.heap.objs.size) { s with heap := s.heap.push { cls := .type "tuple", data := .seq #[y, x] } }) : wpAny (model prog w) A (getItem (.ref t) (.ref sl)) Q E s := by
  have htake : sizeOk (.seq #[y, x]) := by
    show 2 ≤ sizeLine
    decide
  obtain ⟨os, hos, hcs, hds⟩ := id hs
  have hTs : s.TypeIs (.ref sl) "slice" := ⟨os, hos, hcs⟩
  unfold getItem
  try with_reducible refine wpAny_holding ?_
  first | refine wpAny_bind (wpAny_pure ?_) | skip
  refine wpAny_bind (wpAny_sequenceKey ht.typeIs (by decide) ?_)
  refine wpAny_bind (wpAny_callSpecial?_slot (name := Str.ofString "__getitem__") ht.typeIs PyProof.Rows.slot_tuple_getitem
    (wpAny_call_entry PyProof.Rows.slot_tuple_getitem ht.typeIs entry_tuple_getitem ?_ (args_tuple_getitem _ _)))
  show wpAny _ _ (Builtin.Tuple.tupleItemsOf (.ref t) >>= _) _ _ s
  refine wpAny_bind (tupleItemsOf_ ht ?_)
  refine wpAny_bind (wpAny_typeOf hTs ?_)
  rw [if_pos (by decide)]
  have key : ∀ {A' : Around} {E' : Value → Shared → Prop} {R : Int × Int × Nat → Shared → Prop}, R ((1 : Int), -1, 2) s → wpAny (model prog w) A' (Builtin.Slice.sliceApplied (.ref sl) (pure (2 : Int))) R E' s := by
    intro A' E' R hR
    unfold Builtin.Slice.sliceApplied Builtin.Slice.sliceFields
    refine wpAny_bind (wpAny_bind (wpAny_field hos hds (x := .none) rfl (wpAny_bind (wpAny_field hos hds (x := .none) rfl (wpAny_bind (wpAny_field hos hds (x := vs) rfl (wpAny_pure ?_)))))))
    refine wpAny_bind (slicePart_ ps ?_)
    show wpAny _ _ (if ((-1 : Int) == 0) = true then _ else _) _ _ s
    rw [if_neg (by decide)]
    refine wpAny_bind (slicePart_ pl (wpAny_bind (slicePart_ pl (wpAny_bind (wpAny_pure ?_)))))
    show wpAny _ _ (match Builtin.Slice.sliceAdjust none none (-1) (2 : Int) with | (lo, hi) => pure (lo, (-1 : Int), Builtin.Slice.slicePlaces lo hi (-1))) _ _ s
    exact wpAny_pure hR
  refine wpAny_bind (key ?_)
  show wpAny _ _ (if ((1 : Int) == 0 && (-1 : Int) == 1 && (2 : Nat) == 2) = true then _ else _) _ _ s
  rw [if_neg (by decide)]
  first
    | exact wpAny_bind (m := Builtin.Tuple.tupleExact _) (wpAny_newObj_type (wpAny_pure ⟨_, rfl, wpAny_pure h⟩) htake)
    | exact wpAny_bind (m := Builtin.Tuple.tupleExact _) (wpAny_newObj_type (wpAny_bind (wpAny_pure (wpAny_pure ⟨_, rfl, wpAny_pure h⟩))) htake)
    | exact wpAny_bind (wpAny_bind (m := Builtin.Tuple.tupleExact _) (wpAny_newObj_type (wpAny_pure (wpAny_pure ⟨_, rfl, wpAny_pure h⟩)) htake))
    | exact wpAny_bind (wpAny_bind (m := Builtin.Tuple.tupleExact _) (wpAny_newObj_type (wpAny_pure ⟨_, rfl, wpAny_pure h⟩) htake))
end
end HT
namespace Z
open PySem L2 PySem.Spec PyProof.Rows
open Rep (rep)
section
variable {X : Cx} {K : Fg} {F H : Hp}
def tRev2 (te : TE) : TE := fun σ H Q => te σ H fun x H1 => ∃ a u w, x = .ref a ∧ H1 a = some (.tup [u, w]) ∧ ∀ p, H1 p = none → Q (.ref p) (upd H1 p (.tup [w, u]))
theorem pe_rev2 {e : Expr} {te : TE} {k : Nat} {p1 p2 p3 pos : Pos} (he : PE X e te) : PE X (.Subscript e (.Slice none none (some (.UnaryOp .USub (.Constant (.int 1) k p1) p2)) p3) pos) (tRev2 te) := by
  refine ⟨fun pins s σ H Q I h => ?_⟩
  refine Subscript_ (thn (he.run pins s σ H _ I h) fun v s1 ⟨x, H1, I1, r1, q1⟩ => ?_)
  obtain ⟨a, c, d, ex, hx, q⟩ := q1
  subst ex
  cases r1
  have hst : PO X (some (.UnaryOp .USub (.Constant (.int 1) k p1) p2)) (tPart (tUn (rU fun i => .int (-i)) (tC (.int 1)))) := po_some (pe_un un_neg pe_int)
  refine wpAny_Slice (thn (po_none.run pins s1 σ H1 (fun o H2 => o = none ∧ H2 = H1) I1 ⟨rfl, rfl⟩) fun vl s2 ⟨l, H2, I2, pl, el, e2⟩ => ?_)
  subst el e2
  refine thn (po_none.run pins s2 σ H2 (fun o H3 => o = none ∧ H3 = H2) I2 ⟨rfl, rfl⟩) fun vu s3 ⟨u, H3, I3, pu, eu, e3⟩ => ?_
  subst eu e3
  refine thn (hst.run pins s3 σ H3 (fun o H4 => o = some (-1) ∧ H4 = H3) I3 ⟨1, rfl, -1, rfl, rfl, rfl⟩) fun vs s4 ⟨o, H4, I4, ps, eo, e4⟩ => ?_
  subst eo e4
  have I5 : Inv X pins σ H4 { s4 with heap := s4.heap.push { cls := .type "slice", data := .fields #[vl, vu, vs] } } := I4.kept (t' := s4.toks) fun b ob q => Heap.get?_push_of_some _ q
  obtain ⟨its, r, ht, hz⟩ := I5.tuple (SqT.of hx)
  cases r with
  | cons r1 r' =>
    rename_i uu us
    cases r' with
    | cons r2 r'' =>
      rename_i ww ws
      cases r''
      cases pl
      cases pu
      show wpAny (model X.prog X.w) X.A (subscriptTail e (.Slice none none (some (.UnaryOp .USub (.Constant (.int 1) k p1) p2)) p3) (.ref a) (.ref s4.heap.objs.size)) (EP X pins σ Q) X.xe { s4 with heap := s4.heap.push { cls := .type "slice", data := .fields #[.none, .none, vs] } }
      refine tail_any (ops := [.ref a, .ref s4.heap.objs.size]) ht.typeIs (PyProof.Rows.slot_tuple_getitem.lookup) ?_ (by with_unfolding_all rfl)
      refine HT.zrev_two ht (Heap.IsSliceOf.new _ .none .none vs) .none ps ?_
      exact ⟨.ref _, _, I5.laid (t' := s4.toks) (o := .tup [d, c]) (fun b ob q => Heap.get?_push_of_some _ q) (Nat.le_refl _) ⟨by show 2 ≤ sizeLine; decide, [ww, uu], .cons r2 (.cons r1 .nil), IsTup.new _ _⟩, rfl, q _ (I5.hok.fresh (Nat.le_refl _))⟩
/-- two things turned about -/
def rev2 {α : Type} (xs : List α) : R (List α) := match xs with
  | [x, y] => .ok [y, x]
  | _ => .bad
theorem pb_rev2 {α δ : Type} {xs : List α} {f : List α → R δ} {P : δ → Prop} {E : Exn → Prop} (h : Post (rev2 xs >>= f) P E) : ∃ x y, xs = [x, y] ∧ Post (f [y, x]) P E := by
  cases xs with
  | nil => exact (show False from h).elim
  | cons x xs =>
    cases xs with
    | nil => exact (show False from h).elim
    | cons y xs =>
      cases xs with
      | nil => exact ⟨x, y, rfl, h⟩
      | cons z xs => exact (show False from h).elim
theorem A2.two {α : Type} {r : V → α → Prop} {vs : List V} {x y : α} (h : A2 r vs [x, y]) : ∃ u w, vs = [u, w] ∧ r u x ∧ r w y := by
  cases h with
  | cons a t =>
    cases t with
    | cons b t =>
      cases t
      exact ⟨_, _, rfl, a, b⟩
/-- xs * k -/
def repL {α : Type} (xs : List α) (k : Int) : List α := (List.replicate k.toNat xs).flatten
@[irreducible] def repR {α : Type} (xs : List α) (k : Int) : R (List α) := if -(2 ^ 62) ≤ k ∧ k < 2 ^ 62 ∧ xs.length * k.toNat < 100000 then .ok (repL xs k) else .bad
theorem pb_rep {α δ : Type} {xs : List α} {k : Int} {f : List α → R δ} {P : δ → Prop} {E : Exn → Prop} (h : Post (repR xs k >>= f) P E) : ∃ ys, (-(2 ^ 63) ≤ k ∧ k < 2 ^ 63 ∧ xs.length * k.toNat ≤ sizeLine) ∧ ys = repL xs k ∧ Post (f ys) P E := by
  unfold repR at h
  obtain ⟨⟨a, b, c⟩, d⟩ := pb_if h
  exact ⟨_, ⟨by omega, by omega, Nat.le_of_lt (Nat.lt_of_lt_of_le c line5)⟩, rfl, d⟩
theorem A2.flat {α : Type} {r : V → α → Prop} {vs : List V} {xs : List α} (h : A2 r vs xs) (n : Nat) : A2 r (List.replicate n vs).flatten (List.replicate n xs).flatten := by
  induction n with
  | zero => exact .nil
  | succ n ih =>
    rw [List.replicate_succ, List.replicate_succ, List.flatten_cons, List.flatten_cons]
    exact h.append ih
/-! ### None -/
class NonN (α : Type) extends Rep α where
  no : ∀ {K : Fg} {H : Hp} {v : V} {x : α}, rep K H v x → v ≠ .non
instance : NonN Int := ⟨fun h e => by have h' : _ = V.int _ := h; rw [h'] at e; cases e⟩
instance : NonN Bool := ⟨fun h e => by have h' : _ = V.bl _ := h; rw [h'] at e; cases e⟩
instance {α β : Type} [Rep α] [Rep β] : NonN (α × β) := ⟨fun {K H v x} h q => by
  obtain ⟨a, u, w, e, _⟩ := h
  rw [e] at q
  cases q⟩
instance {α : Type} [Rep α] : NonN (List α) := ⟨fun {K H v x} h q => by
  obtain ⟨a, u, e, _⟩ := h
  rw [e] at q
  cases q⟩
instance {α : Type} [Rep α] : NonN (Tup α) := ⟨fun {K H v x} h q => by
  obtain ⟨a, u, e, _⟩ := h
  rw [e] at q
  cases q⟩
theorem isN_eq {α : Type} [NonN α] {v : V} {o : Option α} (h : rep K F v o) : decide (v = .non) = o.isNone := by
  cases o with
  | none =>
    have h' : v = V.non := h
    rw [h']
    rfl
  | some x => exact decide_eq_false (NonN.no (α := α) h)
theorem op_isN2 : OpR X (compareOp .Is) (fun x y H Q => y = V.non ∧ ∃ b, decide (x = .non) = b ∧ Q (.bl b) H) := by
  intro pins s σ H x y v u Q I rx ry ⟨e, b, hb, q⟩
  exact op_isN pins s σ H x y v u Q I rx ry ⟨e, by rw [hb]; exact q⟩
theorem op_notN2 : OpR X (compareOp .IsNot) (fun x y H Q => y = V.non ∧ ∃ b, decide (x = .non) = b ∧ Q (.bl (!b)) H) := by
  intro pins s σ H x y v u Q I rx ry ⟨e, b, hb, q⟩
  exact op_notN pins s σ H x y v u Q I rx ry ⟨e, by rw [hb]; exact q⟩
instance datOptBool : Dat (Option Bool) where
  toD := fun x => match x with
    | none => .none
    | some i => .bool i
  dmax := 0
  dp := fun {K H v x} h => by
    cases x with
    | none =>
      have h' : v = V.non := h
      subst h'
      exact .non
    | some i =>
      have h' : v = V.bl i := h
      subst h'
      exact .bl _
  lay := fun x => by cases x <;> simp only [PyData.canLay0]
  dep := fun x => by cases x <;> simp only [PyData.depth, Nat.le_refl]
  eqv := fun x y => by cases x <;> cases y <;> simp [PyData.eqv]
end
end Z
/-! Z4: statements never reached, tuples into the frozen part, pairs sorted, dicts of scalars, list(range), pop -/
namespace Z
open PySem L2
open Rep (rep)
section
variable {X : Cx}
theorem ps_absurd {st : Stmt} : PS X st (fun _ _ _ => False) := ⟨fun _ _ _ _ _ _ h => h.elim⟩
theorem stepAnd {t u : TT} {σ : L2.St} {H : Hp} {Q : Bool → Hp → Prop} (h : t σ H fun c H1 => if c = true then u σ H1 Q else Q false H1) : tAnd t u σ H Q := h
theorem stepOr {t u : TT} {σ : L2.St} {H : Hp} {Q : Bool → Hp → Prop} (h : t σ H fun c H1 => if c = true then Q true H1 else u σ H1 Q) : tOr t u σ H Q := h
theorem stepNot {t : TT} {σ : L2.St} {H : Hp} {Q : Bool → Hp → Prop} (h : t σ H fun c H1 => Q (!c) H1) : tNot t σ H Q := h
/-- every tuple there is may be read -/
def tupF (F H : Hp) : Hp := fun b => match F b with
  | some u => some u
  | none => match H b with
    | some (.tup vs) => some (.tup vs)
    | _ => none
theorem tupF_some {F H : Hp} {b : Addr} {u : HO} (e : F b = some u) : tupF F H b = some u := by
  unfold tupF
  rw [e]
theorem tupF_none {F H : Hp} {b : Addr} {u : HO} (e : F b = none) (h : tupF F H b = some u) : H b = some u ∧ ∃ vs, u = .tup vs := by
  unfold tupF at h
  rw [e] at h
  dsimp only at h
  split at h
  · rename_i vs e'
    cases h
    exact ⟨e', _, rfl⟩
  · cases h
theorem tupF_tup {F H : Hp} {b : Addr} {vs : List V} (e : F b = none) (h : H b = some (.tup vs)) : tupF F H b = some (.tup vs) := by
  unfold tupF
  rw [e, h]
theorem W.tups {F H : Hp} {os : List (Addr × HO)} (w : W F H os) : ∃ F', Same F F' ∧ W F' H os ∧ ∀ b vs, H b = some (.tup vs) → F' b = some (.tup vs) := by
  refine ⟨tupF F H, fun b u e => tupF_some e, ⟨fun b u e => ?_, fun p hp => ?_, w.nd, w.nt⟩, fun b vs e => ?_⟩
  · cases q : F b with
    | some u' =>
      rw [tupF_some q] at e
      cases e
      exact w.same b _ q
    | none => exact (tupF_none q e).1
  · obtain ⟨h1, h2⟩ := w.own p hp
    refine ⟨h1, ?_⟩
    cases q : tupF F H p.1 with
    | none => rfl
    | some u =>
      obtain ⟨k, vs, rfl⟩ := tupF_none h2 q
      rw [h1] at k
      exact absurd (Option.some.inj k) (w.nt p hp vs)
  · cases q : F b with
    | some u' =>
      have := w.same b _ q
      rw [e] at this
      cases this
      exact tupF_some q
    | none => exact tupF_tup q e
/-! ### sorted, of pairs -/
def leP (p q : Int × Int) : Bool := decide (p.1 < q.1 ∨ (p.1 = q.1 ∧ p.2 ≤ q.2))
def sortP (xs : List (Int × Int)) : List (Int × Int) := xs.mergeSort leP
theorem sortP_perm (xs : List (Int × Int)) : (sortP xs).Perm xs := List.mergeSort_perm xs _
theorem sortP_sorted (xs : List (Int × Int)) : (sortP xs).Pairwise fun p q => leP p q = true := by
  refine List.pairwise_mergeSort (le := leP) (fun a b c h1 h2 => ?_) (fun a b => ?_) xs
  · unfold leP at *
    simp only [decide_eq_true_eq] at *
    omega
  · unfold leP
    simp only [Bool.or_eq_true, decide_eq_true_eq]
    omega
theorem sortP_uniq {xs ys : List (Int × Int)} (h : xs.Perm ys) (hx : xs.Pairwise fun p q => leP p q = true) (hy : ys.Pairwise fun p q => leP p q = true) : xs = ys := by
  induction xs generalizing ys with
  | nil => exact (List.nil_perm.mp h).symm
  | cons x xs ih =>
    cases ys with
    | nil => exact absurd h.length_eq (by simp)
    | cons y ys =>
      rw [List.pairwise_cons] at hx hy
      have e : x = y := by
        have h1 : y ∈ x :: xs := h.mem_iff.mpr List.mem_cons_self
        have h2 : x ∈ y :: ys := h.mem_iff.mp List.mem_cons_self
        rcases List.mem_cons.mp h1 with e | h1
        · exact e.symm
        · rcases List.mem_cons.mp h2 with e | h2
          · exact e
          · have a := hx.1 y h1
            have b := hy.1 x h2
            unfold leP at a b
            simp only [decide_eq_true_eq] at a b
            exact Prod.ext (by omega) (by omega)
      subst e
      rw [ih h.cons_inv hx.2 hy.2]
theorem sortP_eq {xs ys : List (Int × Int)} (h : ys.Perm xs) (hy : ys.Pairwise fun p q => leP p q = true) : ys = sortP xs := sortP_uniq (h.trans (sortP_perm xs).symm) hy (sortP_sorted xs)
/-- which pair stands at a reference -/
def keyP (H : Hp) (v : V) : Int × Int := match v with
  | .ref t => match H t with
    | some (.tup [.int i, .int j]) => (i, j)
    | _ => (0, 0)
  | _ => (0, 0)
theorem keyP_of {K : Fg} {F H : Hp} {v : V} {x : Int × Int} (s : Same F H) (r : rep K F v x) : ∃ t, v = .ref t ∧ F t = some (.tup [.int x.1, .int x.2]) ∧ keyP H v = x := by
  obtain ⟨t, u, z, rfl, q, r1, r2⟩ := r
  obtain rfl : u = V.int x.1 := r1
  obtain rfl : z = V.int x.2 := r2
  refine ⟨t, rfl, q, ?_⟩
  have h := s _ _ q
  unfold keyP
  dsimp only
  rw [h]
theorem keyP_all {K : Fg} {F H : Hp} {vs : List V} {xs : List (Int × Int)} (s : Same F H) (h : A2 (rep K F) vs xs) : xs = vs.map (keyP H) ∧ ∀ v ∈ vs, ∃ t, v = .ref t ∧ F t = some (.tup [.int (keyP H v).1, .int (keyP H v).2]) := by
  induction h with
  | nil => exact ⟨rfl, fun _ z => nomatch z⟩
  | cons a b ih =>
    obtain ⟨t, e, q, k⟩ := keyP_of s a
    refine ⟨by rw [List.map_cons, k, ← ih.1], fun v hv => ?_⟩
    rcases List.mem_cons.mp hv with rfl | hv
    · exact ⟨t, e, by rw [k]; exact q⟩
    · exact ih.2 v hv
theorem rep_keys {K : Fg} {F H : Hp} : ∀ {ys : List V}, (∀ v ∈ ys, ∃ t, v = V.ref t ∧ F t = some (.tup [.int (keyP H v).1, .int (keyP H v).2])) → A2 (rep K F) ys (ys.map (keyP H))
  | [], _ => .nil
  | v :: ys, h => by
    obtain ⟨t, e, q⟩ := h v List.mem_cons_self
    refine .cons ?_ (rep_keys fun y hy => h y (List.mem_cons_of_mem _ hy))
    subst e
    exact ⟨t, _, _, rfl, q, rfl, rfl⟩
theorem cr_sortP {K : Fg} (hK : X.K = K) : CallR X (.builtin "sorted") (fun vs H Q => ∃ (a : Addr) (us : List V) (F : Hp) (xs : List (Int × Int)), vs = [V.ref a] ∧ SqL K H a us ∧ Same F H ∧ A2 (rep K F) us xs ∧
    ∀ p ys, H p = none → A2 (rep K F) ys (sortP xs) → Q (.ref p) (upd H p (.lst ys))) := by
  subst hK
  intro pins s σ H vs us Q I r h
  obtain ⟨a, us', F, xs, rfl, hs, sF, hA, q⟩ := h
  obtain ⟨e1, e2⟩ := keyP_all sF hA
  refine cr_sortedPO pins s σ H _ us Q I r ⟨a, us', keyP H, rfl, hs, fun x hx => ?_, fun ys p h1 h2 hp => q p ys hp ?_⟩
  · obtain ⟨t, e, k⟩ := e2 x hx
    exact ⟨t, e, sF _ _ k⟩
  · have e : ys.map (keyP H) = sortP xs := by
      refine sortP_eq ?_ ?_
      · rw [e1]
        exact h2.perm.map _
      · rw [List.pairwise_map]
        refine h1.imp fun {x y} h => ?_
        have h := SrtO.lexB_no.mp h
        unfold leP
        rw [decide_eq_true_eq]
        omega
    rw [← e]
    exact rep_keys fun v hv => e2 v (h2.perm.mem_iff.mp hv)
end
/-! ### dicts of scalars -/
section
variable {κ β γ δ : Type} [DecidableEq κ]
def mput (m : List (κ × β)) (k : κ) (v : β) : List (κ × β) := if (m.any fun p => decide (p.1 = k)) = true then m.map (fun p => if p.1 = k then (p.1, v) else p) else m ++ [(k, v)]
def mhas (m : List (κ × β)) (k : κ) : Bool := m.any fun p => decide (p.1 = k)
def mget (m : List (κ × β)) (k : κ) : Option β := (m.find? fun p => decide (p.1 = k)).map (·.2)
def mputR (m : List (κ × β)) (k : κ) (v : β) : R (List (κ × β)) := if m.length < 100000 then .ok (mput m k v) else .bad
def mgetR (m : List (κ × β)) (k : κ) : R β := ofO (mget m k)
/-- as the dict stands -/
def encM (e : κ → γ) (ev : β → V) (m : List (κ × β)) : List (γ × V) := m.map fun p => (e p.1, ev p.2)
variable [DecidableEq γ] {e : κ → γ} {ev : β → V}
theorem any_enc (he : ∀ a b, e a = e b → a = b) (m : List (κ × β)) (k : κ) : ((encM e ev m).any fun p => decide (p.1 = e k)) = m.any fun p => decide (p.1 = k) := by
  unfold encM
  rw [List.any_map]
  congr 1
  funext p
  show decide (e p.1 = e k) = decide (p.1 = k)
  by_cases h : p.1 = k
  · rw [h]; simp
  · rw [decide_eq_false h, decide_eq_false fun z => h (he _ _ z)]
theorem put_enc (he : ∀ a b, e a = e b → a = b) (m : List (κ × β)) (k : κ) (v : β) : putK (encM e ev m) (e k) (ev v) = encM e ev (mput m k v) := by
  unfold putK mput
  rw [any_enc he]
  by_cases h : (m.any fun p => decide (p.1 = k)) = true
  · rw [if_pos h, if_pos h]
    unfold encM
    rw [List.map_map, List.map_map]
    refine List.map_congr_left fun p _ => ?_
    show (if e p.1 = e k then (e p.1, ev v) else (e p.1, ev p.2)) = (fun q : κ × β => (e q.1, ev q.2)) (if p.1 = k then (p.1, v) else p)
    by_cases h : p.1 = k
    · rw [if_pos h, if_pos (congrArg e h)]
    · rw [if_neg h, if_neg fun z => h (he _ _ z)]
  · rw [if_neg h, if_neg h]
    unfold encM
    rw [List.map_append]
    rfl
theorem val_enc (he : ∀ a b, e a = e b → a = b) (k : κ) : ∀ m : List (κ × β), valV (encM e ev m) (e k) = (mget m k).map ev
  | [] => rfl
  | p :: m => by
    show valV ((e p.1, ev p.2) :: encM e ev m) (e k) = _
    unfold mget
    by_cases h : p.1 = k
    · rw [valV_pos (congrArg e h), List.find?_cons_of_pos (by simpa using h)]
      rfl
    · rw [valV_neg (fun z => h (he _ _ z)), List.find?_cons_of_neg (by simpa using h), val_enc he k m]
      rfl
theorem has_enc (he : ∀ a b, e a = e b → a = b) (m : List (κ × β)) (k : κ) : (valV (encM e ev m) (e k)).isSome = mhas m k := by
  rw [← valV_any, any_enc he]
  rfl
theorem enc_length (m : List (κ × β)) : (encM e ev m).length = m.length := List.length_map _
end
abbrev kI : Int → Key := .inl
theorem kI_inj : ∀ a b, kI a = kI b → a = b := fun _ _ h => Sum.inl.inj h
def kP (p : Int × Int) : List Key := [.inl p.1, .inl p.2]
theorem kP_inj : ∀ a b, kP a = kP b → a = b := fun a b h => by
  unfold kP at h
  injection h with h1 h2
  injection h2 with h2 _
  exact Prod.ext (Sum.inl.inj h1) (Sum.inl.inj h2)
section
variable {β : Type} {ev : β → V} {H : Hp} {a b : Addr}
theorem dget_k {m : List (Int × β)} {k : Int} (e : H a = some (.dK (encM kI ev m))) : DGet H a (.int k) ((mget m k).map ev) := by
  rw [← val_enc kI_inj]
  exact DGet.k (k := kI k) e
theorem dget_p {m : List ((Int × Int) × β)} {k : Int × Int} (e : H a = some (.dT (encM kP ev m))) (eb : H b = some (.tup [.int k.1, .int k.2])) : DGet H a (.ref b) ((mget m k).map ev) := by
  rw [← val_enc kP_inj]
  exact DGet.t (k := kP k) e eb
theorem get_has {κ : Type} [DecidableEq κ] (m : List (κ × β)) (k : κ) (f : β → V) : ((mget m k).map f).isSome = mhas m k := by
  rw [Option.isSome_map]
  unfold mget mhas
  rw [Option.isSome_map, List.isSome_find?]
theorem dput_k {m : List (Int × β)} {k : Int} {v : β} (e : H a = some (.dK (encM kI ev m))) (hl : m.length < sizeLine) : DPut H a (.int k) (ev v) (upd H a (.dK (encM kI ev (mput m k v)))) := by
  rw [← put_enc kI_inj]
  exact DPut.k (k := kI k) e (by rw [enc_length]; exact hl)
theorem dput_p {m : List ((Int × Int) × β)} {k : Int × Int} {v : β} (e : H a = some (.dT (encM kP ev m))) (eb : H b = some (.tup [.int k.1, .int k.2])) (hl : m.length < sizeLine) : DPut H a (.ref b) (ev v) (upd H a (.dT (encM kP ev (mput m k v)))) := by
  rw [← put_enc kP_inj]
  exact DPut.t (k := kP k) e eb (by rw [enc_length]; exact hl)
end
/-- the keys of a dict, as tuples that may be read -/
theorem keys_rep {β : Type} {ev : β → V} {K : Fg} {F H : Hp} (hF : ∀ b vs, H b = some (.tup vs) → F b = some (.tup vs)) : ∀ {m : List ((Int × Int) × β)} {bs : List Addr}, IsKeys H (encM kP ev m) bs → A2 (rep K F) (bs.map V.ref) (m.map (·.1))
  | [], [], _ => .nil
  | [], _ :: _, h => nomatch h
  | _ :: _, [], h => nomatch h
  | p :: m, b :: bs, .cons h1 h2 => .cons ⟨b, _, _, rfl, hF _ _ h1, rfl, rfl⟩ (keys_rep hF h2)
theorem pn_mput {κ β δ : Type} [DecidableEq κ] {m : List (κ × β)} {k : κ} {v : β} {f : List (κ × β) → R δ} {P : δ → Prop} {E : Exn → Prop} (h : Post (mputR m k v >>= f) P E) : ∃ m', m.length < sizeLine ∧ m' = mput m k v ∧ Post (f m') P E := by
  unfold mputR at h
  by_cases hl : m.length < 100000
  · rw [if_pos hl] at h
    exact ⟨_, Nat.lt_of_lt_of_le hl line5, rfl, h⟩
  · rw [if_neg hl] at h
    exact (show False from h).elim
/-! ### list(range(n)) -/
@[irreducible] def listRng (i j : Int) : R (List Int) := if -(2 ^ 62) ≤ i ∧ i < 2 ^ 62 ∧ -(2 ^ 62) ≤ j ∧ j < 2 ^ 62 ∧ (j - i).toNat ≤ 100000 then .ok (rng i j) else .bad
theorem rgV_eq (i j : Int) : rgV i j = (rng i j).map V.int := by
  unfold rgV rng
  rw [List.map_map]
  rfl
theorem pb_lrng {δ : Type} {i j : Int} {f : List Int → R δ} {P : δ → Prop} {E : Exn → Prop} (h : Post (listRng i j >>= f) P E) : ∃ l, RgOk i j ∧ l = rng i j ∧ Post (f l) P E := by
  unfold listRng at h
  by_cases hl : -(2 ^ 62) ≤ i ∧ i < 2 ^ 62 ∧ -(2 ^ 62) ≤ j ∧ j < 2 ^ 62 ∧ (j - i).toNat ≤ 100000
  · rw [if_pos hl] at h
    obtain ⟨a, b, c, d, e⟩ := hl
    exact ⟨_, ⟨a, b, c, d, by omega⟩, rfl, h⟩
  · rw [if_neg hl] at h
    exact (show False from h).elim
/-! ### a list of perhaps nothing, where nothing is nothing -/
def allS {α : Type} : List (Option α) → R (List α)
  | [] => .ok []
  | none :: _ => .bad
  | some x :: xs => allS xs >>= fun ys => .ok (x :: ys)
theorem allS_iff {α : Type} : ∀ {xs : List (Option α)} {ys : List α}, allS xs = R.ok ys ↔ xs = ys.map some
  | [], ys => by
    constructor
    · intro h; cases h; rfl
    · intro h
      cases ys with
      | nil => rfl
      | cons => cases h
  | none :: xs, ys => by
    constructor
    · intro h; cases h
    · intro h
      cases ys <;> cases h
  | some x :: xs, ys => by
    constructor
    · intro h
      obtain ⟨zs, e, h⟩ := bind_ok_iff.mp h
      cases h
      rw [allS_iff.mp e]
      rfl
    · intro h
      cases ys with
      | nil => cases h
      | cons y ys =>
        rw [List.map_cons] at h
        injection h with h1 h2
        cases h1
        show (allS xs >>= fun ys => R.ok (x :: ys)) = _
        rw [allS_iff.mpr h2]
        rfl
theorem pb_allS {α δ : Type} {xs : List (Option α)} {f : List α → R δ} {P : δ → Prop} {E : Exn → Prop} (h : Post (allS xs >>= f) P E) : ∃ ys, xs = ys.map some ∧ Post (f ys) P E := by
  cases e : allS xs with
  | ok ys =>
    rw [e] at h
    exact ⟨ys, allS_iff.mp e, h⟩
  | exc x =>
    rw [e] at h
    exfalso
    clear h
    induction xs with
    | nil => cases e
    | cons x xs ih =>
      cases x with
      | none => cases e
      | some x =>
        have e' : (allS xs >>= fun ys => R.ok (x :: ys)) = R.exc _ := e
        cases e2 : allS xs with
        | ok y => rw [e2] at e'; cases e'
        | exc y => rw [e2] at e'; cases e'; exact ih e2
        | bad => rw [e2] at e'; cases e'
  | bad =>
    rw [e] at h
    exact (show False from h).elim
theorem A2.unsome {α : Type} [Rep α] {K : Fg} {F : Hp} : ∀ {vs : List V} {ys : List α}, A2 (rep K F) vs (ys.map some) → A2 (rep K F) vs ys
  | [], [], _ => .nil
  | _ :: _, [], h => nomatch h
  | [], _ :: _, h => nomatch h
  | _ :: _, _ :: _, .cons a b => .cons a (A2.unsome b)
/-! ### pop -/
@[irreducible] def popB {α : Type} (xs : List α) (i : Int) : R (α × List α) := if -(2 ^ 62) ≤ i ∧ i < 2 ^ 62 then popAt xs i else .bad
theorem pn_popB {α β : Type} {xs : List α} {i : Int} {f : α × List α → R β} {Q : β → Prop} {E : Exn → Prop} (h : Post (popB xs i >>= f) Q E) : ∃ j x ys, (-(2 ^ 63) ≤ i ∧ i < 2 ^ 63) ∧ ixN xs.length i = some j ∧ xs[j]? = some x ∧ ys = xs.eraseIdx j ∧ Post (f (x, ys)) Q E := by
  unfold popB at h
  by_cases hi : -(2 ^ 62) ≤ i ∧ i < 2 ^ 62
  · rw [if_pos hi] at h
    obtain ⟨j, x, ys, a, b, c, d⟩ := pn_popAt h
    exact ⟨j, x, ys, by omega, a, b, c, d⟩
  · rw [if_neg hi] at h
    exact (show False from h).elim
theorem pn_popI {α β : Type} {xs : List α} {f : α × List α → R β} {Q : β → Prop} {E : Exn → Prop} (h : Post (popI xs >>= f) Q E) : ∃ x ys, xs[xs.length - 1]? = some x ∧ ys = xs.dropLast ∧ Post (f (x, ys)) Q E := by
  unfold popI at h
  rw [List.getLast?_eq_getElem?] at h
  cases e : xs[xs.length - 1]? with
  | none =>
    rw [e] at h
    exact (show False from h).elim
  | some x =>
    rw [e] at h
    exact ⟨x, _, rfl, rfl, h⟩
theorem A2.lastV {α : Type} {r : V → α → Prop} {vs : List V} {xs : List α} {x : α} (h : A2 r vs xs) (e : xs[xs.length - 1]? = some x) : ∃ u, vs[vs.length - 1]? = some u ∧ r u x := by
  rw [h.length]
  exact h.get e
/-! ### in, of a dict of scalars -/
def tDInH (ty td : TE) : TE := fun σ H Q => ty σ H fun y H1 => td σ H1 fun x H2 => ∃ a o b, x = .ref a ∧ DGet H2 a y o ∧ o.isSome = b ∧ Q (.bl b) H2
def tDNotInH (ty td : TE) : TE := fun σ H Q => ty σ H fun y H1 => td σ H1 fun x H2 => ∃ a o b, x = .ref a ∧ DGet H2 a y o ∧ o.isSome = b ∧ Q (.bl (!b)) H2
section
variable {X : Cx} {o i : Expr} {td ty : TE}
theorem pc_dinH (hu : X.A.units + 1 < cLine) (hi : PE X i ty) (ho : PE X o td) : PC X .In i o (tDInH ty td) := by
  refine ⟨fun pins s σ H Q I h => ?_⟩
  refine thn (hi.run pins s σ H _ I h) fun iv s1 ⟨y, H1, I1, ry, q1⟩ => thn (ho.run pins s1 σ H1 _ I1 q1) fun u s2 ⟨x, H2, I2, rx, a, ov, b, ex, g, eb, q2⟩ => ?_
  subst ex
  subst eb
  obtain rfl : u = Value.ref a := rx
  exact d_in hu I2 g ry fun s3 I3 => ⟨.bl ov.isSome, H2, I3, rfl, q2⟩
theorem pc_dnotinH (hu : X.A.units + 1 < cLine) (hi : PE X i ty) (ho : PE X o td) : PC X .NotIn i o (tDNotInH ty td) := by
  refine ⟨fun pins s σ H Q I h => ?_⟩
  refine thn (hi.run pins s σ H _ I h) fun iv s1 ⟨y, H1, I1, ry, q1⟩ => thn (ho.run pins s1 σ H1 _ I1 q1) fun u s2 ⟨x, H2, I2, rx, a, ov, b, ex, g, eb, q2⟩ => ?_
  subst ex
  subst eb
  obtain rfl : u = Value.ref a := rx
  exact d_notIn hu I2 g ry fun s3 I3 => ⟨.bl (!ov.isSome), H2, I3, rfl, q2⟩
end
theorem Room.units1 {k : Nat} {A : Around} (r : Room k A) : A.units + 1 < cLine := by
  have := r.un
  omega
end Z
/-! ZX: an exception caught by its class, held behind the suite as a thing of its own -/
namespace L2
open PySem PySem.Spec PyProof.Rows
/-- a caught exception of the class cls at a -/
def ExH (cls : Value) (a : Addr) : HO := .ext fun h => ∃ (oe : Obj), h.get? a = some oe ∧ Zc cls none oe ∧ ∃ vs, oe.data = .fields vs
theorem exH_ok {P : Program} {w : World} {H : Hp} {h : Heap} {a : Addr} {cls : Value} {oe : Obj} (e : h.get? a = some oe) (z : Zc cls none oe) (d : ∃ vs, oe.data = .fields vs) : ObjOk P w H h a (ExH cls a) :=
  ⟨⟨oe, e, z, d⟩, ⟨oe, e⟩, fun _ _ ⟨o, q, r⟩ k => ⟨o, k o q, r⟩⟩
section
variable {X : Cx} {pins : List (Addr × Obj)} {σ : St} {H : Hp} {s : Shared}
/-- what is pinned, and new since the def began, may be tracked -/
theorem Inv.track {a : Addr} {oe : Obj} {cls : Value} (I : Inv X ((a, oe) :: pins) σ H s) (n0 : X.s_0.heap.get? a = none) (hz : Zc cls none oe) (hd : ∃ vs, oe.data = .fields vs) (hp : ∀ p ∈ X.pn ++ pins, p.1 ≠ a) : Inv X pins σ (upd H a (ExH cls a)) s := by
  obtain ⟨ha, na, nL, nF, _⟩ := I.pin (a, oe) (List.mem_append_right _ List.mem_cons_self)
  dsimp only at ha na nL nF
  have ne0 : ∀ b o, X.s_0.heap.get? b = some o → b ≠ a := fun b o e z => by
    rw [z, n0] at e
    cases e
  refine ⟨I.ok, I.os, I.bare, ⟨I.base.keep, I.base.slot, fun b o e n hq => ?_, I.base.there, fun b xs e => ?_, fun b o u e => ?_, fun b ps e => ?_⟩, I.loc, I.cell, ?_, fun x c e => ?_, fun p hp' => ?_, fun b u e => ?_, I.len⟩
  · rw [upd_ne (ne0 b o e)]
    exact I.base.free b o e n hq
  · have q := I.base.tups b xs e
    rw [upd_ne (ne_of_none q na)]
    exact q
  · have q := I.base.frzs b o u e
    rw [upd_ne (ne_of_none q na)]
    exact q
  · obtain ⟨m, q⟩ := I.base.tbls b ps e
    exact ⟨m, by rw [upd_ne (ne_of_none q na)]; exact q⟩
  · rw [upd_ne (Ne.symm nL)]
    exact I.free
  · have hne : c ≠ a := fun z => by
      obtain ⟨v, o, ho, hc⟩ := I.cell x c e
      rw [z, ha] at ho
      cases ho
      obtain ⟨vs, hd⟩ := hd
      rw [hd] at hc
      cases hc
    rw [upd_ne hne]
    exact I.freeC x c e
  · have hp2 : p ∈ X.pn ++ ((a, oe) :: pins) := by
      rcases List.mem_append.mp hp' with z | z
      · exact List.mem_append_left _ z
      · exact List.mem_append_right _ (List.mem_cons_of_mem _ z)
    obtain ⟨e, n, ne, nf, d⟩ := I.pin p hp2
    exact ⟨e, by rw [upd_ne (hp p hp')]; exact n, ne, nf, d⟩
  · by_cases hb : b = a
    · subst hb
      rw [upd_same] at e
      cases e
      exact exH_ok ha hz hd
    · rw [upd_ne hb] at e
      refine (I.hok b u e).stay (fun c v _ q => q) (fun c q => ?_) fun c xs q => ?_
      · rw [upd_ne (ne_of_none q na)]
        exact q
      · rw [upd_ne (ne_of_none q na)]
        exact q
theorem Inv.unsuiteK {a : Addr} {q : Addr × Obj} {pn' : List (Addr × Obj)} (I : Inv (X.suite a (q :: (X.pn ++ pins))) pn' σ H s) (ok : X.Ok) : Inv X (q :: pins) σ H s :=
  ⟨ok, I.os, I.bare, I.base, I.loc, I.cell, I.free, I.freeC, fun p hp => I.pin p (List.mem_append_left _ (by
    rcases List.mem_append.mp hp with z | z
    · exact List.mem_cons_of_mem _ (List.mem_append_left _ z)
    · rcases List.mem_cons.mp z with z | z
      · rw [z]; exact List.mem_cons_self
      · exact List.mem_cons_of_mem _ (List.mem_append_right _ z))), I.hok, I.len⟩
/-- what the clause 'except x as n' wishes, where the exception is held behind the suite: slot i is n's -/
def wHold (K : PySem.W.Frag) (c : Value) (i : Nat) (ts : Addr → Value → TS) (Wout : WX) (D : Ends) : WX := fun cls d σ H =>
  ∃ b, PySem.W.exmOne K cls c = some b ∧ (b = true → d = none ∧ ∀ a, H a = none → ts a cls { nx := fun σ' H' => H' a = none → D.nx (σ'.set i none) (upd H' a (ExH cls a)), rt := fun _ _ => False, bk := fun _ _ => False, ct := fun _ _ => False } (σ.set i (some (.ref a))) H) ∧
    (b = false → Wout cls d σ H)
variable {x n : Str} {c : Value} {i : Nat} {body suite : List Stmt} {b₀ : Stmt} {np pos pos' : Pos} {tb : WX → TS} {ts : Addr → Value → TS} {Wout : WX}
theorem ps_try_hold (hs : X.stack = X.env :: X.outer) (hf : X.env.frame = some X.env.locals) (hex : X.ex = []) (hN : X.N.Nodup) (hi : X.N[i]? = some n) (hln : X.env.kindOf n = some .local) (hc : Names X x c) (tk : Takes X Wout)
    (hb : ∀ (W : WX) (pn : List (Addr × Obj)) (xe : Value → Shared → Prop), Takes (X.tr pn xe) W → PassesOwn (model X.prog X.w) X.A X.env xe → PSs (X.tr pn xe) body (tb W))
    (hsu : ∀ (a : Addr) (oe : Obj) (cls : Value) (pn : List (Addr × Obj)), PSs (X.suite a ((a, oe) :: pn)) (b₀ :: suite) (ts a cls)) :
    PS X (.Try body [.ExceptHandler (some (.Name x np)) (some n) (b₀ :: suite) pos'] [] [] pos) (fun D σ H => tb (wHold X.K c i ts Wout D) D σ H) := by
  refine ⟨fun pins s σ H D I h => ?_⟩
  have ok := I.ok
  have hfr : X.A.frames = some (X.env :: X.outer) := by rw [ok.frames, hs]
  have hloc : Loc X.env.scope n := .inl hln
  refine wpAny_Try_except ?_
  refine wpAny_mono ((hb (wHold X.K c i ts Wout D) (X.pn ++ pins) (fun e s₁ => wpAny (model X.prog X.w) X.A (noteFrame e X.env) (fun _ s₂ => wpAny (model X.prog X.w) X.A (setFlight e none) (fun _ s₃ =>
    wpAny (model X.prog X.w) X.A (handleBy e X.env [.ExceptHandler (some (.Name x np)) (some n) (b₀ :: suite) pos']) (SP X pins D) X.xe s₃) X.xe s₂) X.xe s₁) (fun u s' xx => ?_) PassesOwn.looking).run [] s σ H D (I.toTry _) h) (fun f s1 hsp => ?_) (fun e s1 he => he)
  · -- the catch
    obtain ⟨a, B, sI, pins', σ', H', cls, d, rfl, J', nb, up, sky, na, os, ag, b, hb1, hyes, hno⟩ := xx
    have J : Inv X pins σ' H' sI := J'.ofTry ok
    have sky' : Sky B (X.env :: X.outer) a (Zc cls d) X.env.locals s'.heap := by rw [← hs]; exact sky
    show wpAny (model X.prog X.w) X.A (noteFrame (.ref a) X.env) _ _ _
    refine Sky.land Zc.steady hfr hf sky' fun h3 fl3 up3 => ?_
    have J3 : Inv X pins σ' H' { s' with heap := h3 } := J.landed nb fl3.1 (up.trans up3) os ag
    obtain ⟨oe3, vs3, he3, hz3, hd3⟩ := fl3.there
    have notFr : ∀ {h : Heap} {o : Obj} {vs : Array Value}, h.FunFrames B (X.env :: X.outer) → h.get? a = some o → o.data = .fields vs → a ∉ frs (X.env :: X.outer) := fun {h o vs} ff e dd hm => by
      obtain ⟨_, o', e', hnf⟩ := ff.mem hm
      rw [e] at e'; cases e'
      exact hnf _ dd
    have nfr := notFr fl3.2.2.1 he3 hd3
    have nL : a ≠ X.env.locals := fun z => nfr (List.mem_filterMap.mpr ⟨X.env, List.mem_cons_self, by rw [hf, z]⟩)
    have nF : a ∉ X.fs := fun hm => by
      obtain ⟨e, he, q⟩ := List.mem_filterMap.mp hm
      exact nfr (List.mem_filterMap.mpr ⟨e, List.mem_cons_of_mem _ he, q⟩)
    have nB : B.get? a = none := fl3.2.1
    have nI : sI.heap.get? a = none := by
      cases e : sI.heap.get? a with
      | none => rfl
      | some o =>
        have z := nb a o e (by rw [hs]; exact nfr)
        rw [nB] at z
        cases z
    have n0 : X.s_0.heap.get? a = none := by
      cases e : X.s_0.heap.get? a with
      | none => rfl
      | some o =>
        obtain ⟨o', z⟩ := J.base.there a o e (by rw [hex]; exact fun z => nomatch z)
        rw [nI] at z
        cases z
    have hpin : ∀ p ∈ X.pn ++ pins, p.1 ≠ a := fun p hp z => by
      have e := (J.pin p hp).1
      rw [z, nI] at e
      cases e
    have S3 := J3.suite he3 hd3 na nL nF
    refine wpAny_handleBy_cons (codeAny_handlers_test ?_) (by intro q; cases q)
    have LT : PySem.W.Looks (model X.prog X.w) h3 (typeOf (.ref a)) cls := fun A Q E s k q => wpAny_typeOf_ref (k _ _ he3) (by rw [hz3.1]; exact q)
    have LM := PySem.W.exm_one (M := model X.prog X.w) (J3.kIn) LT hb1
    have test : ∀ {Q : Value → Shared → Prop} {E : Value → Shared → Prop}, Q c { s' with heap := h3 } → wpAny (model X.prog X.w) (X.A.mark (some (.ref a))) (eval (.Name x np) X.env) Q E { s' with heap := h3 } := fun {Q E} q => by
      obtain ⟨hg, hdbg, hm | ⟨hm, hv, hnn⟩⟩ := hc
      · exact ld_glob (X := X.suite a ((a, oe3) :: (X.pn ++ pins))) S3 hg hm q hdbg
      · exact ld_blt (X := X.suite a ((a, oe3) :: (X.pn ++ pins))) S3 hg hm hv q hnn hdbg
    refine test (LM.here ?_)
    cases b with
    | true =>
      obtain ⟨rfl, hyes2⟩ := hyes rfl
      refine codeAny_handlers_suite_as ?_
      refine HandSPX.lands_againZ fl3 fun h4 fl4 up4 => ?_
      have J4 : Inv X pins σ' H' { s' with heap := h4 } := J.landed nb fl4.1 ((up.trans up3).trans up4) os ag
      obtain ⟨oe4, vs4, he4, hz4, hd4⟩ := fl4.there
      have S4 := J4.suite he4 hd4 na nL nF
      refine store_ok (X := X.suite a ((a, oe4) :: (X.pn ++ pins))) (v := .ref a) S4 hN hi hloc rfl (fun s5 S5 => ?_) (.inr hln)
      refine wpAny_mono ((hsu a oe4 cls (X.pn ++ pins)).run [] s5 _ H' _ S5 (hyes2 a na)) (fun f s6 hsp => ?_) (fun _ _ z => False.elim z)
      cases f with
      | next =>
        obtain ⟨σ6, H6, S6, q6⟩ := hsp
        refine gone_ok (S6.unsuiteK ok) hN hi hln fun s7 J7 => ?_
        have na6 : H6 a = none := (J7.pin (a, oe4) (List.mem_append_right _ List.mem_cons_self)).2.1
        exact ⟨_, _, J7.track n0 hz4 ⟨_, hd4⟩ hpin, q6 na6⟩
      | brk =>
        obtain ⟨σ6, H6, S6, q6⟩ := hsp
        exact q6.elim
      | cont =>
        obtain ⟨σ6, H6, S6, q6⟩ := hsp
        exact q6.elim
      | ret u =>
        obtain ⟨v6, σ6, H6, S6, r6, q6⟩ := hsp
        exact q6.elim
    | false =>
      show wpAny _ X.A (handleBy (.ref a) X.env []) _ _ _
      refine wpAny_handleBy_nil ?_
      obtain ⟨k1, k2, k3, oe, vs, T, oT, ts', he, hz, hd, h1, hr⟩ := id fl3
      unfold PySem.passOn
      refine wpAny_bind (wpAny_field he hd h1 ?_)
      rw [if_neg (show ¬ ((Value.ref T == Value.none) = true) from by simp)]
      have fin : wpAny (model X.prog X.w) X.A (setFlight (.ref a) X.env.frame) (fun _ s4 => wpAny (model X.prog X.w) X.A (throw (.ref a) : Sem Flow) (SP X pins D) X.xe s4) X.xe { s' with heap := h3 } := by
        rw [hf]
        refine HandSPX.setFlight_upZ fl3 fun h4 hh4 up4 => wpAny_throw (tk _ _ ?_)
        exact ⟨a, B, sI, pins, σ', H', cls, d, rfl, J, nb, (up.trans up3).trans up4, .inr (.inr (by rw [hs]; exact hh4)), na, os, ag, hno rfl⟩
      first
        | exact wpAny_bind (wpAny_pure (wpAny_bind fin))
        | exact wpAny_bind fin
  · cases f with
    | next =>
      obtain ⟨σ', H', J', q⟩ := hsp
      exact wpAny_execs_nil ⟨σ', H', J'.ofTry ok, q⟩
    | brk =>
      obtain ⟨σ', H', J', q⟩ := hsp
      exact ⟨σ', H', J'.ofTry ok, q⟩
    | cont =>
      obtain ⟨σ', H', J', q⟩ := hsp
      exact ⟨σ', H', J'.ofTry ok, q⟩
    | ret u =>
      obtain ⟨v, σ', H', J', r, q⟩ := hsp
      exact ⟨v, σ', H', J'.ofTry ok, r, q⟩
/-- isinstance(e, c) of a held exception e: c one class, or a tuple of classes -/
def rIsH (K : PySem.W.Frag) (D : Addr) : List V → Hp → VK → Prop := fun xs H Q => ∃ (a : Addr) (c : V) (b : Bool), xs = [.ref a, c] ∧ H a = some (ExH (.ref D) a) ∧
  ((∃ cv, (∀ u, RelV c u → u = cv) ∧ PySem.W.kitOne K (.ref D) cv = some b) ∨ (∃ p vs its, c = .ref p ∧ H p = some (.tup vs) ∧ (∀ us, Vals vs us → us = its) ∧ PySem.W.kitAny K (.ref D) its = some b)) ∧ Q (.bl b) H
theorem call_isH {D : Addr} (C : ExcC X.K D) : CallR X (.builtin "isinstance") (rIsH X.K D) := by
  intro pins s σ H xs us Q I r h
  obtain ⟨a, c, b, rfl, hH, hc, q⟩ := h
  cases r with
  | cons rx rr =>
    cases rr with
    | cons rt rr =>
      cases rr
      cases rx
      obtain ⟨⟨oe, hget, ⟨h1, h2⟩, vs, hv⟩, _, _⟩ := I.hok a _ hH
      have J : PySem.W.InstAt s.heap a oe D none := by
        obtain ⟨oc, od, oda, osl⟩ := oe
        dsimp only at h1 h2 hv
        subst h1 h2 hv
        exact ⟨hget, rfl, rfl, trivial⟩
      have fin : ∀ tk, EP X pins σ Q (.bool b) { s with toks := tk } := fun tk => ⟨.bl b, H, I.kept (t' := tk) fun _ _ z => z, rfl, q⟩
      rcases hc with ⟨cv, hcv, e⟩ | ⟨p, vs, its, rfl, hp, hu, e⟩
      · have ec := hcv _ rt
        subst ec
        exact PySem.W.kia_one (PySem.W.handS_kitx_exc C.hg C.hk C.hs C.hd C.ha C.hn C.ht C.hm) I.kIn J e (fun z => nomatch z) fin
      · cases rt
        obtain ⟨_, its', r', ob, ho, hob1, n, hob2⟩ := I.hok p _ hp
        have := hu _ r'
        subst this
        obtain ⟨oc, od, oda, osl⟩ := ob
        dsimp only at hob1 hob2
        subst hob1 hob2
        exact PySem.W.kia_tup (PySem.W.handS_kitx_exc C.hg C.hk C.hs C.hd C.ha C.hn C.ht C.hm) I.kIn J ho e (fun z => nomatch z) fin
/-- isinstance(e, c) of a handled exception, in its suite -/
def rIsEX (K : PySem.W.Frag) (cls : Value) (d : Option Addr) (a : Addr) : List V → Hp → VK → Prop := fun xs H Q => ∃ D, cls = .ref D ∧ d = none ∧ ExcC K D ∧ ∃ (c : V) (cv : Value) (b : Bool), xs = [.ref a, c] ∧ (∀ u, RelV c u → u = cv) ∧ PySem.W.kitOne K (.ref D) cv = some b ∧ Q (.bl b) H
theorem call_isEX {K : PySem.W.Frag} {a : Addr} {cls : Value} {d : Option Addr} {oe : Obj} {pn : List (Addr × Obj)} (hK : X.K = K) (hz : Zc cls d oe) (hf : ∃ vs, oe.data = .fields vs) : CallR (X.suite a ((a, oe) :: pn)) (.builtin "isinstance") (rIsEX K cls d a) := by
  subst hK
  intro pins s σ H xs us Q I r ⟨D, e1, e2, C, h⟩
  subst e1 e2
  exact call_isE C hz hf pins s σ H xs us Q I r h
theorem call_isH' : CallR X (.builtin "isinstance") (fun xs H Q => ∃ D, ExcC X.K D ∧ rIsH X.K D xs H Q) := fun pins s σ H xs us Q I r ⟨_, C, h⟩ => call_isH C pins s σ H xs us Q I r h
theorem call_isHK {K : PySem.W.Frag} (hK : X.K = K) : CallR X (.builtin "isinstance") (fun xs H Q => ∃ D, ExcC K D ∧ rIsH K D xs H Q) := by
  subst hK
  exact call_isH'
end
end L2
namespace Z
open PySem L2
open Rep (rep)
/-- the class that a name of the text names -/
def Nm (K : Fg) (x : Str) (C : Addr) : Prop := PySem.W.nsIn K mainGlobals x = some (some (.ref C))
theorem Nm.uniq {K : Fg} {x : Str} {C D : Addr} (a : Nm K x C) (b : Nm K x D) : C = D := by
  have h := a.symm.trans b
  injection h with h
  injection h with h
  injection h
instance repExn : Rep Exn := ⟨fun K F v e => ∃ a C, v = .ref a ∧ Nm K e.cls C ∧ F a = some (ExH (.ref C) a), fun s ⟨a, C, h, n, q⟩ => ⟨a, C, h, n, s _ _ q⟩⟩
/-- what a call that lets an error out leaves -/
def RetX (K : Fg) (F : Hp) (os : List (Addr × HO)) (E : XK) : Exn → Prop := fun e => ∀ C F' H', Nm K e.cls C → W F' H' os → Same F F' → E (.ref C) none H'
/-- all that the body lets out is caught -/
def tryR {α : Type} (names : List Str) (b : R α) : R (Option Exn) := match b with
  | .ok _ => .ok none
  | .exc e => if e.cls ∈ names then .ok (some e) else .bad
  | .bad => .bad
/-- .. with a suite -/
def tryWith {α : Type} (names : List Str) (b : R α) (h : Exn → R α) : R α := match b with
  | .ok x => .ok x
  | .exc e => if e.cls ∈ names then h e else .bad
  | .bad => .bad
theorem post_tryWith {α : Type} {names : List Str} {b : R α} {h : Exn → R α} {P : α → Prop} {X : Exn → Prop} (q : Post (tryWith names b h) P X) : Post b P (fun e => e.cls ∈ names ∧ Post (h e) P X) := by
  cases b with
  | ok a => exact q
  | exc e =>
    have q' : Post (if e.cls ∈ names then h e else R.bad) P X := q
    by_cases c : e.cls ∈ names
    · rw [if_pos c] at q'
      exact ⟨c, q'⟩
    · rw [if_neg c] at q'
      exact (show False from q').elim
  | bad => exact q
theorem post_try {α : Type} {names : List Str} {b : R α} {P : Option Exn → Prop} {X : Exn → Prop} (h : Post (tryR names b) P X) : Post b (fun _ => P none) (fun e => e.cls ∈ names ∧ P (some e)) := by
  cases b with
  | ok a => exact h
  | exc e =>
    have h' : Post (if e.cls ∈ names then R.ok (some e) else R.bad) P X := h
    by_cases c : e.cls ∈ names
    · rw [if_pos c] at h'
      exact ⟨c, h'⟩
    · rw [if_neg c] at h'
      exact (show False from h').elim
  | bad => exact h
/-- isinstance of a caught error: tn, the names under the classes asked -/
def isC (names tn : List Str) (e : Exn) : R Bool := if e.cls ∈ names then .ok (decide (e.cls ∈ tn)) else .bad
theorem pb_isC {δ : Type} {names tn : List Str} {e : Exn} {f : Bool → R δ} {P : δ → Prop} {X : Exn → Prop} (h : Post (isC names tn e >>= f) P X) : e.cls ∈ names ∧ Post (f (decide (e.cls ∈ tn))) P X := by
  unfold isC at h
  by_cases c : e.cls ∈ names
  · rw [if_pos c] at h
    exact ⟨c, h⟩
  · rw [if_neg c] at h
    exact (show False from h).elim
def raiseR {α : Type} (x : Str) : R α := .exc ⟨x, 0⟩
/-- a call that lets no error out -/
def nx {α : Type} (m : R α) : R α := match m with
  | .ok a => .ok a
  | .exc _ => .bad
  | .bad => .bad
theorem post_nx {α δ : Type} {m : R α} {k : α → R δ} {P : δ → Prop} {X : Exn → Prop} (h : Post (nx m >>= k) P X) : Post m (fun a => Post (k a) P X) noX := by
  cases m with
  | ok a => exact h
  | exc e => exact (show False from h).elim
  | bad => exact (show False from h).elim
theorem kit_ref {K : Fg} {x y : Addr} {b : Bool} (h1 : PySem.W.isClsIn K y = true) (h2 : PySem.W.typeIn K (.ref y) = some (.type "type")) (h3 : PySem.W.subIn K (.ref x) (.ref y) = some b) (h4 : b = true ∨ (Value.ref x == Value.ref y) = false) : PySem.W.kitOne K (.ref x) (.ref y) = some b := by
  have e : PySem.W.kitCls K (.ref x) (.ref y) = some b := by
    have h1' : (PySem.W.clsIn K y).isSome = true := h1
    have e2 : ((PySem.W.clsIn K y).isSome && PySem.W.typeIn K (.ref y) == some (.type "type")) = true := by rw [h1', h2] <;> rfl
    show (if ((PySem.W.clsIn K y).isSome && PySem.W.typeIn K (.ref y) == some (.type "type")) = true then PySem.W.subIn K (.ref x) (.ref y) else none) = some b
    rw [if_pos e2]
    exact h3
  unfold PySem.W.kitOne
  rcases h4 with rfl | h4
  · rw [e]
    split <;> rfl
  · rw [h4, if_neg (by decide)]
    exact e
theorem kit_ty {K : Fg} {x : Addr} {T : String} {b : Bool} (h1 : PySem.W.kitMeta T = true) (h3 : PySem.W.subIn K (.ref x) (.type T) = some b) : PySem.W.kitOne K (.ref x) (.type T) = some b := by
  have e : PySem.W.kitCls K (.ref x) (.type T) = some b := by
    show (if PySem.W.kitMeta T = true then PySem.W.subIn K (.ref x) (.type T) else none) = some b
    rw [if_pos h1]
    exact h3
  unfold PySem.W.kitOne
  have h4 : (Value.ref x == Value.type T) = false := rfl
  rw [h4, if_neg (by decide)]
  exact e
/-- what is known of an own error class -/
structure XC (K : Fg) (mg : Str → Option Value) (x : Str) (C : Addr) : Prop where
  ns : Nm K x C
  gm : mg x = some (.ref C)
  xc : PySem.W.excIn K C [.type "ValueError", .type "Exception", .type "BaseException", .type "object"] "ValueError.__new__" = true
  kp : PySem.W.keepIn K (.ref C) = true
  b : PySem.W.subIn K (.ref C) (.type "BaseException") = some true
  t : PySem.W.typeIn K (.ref C) = some (.type "type")
  ex : ExcC K C
end Z
/-! Z5: regions: lists of one's own by their number in a store -/
namespace Z
open PySem L2
open Rep (rep)
/-! ### two lists, item by item -/
inductive F2 {α β : Type} (r : α → β → Prop) : List α → List β → Prop
  | nil : F2 r [] []
  | cons {a : α} {b : β} {as : List α} {bs : List β} : r a b → F2 r as bs → F2 r (a :: as) (b :: bs)
section
variable {α β : Type} {r r' : α → β → Prop} {as : List α} {bs : List β}
theorem F2.length : ∀ {as : List α} {bs : List β}, F2 r as bs → as.length = bs.length
  | _, _, .nil => rfl
  | _, _, .cons _ t => by rw [List.length_cons, List.length_cons, F2.length t]
theorem F2.imp (f : ∀ a b, r a b → r' a b) : ∀ {as : List α} {bs : List β}, F2 r as bs → F2 r' as bs
  | _, _, .nil => .nil
  | _, _, .cons h t => .cons (f _ _ h) (F2.imp f t)
theorem F2.get : ∀ {as : List α} {bs : List β} {i : Nat} {b : β}, F2 r as bs → bs[i]? = some b → ∃ a, as[i]? = some a ∧ r a b
  | _, _, _, _, .nil, e => by simp at e
  | _, _, 0, _, .cons h _, e => by simp at e; subst e; exact ⟨_, rfl, h⟩
  | _, _, i + 1, b, .cons _ t, e => by
    obtain ⟨v, h1, h2⟩ := F2.get (i := i) (b := b) t (by simpa using e)
    exact ⟨v, by simpa using h1, h2⟩
theorem F2.set {a : α} {b : β} (h : r a b) : ∀ {as : List α} {bs : List β} (i : Nat), F2 r as bs → F2 r (as.set i a) (bs.set i b)
  | _, _, _, .nil => .nil
  | _, _, 0, .cons _ t => .cons h t
  | _, _, i + 1, .cons q t => .cons q (F2.set h i t)
theorem F2.append : ∀ {as as' : List α} {bs bs' : List β}, F2 r as bs → F2 r as' bs' → F2 r (as ++ as') (bs ++ bs')
  | _, _, _, _, .nil, h => h
  | _, _, _, _, .cons a t, h => .cons a (F2.append t h)
theorem F2.snoc {a : α} {b : β} (h : F2 r as bs) (q : r a b) : F2 r (as ++ [a]) (bs ++ [b]) := h.append (.cons q .nil)
end
/-! ### a store's lists: cells -/
def nz : List Addr → List (List V) → List (Addr × HO)
  | a :: as, vs :: vss => (a, .lst vs) :: nz as vss
  | _, _ => []
theorem nz_split : ∀ {as : List Addr} {vss : List (List V)} {j : Nat} {a : Addr} {vs : List V}, as[j]? = some a → vss[j]? = some vs →
    ∃ x y, nz as vss = x ++ (a, .lst vs) :: y ∧ ∀ us, nz as (vss.set j us) = x ++ (a, .lst us) :: y
  | [], _, j, _, _, h, _ => by simp at h
  | _ :: _, [], j, _, _, _, h => by simp at h
  | b :: as, ws :: vss, 0, a, vs, h1, h2 => by
    simp at h1 h2
    subst h1 h2
    exact ⟨[], nz as vss, rfl, fun _ => rfl⟩
  | b :: as, ws :: vss, j + 1, a, vs, h1, h2 => by
    obtain ⟨x, y, e1, e2⟩ := nz_split (as := as) (vss := vss) (j := j) (a := a) (vs := vs) (by simpa using h1) (by simpa using h2)
    exact ⟨(b, .lst ws) :: x, y, by show (b, HO.lst ws) :: nz as vss = _; rw [e1]; rfl, fun us => by show (b, HO.lst ws) :: nz as (vss.set j us) = _; rw [e2]; rfl⟩
theorem nz_snoc : ∀ {as : List Addr} {vss : List (List V)} {a : Addr} {vs : List V}, as.length = vss.length → nz (as ++ [a]) (vss ++ [vs]) = nz as vss ++ [(a, .lst vs)]
  | [], [], _, _, _ => rfl
  | [], _ :: _, _, _, h => by simp at h
  | _ :: _, [], _, _, h => by simp at h
  | b :: as, ws :: vss, a, vs, h => by
    show (b, HO.lst ws) :: nz (as ++ [a]) (vss ++ [vs]) = (b, HO.lst ws) :: (nz as vss ++ [(a, .lst vs)])
    rw [nz_snoc (by simpa using h)]
section
variable {F H : Hp} {os os' pre post : List (Addr × HO)} {a p : Addr} {o : HO} {as : List Addr} {vss : List (List V)} {j : Nat} {vs : List V}
theorem W.perm (h : os.Perm os') (w : W F H os) : W F H os' where
  same := w.same
  own := fun q hq => w.own q (h.mem_iff.mpr hq)
  nd := h.pairwise_iff (fun e q => e q.symm) |>.mp w.nd
  nt := fun q hq => w.nt q (h.mem_iff.mpr hq)
/-- the j-th list of a store -/
theorem W.nget (w : W F H (pre ++ (nz as vss ++ post))) (h1 : as[j]? = some a) (h2 : vss[j]? = some vs) : H a = some (.lst vs) := by
  obtain ⟨x, y, e, _⟩ := nz_split h1 h2
  rw [e] at w
  exact (w.own (a, .lst vs) (by simp)).1
theorem W.nset (w : W F H (pre ++ (nz as vss ++ post))) (us : List V) (h1 : as[j]? = some a) (h2 : vss[j]? = some vs) : W F (upd H a (.lst us)) (pre ++ (nz as (vss.set j us) ++ post)) := by
  obtain ⟨x, y, e, e2⟩ := nz_split h1 h2
  rw [e] at w
  rw [e2]
  have w' : W F H ((pre ++ x) ++ (a, .lst vs) :: (y ++ post)) := by
    have e3 : pre ++ (x ++ (a, HO.lst vs) :: y ++ post) = (pre ++ x) ++ (a, HO.lst vs) :: (y ++ post) := by simp
    rw [← e3]
    exact w
  have w2 := w'.set (o' := .lst us)
  have e3 : pre ++ (x ++ (a, HO.lst us) :: y ++ post) = (pre ++ x) ++ (a, HO.lst us) :: (y ++ post) := by simp
  rw [e3]
  exact w2
/-- a cell goes into a store -/
theorem W.nadd (w : W F H ((p, .lst vs) :: (pre ++ (nz as vss ++ post)))) (hl : as.length = vss.length) : W F H (pre ++ (nz (as ++ [p]) (vss ++ [vs]) ++ post)) := by
  rw [nz_snoc hl]
  refine w.perm ?_
  have e : pre ++ (nz as vss ++ [(p, HO.lst vs)] ++ post) = (pre ++ nz as vss) ++ (p, HO.lst vs) :: post := by simp
  have e2 : (p, HO.lst vs) :: (pre ++ (nz as vss ++ post)) = (p, HO.lst vs) :: ((pre ++ nz as vss) ++ post) := by simp
  rw [e, e2]
  exact List.perm_middle.symm
theorem W.dropL (w : W F H (pre ++ (os ++ post))) : W F H (pre ++ post) where
  same := w.same
  own := fun q hq => w.own q (by
    rcases List.mem_append.mp hq with h | h
    · exact List.mem_append_left _ h
    · exact List.mem_append_right _ (List.mem_append_right _ h))
  nd := by
    have nd := w.nd
    rw [List.pairwise_append] at nd ⊢
    obtain ⟨n1, n2, n3⟩ := nd
    rw [List.pairwise_append] at n2
    exact ⟨n1, n2.2.1, fun x hx y hy => n3 x hx y (List.mem_append_right _ hy)⟩
  nt := fun q hq => w.nt q (by
    rcases List.mem_append.mp hq with h | h
    · exact List.mem_append_left _ h
    · exact List.mem_append_right _ (List.mem_append_right _ h))
/-- the j-th list of a store, taken out as a cell; the others forgotten -/
theorem W.ntake (w : W F H (pre ++ (nz as vss ++ post))) (h1 : as[j]? = some a) (h2 : vss[j]? = some vs) : W F H ((a, .lst vs) :: (pre ++ post)) := by
  obtain ⟨x, y, e, _⟩ := nz_split h1 h2
  rw [e] at w
  have w' : W F H ((pre ++ x) ++ (a, .lst vs) :: (y ++ post)) := by
    have e3 : pre ++ (x ++ (a, HO.lst vs) :: y ++ post) = (pre ++ x) ++ (a, HO.lst vs) :: (y ++ post) := by simp
    rw [← e3]
    exact w
  have w2 := w'.front
  have e4 : (a, HO.lst vs) :: (pre ++ x ++ (y ++ post)) = ((a, HO.lst vs) :: pre) ++ ((x ++ y) ++ post) := by simp
  rw [e4] at w2
  exact w2.dropL
/-- a whole store is never written again -/
theorem W.nfreeze : ∀ {as : List Addr} {vss : List (List V)} {F : Hp}, W F H (pre ++ (nz as vss ++ post)) → ∃ F', Same F F' ∧ W F' H (pre ++ post) ∧ ∀ (j : Nat) (a : Addr) (vs : List V), as[j]? = some a → vss[j]? = some vs → F' a = some (.lst vs)
  | [], _, F, w => ⟨F, Same.refl _, w, fun j a vs h => by simp at h⟩
  | _ :: _, [], F, w => ⟨F, Same.refl _, w, fun j a vs _ h => by simp at h⟩
  | b :: as, ws :: vss, F, w => by
    have w' : W F H (pre ++ (b, .lst ws) :: (nz as vss ++ post)) := w
    obtain ⟨F1, s1, w1, q1⟩ := w'.freezeE
    obtain ⟨F2, s2, w2, q2⟩ := W.nfreeze (as := as) (vss := vss) w1
    refine ⟨F2, s1.trans s2, w2, fun j a vs h1 h2 => ?_⟩
    cases j with
    | zero =>
      simp at h1 h2
      subst h1 h2
      exact s2 _ _ q1
    | succ j => exact q2 j a vs (by simpa using h1) (by simpa using h2)
end
/-! ### what stands in a store -/
section
variable {α β δ : Type} [Rep α] [Rep β] {K : Fg} {F F' H : Hp} {as as' : List Addr} {vss : List (List V)} {st : List (List α)}
structure Sto (K : Fg) (F : Hp) (as : List Addr) (vss : List (List V)) (st : List (List α)) : Prop where
  len : as.length = vss.length
  all : F2 (A2 (rep K F)) vss st
theorem Sto.nil : Sto K F [] [] ([] : List (List α)) := ⟨rfl, .nil⟩
theorem Sto.mono (s : Same F F') (h : Sto K F as vss st) : Sto K F' as vss st := ⟨h.len, h.all.imp fun _ _ q => q.mono s⟩
theorem Sto.len2 (h : Sto K F as vss st) : as.length = st.length := h.len.trans h.all.length
theorem Sto.get {j : Nat} {xs : List α} (h : Sto K F as vss st) (e : st[j]? = some xs) : ∃ a vs, as[j]? = some a ∧ vss[j]? = some vs ∧ A2 (rep K F) vs xs := by
  obtain ⟨vs, h1, h2⟩ := h.all.get e
  have hj := (List.getElem?_eq_some_iff.mp e).1
  rw [← h.len2] at hj
  exact ⟨as[j], vs, List.getElem?_eq_getElem hj, h1, h2⟩
theorem Sto.set {j : Nat} {vs : List V} {xs : List α} (h : Sto K F as vss st) (q : A2 (rep K F) vs xs) : Sto K F as (vss.set j vs) (st.set j xs) := ⟨by rw [List.length_set]; exact h.len, h.all.set q j⟩
theorem Sto.snoc {p : Addr} {vs : List V} {xs : List α} (h : Sto K F as vss st) (q : A2 (rep K F) vs xs) : Sto K F (as ++ [p]) (vss ++ [vs]) (st ++ [xs]) := ⟨by simp [h.len], h.all.snoc q⟩
/-- a number in a store -/
abbrev Ix := Nat
def RX (as : List Addr) (v : V) (j : Ix) : Prop := ∃ a, v = .ref a ∧ as[j]? = some a
theorem RX.mono (h : as <+: as') {v : V} {j : Ix} (q : RX as v j) : RX as' v j := by
  obtain ⟨a, e, q⟩ := q
  obtain ⟨t, rfl⟩ := h
  refine ⟨a, e, ?_⟩
  rw [List.getElem?_append_left (List.getElem?_eq_some_iff.mp q).1]
  exact q
theorem RX.new (h : as.length = n) {p : Addr} : RX (as ++ [p]) (.ref p) n := ⟨p, rfl, by rw [List.getElem?_append_right (by omega), ← h]; simp⟩
theorem IQ.mono (h : as <+: as') {a : Addr} {j : Nat} (q : as[j]? = some a) : as'[j]? = some a := by
  obtain ⟨t, rfl⟩ := h
  rw [List.getElem?_append_left (List.getElem?_eq_some_iff.mp q).1]
  exact q
theorem IQ.new {n : Nat} (h : as.length = n) {p : Addr} : (as ++ [p])[n]? = some p := by
  rw [List.getElem?_append_right (by omega), ← h]
  simp
theorem pfx_trans {as2 : List Addr} (h : as <+: as') (h' : as' <+: as2) : as <+: as2 := h.trans h'
theorem Sto.getq {j : Nat} {xs : List α} {a : Addr} (h : Sto K F as vss st) (e : st[j]? = some xs) (q : as[j]? = some a) : ∃ vs, vss[j]? = some vs ∧ A2 (rep K F) vs xs := h.all.get e
theorem pfx_refl : as <+: as := List.prefix_refl _
theorem pfx_snoc {p : Addr} : as <+: as ++ [p] := List.prefix_append _ _
/-- the list of a number -/
def getS (st : List (List α)) (j : Ix) : R (List α) := ofO st[j]?
theorem pb_getS {st : List (List α)} {j : Ix} {f : List α → R δ} {P : δ → Prop} {E : Exn → Prop} (h : Post (getS st j >>= f) P E) : ∃ xs, st[j]? = some xs ∧ Post (f xs) P E := pb_ofO h
/-- .. another list in its place -/
def setS (st : List (List α)) (j : Ix) (ys : List α) : R (List (List α)) := .ok (st.set j ys)
theorem pn_setS {st : List (List α)} {j : Ix} {ys : List α} {f : List (List α) → R δ} {P : δ → Prop} {E : Exn → Prop} (h : Post (setS st j ys >>= f) P E) : ∃ st', st' = st.set j ys ∧ Post (f st') P E := ⟨_, rfl, h⟩
/-- .. a new one -/
def newS (st : List (List α)) (ys : List α) : R (Ix × List (List α)) := .ok (st.length, st ++ [ys])
theorem pn_newS {st : List (List α)} {ys : List α} {f : Ix × List (List α) → R δ} {P : δ → Prop} {E : Exn → Prop} (h : Post (newS st ys >>= f) P E) : ∃ j st', j = st.length ∧ st' = st ++ [ys] ∧ Post (f (j, st')) P E := ⟨_, _, rfl, rfl, h⟩
/-- lists by their numbers -/
def deref (st : List (List α)) (js : List Ix) : R (List (List α)) := mapR (getS st) js
theorem deref_rep {vs : List V} {js : List Ix} {xss : List (List α)} (h : Sto K F as vss st) (hf : ∀ (j : Nat) (a : Addr) (vs : List V), as[j]? = some a → vss[j]? = some vs → F' a = some (.lst vs)) (s : Same F F')
    (hv : A2 (RX as) vs js) (e : deref st js = R.ok xss) : A2 (rep K F') vs xss := by
  induction hv generalizing xss with
  | nil =>
    cases e
    exact .nil
  | cons a b ih =>
    obtain ⟨ad, rfl, h1⟩ := a
    obtain ⟨ys, e1, e⟩ := bind_ok_iff.mp e
    obtain ⟨yss, e2, e⟩ := bind_ok_iff.mp e
    cases e
    rename_i j js' _ _
    unfold getS at e1
    cases q : st[j]? with
    | none => rw [q] at e1; cases e1
    | some zs =>
      rw [q] at e1
      cases e1
      obtain ⟨a', ws, h2, h3, h4⟩ := h.get q
      rw [h1] at h2
      cases h2
      exact .cons ⟨ad, ws, rfl, hf _ _ _ h1 h3, h4.mono s⟩ (ih e2)
theorem pb_deref {js : List Ix} {f : List (List α) → R δ} {P : δ → Prop} {E : Exn → Prop} (h : Post (deref st js >>= f) P E) : ∃ xss, deref st js = R.ok xss ∧ Post (f xss) P E := by
  cases e : deref st js with
  | ok xss =>
    rw [e] at h
    exact ⟨xss, rfl, h⟩
  | exc x =>
    exfalso
    clear h
    unfold deref at e
    induction js with
    | nil => cases e
    | cons j js ih =>
      have e' : (getS st j >>= fun y => mapR (getS st) js >>= fun ys => R.ok (y :: ys)) = R.exc x := e
      unfold getS at e'
      cases q : st[j]? with
      | none => rw [q] at e'; cases e'
      | some z =>
        rw [q] at e'
        have e2 : (mapR (getS st) js >>= fun ys => R.ok (z :: ys)) = R.exc x := e'
        cases q2 : mapR (getS st) js with
        | ok y => rw [q2] at e2; cases e2
        | exc y => rw [q2] at e2; cases e2; exact ih q2
        | bad => rw [q2] at e2; cases e2
  | bad =>
    rw [e] at h
    exact (show False from h).elim
end
section
variable {F H : Hp} {os os' pre post x : List (Addr × HO)} {a p : Addr} {o : HO} {as : List Addr} {vss : List (List V)} {j : Nat} {vs : List V}
/-! the second store -/
theorem W.as2 : pre ++ (x ++ (os ++ post)) = (pre ++ x) ++ (os ++ post) := by simp
theorem W.nget2 (w : W F H (pre ++ (x ++ (nz as vss ++ post)))) (h1 : as[j]? = some a) (h2 : vss[j]? = some vs) : H a = some (.lst vs) := (W.as2 ▸ w : W F H ((pre ++ x) ++ (nz as vss ++ post))).nget h1 h2
theorem W.nset2 (w : W F H (pre ++ (x ++ (nz as vss ++ post)))) (us : List V) (h1 : as[j]? = some a) (h2 : vss[j]? = some vs) : W F (upd H a (.lst us)) (pre ++ (x ++ (nz as (vss.set j us) ++ post))) := by
  rw [W.as2] at w ⊢
  exact w.nset us h1 h2
theorem W.nadd2 (w : W F H ((p, .lst vs) :: (pre ++ (x ++ (nz as vss ++ post))))) (hl : as.length = vss.length) : W F H (pre ++ (x ++ (nz (as ++ [p]) (vss ++ [vs]) ++ post))) := by
  rw [W.as2] at w ⊢
  exact w.nadd hl
theorem W.dropL0 (w : W F H (nz as vss ++ post)) : W F H post := W.dropL (pre := []) (os := nz as vss) w
theorem W.dropL2 (w : W F H (pre ++ (x ++ (os ++ post)))) : W F H (pre ++ (x ++ post)) := by
  rw [W.as2] at w
  have h := w.dropL
  rw [List.append_assoc] at h
  exact h
theorem W.nfreeze2 (w : W F H (pre ++ (x ++ (nz as vss ++ post)))) : ∃ F', Same F F' ∧ W F' H (pre ++ (x ++ post)) ∧ ∀ (j : Nat) (a : Addr) (vs : List V), as[j]? = some a → vss[j]? = some vs → F' a = some (.lst vs) := by
  rw [W.as2] at w
  obtain ⟨F', s, w', h⟩ := w.nfreeze
  rw [List.append_assoc] at w'
  exact ⟨F', s, w', h⟩
theorem W.ntake2 (w : W F H (pre ++ (x ++ (nz as vss ++ post)))) (h1 : as[j]? = some a) (h2 : vss[j]? = some vs) : W F H ((a, .lst vs) :: (pre ++ (x ++ post))) := by
  rw [W.as2] at w
  have h := w.ntake h1 h2
  rw [List.append_assoc] at h
  exact h
end
section
variable {K : Fg} {F : Hp} {a : Addr} {β : Type} {vs : List V} {xs : List β} {r : V → β → Prop}
theorem tw_listR (h : A2 r vs xs) : TW (Itl K a) xs (fun H => SqL K H a vs) (fun b H x H' => H' = H ∧ r x b) := ⟨by
  rw [← h.length]
  exact walk_list.mono (fun _ g => g) fun i H x H' _ _ y => by
    obtain ⟨y1, y2⟩ := y
    obtain ⟨b, h1, h2⟩ := h.getV y2
    exact ⟨b, h1, y1, h2⟩⟩
end
section
variable {F H : Hp} {os pre post x : List (Addr × HO)} {q : Addr × HO} {as : List Addr} {vss : List (List V)}
/-- a store behind the cells -/
theorem W.nback (w : W F H (q :: (nz as vss ++ (pre ++ post)))) : W F H (q :: (pre ++ (nz as vss ++ post))) := by
  refine w.perm (List.Perm.cons _ ?_)
  rw [← List.append_assoc, ← List.append_assoc]
  exact List.perm_append_comm.append_right _
variable {α : Type} [Rep α] {K : Fg} {a : Addr} {us : List V} {js : List Ix} {st xss : List (List α)}
theorem rl_all (s : Same F H) (hf : ∀ (j : Nat) (a : Addr) (vs : List V), as[j]? = some a → vss[j]? = some vs → H a = some (.lst vs)) (h : Sto K F as vss st) (hv : A2 (RX as) us js) (e : deref st js = R.ok xss) : A2 (rep K H) us xss := deref_rep h hf s hv e
theorem W.rl (w : W F H (pre ++ (nz as vss ++ post))) (qa : H a = some (.lst us)) (h : Sto K F as vss st) (hv : A2 (RX as) us js) (e : deref st js = R.ok xss) : rep K H (.ref a) xss :=
  ⟨a, us, rfl, qa, rl_all w.same (fun _ _ _ h1 h2 => w.nget h1 h2) h hv e⟩
theorem W.rl2 (w : W F H (pre ++ (x ++ (nz as vss ++ post)))) (qa : H a = some (.lst us)) (h : Sto K F as vss st) (hv : A2 (RX as) us js) (e : deref st js = R.ok xss) : rep K H (.ref a) xss :=
  ⟨a, us, rfl, qa, rl_all w.same (fun _ _ _ h1 h2 => w.nget2 h1 h2) h hv e⟩
end
/-! ### comprehensions, what is made told by the state -/
section
variable {J : It} {β γ δ ε : Type} {items : List β} {G : Hp → Prop} {Y : β → Hp → V → Hp → Prop} {g : TG} {tt : TT} {te : TE} {P : ε → Prop} {X : Exn → Prop} {K : Fg} {vs : List Nat} {σ : St} {F H1 : Hp} {os : List (Addr × HO)} {D : Addr} {Qd : Hp → Prop}
theorem lcG (tw : TW J items G Y) {f : γ → β → R (Option δ × γ)} {s0 : γ} {k : List δ × γ → R ε} (hm : Post (filStG f s0 items >>= k) P X) (O : γ → Hp → List (Addr × HO) → List V → List δ → Prop) (w : W F H1 os) (o0 : O s0 F os [] []) (nD : H1 D = none)
    (hl : ∀ c F' os' us ys, O c F' os' us ys → us.length = ys.length)
    (hG : ∀ c F' H' os' acc ys, Same F F' → W F' H' ((D, .lst acc) :: os') → O c F' os' acc ys → G H')
    (hs : ∀ (b : β) (c : γ) (x : V) (F' H' H'' : Hp) (os' : List (Addr × HO)) (acc : List V) (ys : List δ) (N : V → Hp → Prop) (N0 : Hp → Prop) (P' : Option δ × γ → Prop), Same F F' → W F' H' ((D, .lst acc) :: os') → O c F' os' acc ys → Y b H' x H'' →
      (∀ d c', P' (some d, c') → ∀ y F'' H'' os'', W F'' H'' ((D, .lst acc) :: os'') → Same F' F'' → O c' F'' os'' (acc ++ [y]) (ys ++ [d]) → N y H'') →
      (∀ c', P' (none, c') → ∀ F'' H'' os'', W F'' H'' ((D, .lst acc) :: os'') → Same F' F'' → O c' F'' os'' acc ys → N0 H'') → Post (f c b) P' X →
      g x (wipe σ vs) H'' fun σ2 H2 => wipe σ2 vs = wipe σ vs ∧ tt σ2 H2 fun b H3 => if b = true then te σ2 H3 N else N0 H3)
    (hd : ∀ c us F' H' os' ys, Same F F' → W F' H' ((D, .lst us) :: os') → O c F' os' us ys → Post (k (ys, c)) P X → Qd H') : LcAsk J g tt te vs σ H1 D Qd := by
  obtain ⟨hlen, hm⟩ := pb_grd (pb_assoc hm)
  have hlen : items.length < sizeLine := Nat.lt_of_lt_of_le (of_decide_eq_true hlen) line5
  refine lc_it tw.walk (fun i H => ∃ c F' os' us ys, i ≤ items.length ∧ Same F F' ∧ W F' H ((D, .lst us) :: os') ∧ O c F' os' us ys ∧ ys.length ≤ i ∧ Post (filSt f c (items.drop i) >>= fun q => k (ys ++ q.1, q.2)) P X) ?_ ?_ ?_ ?_
  · exact ⟨s0, F, os, [], [], Nat.zero_le _, Same.refl _, w.new nD, o0, Nat.le_refl _, hm⟩
  · rintro i H _ ⟨c, F', os', us, ys, _, s, w', o, _⟩
    exact hG c F' H os' us ys s w' o
  · rintro i x H H' hi ⟨c, F', os', us, ys, _, s, w', o, hl2, hm⟩ ⟨b, hb, y⟩
    rw [drop_cons hb] at hm
    have hm' : Post ((f c b >>= fun p => filSt f p.2 (items.drop (i + 1)) >>= fun q => match p.1 with
      | some y => (R.ok (y :: q.1, q.2) : R (List δ × γ))
      | none => R.ok q) >>= fun q => k (ys ++ q.1, q.2)) P X := hm
    rw [bind_bind] at hm'
    have hm2 := post_bind hm'
    have hul : us.length = ys.length := hl _ _ _ _ _ o
    refine hs b c x F' H H' os' us ys (fun y H4 => ∃ acc, H4 D = some (.lst acc) ∧ acc.length < sizeLine ∧ _) _ _ s w' o y ?_ ?_ hm2
    · intro d c' p2 y F'' H'' os'' w2 s2 o2
      refine ⟨us, w2.get (pre := []), by omega, c', F'', os'', us ++ [y], ys ++ [d], hi, s.trans s2, w2.set (pre := []), o2, by rw [List.length_append, List.length_singleton]; omega, ?_⟩
      have p3 : Post ((filSt f c' (items.drop (i + 1)) >>= fun q => (R.ok (d :: q.1, q.2) : R (List δ × γ))) >>= fun q => k (ys ++ q.1, q.2)) P X := p2
      rw [bind_bind] at p3
      have e : (fun q : List δ × γ => (R.ok (d :: q.1, q.2) : R (List δ × γ)) >>= fun q => k (ys ++ q.1, q.2)) = fun q => k (ys ++ [d] ++ q.1, q.2) := by
        funext q
        show k (ys ++ (d :: q.1), q.2) = k (ys ++ [d] ++ q.1, q.2)
        rw [List.append_assoc]
        rfl
      rw [e] at p3
      exact p3
    · intro c' p2 F'' H'' os'' w2 s2 o2
      refine ⟨c', F'', os'', us, ys, hi, s.trans s2, w2, o2, by omega, ?_⟩
      have p3 : Post ((filSt f c' (items.drop (i + 1)) >>= fun q => (R.ok q : R (List δ × γ))) >>= fun q => k (ys ++ q.1, q.2)) P X := p2
      rw [bind_bind] at p3
      exact p3
  · rintro H ⟨c, F', os', us, ys, _, s, w', o, _, hm⟩
    rw [List.drop_length] at hm
    have hm' : Post (k (ys ++ [], c)) P X := hm
    rw [List.append_nil] at hm'
    exact hd c us F' H os' ys s w' o hm'
theorem lcGM (tw : TW J items G Y) {f : γ → β → R (δ × γ)} {s0 : γ} {k : List δ × γ → R ε} (hm : Post (mapStG f s0 items >>= k) P X) (O : γ → Hp → List (Addr × HO) → List V → List δ → Prop) (w : W F H1 os) (o0 : O s0 F os [] []) (nD : H1 D = none)
    (hl : ∀ c F' os' us ys, O c F' os' us ys → us.length = ys.length)
    (hG : ∀ c F' H' os' acc ys, Same F F' → W F' H' ((D, .lst acc) :: os') → O c F' os' acc ys → G H')
    (hs : ∀ (b : β) (c : γ) (x : V) (F' H' H'' : Hp) (os' : List (Addr × HO)) (acc : List V) (ys : List δ) (N : V → Hp → Prop) (P' : δ × γ → Prop), Same F F' → W F' H' ((D, .lst acc) :: os') → O c F' os' acc ys → Y b H' x H'' →
      (∀ d c', P' (d, c') → ∀ y F'' H'' os'', W F'' H'' ((D, .lst acc) :: os'') → Same F' F'' → O c' F'' os'' (acc ++ [y]) (ys ++ [d]) → N y H'') → Post (f c b) P' X →
      g x (wipe σ vs) H'' fun σ2 H2 => wipe σ2 vs = wipe σ vs ∧ te σ2 H2 N)
    (hd : ∀ c us F' H' os' ys, Same F F' → W F' H' ((D, .lst us) :: os') → O c F' os' us ys → Post (k (ys, c)) P X → Qd H') : LcAsk J g tYes te vs σ H1 D Qd := by
  have e : ∀ (s : γ) (l : List β), filSt (fun c b => f c b >>= fun p => R.ok (some p.1, p.2)) s l = mapSt f s l := by
    intro s l
    induction l generalizing s with
    | nil => rfl
    | cons b l ih =>
      show ((f s b >>= fun p => R.ok (some p.1, p.2)) >>= fun p => filSt (fun c b => f c b >>= fun p => R.ok (some p.1, p.2)) p.2 l >>= fun q => match p.1 with
        | some y => (R.ok (y :: q.1, q.2) : R (List δ × γ))
        | none => R.ok q) = (f s b >>= fun p => mapSt f p.2 l >>= fun q => .ok (p.1 :: q.1, q.2))
      rw [bind_bind]
      refine congrArg (f s b >>= ·) ?_
      funext p
      show (filSt (fun c b => f c b >>= fun p => R.ok (some p.1, p.2)) p.2 l >>= fun q => (R.ok (p.1 :: q.1, q.2) : R (List δ × γ))) = _
      rw [ih]
  have hm' : Post (filStG (fun c b => f c b >>= fun p => R.ok (some p.1, p.2)) s0 items >>= k) P X := by
    unfold filStG
    simp only [e]
    exact hm
  refine lcG tw hm' O w o0 nD hl hG (fun b c x F' H' H'' os' acc ys N N0 P' s w' o y hN hN0 hp => ?_) hd
  exact hs b c x F' H' H'' os' acc ys N _ s w' o y (fun d c' p2 y F'' H'' os'' w2 s2 o2 => hN d c' p2 y F'' H'' os'' w2 s2 o2) (post_bind hp)
end
end Z
/-! Z6: constants of the module, things, dicts as written and asked -/
namespace Z
open PySem L2
open Rep (rep)
section
variable {X : Cx}
theorem pe_globI {x : Str} {n : Int} {pos : Pos} (hg : Gl X x) (h : ∃ t, X.mg x = some (.int n t)) (hd : (x == ("__debug__" : Str)) = false := by decide) : PE X (.Name x pos) (tC (.int n)) := by
  obtain ⟨t, e⟩ := h
  exact pe_glob hg e ⟨_, rfl⟩ hd
theorem call_intB : CallR X (.type "int") (fun xs H Q => ∃ k, xs = [.bl k] ∧ Q (.int (if k = true then 1 else 0)) H) := by
  intro pins s σ H xs us Q I r ⟨k, e, q⟩
  exact call_int1 pins s σ H xs us Q I r (.inr ⟨k, e, q⟩)
end
theorem call_lenDR {X : Cx} : CallR X (.builtin "len") (fun xs H Q => ∃ (a : Addr) (kvs : List (Key × V)) (n : Nat), xs = [V.ref a] ∧ H a = some (.dK kvs) ∧ kvs.length = n ∧ Q (.int (n : Int)) H) := by
  intro pins s σ H xs us Q I r ⟨a, kvs, n, e, h, hn, q⟩
  subst hn
  exact call_lenD pins s σ H xs us Q I r ⟨a, kvs, e, h, q⟩
/-- a while's fuel, not to be reckoned with -/
@[irreducible] def fu (n : Nat) : Nat := n
theorem fu_eq (n : Nat) : fu n = n := by
  unfold fu
  rfl
/-- x in l -/
abbrev inB {α : Type} [DecidableEq α] (x : α) (l : List α) : Bool := decide (x ∈ l)
theorem inB_t {α : Type} [DecidableEq α] {x : α} {l : List α} : inB x l = true ↔ x ∈ l := decide_eq_true_iff
theorem inB_f {α : Type} [DecidableEq α] {x : α} {l : List α} : inB x l = false ↔ x ∉ l := decide_eq_false_iff_not
def b2i (b : Bool) : Int := if b = true then 1 else 0
/-! ### things -/
def Thing.isPl : Thing → Bool
  | .pl _ => true
  | .ti _ _ => false
def asPl : Thing → R Int
  | .pl i => .ok i
  | .ti _ _ => .bad
def asTi : Thing → R (Int × Int)
  | .pl _ => .bad
  | .ti a b => .ok (a, b)
def mkpl (xs : List Int) : List Thing := xs.map Thing.pl
def mkti (xs : List (Int × Int)) : List Thing := xs.map fun p => Thing.ti p.1 p.2
section
variable {δ : Type} {P : δ → Prop} {E : Exn → Prop} {K : Fg} {F H : Hp}
theorem pb_asPl {t : Thing} {f : Int → R δ} (h : Post (asPl t >>= f) P E) : ∃ i, t = .pl i ∧ Post (f i) P E := by
  cases t with
  | pl i => exact ⟨i, rfl, h⟩
  | ti a b => exact (show False from h).elim
theorem pb_asTi {t : Thing} {f : Int × Int → R δ} (h : Post (asTi t >>= f) P E) : ∃ q : Int × Int, t = .ti q.1 q.2 ∧ Post (f q) P E := by
  cases t with
  | pl i => exact (show False from h).elim
  | ti a b => exact ⟨(a, b), rfl, h⟩
theorem A2.pl : ∀ {vs : List V} {xs : List Int}, A2 (rep K F) vs xs → A2 (rep K F) vs (mkpl xs)
  | _, _, .nil => .nil
  | _, _, .cons h t => .cons h (A2.pl t)
theorem A2.ti : ∀ {vs : List V} {xs : List (Int × Int)}, A2 (rep K F) vs xs → A2 (rep K F) vs (mkti xs)
  | _, _, .nil => .nil
  | _, _, .cons h t => .cons h (A2.ti t)
theorem th_ty (s : Same F H) {v : V} {t : Thing} (r : rep K F v t) : ∃ a, TyOf K H v (.type a) ∧ (a = "int" ∧ t.isPl = true ∨ a = "tuple" ∧ t.isPl = false) := by
  cases t with
  | pl i =>
    have r' : v = V.int i := r
    subst r'
    exact ⟨_, .int i, .inl ⟨rfl, rfl⟩⟩
  | ti a b =>
    obtain ⟨c, u, w, rfl, q, _⟩ := (show rep K F v (a, b) from r)
    exact ⟨_, .tup (s _ _ q), .inr ⟨rfl, rfl⟩⟩
theorem th_int (s : Same F H) {v : V} {t : Thing} (r : rep K F v t) : ∃ a, TyOf K H v (.type a) ∧ kitB a "int" = some t.isPl := by
  obtain ⟨a, h, z⟩ := th_ty s r
  rcases z with ⟨rfl, e⟩ | ⟨rfl, e⟩
  · exact ⟨_, h, by rw [e]; decide +kernel⟩
  · exact ⟨_, h, by rw [e]; decide +kernel⟩
theorem th_tuple (s : Same F H) {v : V} {t : Thing} (r : rep K F v t) : ∃ a, TyOf K H v (.type a) ∧ kitB a "tuple" = some (!t.isPl) := by
  obtain ⟨a, h, z⟩ := th_ty s r
  rcases z with ⟨rfl, e⟩ | ⟨rfl, e⟩
  · exact ⟨_, h, by rw [e]; decide +kernel⟩
  · exact ⟨_, h, by rw [e]; decide +kernel⟩
theorem th_bool (s : Same F H) {v : V} {t : Thing} (r : rep K F v t) : ∃ a, TyOf K H v (.type a) ∧ kitB a "bool" = some false := by
  obtain ⟨a, h, z⟩ := th_ty s r
  rcases z with ⟨rfl, e⟩ | ⟨rfl, e⟩
  · exact ⟨_, h, by decide +kernel⟩
  · exact ⟨_, h, by decide +kernel⟩
end
/-! ### dicts of scalars: as written, asked -/
section
variable {κ β γ : Type} [DecidableEq κ]
/-- as a display makes it -/
def mmk (l : List (κ × β)) : List (κ × β) := l.foldl (fun m p => mput m p.1 p.2) []
theorem merge_enc {ev : β → V} (l m : List (Int × β)) : mergeK (encM kI ev m) (encM kI ev l) = encM kI ev (l.foldl (fun m p => mput m p.1 p.2) m) := by
  induction l generalizing m with
  | nil => rfl
  | cons p l ih =>
    show mergeK (putK (encM kI ev m) (kI p.1) (ev p.2)) (encM kI ev l) = _
    rw [put_enc kI_inj, ih]
    rfl
end
section
variable {β δ : Type} {ev : β → V} {H : Hp} {a b : Addr} {P : δ → Prop} {E : Exn → Prop}
theorem dgets_k {m : List (Int × β)} {k : Int} {t : β} (e : H a = some (.dK (encM kI ev m))) (q : mget m k = some t) : DGet H a (.int k) (some (ev t)) := by
  have h := dget_k (k := k) e
  rw [q] at h
  exact h
theorem dgets_p {m : List ((Int × Int) × β)} {k : Int × Int} {t : β} (e : H a = some (.dT (encM kP ev m))) (eb : H b = some (.tup [.int k.1, .int k.2])) (q : mget m k = some t) : DGet H a (.ref b) (some (ev t)) := by
  have h := dget_p (k := k) e eb
  rw [q] at h
  exact h
theorem pb_mget {κ : Type} [DecidableEq κ] {m : List (κ × β)} {k : κ} {f : β → R δ} (h : Post (mgetR m k >>= f) P E) : ∃ t, mget m k = some t ∧ Post (f t) P E := pb_ofO h
theorem getD_ev (f : β → V) (o : Option β) (d : β) : (o.map f).getD (f d) = f (o.getD d) := by cases o <;> rfl
theorem isD_k {kvs : List (Key × V)} (e : H a = some (.dK kvs)) : IsD H a := .inl ⟨kvs, .inl e⟩
theorem isD_t {kvs : List (List Key × V)} (e : H a = some (.dT kvs)) : IsD H a := .inr ⟨kvs, .inl e⟩
end
def tDGet2R (td ty tx : TE) : TE := fun σ H Q => td σ H fun x H1 => ∃ a, x = .ref a ∧ IsD H1 a ∧ ty σ H1 fun y H2 => tx σ H2 fun z H3 => ∃ o r, DGet H3 a y o ∧ o.getD z = r ∧ Q r H3
section
variable {X : Cx} {o e f : Expr} {apos cpos : Pos} {td ty tx : TE}
theorem pe_dget2R (hu : X.A.units + 1 < cLine) (ho : PE X o td) (he : PE X e ty) (hf : PE X f tx) (m : M2 X o "get" apos e f cpos) : PE X (.Call (.Attribute o "get" apos) [e, f] [] cpos) (tDGet2R td ty tx) := by
  refine ⟨fun pins s σ H Q I h => ?_⟩
  refine wpAny_Call_method m.base m.few m.line PySem.F.plainAttrs_dict PySem.F.slot_dict_get PySem.F.type_dict_get (thn (ho.run pins s σ H _ I h) fun u s1 ⟨x, H1, I1, rx, a, ex, d, q1⟩ => ?_)
  subst ex
  obtain rfl : u = Value.ref a := rx
  obtain ⟨t1, t2, _⟩ := isD_at I1 d
  refine ⟨t1, t2, ?_⟩
  rw [m.trees]
  refine Calls.callWith_builtin rfl (Calls.evalArgs_plain (Calls.spliced_cons (thn (he.run pins s1 σ H1 _ I1 q1) fun iv s2 ⟨y, H2, I2, ry, q2⟩ =>
    Calls.spliced_cons (thn (hf.run pins s2 σ H2 _ I2 q2) fun fv s3 ⟨z, H3, I3, rz, ov, r, g, er, q3⟩ => Calls.spliced_nil ?_))))
  subst er
  exact d_get2 hu I3 g ry rz fun w' s4 I4 rw' => ⟨_, H3, I4, rw', q3⟩
end
/-! ### tuples cut and joined -/
section
variable {X : Cx} {K : Fg}
theorem sl_tupU (hK : X.K = K) : SlR X (fun x lo hi H Q => ∃ (a : Addr) (xs : List V) (F : Hp) (os : List (Addr × HO)), x = .ref a ∧ W F H os ∧ F a = some (.tup xs) ∧ ∀ p F' H', Same F F' → W F' H' os → F' p = some (.tup (cutV xs lo hi)) → Q (.ref p) H') := by
  subst hK
  intro pins s σ H x v vl vu lo hi sl Q I rx hs pl pu ⟨a, xs, F, os, e, w, q, h⟩
  refine sl_tupA pins s σ H x v vl vu lo hi sl Q I rx hs pl pu ⟨a, xs, e, SqT.of (w.same _ _ q), fun c => ?_, fun _ p hp => ?_⟩
  · refine h a F H (Same.refl _) w ?_
    have ec : cutV xs lo hi = xs := by
      unfold cutV
      rw [c.1, c.2]
      simp
    rw [ec]
    exact q
  · obtain ⟨F', s', w', q'⟩ := w.frzE (o := .tup (cutV xs lo hi)) hp
    exact h p F' _ s' w' q'
theorem op_catU (hK : X.K = K) : OpR X (binaryOp .Add) (fun x y H Q => ∃ (a b : Addr) (xs ys : List V) (F : Hp) (os : List (Addr × HO)), x = .ref a ∧ y = .ref b ∧ W F H os ∧ F a = some (.tup xs) ∧ F b = some (.tup ys) ∧ xs.length + ys.length ≤ sizeLine ∧
    ∀ p F' H', Same F F' → W F' H' os → F' p = some (.tup (xs ++ ys)) → Q (.ref p) H') := by
  subst hK
  intro pins s σ H x y v u Q I rx ry ⟨a, b, xs, ys, F, os, e1, e2, w, qa, qb, hl, h⟩
  refine op_catA pins s σ H x y v u Q I rx ry ⟨a, b, xs, ys, e1, e2, SqT.of (w.same _ _ qa), SqT.of (w.same _ _ qb), hl, fun c => ?_, fun c d => ?_, fun _ _ p hp => ?_⟩
  · subst c
    exact h b F H (Same.refl _) w qb
  · subst d
    exact h a F H (Same.refl _) w (by rw [List.append_nil]; exact qa)
  · obtain ⟨F', s', w', q'⟩ := w.frzE (o := .tup (xs ++ ys)) hp
    exact h p F' _ s' w' q'
end
end Z
/-! Z7: dicts of tuple keys whose values are lists of a store; their values walked -/
namespace L2
open PySem PySem.Spec PyProof.Rows
/-- the values of the locked dict at d, of tuple keys -/
def ItdT (d : Addr) (o : Obj) (kvs : List (List Key × V)) : It :=
  ⟨fun i H => H d = some (.frz o (.dT kvs)) ∧ i < kvs.length, fun i H x H' => H' = H ∧ ∃ k, kvs[i]? = some (k, x), fun i H => H d = some (.frz o (.dT kvs)) ∧ kvs.length ≤ i⟩
section
variable {X : Cx} {pins : List (Addr × Obj)} {σ : St} {H : Hp} {s : Shared} {d : Addr} {o : Obj}
theorem Inv.frzTV {kvs : List (List Key × V)} (I : Inv X pins σ H s) (h : H d = some (.frz o (.dT kvs))) :
    (d == sysModules) = false ∧ s.heap.get? d = some o ∧ o.ExactDict ∧ ∃ (es : Array DictEntry) (ep : Nat), o.data = .dict es ep ∧ es.size = kvs.length ∧
      ∀ (i : Nat) (k : List Key) (v : V), kvs[i]? = some (k, v) → ∃ en : DictEntry, es[i]? = some en ∧ RelV v en.val := by
  obtain ⟨hd, z, hs, xs, pr, o', es, ep, ho, hx, hdt, he, _⟩ := I.hok d _ h
  rw [hd] at ho
  cases ho
  refine ⟨hs, hd, hx, es, ep, hdt, ?_, fun i k v e => ?_⟩
  · have l1 : es.size = xs.length := size_of_entries he
    have l2 : kvs.length = xs.length := Paired.length pr
    omega
  · obtain ⟨b, hb, e1, e2, e3⟩ := paired_get pr e
    have q := entry_at he i
    rw [hb] at q
    exact ⟨_, q, e3⟩
end
section
variable {P : Program} {w : World} {K : PySem.W.Frag} {tg : Expr} {d : Addr} {o : Obj} {es : Array DictEntry} {ep : Nat}
theorem turn_valsT {kvs : List (List Key × V)} (it : Addr) (hod : o.data = .dict es ep) : Turn P w K tg (ItdT d o kvs) [it] it (fun i h => h.IsValIter it d i kvs.length ep) where
  mem := by simp
  obj := fun i h st b hb => by
    have e : b = it := by simpa using hb
    subst e
    obtain ⟨oi, e, c, dd⟩ := st
    exact ⟨oi, e, fun v z => by rw [dd] at z; cases z⟩
  keep := fun i h h' st k => st.at fun oi e => k it (by simp) oi e
  item := by
    intro X hP hw hK hc i pins s σ H E I hf st hg
    subst hP hw hK
    obtain ⟨hd, hi⟩ := hg
    obtain ⟨f0, f1, f2, f3, f4, f5⟩ := hf it (by simp)
    obtain ⟨hs, hgd, hx, es', ep', hdt, hsz, ent⟩ := I.frzTV hd
    obtain ⟨rfl, rfl⟩ := dict_ep hod hdt
    obtain ⟨⟨k, v⟩, hkv⟩ : ∃ p, kvs[i]? = some p := ⟨kvs[i], List.getElem?_eq_getElem hi⟩
    obtain ⟨en, hen, ru⟩ := ent i k v hkv
    have hil : i < es'.size := by omega
    have een : es'[i] = en := by
      rw [Array.getElem?_eq_getElem hil] at hen
      exact Option.some.inj hen
    rw [← hsz] at st
    refine wpAny_pyNext_values_item_raw st ⟨o, hgd, hx, hdt⟩ hil fun h' st' sb => ?_
    have I1 : Inv X pins σ H { s with heap := h' } := I.turned (t' := s.toks) (fun b ob hb e => (sb.2 b hb).trans e) f0 f1 f3 f4 f5
    obtain ⟨oi, e, c, dd⟩ := id st'
    refine ⟨_, rfl, go_of (s := { s with heap := h' }) e c dd (by decide) ⟨v, H, I1, by rw [een]; exact ru, ⟨rfl, k, hkv⟩, ?_, fun b hb => (hf b hb).1⟩⟩
    show h'.IsValIter it d (i + 1) kvs.length _
    rw [← hsz]
    exact st'
  done := by
    intro X hP hw hK hc i pins s σ H E I hf st hg
    subst hP hw hK
    obtain ⟨hd, hi⟩ := hg
    obtain ⟨f0, f1, f2, f3, f4, f5⟩ := hf it (by simp)
    obtain ⟨hs, hgd, hx, es', ep', hdt, hsz, ent⟩ := I.frzTV hd
    obtain ⟨rfl, rfl⟩ := dict_ep hod hdt
    rw [← hsz] at st
    exact wpAny_pyNext_values_end_raw (I.ok.hd hc) st ⟨o, hgd, hx, hdt⟩ (by omega) fun h' eb => ⟨rfl, I.turned (t' := s.toks) (fun b ob hb e => eb b ob hb e) f0 f1 f3 f4 f5⟩
  self := fun A i s Q E st h => wpAny_pyIter_valiter st h
end
/-- d.values() of a dict that is locked from there on -/
def iValsT (td : TE) : TI := fun σ H R => td σ H fun x H1 => ∃ d kvs, x = .ref d ∧ H1 d = some (.dT kvs) ∧ ∀ od, R (ItdT d od kvs) (upd H1 d (.frz od (.dT kvs)))
section
variable {X : Cx} {tg e : Expr} {td : TE} {apos cpos : Pos}
theorem pi_valuesT (he : PE X e td) (hbase : attributeBase e "values" X.env (eval e X.env) = eval e X.env := by rfl) (hline : (apos.endLine == cpos.line) = true := by rfl) : PI X tg (.Call (.Attribute e "values" apos) [] [] cpos) (iValsT td) := by
  refine ⟨fun pins s σ H R I h => ?_⟩
  refine wpAny_Call_method (T := "dict") (id := "dict.values") hbase rfl hline F.plainAttrs_dict F.slot_dict_values F.type_dict_values (thn (he.run pins s σ H _ I h) fun u s1 ⟨x, H0, I0, rx, d, kvs, ex, hd0, q0⟩ => ?_)
  subst ex
  obtain rfl : u = Value.ref d := rx
  obtain ⟨od, I1⟩ := I0.lock hd0 (by exact True.intro)
  have q := q0 od
  have hd : upd H0 d (.frz od (.dT kvs)) d = some (.frz od (.dT kvs)) := upd_same
  obtain ⟨hs, hgd, hx, es, ep, hdt, hsz, ent⟩ := I1.frzTV hd
  have hm : s1.heap.DictRaw d es ep := ⟨od, hgd, hx, hdt⟩
  refine ⟨hm.typeIs, fun b hb => ?_, ?_⟩
  · cases hb
    exact ⟨od, hgd, hx.2.1⟩
  have I2 : Inv X pins σ (upd H0 d (.frz od (.dT kvs))) { s1 with heap := s1.heap.push { cls := .type "dict_values", data := .fields #[.ref d] } } := I1.kept (t' := s1.toks) fun b ob q => Heap.get?_push_of_some _ q
  have fin : wpAny (model X.prog X.w) X.A (pyIter (.ref s1.heap.objs.size)) (PIE X pins σ tg R) X.xe { s1 with heap := s1.heap.push { cls := .type "dict_values", data := .fields #[.ref d] } } := by
    refine wpAny_pyIter_values_raw (d := d) (es := es) (ep := ep) ⟨_, Heap.get?_push_size _ rfl, rfl, rfl⟩ (hm.at fun o q => Heap.get?_push_of_some _ q) (pi_one (tk := s1.toks) I2 _ (turn_valsT _ hdt) ⟨_, Heap.get?_push_size _ rfl, rfl, ?_⟩ q)
    rw [hsz] <;> rfl
  show wpAny _ _ (callWith cpos (.builtin "dict.values") [.ref d] [] []) _ X.xe s1
  exact method_meetsIn F.slot_dict_values F.entry_dict_values rfl (PySem.evalArgs_none ⟨rfl, hm.typeIs, F.args_dict_values_1 _, _, meets_dict_values_raw d hs, ⟨es, ep, hm⟩, fin⟩)
end
end L2
namespace Z
open PySem L2
open Rep (rep)
/-! ### dicts by what their values stand for -/
section
variable {κ β γ : Type} [DecidableEq κ] [DecidableEq γ] {e : κ → γ} {r r' : V → β → Prop}
inductive AD (e : κ → γ) (r : V → β → Prop) : List (γ × V) → List (κ × β) → Prop
  | nil : AD e r [] []
  | cons {k : κ} {v : V} {x : β} {kvs : List (γ × V)} {m : List (κ × β)} : r v x → AD e r kvs m → AD e r ((e k, v) :: kvs) ((k, x) :: m)
theorem AD.length : ∀ {kvs : List (γ × V)} {m : List (κ × β)}, AD e r kvs m → kvs.length = m.length
  | _, _, .nil => rfl
  | _, _, .cons _ t => by rw [List.length_cons, List.length_cons, AD.length t]
theorem AD.imp (f : ∀ v x, r v x → r' v x) : ∀ {kvs : List (γ × V)} {m : List (κ × β)}, AD e r kvs m → AD e r' kvs m
  | _, _, .nil => .nil
  | _, _, .cons h t => .cons (f _ _ h) (AD.imp f t)
theorem AD.no (he : ∀ a b, e a = e b → a = b) {k : κ} : ∀ {kvs : List (γ × V)} {m : List (κ × β)}, AD e r kvs m → (valV kvs (e k)).isSome = mhas m k
  | _, _, .nil => rfl
  | _, _, .cons (k := j) (v := v) (x := x) (kvs := kvs) (m := m) h t => by
    show _ = (decide (j = k) || mhas m k)
    by_cases q : j = k
    · rw [valV_pos (congrArg e q), decide_eq_true q]; rfl
    · rw [valV_neg (fun z => q (he _ _ z)), decide_eq_false q, AD.no he t]; rfl
theorem AD.get (he : ∀ a b, e a = e b → a = b) {k : κ} {y : β} : ∀ {kvs : List (γ × V)} {m : List (κ × β)}, AD e r kvs m → mget m k = some y → ∃ v, valV kvs (e k) = some v ∧ r v y
  | _, _, .nil, h => by cases h
  | _, _, .cons (k := j) (v := v) (x := x) (kvs := kvs) (m := m) h t, g => by
    unfold mget at g
    by_cases q : j = k
    · rw [List.find?_cons_of_pos (by simpa using q)] at g
      cases g
      exact ⟨v, valV_pos (congrArg e q), h⟩
    · rw [List.find?_cons_of_neg (by simpa using q)] at g
      obtain ⟨u, h1, h2⟩ := AD.get he (k := k) t g
      exact ⟨u, by rw [valV_neg (fun z => q (he _ _ z))]; exact h1, h2⟩
theorem AD.snoc {k : κ} {v : V} {x : β} (h : r v x) : ∀ {kvs : List (γ × V)} {m : List (κ × β)}, AD e r kvs m → AD e r (kvs ++ [(e k, v)]) (m ++ [(k, x)])
  | _, _, .nil => .cons h .nil
  | _, _, .cons a t => .cons a (AD.snoc h t)
theorem AD.upd (he : ∀ a b, e a = e b → a = b) {k : κ} {v : V} {x : β} (h : r v x) : ∀ {kvs : List (γ × V)} {m : List (κ × β)}, AD e r kvs m → AD e r (kvs.map fun p => if p.1 = e k then (p.1, v) else p) (m.map fun p => if p.1 = k then (p.1, x) else p)
  | _, _, .nil => .nil
  | _, _, .cons (k := j) (v := u) (x := y) (kvs := kvs) (m := m) a t => by
    rw [List.map_cons, List.map_cons]
    by_cases q : j = k
    · subst q
      rw [if_pos rfl, if_pos rfl]
      exact .cons h (AD.upd he h t)
    · rw [if_neg q, if_neg (fun z => q (he _ _ z))]
      exact .cons a (AD.upd he h t)
theorem AD.any (he : ∀ a b, e a = e b → a = b) {k : κ} : ∀ {kvs : List (γ × V)} {m : List (κ × β)}, AD e r kvs m → (kvs.any fun p => decide (p.1 = e k)) = m.any fun p => decide (p.1 = k)
  | _, _, .nil => rfl
  | _, _, .cons (k := j) (kvs := kvs) (m := m) a t => by
    rw [List.any_cons, List.any_cons, AD.any he t]
    congr 1
    by_cases q : j = k
    · rw [q]; simp
    · rw [decide_eq_false q, decide_eq_false (fun z => q (he _ _ z))]
theorem AD.put (he : ∀ a b, e a = e b → a = b) {k : κ} {v : V} {x : β} {kvs : List (γ × V)} {m : List (κ × β)} (t : AD e r kvs m) (h : r v x) : AD e r (putK kvs (e k) v) (mput m k x) := by
  unfold putK mput
  rw [t.any he]
  by_cases q : (m.any fun p => decide (p.1 = k)) = true
  · rw [if_pos q, if_pos q]
    exact t.upd he h
  · rw [if_neg q, if_neg q]
    exact t.snoc h
theorem AD.vals : ∀ {kvs : List (γ × V)} {m : List (κ × β)}, AD e r kvs m → ∀ {i : Nat} {k : γ} {v : V}, kvs[i]? = some (k, v) → ∃ x, (m.map (·.2))[i]? = some x ∧ r v x
  | _, _, .nil, i, k, v, h => by simp at h
  | _, _, .cons (k := j) (v := u) (x := x) a t, 0, k, v, h => by
    simp at h
    obtain ⟨_, rfl⟩ := h
    exact ⟨x, rfl, a⟩
  | _, _, .cons a t, i + 1, k, v, h => by
    obtain ⟨x, h1, h2⟩ := AD.vals t (i := i) (k := k) (v := v) (by simpa using h)
    exact ⟨x, by simpa using h1, h2⟩
end
/-- a tuple of ints as a key -/
def kT (t : Tup Int) : List Key := t.l.map Sum.inl
theorem kT_inj : ∀ a b, kT a = kT b → a = b := fun a b h => by
  have g : ∀ xs ys : List Int, (xs.map Sum.inl : List Key) = ys.map Sum.inl → xs = ys := by
    intro xs
    induction xs with
    | nil => intro ys e; cases ys <;> first | rfl | cases e
    | cons x xs ih =>
      intro ys e
      cases ys with
      | nil => cases e
      | cons y ys =>
        rw [List.map_cons, List.map_cons] at e
        injection e with e1 e2
        rw [Sum.inl.inj e1, ih ys e2]
  have : a.l = b.l := g _ _ h
  cases a
  cases b
  simp at this
  rw [this]
section
variable {K : Fg} {F H : Hp} {a b : Addr} {kvs : List (List Key × V)} {vs : List V} {t : Tup Int} {β : Type} {r : V → β → Prop} {m : List (Tup Int × β)}
theorem key_tup (s : Same F H) (q : F b = some (.tup vs)) (h : A2 (rep K F) vs t.l) : H b = some (.tup ((kT t).map kV)) := by
  have e : vs = (kT t).map kV := by
    rw [h.ints]
    unfold kT
    rw [List.map_map]
    rfl
  rw [← e]
  exact s _ _ q
theorem dgetA (e : H a = some (.dT kvs)) (eb : H b = some (.tup ((kT t).map kV))) : DGet H a (.ref b) (valV kvs (kT t)) := DGet.t e eb
theorem dgetsA {v : V} (e : H a = some (.dT kvs)) (eb : H b = some (.tup ((kT t).map kV))) (q : valV kvs (kT t) = some v) : DGet H a (.ref b) (some v) := by
  have h := dgetA (t := t) e eb
  rw [q] at h
  exact h
theorem dputA {v : V} (e : H a = some (.dT kvs)) (eb : H b = some (.tup ((kT t).map kV))) (h : AD kT r kvs m) (hl : m.length < sizeLine) : DPut H a (.ref b) v (upd H a (.dT (putK kvs (kT t) v))) := DPut.t e eb (by rw [h.length]; exact hl)
theorem tw_valsT {d : Addr} {o : Obj} (h : AD kT r kvs m) : TW (ItdT d o kvs) (m.map (·.2)) (fun H => H d = some (.frz o (.dT kvs))) (fun b H x H' => H' = H ∧ r x b) := ⟨by
  rw [List.length_map, ← h.length]
  refine ⟨fun _ _ hi q => ⟨q, hi⟩, fun _ q => ⟨q, Nat.le_refl _⟩, fun i H x H' _ _ y => ?_⟩
  obtain ⟨e, k, hk⟩ := y
  obtain ⟨b, h1, h2⟩ := h.vals hk
  exact ⟨b, h1, e, h2⟩⟩
end
section
variable {X : Cx} {K : Fg}
/-- l.index(x), of data -/
theorem mt_indexDt (hK : X.K = K) (α : Type) [Dat α] [DecidableEq α] (hd : Dat.dmax α ≤ 50) (hu : X.A.units + 65 < cLine) : MtR X "list.index" (fun x xs H Q => ∃ (a : Addr) (u : V) (ys : List α) (y : α) (j : Nat), x = V.ref a ∧ xs = [u] ∧ rep K H (V.ref a) ys ∧ rep K H u y ∧ fidx y ys = some j ∧ Q (.int (j : Int)) H) := by
  subst hK
  intro pins s σ H x xs v us Q I rx rxs ⟨a, u, ys, y, j, e1, e2, hs, hy, hj, q⟩
  obtain ⟨h1, h2⟩ := fidx_spec hj
  refine mt_indexD hu pins s σ H x xs v us Q I rx rxs ⟨a, u, Dat.toD y, ys.map Dat.toD, j, Dat.toD y, e1, e2, Dat.dp hs, Dat.dp hy, shapedD (α := List α) (by show Dat.dmax α + 1 ≤ 60; omega) ys, shapedD (by omega) y, ?_, ?_, fun m z hm hz => ?_, q⟩
  · rw [List.getElem?_map, h1]
    rfl
  · rw [eqvD]
    exact decide_eq_true rfl
  · rw [List.getElem?_map] at hz
    cases e : ys[m]? with
    | none => rw [e] at hz; cases hz
    | some t =>
      rw [e] at hz
      cases hz
      rw [eqvD]
      exact decide_eq_false (h2 m t hm e)
end
end Z
/-! ZI: own exception classes with one field, an int: made, raised, caught, read -/
namespace L2
open PySem PySem.Spec PyProof.Rows ClX
section
variable {X : Cx} {o e : Expr} {es : List Expr} {to te : TE} {ta : TA} {f x : Str} {p p1 p2 pos : Pos}
/-- C.__init__(self, ..), C an own class over ValueError that has no __init__ of its own -/
theorem pe_ueinit {pl : Sem Bool} {HC : Addr} {mc : Value} (hg : Gl X x) (hm : X.mg x = some (.ref HC)) (r : CRead X.K HC mc) (vV : PySem.W.findCls X.K (.ref HC) mc "__init__" = some (.val (.builtin "ValueError.__init__"))) (ha : PA X (e :: es) ta)
    (hdb : (x == ("__debug__" : Str)) = false := by decide)
    (hc : eval (.Call (.Attribute (.Name x p1) "__init__" p2) (e :: es) [] pos) X.env = (do
      let ov ← eval (.Name x p1) X.env
      standAt p2.atName
      let (f, first) ← holding [ov] (getMethod ov "__init__" pl)
      callWith pos f first (backTo pos (starEach (e :: es) X.env)) (backToKw pos (keywordEach [] X.env))) := by rfl)
    (he : starEach (e :: es) X.env = (false, eval e X.env) :: starEach es X.env := by rfl) (hpl : (backTo pos (starEach es X.env)).any (·.1) = false := by rfl) :
    PE X (.Call (.Attribute (.Name x p1) "__init__" p2) (e :: es) [] pos) (tVeI X.K ta) := by
  refine ⟨fun pins s σ H Q I h => ?_⟩
  refine PySem.W.methodCall_KW (ld_glob I hg hm ?_ hdb) hc
  refine PySem.W.method_cls I.kIn r.ga ?_
  refine PySem.W.cls_value I.kIn r.rd vV (by decide +kernel) ?_
  have I0 := I.tok (s.toks + 1)
  show wpAny _ _ (callWith pos (Value.builtin "ValueError.__init__") [] (backTo pos (starEach (e :: es) X.env)) []) _ _ _
  refine PyProof.Rows.callWith_method1 (thn (ha.run pos pins _ σ H _ (I.tok _) h) fun us s1 ⟨vs, H1, I1, r1, a, C, ws, ev, hl, T, ea, q⟩ => ?_) he hpl
  subst ev
  cases r1 with
  | @cons _ u0 _ ur ra rw' =>
    obtain rfl : u0 = Value.ref a := ra
    have hlen : ur.length ≤ sizeLine := by
      rw [← Paired.length rw', sizeLine_eq]
      omega
    exact oinit_ok T I1 ea hlen fun s' J => ⟨.non, H1, J, rfl, q⟩
end
end L2

namespace L2
open PySem PySem.Spec PyProof.Rows
section
variable {X : Cx}
/-- isinstance(e, c) of the exception that the suite holds, its dict none or a told one; c one class, or a tuple of classes -/
def rIsEY (K : PySem.W.Frag) (cls : Value) (d : Option Addr) (a : Addr) : List V → Hp → VK → Prop := fun xs H Q => ∃ D, cls = .ref D ∧ (d = none ∨ ∃ dd fs, d = some dd ∧ H dd = some (.xd fs)) ∧ ExcC K D ∧ ∃ (c : V) (b : Bool), xs = [.ref a, c] ∧
  ((∃ cv, (∀ u, RelV c u → u = cv) ∧ PySem.W.kitOne K (.ref D) cv = some b) ∨ (∃ p vs its, c = .ref p ∧ H p = some (.tup vs) ∧ (∀ us, Vals vs us → us = its) ∧ PySem.W.kitAny K (.ref D) its = some b)) ∧ Q (.bl b) H
theorem call_isEY {K : PySem.W.Frag} {a : Addr} {cls : Value} {d : Option Addr} {oe : Obj} {pn : List (Addr × Obj)} (hK : X.K = K) (hz : Zc cls d oe) (hf : ∃ vs, oe.data = .fields vs) : CallR (X.suite a ((a, oe) :: pn)) (.builtin "isinstance") (rIsEY K cls d a) := by
  subst hK
  intro pins s σ H xs us Q I r ⟨D, ecls, hd, C, c, b, exs, hc, q⟩
  subst exs
  subst ecls
  cases r with
  | cons rx rr =>
    cases rr with
    | cons rt rr =>
      cases rr
      cases rx
      obtain ⟨hget, _⟩ := I.pin (a, oe) (List.mem_append.mpr (.inl List.mem_cons_self))
      obtain ⟨vs, hv⟩ := hf
      obtain ⟨cdD, hcD, _⟩ := PySem.W.any_some C.hd
      have J : ∃ od, PySem.W.InstAt s.heap a oe D od := by
        obtain ⟨oc, od, oda, osl⟩ := oe
        obtain ⟨h1, h2⟩ := hz
        dsimp only at h1 h2 hv
        subst h1 h2 hv
        rcases hd with rfl | ⟨dd, fs, rfl, hx⟩
        · exact ⟨none, hget, rfl, rfl, trivial⟩
        · have hx' : ObjOk X.prog X.w H s.heap dd (.xd fs) := I.hok dd _ hx
          obtain ⟨mA, hns, _⟩ := hx'
          obtain ⟨od, ho, _⟩ := lookIn_ns hns
          exact ⟨some od, hget, rfl, rfl, ho⟩
      obtain ⟨od, J⟩ := J
      have Z := PySem.W.kitx_exc (x := a) (ox := oe) (od := od) (C := D) (K := X.K) (by rw [hcD]; rfl) C.hg C.hk C.hs C.ha C.hn C.ht C.hm
      have fin : ∀ tk, EP (X.suite a ((a, oe) :: pn)) pins σ Q (.bool b) { s with toks := tk } := fun tk => ⟨.bl b, H, I.kept (t' := tk) fun _ _ z => z, rfl, q⟩
      rcases hc with ⟨cv, hcv, e⟩ | ⟨p, ws, its, rfl, hp, hu, e⟩
      · have ec := hcv _ rt
        subst ec
        exact PySem.W.kia_one Z I.kIn J e (fun z => nomatch z) fin
      · cases rt
        obtain ⟨_, its', r', ob, ho, hob1, n, hob2⟩ := I.hok p _ hp
        have := hu _ r'
        subst this
        obtain ⟨oc, obd, oda, osl⟩ := ob
        dsimp only at hob1 hob2
        subst hob1 hob2
        exact PySem.W.kia_tup Z I.kIn J ho e (fun z => nomatch z) fin
end
section
variable {X : Cx} {CX : CXT} {k : Nat} {f C : Addr} {fd : FuncData} {ps : List Str} {sp : Sp} {E : St → XK} {x m : Str} {p pos apos : Pos} {e o : Expr} {es : List Expr} {ta : TE} {t : TA}
/-- C(..), whose __init__ may let an error out -/
def tMakeS (C : Addr) (sp : Sp) (E : St → XK) (t : TA) : TE := fun σ H Q => t σ H fun vs H1 => ∀ x dx, H1 x = none → H1 dx = none → dx ≠ x →
  sp (.ref x :: vs) (upd (upd H1 dx (.own x)) x (.ins C dx [])) (fun v H2 => v = .non ∧ Q (.ref x) H2) (E σ)
theorem run_makeS {pins : List (Addr × Obj)} {σ : St} {H : Hp} {s : Shared} {Q : VK} {us : List Value} {vs : List V} (M : Mk X.K C f) (F : FnOk X.prog X.w X.K X.mg X.base CX k f fd ps sp) (hr : Room (k + 1) X.A) (hb : Binds X.K fd ps [])
    (hx : PassesAt CX X σ (E σ)) (I : Inv X pins σ H s) (r : Vals vs us)
    (h : ∀ x dx, H x = none → H dx = none → dx ≠ x → sp (.ref x :: vs) (upd (upd H dx (.own x)) x (.ins C dx [])) (fun v H2 => v = .non ∧ Q (.ref x) H2) (E σ)) :
    wpAny (model X.prog X.w) X.A (call (.ref C) us) (EP X pins σ Q) X.xe s := by
  have hq := h (s.heap.objs.size + 1) s.heap.objs.size (I.hok.fresh (Nat.le_succ _)) (I.hok.fresh (Nat.le_refl _)) (Nat.ne_of_lt (Nat.lt_succ_self _))
  have I2 := Inv.made (C := C) I
  have r2 : Vals (V.ref (s.heap.objs.size + 1) :: vs) (Value.ref (s.heap.objs.size + 1) :: us) := .cons rfl r
  have hl : (Value.ref (s.heap.objs.size + 1) :: us).length = ps.length := by
    have e := r2.length
    rw [F.len _ _ _ _ hq] at e
    exact e.symm
  have b := hb _ (Value.ref (s.heap.objs.size + 1) :: us) I2.kIn (by rw [List.append_nil]; exact hl)
  rw [List.append_nil] at b
  refine wpAny_call (make_map (f := f) I.kIn M.makes M.init (beq_iff_eq.mp M.fn) (codeAny_mono (F.run _ X.stack _ _ ⟨Value.ref (s.heap.objs.size + 1) :: us, []⟩ (Value.ref (s.heap.objs.size + 1) :: us) _ _ (E σ) (hr.make C us [])
    (I2.env0.make C us []) b r2 hq) fun r s' hq' => ?_))
  cases r with
  | error e => exact hx pins _ _ e s' I2 hq'
  | ok fl =>
    cases fl with
    | ret u =>
      obtain ⟨v, H', I3, rv, ev, q3⟩ := I2.after hq'
      subst ev
      exact ⟨rv, ⟨V.ref (s.heap.objs.size + 1), H', I3, rfl, q3⟩⟩
    | next => exact False.elim hq'
    | brk => exact False.elim hq'
    | cont => exact False.elim hq'
theorem pe_makeS (M : Mk X.K C f) (F : FnOk X.prog X.w X.K X.mg X.base CX k f fd ps sp) (hr : Room (k + 1) X.A) (hg : Gl X x) (hm : X.mg x = some (.ref C)) (hb : Binds X.K fd ps []) (hx : ∀ σ, PassesAt CX X σ (E σ))
    (ha : PA X (e :: es) t) (hdb : (x == ("__debug__" : Str)) = false := by decide) (he : starEach (e :: es) X.env = (false, eval e X.env) :: starEach es X.env := by rfl) (hpl : (backTo pos (starEach es X.env)).any (·.1) = false := by rfl) :
    PE X (.Call (.Name x p) (e :: es) [] pos) (tMakeS C sp E t) := by
  refine ⟨fun pins s σ H Q I h => ?_⟩
  refine wpAny_Call_Name_kw (ld_glob I hg hm ?_ hdb)
  refine PySem.W.callWith_K (h₀ := X.base) I.ok.mod.kin M.kp (thn (ha.run pos pins s σ H _ I h) fun us s1 ⟨vs, H1, I1, r, q⟩ => ⟨I1.kIn, ?_⟩) he hpl
  exact run_makeS M F hr hb (hx σ) I1 r q
end
end L2
namespace Z
open PySem L2
open Rep (rep)
/-- an error's dict, by the fields of the classes -/
def XD (fld : Str → Option Str) (F : Hp) (e : Exn) (d : Option Addr) : Prop :=
  match fld e.cls with
  | none => d = none
  | some f => ∃ a, d = some a ∧ F a = some (.xd [(f, .int e.arg)])
section
variable {fld : Str → Option Str} {F F' H H' : Hp} {e : Exn} {d : Option Addr} {K : Fg}
theorem XD.mono (s : Same F F') (h : XD fld F e d) : XD fld F' e d := by
  unfold XD at h ⊢
  cases q : fld e.cls with
  | none => rw [q] at h; exact h
  | some f =>
    rw [q] at h
    obtain ⟨a, e1, e2⟩ := h
    exact ⟨a, e1, s _ _ e2⟩
theorem XD.dict (h : XD fld F e d) (s : Same F H) : d = none ∨ ∃ dd fs, d = some dd ∧ H dd = some (.xd fs) := by
  unfold XD at h
  cases q : fld e.cls with
  | none => rw [q] at h; exact .inl h
  | some f =>
    rw [q] at h
    obtain ⟨a, e1, e2⟩ := h
    exact .inr ⟨a, _, e1, s _ _ e2⟩
theorem XD.at {f : Str} (h : XD fld F e d) (q : fld e.cls = some f) : ∃ dd, d = some dd ∧ F dd = some (.xd [(f, .int e.arg)]) := by
  unfold XD at h
  rw [q] at h
  exact h
theorem XD.no (q : fld e.cls = none) : XD fld F e none := by
  unfold XD
  rw [q]
/-- what a call that lets an error out leaves -/
def RetXD (fld : Str → Option Str) (K : Fg) (F : Hp) (os : List (Addr × HO)) (E : XK) : Exn → Prop := fun e => ∀ C d F' H', Nm K e.cls C → W F' H' os → Same F F' → XD fld F' e d → E (.ref C) d H'
/-- an error of a class with a field -/
def raiseX {α : Type} (x : Str) (i : Int) : R α := .exc ⟨x, i⟩
theorem post_raiseX {α : Type} {x : Str} {i : Int} {P : α → Prop} {E : Exn → Prop} (h : Post (raiseX x i : R α) P E) : E ⟨x, i⟩ := h
/-- its field -/
def xarg (x : Str) (e : Exn) : R Int := if e.cls = x then .ok e.arg else .bad
theorem pb_xarg {δ : Type} {x : Str} {e : Exn} {f : Int → R δ} {P : δ → Prop} {E : Exn → Prop} (h : Post (xarg x e >>= f) P E) : e.cls = x ∧ Post (f e.arg) P E := by
  unfold xarg at h
  by_cases c : e.cls = x
  · rw [if_pos c] at h
    exact ⟨c, h⟩
  · rw [if_neg c] at h
    exact (show False from h).elim
/-- the __init__ of such a class: it asks its base's, then it keeps what it is given -/
def spXI (C : Addr) (f : Str) : Sp := fun vs H Q E => ∃ (a : Addr) (p : Int), vs = [.ref a, .int p] ∧ H a = some (exo a C none) ∧ ∀ dx, H dx = none → dx ≠ a → Q .non (upd (upd H dx (exd dx [(f, .int p)])) a (exo a C (some dx)))
/-- a class of the text that errors of one's own are made of -/
structure XI (K : Fg) (C fI : Addr) (f : Str) : Prop where
  ox : OexC K C
  ini : PySem.W.findIn K (.ref C) "__init__" = some (some (.ref fI))
  tI : PySem.W.typeIn K (.ref fI) = some (.type "function")
  no : PySem.W.findIn K (.ref C) f = some none
  xf : XfC K C
structure XCf (K : Fg) (mg : Str → Option Value) (x : Str) (C : Addr) : Prop where
  ns : Nm K x C
  gm : mg x = some (.ref C)
  kp : PySem.W.keepIn K (.ref C) = true
  b : PySem.W.subIn K (.ref C) (.type "BaseException") = some true
  t : PySem.W.typeIn K (.ref C) = some (.type "type")
  ex : ExcC K C
theorem raise_xd {os : List (Addr × HO)} {E : XK} {F0 : Hp} {C : Addr} {f : Str} {p : Int} (w : W F H os) (sF : Same F0 F) (hm : RetXD fld K F0 os E e) (nC : Nm K e.cls C) (hf : fld e.cls = some f) (hp : e.arg = p) (a : Addr) (na : H a = none) :
    spXI C f (.ref a :: ([.int p] ++ [])) (upd H a (exo a C none)) (fun v H2 => v = .non ∧ ∃ (d : Addr) (fs : List (Str × V)), H2 a = some (exo a C (some d)) ∧ H2 d = some (exd d fs) ∧ H d = none ∧ E (.ref C) (some d) (upd (del H2 a) d (.xd fs))) (fun _ _ _ => False) := by
  refine ⟨a, p, rfl, upd_same, fun dx nd ne => ⟨rfl, dx, [(f, .int p)], upd_same, ?_, ?_, ?_⟩⟩
  · rw [upd_ne ne, upd_same]
  · rw [upd_ne ne] at nd
    exact nd
  · rw [upd_ne ne] at nd
    have eH : upd (del (upd (upd (upd H a (exo a C none)) dx (exd dx [(f, .int p)])) a (exo a C (some dx))) a) dx (.xd [(f, .int p)]) = upd H dx (.xd [(f, .int p)]) := by
      funext b
      by_cases hb : b = dx
      · rw [hb, upd_same, upd_same]
      · rw [upd_ne hb, upd_ne hb]
        by_cases ha : b = a
        · rw [ha, del_same, na]
        · rw [del_ne ha, upd_ne ha, upd_ne hb, upd_ne ha]
    rw [eH]
    refine hm C (some dx) (upd F dx (.xd [(f, .int p)])) _ nC (w.frz nd) (sF.trans (w.frzS nd)) ?_
    unfold XD
    rw [hf]
    exact ⟨dx, rfl, by rw [upd_same, hp]⟩
end
end Z
/-! ZC: texts as data; what is an int or a text -/
namespace Z
open PySem L2 PySem.Spec PyProof.Rows
open Rep (rep)
instance : NonN Exn := ⟨fun {K H v x} h q => by
  obtain ⟨a, C, e, _⟩ := h
  rw [e] at q
  cases q⟩
structure Txt where
  t : Str
  ok : PyData.strOk t = true
  deriving DecidableEq
inductive IoS where
  | i (n : Int)
  | s (t : Txt)
  deriving DecidableEq
instance repIoS : Rep IoS := ⟨fun K H v x => match x with
  | .i n => v = .int n
  | .s t => v = .str t.t, fun {_ _ _ _ x} s h => by
    cases x with
    | i n => exact h
    | s t => exact h⟩
instance datIoS : Dat IoS where
  toD := fun x => match x with
    | .i n => .int n
    | .s t => .str t.t
  dmax := 0
  dp := fun {K H v x} h => by
    cases x with
    | i n =>
      have h' : v = V.int n := h
      subst h'
      exact .int _
    | s t =>
      have h' : v = V.str t.t := h
      subst h'
      exact .str _
  lay := fun x => by
    cases x with
    | i n => simp only [PyData.canLay0]
    | s t =>
      simp only [PyData.canLay0]
      exact t.ok
  dep := fun x => by cases x <;> simp only [PyData.depth, Nat.le_refl]
  eqv := fun x y => by
    cases x with
    | i n => cases y <;> simp [PyData.eqv]
    | s t =>
      cases y with
      | i n => simp [PyData.eqv]
      | s u =>
        obtain ⟨t, ht⟩ := t
        obtain ⟨u, hu⟩ := u
        simp [PyData.eqv]
section
variable {K : Fg} {F H : Hp}
def IoS.isS : IoS → Bool
  | .i _ => false
  | .s _ => true
theorem rep_ioI {n : Int} : rep K F (V.int n) (IoS.i n) := rfl
theorem rep_ioS {t : Str} {h : PyData.strOk t = true} : rep K F (V.str t) (IoS.s ⟨t, h⟩) := rfl
def asI : IoS → R Int
  | .i n => R.ok n
  | .s _ => R.bad
theorem pb_asI {β : Type} {Q : β → Prop} {E : Exn → Prop} {o : IoS} {f : Int → R β} (h : Post (asI o >>= f) Q E) : ∃ a, o = .i a ∧ Post (f a) Q E := by
  cases o with
  | i n => exact ⟨n, rfl, h⟩
  | s t => exact h.elim
theorem io_str {v : V} {x : IoS} (r : rep K F v x) : ∃ a, TyOf K H v (.type a) ∧ kitB a "str" = some x.isS := by
  cases x with
  | i n =>
    have h' : v = V.int n := r
    subst h'
    exact ⟨_, .int _, show kitB "int" "str" = some false by decide +kernel⟩
  | s t =>
    have h' : v = V.str t.t := r
    subst h'
    exact ⟨_, .str _, show kitB "str" "str" = some true by decide +kernel⟩
end
end Z
/-! ZJ: what is a text, a text with an int, or a web -/
namespace Z
open PySem L2 PySem.Spec PyProof.Rows
open Rep (rep)
inductive Tl where
  | tx (t : Txt)
  | ap (t : Txt) (i : Int)
  | wb (w : Int × Tup (Int × Int))
  deriving DecidableEq
instance repTl : Rep Tl := ⟨fun K H v x => match x with
  | .tx t => v = .str t.t
  | .ap t i => ∃ a, v = .ref a ∧ H a = some (.tup [.str t.t, .int i])
  | .wb w => rep K H v w, fun {_ _ _ _ x} s h => by
    cases x with
    | tx t => exact h
    | ap t i =>
      obtain ⟨a, e, q⟩ := h
      exact ⟨a, e, s _ _ q⟩
    | wb w => exact Rep.mono s h⟩
instance datTl : Dat Tl where
  toD := fun x => match x with
    | .tx t => .str t.t
    | .ap t i => .tuple [.str t.t, .int i]
    | .wb w => Dat.toD w
  dmax := Dat.dmax (Int × Tup (Int × Int)) + 1
  dp := fun {K H v x} h => by
    cases x with
    | tx t =>
      have h' : v = V.str t.t := h
      subst h'
      exact .str _
    | ap t i =>
      obtain ⟨a, rfl, q⟩ := h
      exact .tup (SqT.of q) (.cons (.str _) (.cons (.int _) .nil))
    | wb w => exact Dat.dp h
  lay := fun x => by
    cases x with
    | tx t =>
      simp only [PyData.canLay0]
      exact t.ok
    | ap t i => simp only [PyData.canLay0, PyData.canLayAll0, t.ok, Bool.and_true]
    | wb w => exact Dat.lay w
  dep := fun x => by
    cases x with
    | tx t => simp only [PyData.depth, Nat.zero_le]
    | ap t i =>
      simp only [PyData.depth, PyData.depthAll]
      omega
    | wb w => exact Nat.le_succ_of_le (Dat.dep w)
  eqv := fun x y => by
    cases x with
    | tx t =>
      obtain ⟨t, ht⟩ := t
      cases y with
      | tx u =>
        obtain ⟨u, hu⟩ := u
        simp [PyData.eqv]
      | ap u i => simp [PyData.eqv]
      | wb w =>
        obtain ⟨n, ⟨ts⟩⟩ := w
        simp [Dat.toD, PyData.eqv]
    | ap t i =>
      obtain ⟨t, ht⟩ := t
      cases y with
      | tx u => simp [PyData.eqv]
      | ap u j =>
        obtain ⟨u, hu⟩ := u
        simp [PyData.eqv, PyData.eqvAll]
      | wb w =>
        obtain ⟨n, ⟨ts⟩⟩ := w
        simp [Dat.toD, PyData.eqv, PyData.eqvAll]
    | wb w =>
      cases y with
      | tx u =>
        obtain ⟨n, ⟨ts⟩⟩ := w
        simp [Dat.toD, PyData.eqv]
      | ap u j =>
        obtain ⟨n, ⟨ts⟩⟩ := w
        simp [Dat.toD, PyData.eqv, PyData.eqvAll]
      | wb w2 =>
        show PyData.eqv (Dat.toD w) (Dat.toD w2) = true ↔ _
        rw [Dat.eqv]
        exact ⟨fun e => by rw [e], fun e => by injection e⟩
section
variable {K : Fg} {F H : Hp}
theorem rep_tlS {t : Str} {h : PyData.strOk t = true} : rep K F (V.str t) (Tl.tx ⟨t, h⟩) := rfl
theorem rep_tlA {t : Str} {h : PyData.strOk t = true} {i : Int} {a : Addr} (q : F a = some (.tup [.str t, .int i])) : rep K F (V.ref a) (Tl.ap ⟨t, h⟩ i) := ⟨a, rfl, q⟩
theorem rep_tlW {v : V} {w : Int × Tup (Int × Int)} (r : rep K F v w) : rep K F v (Tl.wb w) := r
end
end Z
/-! Z8: set(list of ints), sorted of it; list.count of data; list.insert -/
namespace L2
open PySem PySem.Spec PyProof.Rows
section
variable {P : Program} {w : World} {A : Around} {E : Value → Shared → Prop} {s : Shared}
set_option maxHeartbeats 3200000 in
/-- set(l) of a list of ints (turned from the tuple's, call_set_tupI) -/
theorem set_of_listI {l : Addr} {items : Array Value} (ns : List Int) {Q : Value → Shared → Prop} (hh : A.handled = none) (hl : s.heap.IsList l items) (hit : IntsAre items.toList ns) (hb : ns.length + 1 < scanBound)
    (h : ∀ (h' : Heap) (tk c : Nat), SetR w h' s.heap.objs.size (fun j => decide (j ∈ ns)) c → c ≤ ns.length → (∀ b o, s.heap.get? b = some o → h'.get? b = some o) → Q (.ref s.heap.objs.size) { s with heap := h', toks := tk }) :
    wpAny (model P w) A (call (.type "set") [.ref l]) Q E s := by
  have hisz : items.size = ns.length := by
    have q := IntsAre.length hit
    rw [Array.length_toList] at q
    exact q
  obtain ⟨c, tl, hmro⟩ := F.called_set.mro
  have hmade := F.called_set.made
  have hsub := F.called_set.sub
  refine wpAny_call (codeAny_of_tree ?_)
  show wpAny _ _ (callAny (.type "set") _) _ _ _
  refine wpAny_pure ⟨Code.quiet_builtin _ (by decide +kernel), codeAny_builtin F.entry_type_call ?_⟩
  rw [Around.under_plain (weight_type_call_type "set" [.ref l] []) rfl]
  have h1 := F.called_set.notType
  have h2 := F.called_set.canCreate
  have hct := F.typeCall_set_1 (.ref l)
  repeat (any_goals (first | assumption | wp_step))
  refine codeAny_mono (code_set_led1 (.ref l) (E := E) (Q₁ := fun obj s₁ => obj = .ref s.heap.objs.size ∧ s₁ = { s with heap := s.heap.push { cls := .type "set", dict := none, data := .set #[] 0 (.fresh 0 0 (!w.params.followText "set-order")) } }) ⟨rfl, rfl⟩) fun r s₁ hr => ?_
  cases r with
  | error e => exact hr
  | ok fl =>
    cases fl with
    | ret obj =>
      obtain ⟨rfl, rfl⟩ := hr
      have hS : (s.heap.push { cls := .type "set", dict := none, data := .set #[] 0 (.fresh 0 0 (!w.params.followText "set-order")) }).get? s.heap.objs.size = some { cls := .type "set", dict := none, data := .set #[] 0 (.fresh 0 0 (!w.params.followText "set-order")) } := Heap.get?_push_size _ rfl
      have hT : Shared.TypeIs { s with heap := s.heap.push { cls := .type "set", dict := none, data := .set #[] 0 (.fresh 0 0 (!w.params.followText "set-order")) } } (.ref s.heap.objs.size) "set" := ⟨_, hS, rfl⟩
      have hli := F.called_set.init.lookup
      have hbi := F.called_set.init.bind (.ref s.heap.objs.size)
      repeat (any_goals (first | assumption | wp_step))
      refine codeAny_mono (codeAny_call_builtin (R := wants (fun r s₂ => r = .none ∧ ∃ h' tk c, s₂ = { s with heap := h', toks := tk } ∧ SetR w h' s.heap.objs.size (fun j => decide (j ∈ ns)) c ∧ c ≤ ns.length ∧
          (∀ b o, s.heap.get? b = some o → h'.get? b = some o)) E) F.called_set.init.plain F.entry_set_init (check_set_init_1 hT ?_)) fun r₂ s₂ hr₂ => ?_
      · obtain ⟨ol, hol, hcl, nl, hdl⟩ := hl
        obtain ⟨ocls, odict, odata, oslots⟩ := ol
        simp only at hcl hdl
        subst hcl; subst hdl
        have hol' : (s.heap.push { cls := .type "set", dict := none, data := .set #[] 0 (.fresh 0 0 (!w.params.followText "set-order")) }).get? l = some { cls := .type "list", dict := odict, data := .seq items nl, slots := oslots } := Heap.get?_push_of_some _ hol
        have hsls := F.sub_list_set
        have hslf := F.sub_list_frozenset
        have hne : (Value.type "list" == Value.type "dict") = false := by decide
        have hl1 : (s.heap.push { cls := .type "set", dict := none, data := .set #[] 0 (.fresh 0 0 (!w.params.followText "set-order")) }).IsList l items := ⟨_, hol', rfl, nl, rfl⟩
        unfold Builtin.«set.__init__» noKeywords Builtin.Frozenset.updateFrom
        generalize hPI : pyIter = PI
        wp_walk
        subst hPI
        refine wpAny_pyIter_list hl1 ?_
        refine wpAny_bind (wpAny_runValue ?_)
        have hlS : l < s.heap.objs.size := Heap.lt_size hol
        have hh3 : A.in1.in1.in1.handled = none := by simp [hh]
        have hz1 : (s.heap.push { cls := .type "set", dict := none, data := .set #[] 0 (.fresh 0 0 (!w.params.followText "set-order")) }).objs.size = s.heap.objs.size + 1 := Heap.size_push ..
        have hneI : l ≠ (s.heap.push { cls := .type "set", dict := none, data := .set #[] 0 (.fresh 0 0 (!w.params.followText "set-order")) }).objs.size := by
          rw [Heap.size_push]; exact Nat.ne_of_lt (Nat.lt_succ_of_lt hlS)
        have hSf : s.heap.objs.size ∉ [(s.heap.push { cls := .type "set", dict := none, data := .set #[] 0 (.fresh 0 0 (!w.params.followText "set-order")) }).objs.size, l] := by
          rw [Heap.size_push]; simp only [List.mem_cons, List.mem_singleton, List.not_mem_nil, or_false, not_or]
          exact ⟨Nat.ne_of_lt (Nat.lt_succ_self _), Nat.ne_of_gt hlS⟩
        have hval : ∀ (i : Nat) (v : Value), items[i]? = some v → ∃ k t, ns[i]? = some k ∧ v = .int k t := fun i v hv => by
          have hi : i < ns.length := by rw [← hisz]; exact (Array.getElem?_eq_some_iff.mp hv).1
          obtain ⟨t, e⟩ := PyProof.Rows.IntsAre.int_at hit i v (by rw [Array.getElem?_toList]; exact hv)
          refine ⟨ns[i], t, List.getElem?_eq_getElem hi, ?_⟩
          rw [e, List.getD_eq_getElem?_getD, List.getElem?_eq_getElem hi] <;> rfl
        refine set_update_ints ((Walks.list hh3 _ l hneI items).toS) s.heap.objs.size
          hSf ns hisz hb hval (items.size - 0) 0 _ (by omega) (Nat.zero_le _)
          ⟨⟨_, Heap.get?_push_size _ rfl, rfl, rfl⟩, (hl1.push _)⟩ ?hS0 ?hR
        case hS0 =>
          have hget : ((s.heap.push { cls := .type "set", dict := none, data := .set #[] 0 (.fresh 0 0 (!w.params.followText "set-order")) }).push { cls := .type "list_iterator", data := .fields #[.ref l, .int 0 0] }).get? s.heap.objs.size = some { cls := .type "set", dict := none, data := .set #[] 0 (.fresh 0 0 (!w.params.followText "set-order")) } := Heap.get?_push_of_some _ hS
          exact ⟨0, Nat.le_refl 0, setR_new_at hget⟩
        case hR =>
          intro s' c' hm hc' hS'
          obtain ⟨h', g2, d', tk', os'⟩ := s'
          have eg : g2 = s.gens := hm.gens
          have ed : d' = s.drawn := hm.drawn
          have eo : os' = s.os := hm.os
          subst eg; subst ed; subst eo
          show wpAny _ _ _ _ _ _
          refine wpAny_pure ?_
          show wpAny _ _ (ret Value.none) _ _ _
          rw [hisz] at hc'
          refine wpAny_pure ⟨rfl, h', tk', c', rfl, hS', hc', fun b o e => ?_⟩
          have hb0 : b < s.heap.objs.size := Heap.lt_size e
          have hb1 : b ≠ s.heap.objs.size := Nat.ne_of_lt hb0
          have hb2 : b ≠ (s.heap.push { cls := .type "set", dict := none, data := .set #[] 0 (.fresh 0 0 (!w.params.followText "set-order")) }).objs.size := by
            rw [Heap.size_push]; exact Nat.ne_of_lt (Nat.lt_succ_of_lt hb0)
          exact hm.heap b o (by simp only [List.mem_cons, List.mem_singleton, List.not_mem_nil, or_false, not_or]; exact ⟨hb1, hb2⟩) (Heap.get?_push_of_some _ (Heap.get?_push_of_some _ e))
      · cases r₂ with
        | error e => exact hr₂
        | ok fl₂ =>
          cases fl₂ with
          | ret r =>
            obtain ⟨rfl, h', tk, c', rfl, hS', hc', hk'⟩ := hr₂
            repeat (any_goals (first | assumption | wp_step))
            exact h _ _ _ hS' hc' hk'
          | _ => exact hr₂.elim
    | _ => exact hr.elim
end
end L2
namespace Z
open PySem L2
open Rep (rep)
section
variable {X : Cx} {K : Fg} {w : World}
theorem cr_setLI (hK : X.K = K) (hw : X.w = w) (hc : X.calm = true) : CallR X (.type "set") (fun xs H Q => ∃ (l : Addr) (ns : List Int), xs = [V.ref l] ∧ SqL K H l (ns.map V.int) ∧ ns.length < 4000 ∧ ∀ a, H a = none → Q (.ref a) (upd H a (SetO w a (fun j => decide (j ∈ ns)) (nub ns).length))) := by
  subst hK hw
  intro pins s σ H xs us Q I r h
  obtain ⟨l, ns, rfl, hl, hf, q⟩ := h
  rw [Vals.ref1 r]
  obtain ⟨its, rv, pl, hz⟩ := I.list hl
  have hn : H s.heap.objs.size = none := I.hok.fresh (Nat.le_refl _)
  refine set_of_listI ns (I.ok.hd hc) pl.isList (by simpa using ints_of_vals rv) (by unfold scanBound; omega) fun h' tk c R hcn k => ?_
  have ec : c = (nub ns).length := by
    obtain ⟨o, es, ep, t, ho, hex, hdt, g, nd, hm2, hb, hf, hcs, hr, hl2⟩ := R
    rw [← hcs]
    have e1 : (es.toList.map keyOf).length = (nub ns).length := nodup_len nd (nub_nodup _) fun y => by
      rw [nub_mem, ← hm2 y, decide_eq_true_eq]
    rw [← e1, List.length_map, Array.length_toList]
  subst ec
  exact ⟨.ref s.heap.objs.size, upd H s.heap.objs.size (SetO X.w s.heap.objs.size (fun j => decide (j ∈ ns)) (nub ns).length), I.laid (t' := tk) k (Nat.le_refl _) (setO_new R), rfl, q _ hn⟩
theorem cr_sortSet (hw : X.w = w) (hc : X.calm = true) : CallR X (.builtin "sorted") (rSortedSet w) := by
  subst hw
  exact cr_sortedSet hc
end
/-- sorted(set(xs)) -/
def ssI (xs : List Int) : List Int := sortI (nub xs)
def ssR (xs : List Int) : R (List Int) := grd (decide (xs.length < 4000) && decide ((nub xs).length < 64)) >>= fun _ => .ok (ssI xs)
theorem perm_ints {xs ys : List Int} (h1 : xs.Nodup) (h2 : ys.Nodup) (h : ∀ x, x ∈ xs ↔ x ∈ ys) : xs.Perm ys := by
  rw [List.perm_iff_count]
  intro a
  rw [h1.count, h2.count]
  by_cases q : a ∈ xs
  · rw [if_pos q, if_pos ((h a).mp q)]
  · rw [if_neg q, if_neg (fun z => q ((h a).mpr z))]
theorem ssI_uniq {xs ns : List Int} (h1 : ns.Pairwise (· < ·)) (h2 : ∀ k : Int, k ∈ ns ↔ decide (k ∈ xs) = true) : ns = ssI xs := by
  unfold ssI
  refine sort_uniq ?_ (h1.imp fun h => Int.le_of_lt h) (sortI_sorted _)
  refine List.Perm.trans ?_ (sortI_perm _).symm
  refine perm_ints (h1.imp fun h => Int.ne_of_lt h) (nub_nodup _) fun k => ?_
  rw [h2 k, decide_eq_true_iff, nub_mem]
theorem pb_ss {δ : Type} {xs : List Int} {f : List Int → R δ} {P : δ → Prop} {E : Exn → Prop} (h : Post (ssR xs >>= f) P E) : ∃ l, (xs.length < 4000 ∧ (nub xs).length < 64) ∧ l = ssI xs ∧ Post (f l) P E := by
  unfold ssR at h
  cases q : (decide (xs.length < 4000) && decide ((nub xs).length < 64)) with
  | true =>
    rw [q] at h
    rw [Bool.and_eq_true, decide_eq_true_iff, decide_eq_true_iff] at q
    exact ⟨_, q, rfl, h⟩
  | false =>
    rw [q] at h
    exact (show False from h).elim
/-- xs.insert(i, y), i not below nought -/
def insR {α : Type} (xs : List α) (i : Int) (y : α) : R (List α) := if xs.length < 100000 ∧ 0 ≤ i ∧ i < 9223372036854775808 then .ok (xs.take i.toNat ++ [y] ++ xs.drop i.toNat) else .bad
theorem pn_ins {α δ : Type} {xs : List α} {i : Int} {y : α} {f : List α → R δ} {P : δ → Prop} {E : Exn → Prop} (h : Post (insR xs i y >>= f) P E) : ∃ l, (xs.length < 100000 ∧ 0 ≤ i ∧ i < 9223372036854775808) ∧ l = xs.take i.toNat ++ [y] ++ xs.drop i.toNat ∧ Post (f l) P E := by
  unfold insR at h
  by_cases q : xs.length < 100000 ∧ 0 ≤ i ∧ i < 9223372036854775808
  · rw [if_pos q] at h
    exact ⟨_, q, rfl, h⟩
  · rw [if_neg q] at h
    exact (show False from h).elim
theorem A2.ins {α : Type} {r : V → α → Prop} {v : V} {y : α} (n : Nat) {vs : List V} {xs : List α} (h : A2 r vs xs) (g : r v y) : A2 r (vs.take n ++ [v] ++ vs.drop n) (xs.take n ++ [y] ++ xs.drop n) := A2.append (A2.append (A2.take n h) (.cons g .nil)) (A2.drop n h)
theorem line_ins {α : Type} {r : V → α → Prop} {vs : List V} {xs : List α} (h : A2 r vs xs) (g : xs.length < 100000) : vs.length < sizeLine := by
  rw [h.length]
  exact Nat.lt_of_lt_of_le g line5
/-- l.count(x), of data -/
def cntB {α : Type} [DecidableEq α] (xs : List α) (y : α) : Int := ((xs.countP fun z => decide (z = y) : Nat) : Int)
section
variable {X : Cx} {K : Fg}
theorem mt_countDt (hK : X.K = K) (α : Type) [Dat α] [DecidableEq α] (hd : Dat.dmax α ≤ 50) (hu : X.A.units + 65 < cLine) : MtR X "list.count" (fun x xs H Q => ∃ (a : Addr) (u : V) (ys : List α) (y : α), x = V.ref a ∧ xs = [u] ∧ rep K H (V.ref a) ys ∧ rep K H u y ∧ Q (.int (cntB ys y)) H) := by
  subst hK
  intro pins s σ H x xs v us Q I rx rxs ⟨a, y, ys, k, e1, e2, hs0, hy, q⟩
  subst e1 e2
  cases rx
  cases rxs with
  | cons ry rt =>
    rename_i uy ut
    cases rt
    have sl : SeqAt.shaped (.list (ys.map Dat.toD)) = true := shapedD (α := List α) (by show Dat.dmax α + 1 ≤ 60; omega) ys
    have sd : SeqAt.shaped (Dat.toD k) = true := shapedD (by omega) k
    have hl : Dp X.K H (V.ref a) (.list (ys.map Dat.toD)) := Dat.dp hs0
    obtain ⟨bs, r1⟩ := Dp.reads I (Dat.toD k) y uy (Dat.dp hy) ry
    have hxs : PyData.canLayAll0 (ys.map Dat.toD) = true := SeqAt.canLay_of_shaped sl
    have hroom : X.A.units + 1 + min (PyData.depthAll (ys.map Dat.toD)) (Dat.toD k).depth < cLine := PyProof.Rows.room_in_shaped sd hu
    cases hl with
    | lst hs ha =>
      obtain ⟨its, rv, ⟨⟨cls, dd, data, sls⟩, n, ho, hc, hdn, hdt⟩, hlen⟩ := I.list hs
      simp only at hc hdt
      subst hc hdt
      obtain ⟨as, h4⟩ := Dp.readsAll I _ _ its ha rv
      have hmap : its.map (SeqAt.readOf s.heap) = ys.map Dat.toD := SeqAt.readsAll_map _ its as hxs h4
      have hcount : its.toArray.toList.countP (fun u => PyData.eqv (SeqAt.readOf s.heap u) (Dat.toD k)) = ys.countP fun z => decide (z = k) := by
        have e1 : its.countP (fun u => PyData.eqv (SeqAt.readOf s.heap u) (Dat.toD k)) = (its.map (SeqAt.readOf s.heap)).countP fun z => PyData.eqv z (Dat.toD k) := by rw [List.countP_map]; rfl
        rw [List.toList_toArray, e1, hmap, List.countP_map]
        refine List.countP_congr fun z _ => ?_
        show PyData.eqv (Dat.toD z) (Dat.toD k) = true ↔ _
        rw [eqvD]
      refine call_meets PySem.F.slot_list_count ⟨_, ho, rfl⟩ PySem.F.entry_list_count (PySem.F.args_list_count_2 _ _)
        (SeqAt.list_countAt a its.toArray n dd sls uy (fun u => PyData.eqv (SeqAt.readOf s.heap u) (Dat.toD k))) ⟨ho, SeqAt.items_eqAt (vs := its.toArray) (show ReadsAll s.heap its.toArray.toList _ as from h4) r1 hxs (SeqAt.canLay_of_shaped sd) hroom, ?_⟩
      refine ⟨.int (cntB ys k), H, I.tok _, ⟨s.toks, ?_⟩, q⟩
      show Value.int ((its.toArray.toList.countP _ : Nat) : Int) s.toks = Value.int (cntB ys k) s.toks
      rw [hcount]
      rfl
end
end Z
namespace Z
open PySem L2
open Rep (rep)
/-- a dict that stays as it is -/
structure FzD (κ β : Type) where
  m : List (κ × β)
  deriving DecidableEq
instance repFD : Rep (FzD Int Int) := ⟨fun K H v d => ∃ a, v = .ref a ∧ H a = some (.dK (encM kI V.int d.m)), fun s ⟨a, e, q⟩ => ⟨a, e, s _ _ q⟩⟩
end Z
namespace Z
open PySem L2
open Rep (rep)
/-- a text as a key -/
def kS (s : Str) : Key := Sum.inr s
theorem kS_inj : ∀ a b, kS a = kS b → a = b := fun _ _ h => Sum.inr.inj h
theorem AD.merge {κ β : Type} [DecidableEq κ] {e : κ → Key} {r : V → β → Prop} (he : ∀ a b, e a = e b → a = b) : ∀ {more : List (Key × V)} {l : List (κ × β)}, AD e r more l → ∀ {kvs : List (Key × V)} {m : List (κ × β)}, AD e r kvs m → AD e r (mergeK kvs more) (l.foldl (fun m p => mput m p.1 p.2) m)
  | _, _, .nil, _, _, h => h
  | _, _, .cons a t, _, _, h => AD.merge he t (AD.put he h a)
theorem AD.mmk {κ β : Type} [DecidableEq κ] {e : κ → Key} {r : V → β → Prop} (he : ∀ a b, e a = e b → a = b) {more : List (Key × V)} {l : List (κ × β)} (h : AD e r more l) : AD e r (mergeK [] more) (Z.mmk l) := AD.merge he h .nil
theorem dgetsS {H : Hp} {a : Addr} {kvs : List (Key × V)} {s : Str} {v : V} (e : H a = some (.dK kvs)) (q : valV kvs (kS s) = some v) : DGet H a (.str s) (some v) := by
  have h : DGet H a (.str s) (valV kvs (kS s)) := DGet.k (k := kS s) e
  rw [q] at h
  exact h
end Z
namespace Z
open PySem L2
open Rep (rep)
section
variable {X : Cx} {K : Fg} {F H : Hp}
/-- isinstance(x, (b, c)) -/
theorem call_isBT (hK : X.K = K) : CallR X (.builtin "isinstance") (fun xs H Q => ∃ (x : V) (tp : Addr) (a b c : String) (r q : Bool), xs = [x, .ref tp] ∧ H tp = some (.tup [.ty b, .ty c]) ∧ TyOf K H x (.type a) ∧ kitB a b = some r ∧ kitB a c = some q ∧ Q (.bl (r || q)) H) := by
  subst hK
  intro pins s σ H xs us Q I rx ⟨x, tp, a, b, c, r, q, e, ht, h1, h2, h3, k⟩
  refine call_isiT pins s σ H xs us Q I rx ⟨x, tp, _, .type a, [.type b, .type c], r || q, e, ht, .cons (.ty b) (.cons (.ty c) .nil), .base h1, ?_, k⟩
  refine L2.kitAny_cons (L2.kit_ty h2) (fun e => ?_) fun e => by rw [e]; rfl
  rw [e, Bool.false_or]
  refine L2.kitAny_cons (L2.kit_ty h3) (fun e => ?_) fun e => e
  rw [e]
  exact L2.kitAny_nil
theorem th_it (s : Same F H) {v : V} {t : Thing} (r : rep K F v t) : ∃ a, TyOf K H v (.type a) ∧ kitB a "int" = some t.isPl ∧ kitB a "tuple" = some (!t.isPl) := by
  obtain ⟨a, h, z⟩ := th_ty s r
  rcases z with ⟨rfl, e⟩ | ⟨rfl, e⟩
  · exact ⟨_, h, by rw [e]; decide +kernel, by rw [e]; decide +kernel⟩
  · exact ⟨_, h, by rw [e]; decide +kernel, by rw [e]; decide +kernel⟩
theorem A2.some {α : Type} [Rep α] {vs : List V} {xs : List α} (h : A2 (rep K F) vs xs) : A2 (rep K F) vs (xs.map Option.some) := by
  induction h with
  | nil => exact .nil
  | cons a _ ih => exact .cons (rep_some a) ih
end
end Z
/-! ZM: lemmas about mirrors -/
namespace Z
open PySem L2
section
variable {α β γ : Type}
theorem foldR_inv {f : β → α → R β} (I : β → Prop) : ∀ {xs : List α} {s : β}, I s → (∀ s x, I s → x ∈ xs → ∃ s', f s x = R.ok s' ∧ I s') → ∃ s', foldR f s xs = R.ok s' ∧ I s'
  | [], s, h, _ => ⟨s, rfl, h⟩
  | x :: xs, s, h, hf => by
    obtain ⟨s', e, h'⟩ := hf s x h List.mem_cons_self
    obtain ⟨s2, e2, h2⟩ := foldR_inv I (xs := xs) (s := s') h' fun s y hs hy => hf s y hs (List.mem_cons_of_mem _ hy)
    exact ⟨s2, by show (f s x >>= fun s' => foldR f s' xs) = _; rw [e]; exact e2, h2⟩
/-- with how many items are gone through -/
theorem foldR_invN {f : β → α → R β} (I : Nat → β → Prop) : ∀ {xs : List α} {n : Nat} {s : β}, I n s → (∀ n s x, I n s → x ∈ xs → ∃ s', f s x = R.ok s' ∧ I (n + 1) s') → ∃ s', foldR f s xs = R.ok s' ∧ I (n + xs.length) s'
  | [], n, s, h, _ => ⟨s, rfl, h⟩
  | x :: xs, n, s, h, hf => by
    obtain ⟨s', e, h'⟩ := hf n s x h List.mem_cons_self
    obtain ⟨s2, e2, h2⟩ := foldR_invN I (xs := xs) (n := n + 1) (s := s') h' fun n s y hs hy => hf n s y hs (List.mem_cons_of_mem _ hy)
    refine ⟨s2, by show (f s x >>= fun s' => foldR f s' xs) = _; rw [e]; exact e2, ?_⟩
    rw [List.length_cons, show n + (xs.length + 1) = n + 1 + xs.length by omega]
    exact h2
theorem foldX_inv {ρ : Type} {f : β → α → R (Sum ρ (Bool × β))} (I : β → Prop) : ∀ {xs : List α} {s : β}, I s → (∀ s x, I s → x ∈ xs → ∃ s', f s x = R.ok (.inr (true, s')) ∧ I s') → ∃ s', foldX f s xs = R.ok (.inr s') ∧ I s'
  | [], s, h, _ => ⟨s, rfl, h⟩
  | x :: xs, s, h, hf => by
    obtain ⟨s', e, h'⟩ := hf s x h List.mem_cons_self
    obtain ⟨s2, e2, h2⟩ := foldX_inv I (xs := xs) (s := s') h' fun s y hs hy => hf s y hs (List.mem_cons_of_mem _ hy)
    refine ⟨s2, ?_, h2⟩
    show (f s x >>= fun r => match r with
      | .inl z => R.ok (.inl z)
      | .inr (true, s') => foldX f s' xs
      | .inr (false, s') => R.ok (.inr s')) = _
    rw [e]
    exact e2
/-- a search that never ends the whole -/
theorem foldX_unit {ρ : Type} {f : Unit → α → R (Sum ρ (Bool × Unit))} {xs : List α} (hf : ∀ x ∈ xs, f () x = R.ok (.inr (true, ()))) : foldX f () xs = R.ok (.inr ()) := by
  obtain ⟨s, e, _⟩ := foldX_inv (fun _ => True) (f := f) (xs := xs) (s := ()) trivial fun s x _ hx => ⟨(), hf x hx, trivial⟩
  exact e
theorem mapR_ok {f : α → R β} {g : α → β} : ∀ {xs : List α}, (∀ x ∈ xs, f x = R.ok (g x)) → mapR f xs = R.ok (xs.map g)
  | [], _ => rfl
  | x :: xs, h => by
    show (f x >>= fun y => mapR f xs >>= fun ys => R.ok (y :: ys)) = _
    rw [h x List.mem_cons_self, mapR_ok fun y hy => h y (List.mem_cons_of_mem _ hy)]
    rfl
theorem mapG_ok {f : α → R β} {g : α → β} {xs : List α} (hl : xs.length < 100000) (h : ∀ x ∈ xs, f x = R.ok (g x)) : mapG f xs = R.ok (xs.map g) := by
  unfold mapG
  rw [grd_t (decide_eq_true hl)]
  exact mapR_ok h
theorem mapR_ex {f : α → R β} (p : β → Prop) : ∀ {xs : List α}, (∀ x ∈ xs, ∃ y, f x = R.ok y ∧ p y) → ∃ ys, mapR f xs = R.ok ys ∧ ys.length = xs.length ∧ ∀ y ∈ ys, p y
  | [], _ => ⟨[], rfl, rfl, fun _ h => nomatch h⟩
  | x :: xs, h => by
    obtain ⟨y, e, hy⟩ := h x List.mem_cons_self
    obtain ⟨ys, e2, hl, hp⟩ := mapR_ex p fun y hy => h y (List.mem_cons_of_mem _ hy)
    refine ⟨y :: ys, ?_, by rw [List.length_cons, List.length_cons, hl], fun z hz => ?_⟩
    · show (f x >>= fun y => mapR f xs >>= fun ys => R.ok (y :: ys)) = _
      rw [e, e2]
      rfl
    · rcases List.mem_cons.mp hz with rfl | hz
      · exact hy
      · exact hp z hz
theorem mapG_ex {f : α → R β} (p : β → Prop) {xs : List α} (hl : xs.length < 100000) (h : ∀ x ∈ xs, ∃ y, f x = R.ok y ∧ p y) : ∃ ys, mapG f xs = R.ok ys ∧ ys.length = xs.length ∧ ∀ y ∈ ys, p y := by
  unfold mapG
  rw [grd_t (decide_eq_true hl)]
  exact mapR_ex p h
theorem filR_ok {f : α → R (Option β)} {g : α → Option β} : ∀ {xs : List α}, (∀ x ∈ xs, f x = R.ok (g x)) → filR f xs = R.ok (xs.filterMap g)
  | [], _ => rfl
  | x :: xs, h => by
    show (f x >>= fun o => filR f xs >>= fun ys => match o with
      | some y => R.ok (y :: ys)
      | none => R.ok ys) = _
    rw [h x List.mem_cons_self, filR_ok fun y hy => h y (List.mem_cons_of_mem _ hy)]
    show (match g x with
      | some y => R.ok (y :: xs.filterMap g)
      | none => R.ok (xs.filterMap g)) = R.ok ((x :: xs).filterMap g)
    rw [List.filterMap_cons]
    cases g x <;> rfl
theorem filG_ok {f : α → R (Option β)} {g : α → Option β} {xs : List α} (hl : xs.length < 100000) (h : ∀ x ∈ xs, f x = R.ok (g x)) : filG f xs = R.ok (xs.filterMap g) := by
  unfold filG
  rw [grd_t (decide_eq_true hl)]
  exact filR_ok h
theorem getI_nat {xs : List α} {i : Int} (h0 : 0 ≤ i) (h1 : i < xs.length) : ∃ x, getI xs i = R.ok x ∧ x ∈ xs ∧ xs[i.toNat]? = some x := by
  have hj : i.toNat < xs.length := by omega
  refine ⟨xs[i.toNat], ?_, List.getElem_mem hj, List.getElem?_eq_getElem hj⟩
  unfold getI
  have e : atI xs i = some xs[i.toNat] := by
    have := atI_nat (xs := xs) (j := i.toNat) (v := xs[i.toNat]) (List.getElem?_eq_getElem hj)
    rw [Int.toNat_of_nonneg h0] at this
    exact this
  rw [e]
  rfl
theorem getI_eq {xs : List α} {i : Int} {x : α} (h0 : 0 ≤ i) (h : xs[i.toNat]? = some x) : getI xs i = R.ok x := by
  have h1 := (List.getElem?_eq_some_iff.mp h).1
  obtain ⟨y, e, _, e2⟩ := getI_nat (xs := xs) (i := i) h0 (by omega)
  rw [h] at e2
  cases e2
  exact e
theorem getI_last {xs : List α} (x : α) : getI (xs ++ [x]) (-1) = R.ok x := by
  unfold getI
  rw [atI_last]
  rfl
theorem setI_nat {xs : List α} {i : Int} {x : α} (h0 : 0 ≤ i) (h1 : i < xs.length) : setI xs i x = R.ok (xs.set i.toNat x) := by
  have e : ixN xs.length i = some i.toNat := by
    unfold ixN
    rw [if_pos h0, if_pos h1]
  unfold setI
  rw [e]
theorem app_ok {xs : List α} {x : α} (h : xs.length < 100000) : app xs x = R.ok (xs ++ [x]) := by
  unfold app
  rw [if_pos h]
theorem extend_ok {xs ys : List α} (h : xs.length + ys.length < 100000) : extend xs ys = R.ok (xs ++ ys) := by
  unfold extend
  rw [if_pos h]
theorem modI_ok {i j : Int} (h : 0 < j) : modI i j = R.ok (i % j) := by
  unfold modI
  rw [if_pos h]
theorem divI_okW {i j : Int} (h : 0 < j) (h2 : j.natAbs.log2 < 9000) : divI i j = R.ok (i / j) := by
  unfold divI
  rw [if_pos ⟨h, h2⟩]
theorem divI_ok {i j : Int} (h : 0 < j) (h2 : j < 1073741824) : divI i j = R.ok (i / j) := by
  refine divI_okW h (Nat.lt_of_lt_of_le ((Nat.log2_lt (by omega)).mpr (show j.natAbs < 2 ^ 30 by omega)) (by decide))
theorem mulI_ok {i j : Int} (h : (-(2 ^ 64) < i ∧ i < 2 ^ 64) ∨ (-(2 ^ 64) < j ∧ j < 2 ^ 64)) : mulI i j = R.ok (i * j) := by
  unfold mulI
  rw [if_pos h]
theorem rngI_ok {i j : Int} (h1 : -(2 ^ 62) ≤ i) (h2 : i < 2 ^ 62) (h3 : -(2 ^ 62) ≤ j) (h4 : j < 2 ^ 62) : rngI i j = R.ok (rng i j) := by
  unfold rngI
  rw [if_pos ⟨h1, h2, h3, h4⟩]
theorem rng_mem {i j k : Int} : k ∈ rng i j ↔ i ≤ k ∧ k < j := by
  unfold rng
  rw [List.mem_map]
  constructor
  · rintro ⟨n, hn, rfl⟩
    have := List.mem_range.mp hn
    omega
  · intro h
    exact ⟨(k - i).toNat, List.mem_range.mpr (by omega), by omega⟩
/-! ### what holds of a result, step by step -/
section
variable {P Q : α → Prop} {S : β → Prop} {X : Exn → Prop}
theorem po_bind {m : R α} {k : α → R β} (h : Post m Q X) (hk : ∀ a, Q a → Post (k a) S X) : Post (m >>= k) S X := by
  cases m with
  | ok a => exact hk a h
  | exc e => exact h
  | bad => exact h
theorem po_ok {a : α} (h : P a) : Post (R.ok a) P X := h
theorem po_eq {m : R α} {a : α} (h : m = R.ok a) (hp : P a) : Post m P X := by
  rw [h]
  exact hp
theorem po_if {c : Prop} [Decidable c] {m n : R α} (h1 : c → Post m P X) (h2 : ¬ c → Post n P X) : Post (if c then m else n) P X := by
  by_cases h : c
  · rw [if_pos h]
    exact h1 h
  · rw [if_neg h]
    exact h2 h
theorem po_ex {m : R α} (h : Post m P noX) : ∃ a, m = R.ok a ∧ P a := by
  cases m with
  | ok a => exact ⟨a, rfl, h⟩
  | exc e => exact (show False from h).elim
  | bad => exact (show False from h).elim
theorem po_iff {m : R α} {a : α} (h : Post m (· = a) noX) : m = R.ok a := by
  obtain ⟨b, e, rfl⟩ := po_ex h
  exact e
theorem po_grd {b : Bool} {k : Unit → R β} (h : b = true) (hk : Post (k ()) S X) : Post (grd b >>= k) S X := by
  rw [grd_t h]
  exact hk
theorem po_get {xs : List α} {i : Int} {k : α → R β} (h0 : 0 ≤ i) (h1 : i < xs.length) (hk : ∀ x, x ∈ xs → xs[i.toNat]? = some x → Post (k x) S X) : Post (getI xs i >>= k) S X := by
  obtain ⟨x, e, h2, h3⟩ := getI_nat h0 h1
  rw [e]
  exact hk x h2 h3
theorem po_getE {xs : List α} {i : Int} {x : α} {k : α → R β} (h : getI xs i = R.ok x) (hk : Post (k x) S X) : Post (getI xs i >>= k) S X := by
  rw [h]
  exact hk
theorem po_last {xs : List α} {k : α → R β} (h : xs ≠ []) (hk : ∀ x, x ∈ xs → Post (k x) S X) : Post (getI xs (-1) >>= k) S X := by
  obtain ⟨ys, y, rfl⟩ : ∃ ys y, xs = ys ++ [y] := ⟨xs.dropLast, xs.getLast h, (List.dropLast_concat_getLast h).symm⟩
  rw [getI_last]
  exact hk y (List.mem_append_right _ List.mem_cons_self)
theorem po_set {xs : List α} {i : Int} {x : α} {k : List α → R β} (h0 : 0 ≤ i) (h1 : i < xs.length) (hk : Post (k (xs.set i.toNat x)) S X) : Post (setI xs i x >>= k) S X := by
  rw [setI_nat h0 h1]
  exact hk
theorem po_app {xs : List α} {x : α} {k : List α → R β} (h : xs.length < 100000) (hk : Post (k (xs ++ [x])) S X) : Post (app xs x >>= k) S X := by
  rw [app_ok h]
  exact hk
theorem po_extend {xs ys : List α} {k : List α → R β} (h : xs.length + ys.length < 100000) (hk : Post (k (xs ++ ys)) S X) : Post (extend xs ys >>= k) S X := by
  rw [extend_ok h]
  exact hk
theorem po_mod {i j : Int} {k : Int → R β} (h : 0 < j) (hk : 0 ≤ i % j → i % j < j → Post (k (i % j)) S X) : Post (modI i j >>= k) S X := by
  rw [modI_ok h]
  exact hk (Int.emod_nonneg _ (by omega)) (Int.emod_lt_of_pos _ h)
theorem po_div {i j : Int} {k : Int → R β} (h : 0 < j) (h2 : j < 1073741824) (hk : Post (k (i / j)) S X) : Post (divI i j >>= k) S X := by
  rw [divI_ok h h2]
  exact hk
theorem po_divW {i j : Int} {k : Int → R β} (h : 0 < j) (h2 : j.natAbs.log2 < 9000) (hk : Post (k (i / j)) S X) : Post (divI i j >>= k) S X := by
  rw [divI_okW h h2]
  exact hk
theorem po_mul {i j : Int} {k : Int → R β} (h : (-(2 ^ 64) < i ∧ i < 2 ^ 64) ∨ (-(2 ^ 64) < j ∧ j < 2 ^ 64)) (hk : Post (k (i * j)) S X) : Post (mulI i j >>= k) S X := by
  rw [mulI_ok h]
  exact hk
theorem po_rng {i j : Int} {k : List Int → R β} (h1 : -(2 ^ 62) ≤ i) (h2 : i < 2 ^ 62) (h3 : -(2 ^ 62) ≤ j) (h4 : j < 2 ^ 62) (hk : Post (k (rng i j)) S X) : Post (rngI i j >>= k) S X := by
  rw [rngI_ok h1 h2 h3 h4]
  exact hk
theorem po_fold {f : β → α → R β} {s : β} {xs : List α} (I : β → Prop) (h0 : I s) (hf : ∀ s x, I s → x ∈ xs → Post (f s x) I X) : Post (foldR f s xs) I X := by
  induction xs generalizing s with
  | nil => exact h0
  | cons x xs ih =>
    show Post (f s x >>= fun s' => foldR f s' xs) I X
    exact po_bind (hf s x h0 List.mem_cons_self) fun s' h' => ih h' fun s y hs hy => hf s y hs (List.mem_cons_of_mem _ hy)
/-- .. with the number of turns gone -/
theorem po_foldN {f : β → α → R β} {s : β} {xs : List α} (I : Nat → β → Prop) (h0 : I 0 s) (hf : ∀ n s x, n < xs.length → I n s → xs[n]? = some x → Post (f s x) (I (n + 1)) X) : Post (foldR f s xs) (I xs.length) X := by
  have key : ∀ (l : List α) (n : Nat) (s : β), xs.drop n = l → n ≤ xs.length → I n s → Post (foldR f s l) (I xs.length) X := by
    intro l
    induction l with
    | nil =>
      intro n s e hn h
      have : xs.length ≤ n := by
        have := congrArg List.length e
        rw [List.length_drop, List.length_nil] at this
        omega
      rw [show xs.length = n by omega]
      exact h
    | cons x l ih =>
      intro n s e hn h
      have hlt : n < xs.length := by
        have := congrArg List.length e
        rw [List.length_drop, List.length_cons] at this
        omega
      have e1 : xs[n] :: xs.drop (n + 1) = x :: l := (List.drop_eq_getElem_cons hlt).symm.trans e
      injection e1 with e2 e3
      show Post (f s x >>= fun s' => foldR f s' l) _ X
      exact po_bind (hf n s x hlt h (by rw [List.getElem?_eq_getElem hlt, e2])) fun s' h' => ih (n + 1) s' e3 (by omega) h'
  exact key xs 0 s rfl (Nat.zero_le _) h0
theorem po_foldX {ρ : Type} {f : β → α → R (Sum ρ (Bool × β))} {s : β} {xs : List α} (I : β → Prop) (h0 : I s) (hf : ∀ s x, I s → x ∈ xs → Post (f s x) (fun r => ∃ s', r = .inr (true, s') ∧ I s') X) : Post (foldX f s xs) (fun r => ∃ s', r = .inr s' ∧ I s') X := by
  induction xs generalizing s with
  | nil => exact ⟨s, rfl, h0⟩
  | cons x xs ih =>
    refine po_bind (S := fun r => ∃ s', r = Sum.inr s' ∧ I s') (k := fun r => match r with
      | .inl z => (R.ok (.inl z) : R (Sum ρ β))
      | .inr (true, s') => foldX f s' xs
      | .inr (false, s') => R.ok (.inr s')) (hf s x h0 List.mem_cons_self) fun r hr => ?_
    obtain ⟨s', rfl, h'⟩ := hr
    exact ih h' fun s y hs hy => hf s y hs (List.mem_cons_of_mem _ hy)
theorem po_mapG {f : α → R β} {xs : List α} (p : β → Prop) (hl : xs.length < 100000) (hf : ∀ x ∈ xs, Post (f x) p X) : Post (mapG f xs) (fun ys => ys.length = xs.length ∧ ∀ y ∈ ys, p y) X := by
  unfold mapG
  rw [grd_t (decide_eq_true hl)]
  show Post (mapR f xs) _ X
  clear hl
  induction xs with
  | nil => exact ⟨rfl, fun _ h => nomatch h⟩
  | cons x xs ih =>
    show Post (f x >>= fun y => mapR f xs >>= fun ys => R.ok (y :: ys)) _ X
    refine po_bind (hf x List.mem_cons_self) fun y hy => po_bind (ih fun z hz => hf z (List.mem_cons_of_mem _ hz)) fun ys ⟨h1, h2⟩ => ?_
    refine ⟨by rw [List.length_cons, List.length_cons, h1], fun z hz => ?_⟩
    rcases List.mem_cons.mp hz with rfl | hz
    · exact hy
    · exact h2 z hz
end
theorem cut_head (xs : List α) : cutL xs none (some 1) = xs.take 1 := by
  unfold cutL
  have e : HT.sIx xs.length xs.length (some 1) = min 1 xs.length := HT.sIx_nat xs.length xs.length 1
  have e0 : HT.sIx xs.length 0 none = 0 := rfl
  rw [e, e0, List.drop_zero]
  cases xs with
  | nil => rfl
  | cons x xs => simp
theorem cut_last (xs : List α) : cutL xs (some (-1)) none = xs.drop (xs.length - 1) := by
  unfold cutL
  have e : HT.sIx xs.length 0 (some (-1)) = xs.length - 1 := by
    unfold HT.sIx
    simp only [show ((-1 : Int) < 0) = True from eq_true (by decide), if_true]
    omega
  have e0 : HT.sIx xs.length xs.length none = xs.length := rfl
  rw [e, e0]
  refine List.take_of_length_le ?_
  rw [List.length_drop]
  exact Nat.le_refl _
end
section
variable {α β γ : Type} {X : Exn → Prop}
theorem po_mapStN {f : γ → α → R (β × γ)} {s : γ} {xs : List α} (I : Nat → γ → Prop) (p : β → Prop) (hl : xs.length < 100000) (h0 : I 0 s) (hf : ∀ n s x, n < xs.length → I n s → xs[n]? = some x → Post (f s x) (fun r => p r.1 ∧ I (n + 1) r.2) X) :
    Post (mapStG f s xs) (fun r => r.1.length = xs.length ∧ (∀ y ∈ r.1, p y) ∧ I xs.length r.2) X := by
  unfold mapStG
  rw [grd_t (decide_eq_true hl), ok_bind]
  clear hl
  have key : ∀ (l : List α) (n : Nat) (s : γ), xs.drop n = l → n ≤ xs.length → I n s → Post (mapSt f s l) (fun r => r.1.length = l.length ∧ (∀ y ∈ r.1, p y) ∧ I xs.length r.2) X := by
    intro l
    induction l with
    | nil =>
      intro n s e hn h
      have : xs.length ≤ n := by
        have := congrArg List.length e
        rw [List.length_drop, List.length_nil] at this
        omega
      rw [show n = xs.length by omega] at h
      exact ⟨rfl, by intro y hy; exact absurd hy List.not_mem_nil, h⟩
    | cons x l ih =>
      intro n s e hn h
      have hlt : n < xs.length := by
        have := congrArg List.length e
        rw [List.length_drop, List.length_cons] at this
        omega
      have e1 : xs[n] :: xs.drop (n + 1) = x :: l := (List.drop_eq_getElem_cons hlt).symm.trans e
      injection e1 with e2 e3
      refine po_bind (hf n s x hlt h (by rw [List.getElem?_eq_getElem hlt, e2])) fun r ⟨h1, h2⟩ => po_bind (ih (n + 1) r.2 e3 (by omega) h2) fun q ⟨h3, h4, h5⟩ => ?_
      refine ⟨by rw [List.length_cons, List.length_cons, h3], fun y hy => ?_, h5⟩
      rcases List.mem_cons.mp hy with rfl | hy
      · exact h1
      · exact h4 y hy
  exact key xs 0 s rfl (Nat.zero_le _) h0
end
section
variable {α : Type}
theorem cut_take (xs : List α) (n : Nat) : cutL xs none (some (n : Int)) = xs.take n := by
  unfold cutL
  have e : HT.sIx xs.length xs.length (some (n : Int)) = min n xs.length := HT.sIx_nat xs.length xs.length n
  have e0 : HT.sIx xs.length 0 none = 0 := rfl
  rw [e, e0, List.drop_zero, Nat.sub_zero]
  by_cases h : n ≤ xs.length
  · rw [Nat.min_eq_left h]
  · rw [Nat.min_eq_right (by omega), List.take_of_length_le (Nat.le_refl _), List.take_of_length_le (by omega)]
theorem cut_mid (xs : List α) (m n : Nat) : cutL xs (some (m : Int)) (some (n : Int)) = (xs.drop m).take (n - m) := by
  unfold cutL
  have e : HT.sIx xs.length xs.length (some (n : Int)) = min n xs.length := HT.sIx_nat xs.length xs.length n
  have e0 : HT.sIx xs.length 0 (some (m : Int)) = min m xs.length := HT.sIx_nat xs.length 0 m
  rw [e, e0]
  by_cases h : m ≤ xs.length
  · rw [Nat.min_eq_left h]
    by_cases h2 : n ≤ xs.length
    · rw [Nat.min_eq_left h2]
    · rw [Nat.min_eq_right (by omega), List.take_of_length_le (by rw [List.length_drop]; exact Nat.le_refl _), List.take_of_length_le (by rw [List.length_drop]; omega)]
  · rw [List.drop_of_length_le (by omega), List.drop_of_length_le (by omega), List.take_nil, List.take_nil]
end
/-! ### dicts -/
section
variable {κ β : Type} [DecidableEq κ]
theorem mhas_iff {m : List (κ × β)} {k : κ} : mhas m k = true ↔ ∃ p ∈ m, p.1 = k := by
  unfold mhas
  rw [List.any_eq_true]
  constructor
  · rintro ⟨p, h, e⟩
    exact ⟨p, h, of_decide_eq_true e⟩
  · rintro ⟨p, h, e⟩
    exact ⟨p, h, decide_eq_true e⟩
theorem mput_new {m : List (κ × β)} {k : κ} {v : β} (h : mhas m k = false) : mput m k v = m ++ [(k, v)] := by
  unfold mput
  have h' : (m.any fun p => decide (p.1 = k)) = false := h
  rw [h', if_neg (by decide)]
theorem mput_old {m : List (κ × β)} {k : κ} {v : β} (h : mhas m k = true) : mput m k v = m.map (fun p => if p.1 = k then (p.1, v) else p) := by
  unfold mput
  have h' : (m.any fun p => decide (p.1 = k)) = true := h
  rw [h', if_pos rfl]
theorem mput_keys {m : List (κ × β)} {k j : κ} {v : β} : (∃ p ∈ mput m k v, p.1 = j) ↔ (j = k ∨ ∃ p ∈ m, p.1 = j) := by
  cases h : mhas m k with
  | false =>
    rw [mput_new h]
    constructor
    · rintro ⟨p, hp, rfl⟩
      rcases List.mem_append.mp hp with hp | hp
      · exact .inr ⟨p, hp, rfl⟩
      · rw [List.mem_singleton] at hp
        exact .inl (by rw [hp])
    · rintro (rfl | ⟨p, hp, rfl⟩)
      · exact ⟨(j, v), List.mem_append_right _ List.mem_cons_self, rfl⟩
      · exact ⟨p, List.mem_append_left _ hp, rfl⟩
  | true =>
    rw [mput_old h]
    have fst : ∀ p : κ × β, (if p.1 = k then (p.1, v) else p).1 = p.1 := fun p => by split <;> rfl
    constructor
    · rintro ⟨p, hp, rfl⟩
      obtain ⟨q, hq, rfl⟩ := List.mem_map.mp hp
      rw [fst]
      exact .inr ⟨q, hq, rfl⟩
    · rintro (rfl | ⟨p, hp, rfl⟩)
      · obtain ⟨p, hp, e⟩ := mhas_iff.mp h
        exact ⟨_, List.mem_map.mpr ⟨p, hp, rfl⟩, by rw [fst]; exact e⟩
      · exact ⟨_, List.mem_map.mpr ⟨p, hp, rfl⟩, fst p⟩
theorem mput_length {m : List (κ × β)} {k : κ} {v : β} : (mput m k v).length = m.length + if mhas m k = true then 0 else 1 := by
  cases h : mhas m k with
  | false =>
    rw [mput_new h, List.length_append]
    rfl
  | true =>
    rw [mput_old h, List.length_map]
    rfl
theorem po_mput {δ : Type} {m : List (κ × β)} {k : κ} {v : β} {f : List (κ × β) → R δ} {S : δ → Prop} {X : Exn → Prop} (h : m.length < 100000) (hk : Post (f (mput m k v)) S X) : Post (mputR m k v >>= f) S X := by
  unfold mputR
  rw [if_pos h]
  exact hk
end
end Z
/-! ZG: webs: joined, how far; no program in sight -/
namespace Z
open PySem L2
/-! ### more steps -/
section
variable {α β γ δ : Type} {P Q : α → Prop} {S : β → Prop} {X : Exn → Prop}
/-- a fold, by what is gone through -/
theorem po_foldP {f : β → α → R β} {s : β} {xs : List α} (I : List α → β → Prop) (h0 : I [] s) (hf : ∀ pre s x post, xs = pre ++ x :: post → I pre s → Post (f s x) (I (pre ++ [x])) X) : Post (foldR f s xs) (I xs) X := by
  have key : ∀ (l pre : List α) (s : β), xs = pre ++ l → I pre s → Post (foldR f s l) (I xs) X := by
    intro l
    induction l with
    | nil =>
      intro pre s e h
      rw [List.append_nil] at e
      rw [e]
      exact h
    | cons x l ih =>
      intro pre s e h
      show Post (f s x >>= fun s' => foldR f s' l) _ X
      exact po_bind (hf pre s x l e h) fun s' h' => ih (pre ++ [x]) s' (by rw [e, List.append_assoc]; rfl) h'
  exact key xs [] s rfl h0
/-- items for items with a state, by what is made -/
theorem po_mapStA {f : γ → α → R (β × γ)} {s : γ} {xs : List α} (I : List α → List β → γ → Prop) (hl : xs.length < 100000) (h0 : I [] [] s)
    (hf : ∀ pre acc s x post, xs = pre ++ x :: post → I pre acc s → Post (f s x) (fun r => I (pre ++ [x]) (acc ++ [r.1]) r.2) X) : Post (mapStG f s xs) (fun r => I xs r.1 r.2) X := by
  unfold mapStG
  rw [grd_t (decide_eq_true hl), ok_bind]
  have key : ∀ (l pre : List α) (acc : List β) (s : γ), xs = pre ++ l → I pre acc s → Post (mapSt f s l) (fun r => I xs (acc ++ r.1) r.2) X := by
    intro l
    induction l with
    | nil =>
      intro pre acc s e h
      rw [List.append_nil] at e
      show I xs (acc ++ []) s
      rw [List.append_nil, e]
      exact h
    | cons x l ih =>
      intro pre acc s e h
      refine po_bind (hf pre acc s x l e h) fun r hr => po_bind (ih (pre ++ [x]) (acc ++ [r.1]) r.2 (by rw [e, List.append_assoc]; rfl) hr) fun q hq => ?_
      show I xs (acc ++ (r.1 :: q.1)) q.2
      rw [List.append_assoc] at hq
      exact hq
  exact key xs [] [] s rfl h0
theorem po_mapGE {f : α → R β} {g : α → β} {xs : List α} {k : List β → R γ} {T : γ → Prop} (hl : xs.length < 100000) (h : ∀ x ∈ xs, f x = R.ok (g x)) (hk : Post (k (xs.map g)) T X) : Post (mapG f xs >>= k) T X := by
  rw [mapG_ok hl h]
  exact hk
theorem po_filGE {f : α → R (Option β)} {g : α → Option β} {xs : List α} {k : List β → R γ} {T : γ → Prop} (hl : xs.length < 100000) (h : ∀ x ∈ xs, f x = R.ok (g x)) (hk : Post (k (xs.filterMap g)) T X) : Post (filG f xs >>= k) T X := by
  rw [filG_ok hl h]
  exact hk
/-- a while: an invariant, a measure -/
theorem po_while {c : γ → R Bool} {b : γ → R γ} {T : γ → Prop} (I : γ → Prop) (μ : γ → Nat)
    (hs : ∀ s, I s → Post (c s) (fun t => (t = true → Post (b s) (fun s' => I s' ∧ μ s' < μ s) X) ∧ (t = false → T s)) X) : ∀ {n : Nat} {s : γ}, I s → μ s < n → Post (whileR c b n s) T X
  | 0, s, _, h => absurd h (Nat.not_lt_zero _)
  | n + 1, s, hi, h => by
    refine po_bind (hs s hi) fun t ⟨h1, h2⟩ => ?_
    cases t with
    | false => exact h2 rfl
    | true => exact po_bind (h1 rfl) fun s' ⟨a, d⟩ => po_while I μ hs a (by omega)
theorem po_getS {st : List (List α)} {j : Nat} {xs : List α} {k : List α → R γ} {T : γ → Prop} (h : st[j]? = some xs) (hk : Post (k xs) T X) : Post (getS st j >>= k) T X := by
  unfold getS
  rw [h]
  exact hk
theorem po_setS {st : List (List α)} {j : Nat} {xs : List α} {k : List (List α) → R γ} {T : γ → Prop} (hk : Post (k (st.set j xs)) T X) : Post (setS st j xs >>= k) T X := hk
theorem po_newS {st : List (List α)} {xs : List α} {k : Nat × List (List α) → R γ} {T : γ → Prop} (hk : Post (k (st.length, st ++ [xs])) T X) : Post (newS st xs >>= k) T X := hk
theorem po_listRng {i j : Int} {k : List Int → R γ} {T : γ → Prop} (h1 : -(2 ^ 62) ≤ i) (h2 : i < 2 ^ 62) (h3 : -(2 ^ 62) ≤ j) (h4 : j < 2 ^ 62) (h5 : (j - i).toNat ≤ 100000) (hk : Post (k (rng i j)) T X) : Post (listRng i j >>= k) T X := by
  unfold listRng
  rw [if_pos ⟨h1, h2, h3, h4, h5⟩]
  exact hk
theorem po_rep {xs : List α} {i : Int} {k : List α → R γ} {T : γ → Prop} (h1 : 0 ≤ i) (h2 : i < 1000) (h3 : xs.length < 100) (hk : Post (k (repL xs i)) T X) : Post (repR xs i >>= k) T X := by
  unfold repR
  have h4 : xs.length * i.toNat ≤ 100 * 1000 := Nat.mul_le_mul (by omega) (by omega)
  have h5 : xs.length * i.toNat < 100000 := by
    have h6 : xs.length * i.toNat ≤ 99 * 999 := Nat.mul_le_mul (by omega) (by omega)
    omega
  rw [if_pos ⟨by omega, by omega, h5⟩]
  exact hk
theorem po_ofO {o : Option α} {x : α} {k : α → R γ} {T : γ → Prop} (h : o = some x) (hk : Post (k x) T X) : Post (ofO o >>= k) T X := by
  rw [h]
  exact hk
theorem po_mgetE {κ : Type} [DecidableEq κ] {m : List (κ × α)} {j : κ} {x : α} {k : α → R γ} {T : γ → Prop} (h : mget m j = some x) (hk : Post (k x) T X) : Post (mgetR m j >>= k) T X := po_ofO h hk
theorem po_popB {xs : List α} {i : Int} {k : α × List α → R γ} {T : γ → Prop} (h0 : 0 ≤ i) (h1 : i < xs.length) (h2 : i < 2 ^ 62) (hk : ∀ x, xs[i.toNat]? = some x → Post (k (x, xs.eraseIdx i.toNat)) T X) : Post (popB xs i >>= k) T X := by
  have hj : i.toNat < xs.length := by omega
  have e : popB xs i = R.ok (xs[i.toNat], xs.eraseIdx i.toNat) := by
    unfold popB popAt
    rw [if_pos (by omega)]
    have ei : ixN xs.length i = some i.toNat := by
      unfold ixN
      rw [if_pos h0, if_pos h1]
    rw [ei]
    dsimp only
    rw [List.getElem?_eq_getElem hj]
  rw [e]
  exact hk _ (List.getElem?_eq_getElem hj)
end
theorem rng_len {n : Int} (h : 0 ≤ n) : ((rng 0 n).length : Int) = n := by
  rw [rng_length]
  omega
theorem rng_atE {i j : Int} {k : Nat} (h : k < (j - i).toNat) : (rng i j)[k]? = some (i + k) := rng_get h
theorem rng_nodup (i j : Int) : (rng i j).Nodup := by
  unfold rng
  refine List.Pairwise.map _ (fun a b h => ?_) List.nodup_range
  intro e
  exact h (by omega)
theorem rng_pre {i j x : Int} {pre post : List Int} (h : rng i j = pre ++ x :: post) : x = i + pre.length := by
  have h1 : (rng i j)[pre.length]? = some x := by rw [h]; simp
  have hl : pre.length < (rng i j).length := by rw [h]; simp
  rw [rng_length] at hl
  rw [rng_atE hl] at h1
  cases h1
  rfl
theorem rng_split {i j x : Int} {pre post : List Int} (h : rng i j = pre ++ x :: post) : pre = rng i x ∧ i ≤ x ∧ x < j := by
  have e := rng_pre h
  have hl : (rng i j).length = pre.length + (post.length + 1) := by rw [h]; simp
  rw [rng_length] at hl
  refine ⟨?_, by omega, by omega⟩
  apply List.ext_getElem?
  intro k
  by_cases hk : k < pre.length
  · have h1 : (rng i j)[k]? = pre[k]? := by rw [h, List.getElem?_append_left hk]
    rw [← h1, rng_atE (by omega), rng_atE (by omega)]
  · rw [List.getElem?_eq_none (by omega), List.getElem?_eq_none (by rw [rng_length]; omega)]
theorem rng_snoc {i j : Int} (h : i ≤ j) : rng i (j + 1) = rng i j ++ [j] := by
  apply List.ext_getElem?
  intro k
  by_cases hk : k < (j - i).toNat
  · rw [List.getElem?_append_left (by rw [rng_length]; exact hk), rng_atE hk, rng_atE (by omega)]
  · by_cases hk2 : k = (j - i).toNat
    · rw [List.getElem?_append_right (by rw [rng_length]; omega), rng_atE (by omega), rng_length, hk2]
      simp
      omega
    · rw [List.getElem?_eq_none (by rw [rng_length]; omega), List.getElem?_eq_none (by rw [List.length_append, rng_length]; simp; omega)]
/-! ### joined -/
def Adj (ts : List (Int × Int)) (a b : Int) : Prop := (a, b) ∈ ts ∨ (b, a) ∈ ts
theorem Adj.symm {ts : List (Int × Int)} {a b : Int} (h : Adj ts a b) : Adj ts b a := h.elim .inr .inl
/-- what holds of a place and goes along all ties holds of all places -/
def Conn (n : Int) (ts : List (Int × Int)) : Prop := ∀ S : Int → Prop, S 0 → (∀ p ∈ ts, S p.1 ↔ S p.2) → ∀ k, 0 ≤ k → k < n → S k
theorem Conn.any {n : Int} {ts : List (Int × Int)} (h : Conn n ts) {S : Int → Prop} {r : Int} (r0 : 0 ≤ r) (r1 : r < n) (hr : S r) (hc : ∀ p ∈ ts, S p.1 ↔ S p.2) : ∀ k, 0 ≤ k → k < n → S k := by
  by_cases h0 : S 0
  · exact h S h0 hc
  · exact absurd hr (h (fun k => ¬ S k) h0 (fun p hp => not_congr (hc p hp)) r r0 r1)
theorem Conn.mono {n : Int} {ts us : List (Int × Int)} (h : Conn n ts) (hs : ∀ p ∈ ts, p ∈ us) : Conn n us := fun S h0 hc => h S h0 fun p hp => hc p (hs p hp)
theorem conn_tree {n : Int} {ts : List (Int × Int)} (h : ∀ k, 1 ≤ k → k < n → ∃ j, 0 ≤ j ∧ j < k ∧ Adj ts j k) : Conn n ts := by
  intro S h0 hc
  have key : ∀ (m : Nat) (k : Int), k.toNat ≤ m → 0 ≤ k → k < n → S k := by
    intro m
    induction m with
    | zero =>
      intro k hk k0 _
      rw [show k = 0 by omega]
      exact h0
    | succ m ih =>
      intro k hk k0 k1
      by_cases hz : k = 0
      · rw [hz]; exact h0
      · obtain ⟨j, j0, jk, hj⟩ := h k (by omega) k1
        have hj' := ih j (by omega) j0 (by omega)
        rcases hj with hj | hj
        · exact (hc _ hj).mp hj'
        · exact (hc _ hj).mpr hj'
  exact fun k k0 k1 => key k.toNat k (Nat.le_refl _) k0 k1
/-! ### how far -/
structure IsDist (n : Int) (ts : List (Int × Int)) (p : Int) (f : Int → Int) : Prop where
  zero : f p = 0
  nn : ∀ v, 0 ≤ v → v < n → 0 ≤ f v
  lip : ∀ a b, Adj ts a b → f b ≤ f a + 1
  desc : ∀ v, 0 ≤ v → v < n → v ≠ p → ∃ w, 0 ≤ w ∧ w < n ∧ Adj ts w v ∧ f w + 1 = f v
theorem IsDist.le {n : Int} {ts : List (Int × Int)} {p : Int} {f g : Int → Int} (hf : IsDist n ts p f) (hg : IsDist n ts p g) : ∀ v, 0 ≤ v → v < n → f v ≤ g v := by
  have key : ∀ (m : Nat) (v : Int), (g v).toNat ≤ m → 0 ≤ v → v < n → f v ≤ g v := by
    intro m
    induction m with
    | zero =>
      intro v hm v0 v1
      by_cases hv : v = p
      · rw [hv, hf.zero, hg.zero]; exact Int.le_refl _
      · obtain ⟨w, w0, w1, _, e⟩ := hg.desc v v0 v1 hv
        have := hg.nn w w0 w1
        omega
    | succ m ih =>
      intro v hm v0 v1
      by_cases hv : v = p
      · rw [hv, hf.zero, hg.zero]; exact Int.le_refl _
      · obtain ⟨w, w0, w1, ha, e⟩ := hg.desc v v0 v1 hv
        have h1 := hg.nn w w0 w1
        have h2 := ih w (by omega) w0 w1
        have h3 := hf.lip w v ha
        omega
  exact fun v v0 v1 => key _ v (Nat.le_refl _) v0 v1
theorem IsDist.uniq {n : Int} {ts : List (Int × Int)} {p : Int} {f g : Int → Int} (hf : IsDist n ts p f) (hg : IsDist n ts p g) (v : Int) (v0 : 0 ≤ v) (v1 : v < n) : f v = g v :=
  Int.le_antisymm (hf.le hg v v0 v1) (hg.le hf v v0 v1)
theorem IsDist.level {n : Int} {ts : List (Int × Int)} {p : Int} {f : Int → Int} (hf : IsDist n ts p f) : ∀ (m : Nat) (v : Int), 0 ≤ v → v < n → (f v).toNat = m → ∀ k : Nat, k ≤ m → ∃ w, 0 ≤ w ∧ w < n ∧ f w = k := by
  intro m
  induction m with
  | zero =>
    intro v v0 v1 e k hk
    have := hf.nn v v0 v1
    exact ⟨v, v0, v1, by omega⟩
  | succ m ih =>
    intro v v0 v1 e k hk
    have hv := hf.nn v v0 v1
    by_cases hk2 : k = m + 1
    · exact ⟨v, v0, v1, by omega⟩
    · have hne : v ≠ p := by
        intro e2
        rw [e2, hf.zero] at e
        simp at e
      obtain ⟨w, w0, w1, _, e2⟩ := hf.desc v v0 v1 hne
      exact ih w w0 w1 (by omega) k (by omega)
/-- no place is as far as there are places -/
theorem IsDist.lt {n : Int} {ts : List (Int × Int)} {p : Int} {f : Int → Int} (hf : IsDist n ts p f) (v : Int) (v0 : 0 ≤ v) (v1 : v < n) : f v < n := by
  have hv := hf.nn v v0 v1
  have hl := hf.level _ v v0 v1 rfl
  have key : ∀ m : Nat, m ≤ (f v).toNat + 1 → ∃ ws : List Int, ws.length = m ∧ ws.Nodup ∧ (∀ w ∈ ws, w ∈ rng 0 n ∧ f w < m) := by
    intro m
    induction m with
    | zero => exact fun _ => ⟨[], rfl, List.nodup_nil, fun _ h => nomatch h⟩
    | succ m ih =>
      intro hm
      obtain ⟨ws, h1, h2, h3⟩ := ih (by omega)
      obtain ⟨w, w0, w1, e⟩ := hl m (by omega)
      refine ⟨w :: ws, by rw [List.length_cons, h1], List.nodup_cons.mpr ⟨fun h => ?_, h2⟩, fun u hu => ?_⟩
      · have := (h3 w h).2
        omega
      · rcases List.mem_cons.mp hu with rfl | hu
        · exact ⟨rng_mem.mpr ⟨w0, w1⟩, by omega⟩
        · have := h3 u hu
          exact ⟨this.1, by omega⟩
  obtain ⟨ws, h1, h2, h3⟩ := key _ (Nat.le_refl _)
  have := nodup_le h2 fun w hw => (h3 w hw).1
  rw [h1, rng_length] at this
  omega
/-- how far places are from one, in a web that hangs together -/
noncomputable def dst (n : Int) (ts : List (Int × Int)) (p : Int) : Int → Int := by
  classical
  exact if h : ∃ f, IsDist n ts p f then Classical.choose h else fun _ => 0
theorem dst_is {n : Int} {ts : List (Int × Int)} {p : Int} {f : Int → Int} (h : IsDist n ts p f) : IsDist n ts p (dst n ts p) := by
  have e : ∃ f, IsDist n ts p f := ⟨f, h⟩
  unfold dst
  rw [dif_pos e]
  exact Classical.choose_spec e
theorem dst_eq {n : Int} {ts : List (Int × Int)} {p : Int} {f : Int → Int} (h : IsDist n ts p f) (v : Int) (v0 : 0 ≤ v) (v1 : v < n) : f v = dst n ts p v := h.uniq (dst_is h) v v0 v1
/-! ### there is a distance -/
inductive Rch (ts : List (Int × Int)) (p : Int) : Nat → Int → Prop
  | here : Rch ts p 0 p
  | step {k : Nat} {a b : Int} : Rch ts p k a → Adj ts a b → Rch ts p (k + 1) b
theorem least {P : Nat → Prop} (h : ∃ k, P k) : ∃ k, P k ∧ ∀ j, j < k → ¬ P j := by
  obtain ⟨k, hk⟩ := h
  induction k using Nat.strongRecOn with
  | _ k ih =>
    by_cases q : ∃ j, j < k ∧ P j
    · obtain ⟨j, h1, h2⟩ := q
      exact ih j h1 h2
    · exact ⟨k, hk, fun j hj hp => q ⟨j, hj, hp⟩⟩
theorem conn_ex {n : Int} {ts : List (Int × Int)} {p : Int} (hr : ∀ q ∈ ts, 0 ≤ q.1 ∧ q.1 < n ∧ 0 ≤ q.2 ∧ q.2 < n) (hc : Conn n ts) (p0 : 0 ≤ p) (p1 : p < n) : IsDist n ts p (dst n ts p) := by
  classical
  have all : ∀ v, 0 ≤ v → v < n → ∃ k, Rch ts p k v := hc.any (S := fun v => ∃ k, Rch ts p k v) p0 p1 ⟨0, .here⟩ fun q hq => ⟨fun ⟨k, h⟩ => ⟨k + 1, h.step (.inl hq)⟩, fun ⟨k, h⟩ => ⟨k + 1, h.step (.inr hq)⟩⟩
  have adj : ∀ a b, Adj ts a b → (0 ≤ a ∧ a < n) ∧ (0 ≤ b ∧ b < n) := fun a b h => by
    rcases h with h | h
    · have := hr _ h
      exact ⟨⟨this.1, this.2.1⟩, ⟨this.2.2.1, this.2.2.2⟩⟩
    · have := hr _ h
      exact ⟨⟨this.2.2.1, this.2.2.2⟩, ⟨this.1, this.2.1⟩⟩
  have key : ∀ v, ∃ d : Int, 0 ≤ d ∧ (0 ≤ v → v < n → ∃ k : Nat, d = k ∧ Rch ts p k v ∧ ∀ j, j < k → ¬ Rch ts p j v) := fun v => by
    by_cases hv : 0 ≤ v ∧ v < n
    · obtain ⟨k, h1, h2⟩ := least (all v hv.1 hv.2)
      exact ⟨k, by omega, fun _ _ => ⟨k, rfl, h1, h2⟩⟩
    · exact ⟨0, Int.le_refl 0, fun a b => absurd ⟨a, b⟩ hv⟩
  have hf : ∃ f : Int → Int, ∀ v, 0 ≤ f v ∧ (0 ≤ v → v < n → ∃ k : Nat, f v = k ∧ Rch ts p k v ∧ ∀ j, j < k → ¬ Rch ts p j v) := ⟨fun v => Classical.choose (key v), fun v => Classical.choose_spec (key v)⟩
  obtain ⟨f, hf⟩ := hf
  have lip : ∀ a b, Adj ts a b → f b ≤ f a + 1 := fun a b h => by
    obtain ⟨⟨a0, a1⟩, ⟨b0, b1⟩⟩ := adj a b h
    obtain ⟨k, e1, h1, _⟩ := (hf a).2 a0 a1
    obtain ⟨j, e2, _, h2⟩ := (hf b).2 b0 b1
    have : ¬ k + 1 < j := fun q => h2 (k + 1) q (h1.step h)
    omega
  refine dst_is (f := f) ⟨?_, fun v _ _ => (hf v).1, lip, fun v v0 v1 hne => ?_⟩
  · obtain ⟨k, e, _, h2⟩ := (hf p).2 p0 p1
    have : ¬ 0 < k := fun q => h2 0 q .here
    omega
  · obtain ⟨k, e, h1, h2⟩ := (hf v).2 v0 v1
    cases h1 with
    | here => exact absurd rfl hne
    | step h3 h4 =>
      rename_i j w
      obtain ⟨⟨w0, w1⟩, _⟩ := adj _ _ h4
      refine ⟨w, w0, w1, h4, ?_⟩
      obtain ⟨i, e2, _, h5⟩ := (hf w).2 w0 w1
      have h6 : ¬ j < i := fun q => h5 j q h3
      have := lip w v h4
      omega
end Z
/-! ZN: dicts as lists of pairs -/
namespace Z
open PySem L2
section
variable {κ β γ : Type} [DecidableEq κ]
def mkeys (m : List (κ × β)) : List κ := m.map (·.1)
theorem mget_nil (j : κ) : mget ([] : List (κ × β)) j = none := rfl
theorem mget_cons (p : κ × β) (m : List (κ × β)) (j : κ) : mget (p :: m) j = if p.1 = j then some p.2 else mget m j := by
  unfold mget
  by_cases h : p.1 = j
  · rw [List.find?_cons_of_pos (by simpa using h), if_pos h]
    rfl
  · rw [List.find?_cons_of_neg (by simpa using h), if_neg h]
theorem mget_append (m m' : List (κ × β)) (j : κ) : mget (m ++ m') j = (mget m j).or (mget m' j) := by
  induction m with
  | nil => rfl
  | cons p m ih =>
    rw [List.cons_append, mget_cons, mget_cons, ih]
    by_cases h : p.1 = j
    · rw [if_pos h, if_pos h]; rfl
    · rw [if_neg h, if_neg h]
theorem mhas_mget (m : List (κ × β)) (j : κ) : mhas m j = (mget m j).isSome := by
  unfold mhas mget
  rw [Option.isSome_map, List.isSome_find?]
theorem mhas_keys {m : List (κ × β)} {j : κ} : mhas m j = true ↔ j ∈ mkeys m := by
  rw [mhas_iff]
  unfold mkeys
  rw [List.mem_map]
theorem mget_mput (m : List (κ × β)) (k : κ) (v : β) (j : κ) : mget (mput m k v) j = if j = k then some v else mget m j := by
  cases h : mhas m k with
  | false =>
    rw [mput_new h, mget_append, mget_cons, mget_nil]
    by_cases e : j = k
    · subst e
      rw [if_pos rfl, if_pos rfl]
      rw [mhas_mget] at h
      cases q : mget m j with
      | none => rfl
      | some x => rw [q] at h; cases h
    · rw [if_neg (fun q => e q.symm), if_neg e]
      cases mget m j <;> rfl
  | true =>
    rw [mput_old h]
    by_cases e : j = k
    · subst e
      rw [if_pos rfl]
      induction m with
      | nil => cases h
      | cons p m ih =>
        rw [List.map_cons, mget_cons]
        by_cases q : p.1 = j
        · rw [if_pos q, if_pos q]
        · rw [if_neg q, if_neg q]
          refine ih ?_
          rw [mhas_mget, mget_cons, if_neg q, ← mhas_mget] at h
          exact h
    · rw [if_neg e]
      clear h
      induction m with
      | nil => rfl
      | cons p m ih =>
        rw [List.map_cons, mget_cons, mget_cons, ih]
        by_cases q : p.1 = k
        · rw [if_pos q, if_neg (by rw [q]; exact fun z => e z.symm), if_neg (by rw [q]; exact fun z => e z.symm)]
        · rw [if_neg q]
theorem mkeys_mput (m : List (κ × β)) (k : κ) (v : β) : mkeys (mput m k v) = if k ∈ mkeys m then mkeys m else mkeys m ++ [k] := by
  cases h : mhas m k with
  | false =>
    rw [mput_new h, if_neg (fun q => by rw [mhas_keys.mpr q] at h; cases h)]
    unfold mkeys
    rw [List.map_append]
    rfl
  | true =>
    rw [mput_old h, if_pos (mhas_keys.mp h)]
    unfold mkeys
    rw [List.map_map]
    refine List.map_congr_left fun p _ => ?_
    show (if p.1 = k then (p.1, v) else p).1 = p.1
    split <;> rfl
theorem mkeys_nodup {m : List (κ × β)} {k : κ} {v : β} (h : (mkeys m).Nodup) : (mkeys (mput m k v)).Nodup := by
  rw [mkeys_mput]
  split
  · exact h
  · rename_i q
    rw [List.nodup_append]
    refine ⟨h, by simp, fun a ha c hc e => ?_⟩
    rw [List.mem_singleton] at hc
    rw [e, hc] at ha
    exact q ha
theorem mkeys_length (m : List (κ × β)) : (mkeys m).length = m.length := List.length_map _
theorem mget_keys {m : List (κ × β)} {j : κ} : j ∈ mkeys m ↔ ∃ v, mget m j = some v := by
  rw [← mhas_keys, mhas_mget, Option.isSome_iff_exists]
end
end Z
namespace G
open PySem L2 Z
open Rep (rep)
def top (i : Nat) : Stmt := PySem.Challenge.pw_farhail_k03_webs_refused.main.body.getD i (.Pass ⟨0, 0, 0, 0⟩)
abbrev s_near_lists : Stmt := top 8
abbrev s_fars_by : Stmt := top 9
abbrev s_sorted_ties : Stmt := top 10
abbrev s_made_web : Stmt := top 11
abbrev s_law_pot : Stmt := top 13
abbrev s_law_take : Stmt := top 14
abbrev s_law_folded : Stmt := top 15
abbrev s_law_cells : Stmt := top 16
abbrev s_law_ties : Stmt := top 17
abbrev s_law_bunches : Stmt := top 18
abbrev s_law_order : Stmt := top 19
abbrev s_law_web : Stmt := top 20
abbrev s_law_fars : Stmt := top 21
abbrev s_law_spoilt : Stmt := top 22
abbrev s_law_due : Stmt := top 23
abbrev s_law_told : Stmt := top 24
abbrev s_law : Stmt := top 25
abbrev s_Apart_init : Stmt := inClass (top 5) 0
abbrev names : List Str := ["NoWeb", "Apart"]
def fld (x : Str) : Option Str := if x = ("Apart" : Str) then some ("place" : Str) else none
theorem fn_NoWeb : fld ("NoWeb" : Str) = none := by decide +kernel
theorem fd_Apart : fld ("Apart" : Str) = some ("place" : Str) := by decide +kernel
/-! ### the mirrors -/
/-! near_lists -/
def near_lists (x_web : (Int × (Tup (Int × Int)))) : R (List (List Int)) := do
  let l4 ← rngI 0 x_web.1
  let l5 ← mapStG (fun (g5 : (List (List Int))) (b5 : Int) => do
      let r9 ← newS g5 ([] : (List Int))
      R.ok (r9.1, r9.2)) ([] : List (List Int)) l4
  let g11 ← foldR (fun (g11 : (List (List Int))) (b11 : (Int × Int)) => do
      let t14 ← getI l5.1 b11.1
      let x16 ← getS g11 t14
      let l17 ← app x16 b11.2
      let r17 ← setS g11 t14 l17
      let t18 ← getI l5.1 b11.2
      let x20 ← getS r17 t18
      let l21 ← app x20 b11.1
      let r21 ← setS r17 t18 l21
      R.ok r21) l5.2 x_web.2.l
  let l22 ← mapG (fun (b22 : Ix) => do
      let x26 ← getS g11 b22
      R.ok (sortI x26)) l5.1
  R.ok l22
/-! fars_by -/
def fars_by (x_near : (List (List Int))) (x_place : Int) : R (List (Option Int)) := do
  let l4 ← repR ([none] : (List (Option Int))) (x_near.length : Int)
  let l7 ← setI l4 x_place (some (0 : Int))
  let g11 ← whileR (fun (g11 : Int × (List Int) × (List (Option Int))) => do
      R.ok (decide (g11.1 < (g11.2.1.length : Int)))) (fun (g11 : Int × (List Int) × (List (Option Int))) => do
      let t13 ← getI g11.2.1 g11.1
      let t14 ← getI x_near t13
      let g12 ← foldR (fun (g12 : (List Int) × (List (Option Int))) (b12 : Int) => do
          let t17 ← getI g12.2 b12
          if t17.isNone = true then do
            let t20 ← getI g12.1 g11.1
            let t21 ← getI g12.2 t20
            let t23 ← ofO t21
            let l24 ← setI g12.2 b12 (some (t23 + (1 : Int)))
            let l26 ← app g12.1 b12
            R.ok (l26, l24)
          else do
            R.ok (g12.1, g12.2)) (g11.2.1, g11.2.2) t14
      R.ok ((g11.1 + (1 : Int)), g12.1, g12.2)) (fu 1000) ((0 : Int), ([x_place] : (List Int)), l7)
  R.ok g11.2.2
/-! sorted_ties -/
def sorted_tiesX (x_many : Int) (x_ties : (List (Int × Int))) : R (Tup (Int × Int)) := do
  let g4 ← foldR (fun (g4 : (List (Int × Int))) (b4 : (Int × Int)) => do
      if ((decide ((min2 b4.1 b4.2) < (0 : Int))) || ((decide (x_many ≤ (max2 b4.1 b4.2))) || ((decide (b4.1 = b4.2)) || (inB ((min2 b4.1 b4.2), (max2 b4.1 b4.2)) g4)))) = true then do
        raiseR "NoWeb"
      else do
        let l18 ← app g4 ((min2 b4.1 b4.2), (max2 b4.1 b4.2))
        R.ok l18) ([] : (List (Int × Int))) x_ties
  R.ok (Tup.mk (sortP g4))
/-! made_web -/
def made_webX (x_many : Int) (x_ties : (List (Int × Int))) : R (Int × (Tup (Int × Int))) := do
  if (!((decide ((1 : Int) ≤ x_many)) && (decide (x_many ≤ (60 : Int))))) = true then do
    raiseR "NoWeb"
  else do
    let y7 ← sorted_tiesX x_many x_ties
    let y10 ← nx (near_lists (x_many, y7))
    let y12 ← nx (fars_by y10 (0 : Int))
    let l16 ← rngI 0 x_many
    let g15 ← foldR (fun (g15 : Unit) (b15 : Int) => do
        let t17 ← getI y12 b15
        if t17.isNone = true then do
          raiseX "Apart" b15
        else do
          R.ok ()) () l16
    R.ok (x_many, y7)
/-! _law_pot -/
def law_pot (x_cell : Int) (x_k : Int) : R (List Int) := do
  let g5 ← foldR (fun (g5 : Int × (List Int)) (b5 : Int) => do
      let t6 ← mulI g5.1 g5.1
      let t10 ← getI g5.2 (0 : Int)
      let l12 ← setI g5.2 (0 : Int) ((t10 * (2147483629 : Int)) + ((((t6 + ((48271 : Int) * g5.1)) + ((3 : Int) * b5)) + x_k) % (2147483629 : Int)))
      R.ok (((((t6 + ((48271 : Int) * g5.1)) + ((3 : Int) * b5)) + x_k) % (2147483629 : Int)), l12)) (((x_cell + ((7919 : Int) * (x_k + (1 : Int)))) % (2147483647 : Int)), ([(0 : Int)] : (List Int))) (rng 0 (24 : Int))
  let g14 ← (do
    if (decide (((10 : Int) ^ ((18 : Int) : Int).toNat) ≤ x_cell)) = true then do
      let l17 ← app g5.2 x_cell
      R.ok l17
    else do
      R.ok g5.2 : R ((List Int)))
  R.ok g14
/-! _law_take -/
def law_take (x_pot : (List Int)) (x_many : Int) : R (Int × (List Int)) := do
  let t2 ← getI x_pot (-(1 : Int))
  let t3 ← modI t2 x_many
  let t4 ← getI x_pot (-(1 : Int))
  let t5 ← divI t4 x_many
  let l6 ← setI x_pot (-(1 : Int)) t5
  let g8 ← (do
    let j9 ← (do
      let t10 ← getI l6 (-(1 : Int))
      if (decide (t10 = (0 : Int))) = true then do
        R.ok (decide ((1 : Int) < (l6.length : Int)))
      else do
        R.ok false : R (Bool))
    if j9 = true then do
      let l15 ← popI l6
      R.ok l15.2
    else do
      R.ok l6 : R ((List Int)))
  R.ok (t3, g8)
/-! _law_folded -/
def law_folded (x_script : Scr) (x_many : Int) : R (List Int) := do
  let l4 ← repR ([(0 : Int)] : (List Int)) x_many
  let g7 ← foldR (fun (g7 : (List Int)) (b7 : (Int × Int)) => do
      let t12 ← modI b7.1 x_many
      let t13 ← getI g7 t12
      let t15 ← modI b7.1 x_many
      let l16 ← setI g7 t15 ((t13 * (31 : Int)) + b7.2)
      R.ok l16) l4 (enum (cutL x_script.l none (some (63 : Int))))
  R.ok g7
/-! _law_cells -/
def law_cells (x_script : Scr) (x_most : Int) : R (List Int) := do
  if (decide (x_script = (⟨([] : (List Int))⟩ : Scr))) = true then do
    R.ok ([(0 : Int)] : (List Int))
  else do
    let y8 ← law_folded x_script (min2 x_most (x_script.l.length : Int))
    R.ok y8
/-! _law_bunches -/
def law_bunches (x_pot : (List Int)) (x_many : Int) : R ((List (Int × Int)) × (List Int)) := do
  let y2 ← law_take x_pot (3 : Int)
  let l3 ← rngI 0 ((2 : Int) + y2.1)
  let l4 ← mapStG (fun (g4 : (List Int)) (b4 : Int) => do
      let y7 ← law_take g4 (2 : Int)
      R.ok (y7.1, y7.2)) y2.2 l3
  let l11 ← rngI 0 x_many
  let l12 ← mapStG (fun (g12 : (List Int)) (b12 : Int) => do
      let y15 ← law_take g12 ((2 : Int) + y2.1)
      R.ok (y15.1, y15.2)) l4.2 l11
  let l22 ← rngI 0 x_many
  let g21 ← foldR (fun (g21 : (List (Int × Int))) (b21 : Int) => do
      let l24 ← rngI 0 b21
      let g23 ← foldR (fun (g23 : (List (Int × Int))) (b23 : Int) => do
          let t25 ← getI l12.1 b23
          let t26 ← getI l12.1 b21
          let j27 ← (do
            if (decide ((absI (t25 - t26)) = (1 : Int))) = true then do
              R.ok true
            else do
              let j30 ← (do
                if (decide ((absI (t25 - t26)) = (0 : Int))) = true then do
                  let t32 ← getI l12.1 b21
                  let t33 ← getI l4.1 t32
                  R.ok (decide (t33 = (1 : Int)))
                else do
                  R.ok false : R (Bool))
              R.ok j30 : R (Bool))
          if j27 = true then do
            let l39 ← app g23 (b23, b21)
            R.ok l39
          else do
            R.ok g23) g21 l24
      R.ok g23) ([] : (List (Int × Int))) l22
  let l44 ← rngI 0 x_many
  let g43 ← foldR (fun (g43 : (List (Int × Bool))) (b43 : Int) => do
      let g45 ← foldR (fun (g45 : (List (Int × Bool))) (b45 : (Int × Int)) => do
          if ((mhas g45 b45.1) || (mhas g45 b45.2)) = true then do
            let l53 ← mputR g45 b45.1 true
            let l55 ← mputR l53 b45.2 true
            R.ok l55
          else do
            R.ok g45) g43 g21
      R.ok g45) (mmk ([((0 : Int), true)] : List (Int × Bool))) l44
  let l57 ← rngI (1 : Int) x_many
  let l58 ← filG (fun (b58 : Int) => do
      if (!mhas g43 b58) = true then do
        R.ok (some ((0 : Int), b58))
      else
        R.ok none) l57
  let l63 ← extend g21 l58
  R.ok (l63, l12.2)
/-! _law_ties -/
def law_ties (x_pot : (List Int)) (x_many : Int) : R ((List (Int × Int)) × (List Int)) := do
  let y2 ← law_take x_pot (8 : Int)
  let l3 ← rngI (1 : Int) x_many
  let l4 ← mapG (fun (b4 : Int) => do
      R.ok ((b4 - (1 : Int)), b4)) l3
  let g8 ← (do
    if ((decide (y2.1 = (1 : Int))) && (decide ((2 : Int) < x_many))) = true then do
      let l15 ← app l4 ((0 : Int), (x_many - (1 : Int)))
      R.ok l15
    else do
      R.ok l4 : R ((List (Int × Int))))
  let g17 ← (do
    if (decide (y2.1 = (2 : Int))) = true then do
      let l19 ← rngI (1 : Int) x_many
      let l20 ← mapG (fun (b20 : Int) => do
          R.ok ((0 : Int), b20)) l19
      R.ok l20
    else do
      R.ok g8 : R ((List (Int × Int))))
  let g26 ← (do
    if ((decide (y2.1 = (3 : Int))) && (decide (x_many < (21 : Int)))) = true then do
      let l36 ← rngI 0 x_many
      let g35 ← foldR (fun (g35 : (List (Int × Int))) (b35 : Int) => do
          let l37 ← rngI 0 b35
          let l38 ← mapG (fun (b38 : Int) => do
              R.ok (b38, b35)) l37
          let l42 ← extend g35 l38
          R.ok l42) ([] : (List (Int × Int))) l36
      R.ok g35
    else do
      R.ok g17 : R ((List (Int × Int))))
  let g46 ← (do
    if ((decide (y2.1 = (4 : Int))) && (decide (x_many < (13 : Int)))) = true then do
      let y53 ← law_bunches y2.2 x_many
      R.ok (y53.1, y53.2)
    else do
      R.ok (g26, y2.2) : R ((List (Int × Int)) × (List Int)))
  let g57 ← (do
    if (decide ((4 : Int) < y2.1)) = true then do
      let l63 ← rngI (1 : Int) x_many
      let g62 ← foldR (fun (g62 : (List (Int × Int)) × (List Int)) (b62 : Int) => do
          let y65 ← law_take g62.2 b62
          let y69 ← law_take y65.2 (3 : Int)
          let t70 ← getI ([y65.1, (b62 - (1 : Int)), (max2 (0 : Int) (b62 - (2 : Int)))] : (List Int)) y69.1
          let l72 ← app g62.1 (t70, b62)
          R.ok (l72, y69.2)) (([] : (List (Int × Int))), g46.2) l63
      R.ok (g62.1, g62.2)
    else do
      R.ok (g46.1, g46.2) : R ((List (Int × Int)) × (List Int)))
  let g77 ← (do
    if (decide ((5 : Int) < y2.1)) = true then do
      let y82 ← law_take g57.2 (4 : Int)
      let t83 ← getI ([(7 : Int), (7 : Int), (7 : Int), (142 : Int)] : (List Int)) y82.1
      let y86 ← law_take y82.2 t83
      let l87 ← rngI 0 y86.1
      let g85 ← foldR (fun (g85 : (List Int) × (List (Int × Int))) (b85 : Int) => do
          let y88 ← law_take g85.1 x_many
          let y89 ← law_take y88.2 x_many
          if ((decide (y88.1 < y89.1)) && (!inB (y88.1, y89.1) g85.2)) = true then do
            let l97 ← app g85.2 (y88.1, y89.1)
            R.ok (y89.2, l97)
          else do
            R.ok (y89.2, g85.2)) (y86.2, g57.1) l87
      R.ok (g85.2, g85.1)
    else do
      R.ok (g57.1, g57.2) : R ((List (Int × Int)) × (List Int)))
  R.ok (g77.1, g77.2)
/-! _law_order -/
def law_order (x_pot : (List Int)) (x_many : Int) : R ((List Int) × (List Int)) := do
  let l2 ← listRng 0 x_many
  let l4 ← rngI 0 x_many
  let l5 ← mapStG (fun (g5 : (List Int) × (List Int)) (b5 : Int) => do
      let y9 ← law_take g5.2 (g5.1.length : Int)
      let l7 ← popB g5.1 y9.1
      R.ok (l7.1, (l7.2, y9.2))) (l2, x_pot) l4
  R.ok (l5.1, l5.2.2)
/-! _law_web -/
def law_web (x_pot : (List Int)) (x_most : Int) : R ((Int × (Tup (Int × Int))) × (List Int)) := do
  let y2 ← law_take x_pot x_most
  let g3 ← (do
    let y4 ← law_take y2.2 (8 : Int)
    if (decide (y4.1 = (0 : Int))) = true then do
      let y6 ← law_take y4.2 (60 : Int)
      R.ok (((1 : Int) + y6.1), y6.2)
    else do
      R.ok (((1 : Int) + y2.1), y4.2) : R (Int × (List Int)))
  let y7 ← law_order g3.2 g3.1
  let y14 ← law_ties y7.2 g3.1
  let g12 ← foldR (fun (g12 : (List (Int × Int))) (b12 : (Int × Int)) => do
      let t19 ← getI y7.1 b12.1
      let t20 ← getI y7.1 b12.2
      let t21 ← getI y7.1 b12.1
      let t22 ← getI y7.1 b12.2
      let l24 ← app g12 ((min2 t19 t20), (max2 t21 t22))
      R.ok l24) ([] : (List (Int × Int))) y14.1
  R.ok ((g3.1, (Tup.mk (sortP g12))), y14.2)
/-! _law_fars -/
def law_fars (x_web : (Int × (Tup (Int × Int)))) (x_place : Int) : R (List Int) := do
  let l6 ← rngI (1 : Int) x_web.1
  let g5 ← foldR (fun (g5 : (List (Int × Int))) (b5 : Int) => do
      let t10 ← mulI (x_web.2.l.length : Int) (b2i (decide ((g5.length : Int) < x_web.1)))
      let g9 ← foldR (fun (g9 : (List Int)) (b9 : (Int × Int)) => do
          let g14 ← (do
            let j15 ← (do
              if (mhas g5 b9.1) = true then do
                let t17 ← mgetR g5 b9.1
                if (decide (t17 = (b5 - (1 : Int)))) = true then do
                  R.ok (!mhas g5 b9.2)
                else do
                  R.ok false
              else do
                R.ok false : R (Bool))
            if j15 = true then do
              let l23 ← app g9 b9.2
              R.ok l23
            else do
              R.ok g9 : R ((List Int)))
          let j25 ← (do
            if (mhas g5 b9.2) = true then do
              let t27 ← mgetR g5 b9.2
              if (decide (t27 = (b5 - (1 : Int)))) = true then do
                R.ok (!mhas g5 b9.1)
              else do
                R.ok false
            else do
              R.ok false : R (Bool))
          if j25 = true then do
            let l33 ← app g14 b9.1
            R.ok l33
          else do
            R.ok g14) ([] : (List Int)) (cutL x_web.2.l none (some t10))
      let g35 ← foldR (fun (g35 : (List (Int × Int))) (b35 : Int) => do
          let l37 ← mputR g35 b35 b5
          R.ok l37) g5 g9
      R.ok g35) (mmk ([(x_place, (0 : Int))] : List (Int × Int))) l6
  let l40 ← rngI 0 x_web.1
  let l41 ← mapG (fun (b41 : Int) => do
      R.ok ((mget g5 b41).getD (-(1 : Int)))) l40
  R.ok l41
/-! _law_spoilt -/
def law_spoilt (x_pot : (List Int)) (x_many : Int) (x_ties : (Tup (Int × Int))) : R ((List (Int × Int)) × (List Int)) := do
  let y7 ← law_take x_pot (4 : Int)
  let l8 ← rngI 0 y7.1
  let g5 ← foldR (fun (g5 : (List Int) × (List (Int × Int))) (b5 : Int) => do
      let y9 ← law_take g5.1 (7 : Int)
      let y10 ← law_take y9.2 ((g5.2.length : Int) + (1 : Int))
      let y12 ← law_take y10.2 ((10 : Int) ^ ((60 : Int) : Int).toNat)
      let y14 ← law_take y12.2 ((10 : Int) ^ ((60 : Int) : Int).toNat)
      let y18 ← law_take y14.2 (4 : Int)
      let t19 ← getI ([(-(1 : Int)), x_many, ((x_many + (1 : Int)) + y12.1), ((-(1 : Int)) - y14.1)] : (List Int)) y18.1
      let g21 ← (do
        if (decide (y9.1 = (0 : Int))) = true then do
          let y28 ← law_take y18.2 (2 : Int)
          let t29 ← getI ([(t19, (0 : Int)), ((0 : Int), t19)] : (List (Int × Int))) y28.1
          let l31 ← insR g5.2 y10.1 t29
          R.ok (y28.2, l31)
        else do
          R.ok (y18.2, g5.2) : R ((List Int) × (List (Int × Int))))
      let g34 ← (do
        if (decide (y9.1 = (1 : Int))) = true then do
          let y36 ← law_take g21.1 x_many
          let l38 ← insR g21.2 y10.1 (y36.1, y36.1)
          R.ok (y36.2, l38)
        else do
          R.ok (g21.1, g21.2) : R ((List Int) × (List (Int × Int))))
      let g40 ← (do
        if ((decide (y9.1 = (2 : Int))) && (!decide (g34.2 = ([] : (List (Int × Int)))))) = true then do
          let y49 ← law_take g34.1 (g34.2.length : Int)
          let t50 ← getI g34.2 y49.1
          let y56 ← law_take y49.2 (2 : Int)
          let t57 ← getI ([t50, (t50.2, t50.1)] : (List (Int × Int))) y56.1
          let l59 ← insR g34.2 y10.1 t57
          R.ok (y56.2, l59)
        else do
          R.ok (g34.1, g34.2) : R ((List Int) × (List (Int × Int))))
      if ((decide ((2 : Int) < y9.1)) && (!decide (g40.2 = ([] : (List (Int × Int)))))) = true then do
        let y71 ← law_take g40.1 (g40.2.length : Int)
        let l70 ← popB g40.2 y71.1
        R.ok (y71.2, l70.2)
      else do
        R.ok (g40.1, g40.2)) (y7.2, x_ties.l) l8
  R.ok (g5.2, g5.1)
/-! _law_due -/
def law_due (x_many : Int) (x_ties : (List (Int × Int))) : R Tl := do
  if ((decide (x_many < (1 : Int))) || (decide ((60 : Int) < x_many))) = true then do
    R.ok (Tl.tx ⟨("noweb" : Str), by decide +kernel⟩)
  else do
    let r9 ← foldX (fun (g9 : (List (Int × Int))) (b9 : (Int × Int)) => do
        if ((decide (b9.1 = b9.2)) || ((decide ((min2 b9.1 b9.2) < (0 : Int))) || ((decide (x_many ≤ (max2 b9.1 b9.2))) || (inB ((min2 b9.1 b9.2), (max2 b9.1 b9.2)) g9)))) = true then do
          R.ok (.inl (Tl.tx ⟨("noweb" : Str), by decide +kernel⟩))
        else do
          let l23 ← app g9 ((min2 b9.1 b9.2), (max2 b9.1 b9.2))
          R.ok (.inr (true, l23))) ([] : (List (Int × Int))) x_ties
    match r9 with
    | .inl z => R.ok z
    | .inr g9 => do
      let y28 ← law_fars (x_many, (Tup.mk x_ties)) (0 : Int)
      if (inB (-(1 : Int)) y28) = true then do
        let t32 ← idxR y28 (-(1 : Int))
        R.ok (Tl.ap ⟨("apart" : Str), by decide +kernel⟩ t32)
      else do
        R.ok (Tl.wb (x_many, (Tup.mk (sortP g9))))
/-! _law_told -/
def law_told (x_many : Int) (x_ties : (List (Int × Int))) : R Tl := do
  let g2 ← tryWith names (do
    let y3 ← made_webX x_many x_ties
    R.ok (Tl.wb y3)) (fun (e : Exn) => (do
      let j4 ← (do
        let b5 ← isC names [] e
        if b5 = true then do
          R.ok true
        else do
          let b9 ← isC names [("NoWeb" : Str), ("Apart" : Str)] e
          R.ok (!b9) : R (Bool))
      if j4 = true then do
        R.ok (Tl.tx ⟨("other" : Str), by decide +kernel⟩)
      else do
        let b13 ← isC names [("Apart" : Str)] e
        let b14 ← isC names [("NoWeb" : Str)] e
        if (decide (b13 = b14)) = true then do
          R.ok (Tl.tx ⟨("other" : Str), by decide +kernel⟩)
        else do
          let b17 ← isC names [("NoWeb" : Str)] e
          if b17 = true then do
            R.ok (Tl.tx ⟨("noweb" : Str), by decide +kernel⟩)
          else do
            let b20 ← xarg "Apart" e
            R.ok (Tl.ap ⟨("apart" : Str), by decide +kernel⟩ b20) : R (Tl)))
  R.ok g2
/-! law -/
def law (x_script : Scr) : R Bool := do
  let y3 ← law_cells x_script (8 : Int)
  let r2 ← foldX (fun (g2 : Unit) (b2 : (Int × Int)) => do
      let y7 ← law_pot b2.2 b2.1
      let y9 ← law_web y7 (12 : Int)
      let y13 ← law_spoilt y9.2 y9.1.1 (Tup.mk (cutL y9.1.2.l none (some (197 : Int))))
      let g15 ← (do
        let y17 ← law_take y13.2 (8 : Int)
        if (decide (y17.1 = (0 : Int))) = true then do
          let y20 ← law_take y17.2 ((10 : Int) ^ ((60 : Int) : Int).toNat)
          let y22 ← law_take y20.2 ((10 : Int) ^ ((60 : Int) : Int).toNat)
          let y26 ← law_take y22.2 (4 : Int)
          let t27 ← getI ([(0 : Int), (61 : Int), ((-(1 : Int)) - y20.1), ((61 : Int) + y22.1)] : (List Int)) y26.1
          R.ok (t27, y26.2)
        else do
          R.ok (y9.1.1, y17.2) : R (Int × (List Int)))
      let j33 ← (do
        let y34 ← law_told g15.1 y13.1
        let y37 ← law_due g15.1 y13.1
        if (!decide (y34 = y37)) = true then do
          R.ok true
        else do
          R.ok (!decide (y13.1 = y13.1)) : R (Bool))
      if j33 = true then do
        R.ok (.inl false)
      else do
        R.ok (.inr (true, ()))) () (enum y3)
  match r2 with
  | .inl z => R.ok z
  | .inr g2 => do
    R.ok true
/-! ### what the top has written -/
structure Dn (K : Fg) (mg : Str → Option Value) (x y : Str) (st : Stmt) (ps : List Str) (f : Addr) (fd : FuncData) : Prop where
  fn : Fun K y y st f fd
  mg : mg x = some (.ref f)
  b : Binds K fd ps []
structure Dm (K : Fg) (C : Addr) (x y : Str) (st : Stmt) (ps : List Str) (f : Addr) (fd : FuncData) : Prop where
  fn : Fun K x y st f fd
  mt : Meth K C x f
  b : Binds K fd ps []
structure Tx (K : Fg) (mg : Str → Option Value) (A : Nat → Addr) (FD : Nat → FuncData) : Prop where
  d8 : Dn K mg "near_lists" "near_lists" s_near_lists ["web"] (A 8) (FD 8)
  d9 : Dn K mg "fars_by" "fars_by" s_fars_by ["near", "place"] (A 9) (FD 9)
  d10 : Dn K mg "sorted_ties" "sorted_ties" s_sorted_ties ["many", "ties"] (A 10) (FD 10)
  d11 : Dn K mg "made_web" "made_web" s_made_web ["many", "ties"] (A 11) (FD 11)
  d13 : Dn K mg "_law_pot" "_law_pot" s_law_pot ["cell", "k"] (A 13) (FD 13)
  d14 : Dn K mg "_law_take" "_law_take" s_law_take ["pot", "many"] (A 14) (FD 14)
  d15 : Dn K mg "_law_folded" "_law_folded" s_law_folded ["script", "many"] (A 15) (FD 15)
  d16 : Dn K mg "_law_cells" "_law_cells" s_law_cells ["script", "most"] (A 16) (FD 16)
  d17 : Dn K mg "_law_ties" "_law_ties" s_law_ties ["pot", "many"] (A 17) (FD 17)
  d18 : Dn K mg "_law_bunches" "_law_bunches" s_law_bunches ["pot", "many"] (A 18) (FD 18)
  d19 : Dn K mg "_law_order" "_law_order" s_law_order ["pot", "many"] (A 19) (FD 19)
  d20 : Dn K mg "_law_web" "_law_web" s_law_web ["pot", "most"] (A 20) (FD 20)
  d21 : Dn K mg "_law_fars" "_law_fars" s_law_fars ["web", "place"] (A 21) (FD 21)
  d22 : Dn K mg "_law_spoilt" "_law_spoilt" s_law_spoilt ["pot", "many", "ties"] (A 22) (FD 22)
  d23 : Dn K mg "_law_due" "_law_due" s_law_due ["many", "ties"] (A 23) (FD 23)
  d24 : Dn K mg "_law_told" "_law_told" s_law_told ["many", "ties"] (A 24) (FD 24)
  d25 : Dn K mg "law" "law" s_law ["script"] (A 25) (FD 25)
  d6000 : Dm K (A 5) "__init__" "Apart.__init__" s_Apart_init ["self", "place"] (A 6000) (FD 6000)
  n_ValueError : mg "ValueError" = none
  n_abs : mg "abs" = none
  n_enumerate : mg "enumerate" = none
  n_int : mg "int" = none
  n_isinstance : mg "isinstance" = none
  n_len : mg "len" = none
  n_list : mg "list" = none
  n_max : mg "max" = none
  n_min : mg "min" = none
  n_range : mg "range" = none
  n_sorted : mg "sorted" = none
  n_tuple : mg "tuple" = none
  c_MOST_PLACES : ∃ t, mg "MOST_PLACES" = some (.int 60 t)
  x_NoWeb : XC K mg "NoWeb" (A 2)
  x_Apart : XCf K mg "Apart" (A 5)
  xi_Apart : XI K (A 5) (A 6000) "place"
  cr_HailError : ClX.CRead K (A 1) (.type "type")
  vi_HailError : PySem.W.findCls K (.ref (A 1)) (.type "type") "__init__" = some (.val (.builtin "ValueError.__init__"))
  g_Apart : mg "Apart" = some (.ref (A 5))
  g_HailError : mg "HailError" = some (.ref (A 1))
  g_NoPlace : mg "NoPlace" = some (.ref (A 3))
  g_NoThing : mg "NoThing" = some (.ref (A 4))
  g_NoWeb : mg "NoWeb" = some (.ref (A 2))
  eh_NoWeb : PySem.W.exmOne K (.ref (A 2)) (.ref (A 1)) = some true
  eh_Apart : PySem.W.exmOne K (.ref (A 5)) (.ref (A 1)) = some true
  kt_NoWeb_Apart : PySem.W.kitOne K (.ref (A 2)) (.ref (A 5)) = some false
  kt_Apart_Apart : PySem.W.kitOne K (.ref (A 5)) (.ref (A 5)) = some true
  kt_NoWeb_NoPlace : PySem.W.kitOne K (.ref (A 2)) (.ref (A 3)) = some false
  kt_Apart_NoPlace : PySem.W.kitOne K (.ref (A 5)) (.ref (A 3)) = some false
  kt_NoWeb_NoThing : PySem.W.kitOne K (.ref (A 2)) (.ref (A 4)) = some false
  kt_Apart_NoThing : PySem.W.kitOne K (.ref (A 5)) (.ref (A 4)) = some false
  kt_NoWeb_NoWeb : PySem.W.kitOne K (.ref (A 2)) (.ref (A 2)) = some true
  kt_Apart_NoWeb : PySem.W.kitOne K (.ref (A 5)) (.ref (A 2)) = some false
  kt_NoWeb_ValueError : PySem.W.kitOne K (.ref (A 2)) (.type "ValueError") = some true
  kt_Apart_ValueError : PySem.W.kitOne K (.ref (A 5)) (.type "ValueError") = some true
theorem Tx.exc {K : Fg} {mg : Str → Option Value} {A : Nat → Addr} {FD : Nat → FuncData} (T : Tx K mg A FD) {x : Str} {C : Addr} (h : x ∈ names) (n : Nm K x C) : ExcC K C := by
  simp only [names, List.mem_cons, List.mem_nil_iff, or_false] at h
  rcases h with rfl | rfl
  · obtain rfl := n.uniq T.x_NoWeb.ns; exact T.x_NoWeb.ex
  · obtain rfl := n.uniq T.x_Apart.ns; exact T.x_Apart.ex
theorem Tx.exm {K : Fg} {mg : Str → Option Value} {A : Nat → Addr} {FD : Nat → FuncData} (T : Tx K mg A FD) {x : Str} {C : Addr} (h : x ∈ names) (n : Nm K x C) : PySem.W.exmOne K (.ref C) (.ref (A 1)) = some true := by
  simp only [names, List.mem_cons, List.mem_nil_iff, or_false] at h
  rcases h with rfl | rfl
  · obtain rfl := n.uniq T.x_NoWeb.ns; exact T.eh_NoWeb
  · obtain rfl := n.uniq T.x_Apart.ns; exact T.eh_Apart
theorem Tx.ki0 {K : Fg} {mg : Str → Option Value} {A : Nat → Addr} {FD : Nat → FuncData} (T : Tx K mg A FD) {x : Str} {C : Addr} (h : x ∈ names) (n : Nm K x C) : PySem.W.kitAny K (.ref C) [.ref (A 3), .ref (A 4)] = some (decide (x ∈ ([] : List Str))) := by
  simp only [names, List.mem_cons, List.mem_nil_iff, or_false] at h
  rcases h with rfl | rfl
  · obtain rfl := n.uniq T.x_NoWeb.ns; simp only [PySem.W.kitAny, T.kt_NoWeb_NoPlace, T.kt_NoWeb_NoThing]; decide +kernel
  · obtain rfl := n.uniq T.x_Apart.ns; simp only [PySem.W.kitAny, T.kt_Apart_NoPlace, T.kt_Apart_NoThing]; decide +kernel
theorem Tx.ki1 {K : Fg} {mg : Str → Option Value} {A : Nat → Addr} {FD : Nat → FuncData} (T : Tx K mg A FD) {x : Str} {C : Addr} (h : x ∈ names) (n : Nm K x C) : PySem.W.kitOne K (.ref C) (.type "ValueError") = some (decide (x ∈ ([("NoWeb" : Str), ("Apart" : Str)] : List Str))) := by
  simp only [names, List.mem_cons, List.mem_nil_iff, or_false] at h
  rcases h with rfl | rfl
  · obtain rfl := n.uniq T.x_NoWeb.ns; exact T.kt_NoWeb_ValueError.trans (by decide +kernel)
  · obtain rfl := n.uniq T.x_Apart.ns; exact T.kt_Apart_ValueError.trans (by decide +kernel)
theorem Tx.ki2 {K : Fg} {mg : Str → Option Value} {A : Nat → Addr} {FD : Nat → FuncData} (T : Tx K mg A FD) {x : Str} {C : Addr} (h : x ∈ names) (n : Nm K x C) : PySem.W.kitOne K (.ref C) (.ref (A 5)) = some (decide (x ∈ ([("Apart" : Str)] : List Str))) := by
  simp only [names, List.mem_cons, List.mem_nil_iff, or_false] at h
  rcases h with rfl | rfl
  · obtain rfl := n.uniq T.x_NoWeb.ns; exact T.kt_NoWeb_Apart.trans (by decide +kernel)
  · obtain rfl := n.uniq T.x_Apart.ns; exact T.kt_Apart_Apart.trans (by decide +kernel)
theorem Tx.ki3 {K : Fg} {mg : Str → Option Value} {A : Nat → Addr} {FD : Nat → FuncData} (T : Tx K mg A FD) {x : Str} {C : Addr} (h : x ∈ names) (n : Nm K x C) : PySem.W.kitOne K (.ref C) (.ref (A 2)) = some (decide (x ∈ ([("NoWeb" : Str)] : List Str))) := by
  simp only [names, List.mem_cons, List.mem_nil_iff, or_false] at h
  rcases h with rfl | rfl
  · obtain rfl := n.uniq T.x_NoWeb.ns; exact T.kt_NoWeb_NoWeb.trans (by decide +kernel)
  · obtain rfl := n.uniq T.x_Apart.ns; exact T.kt_Apart_NoWeb.trans (by decide +kernel)
section
variable {P : Program} {w : World} {K : PySem.W.Frag} {mg : Str → Option Value} {base : Heap} {A : Nat → Addr} {FD : Nat → FuncData}
theorem sc_Apart_init : FnScope ["self", "place"] ["self", "place"] (defScope s_Apart_init) := ⟨rfl, rfl, rfl, by decide +kernel, rfl, by decide +kernel, by decide +kernel⟩
theorem ok_Apart_init (T : Tx K mg A FD) : FnOk P w K mg base CX0 1 (A 6000) (FD 6000) ["self", "place"] (spXI (A 5) "place") := by
  refine T.d6000.fn.ok sc_Apart_init (fun vs H Q E h => ?_) (fun cdv Ar outer s H vs Q E hr h => ?_)
  · obtain ⟨a, p, rfl, _⟩ := h
    rfl
  · obtain ⟨a, p, rfl, ea, hq⟩ := h
    refine ⟨_, (pss_cons (ps_expr (pe_ueinit (pl := _) (by rfl) T.g_HailError T.cr_HailError T.vi_HailError (pa_cons (pv 0) (pa_cons pe_str pa_nil)))) (pss_one (ps_ost (pv 0) (pv 1)))), ?_⟩
    refine ⟨_, rfl, a, A 5, [.str "apart"], rfl, (by decide), T.xi_Apart.ox, ea, ?_⟩
    exact ⟨_, rfl, _, rfl, a, A 5, rfl, T.xi_Apart.ox, T.xi_Apart.no, .inl ⟨ea, fun dx nd ne => hq dx nd ne⟩⟩
def sp_near_lists (K : Fg) : Sp := fun vs H Q E => ∃ (F : Hp) (os : List (Addr × HO)) (v_web : V) (x_web : (Int × (Tup (Int × Int)))), vs = [v_web] ∧ W F H (os) ∧ rep K F v_web x_web ∧ Post (near_lists x_web) (Ret K F os Q) noX
theorem sc_near_lists : FnScope ["web", "found", "one", "other", "place", "row"] ["web"] (defScope s_near_lists) := ⟨rfl, rfl, rfl, by decide +kernel, rfl, by decide +kernel, by decide +kernel⟩
theorem ok_near_lists (T : Tx K mg A FD) : FnOk P w K mg base CX0 1 (A 8) (FD 8) ["web"] (sp_near_lists K) := by
  refine T.d8.fn.ok sc_near_lists (fun vs H Q E h => ?_) (fun cdv Ar outer s H vs Q E hr h => ?_)
  · obtain ⟨F, os, v_web, x_web, rfl, _⟩ := h
    rfl
  · obtain ⟨F0, os, v_web, x_web, rfl, w0, r_web, hm⟩ := h
    have sF : Same F0 F0 := Same.refl _
    obtain ⟨a1, u1, z1, rfl, q1, r1a, r1b⟩ := r_web
    obtain rfl : u1 = V.int x_web.1 := r1a
    obtain ⟨a2, vs2, rfl, q2, h2⟩ := r1b
    have hr_g : Sto K F0 [] [] ([] : List (List Int)) := Sto.nil
    replace w0 : W F0 _ ((nz [] [] ++ os)) := w0
    refine ⟨_, (pss_cons (ps_setLc (i := 1) (own := [("place", 4)]) (g := gName 4) (by rfl) sc_near_lists.nd rfl rfl (sw_true rfl rfl rfl (by decide +kernel)) (pi_range1 (by rfl) T.n_range (pa_cons (pe_ix (ix_tupK (K := K) rfl) (pv 0) pe_int (fun _ _ => rfl)) pa_nil)) (blkOk_by (own := [("place", 4)]) (N := ["web", "found", "one", "other", "place", "row"]) (sc := defScope s_near_lists) (by decide +kernel)) (fun _ _ _ _ _ => (pg_name (i := 4) sc_near_lists.nd rfl (Or.inl rfl))) (fun _ _ _ _ _ => pts_nil) (fun _ _ _ _ _ => (pe_lst pa_nil))) (pss_cons (ps_for PassesOwn.never rfl (pi_tupK (K := K) rfl (pe_ix (ix_tupK (K := K) rfl) (pv 0) pe_int (fun _ _ => rfl))) (pg_k (K := K) (t := fun K => gTup K 2 _) rfl (pg_tup (n := 2) rfl (pgs_cons (pg_name (i := 2) sc_near_lists.nd rfl (Or.inl rfl)) (pgs_cons (pg_name (i := 3) sc_near_lists.nd rfl (Or.inl rfl)) pgs_nil)))) (pss_cons (ps_expr (pe_bm PySem.F.plainAttrs_list PySem.F.slot_list_append PySem.F.type_list_append mt_append (pe_ix (ix_listK (K := K) rfl) (pv 1) (pv 2) (fun _ _ => rfl)) (pa_cons (pv 3) pa_nil))) (pss_one (ps_expr (pe_bm PySem.F.plainAttrs_list PySem.F.slot_list_append PySem.F.type_list_append mt_append (pe_ix (ix_listK (K := K) rfl) (pv 1) (pv 3) (fun _ _ => rfl)) (pa_cons (pv 2) pa_nil)))))) (pss_one (ps_ret (pe_lc (own := [("row", 5)]) (g := gName 5) (by rfl) sc_near_lists.nd (pi_listK (K := K) rfl (pv 1)) (blkOk_by (own := [("row", 5)]) (N := ["web", "found", "one", "other", "place", "row"]) (sc := defScope s_near_lists) (by decide +kernel)) (fun _ _ _ _ _ => (pg_name (i := 5) sc_near_lists.nd rfl (Or.inl rfl))) (fun _ _ _ _ _ => pts_nil) (fun _ _ _ _ _ => (pe_callB (cr_sortI (K := K) rfl) (by rfl) T.n_sorted (by decide +kernel) (pa_cons (pv 5) pa_nil)))))))), ?_⟩
    obtain ⟨c4, hm⟩ := pb_rng hm
    refine ⟨_, rfl, _, _, _, _, rfl, rfl, SqT.of (w0.same _ _ q1), rfl, _, rfl, c4.2.2.1, c4.2.2.2, fun D5 nD5 => ?_⟩
    refine lcGM (tw_rng0 (j := x_web.1)) hm (fun (g5 : (List (List Int))) F' os' us ys => ∃ (as5_0 : List Addr) (vs5_0 : List (List V)), os' = (nz as5_0 vs5_0 ++ os) ∧ [] <+: as5_0 ∧ Sto K F' as5_0 vs5_0 g5 ∧ A2 (RX as5_0) us ys) w0 ⟨_, _, rfl, pfx_refl, hr_g, .nil⟩ nD5 (fun _ _ _ _ _ o => by obtain ⟨_, _, rfl, _, _, h⟩ := o; exact h.length) (fun g F' H' os' acc ys s w o => by obtain ⟨_, _, rfl, _, _, _⟩ := o; exact trivial) ?_ ?_
    · -- one turn
      intro b5 g5 x5 F5 H5 H5' os5 acc5 ya5 N5 P5 s5 w5 o5 y5 hN5 hm
      obtain ⟨as5_0, vs5_0, rfl, p5_0, h5_0, ha5⟩ := o5
      replace q1 := s5 _ _ q1
      replace q2 := s5 _ _ q2
      replace h2 := A2.mono s5 h2
      replace sF := sF.trans s5
      obtain ⟨rfl, rfl⟩ := y5
      have h7 : A2 (rep K F5) [] ([] : (List Int)) := .nil
      refine ⟨rfl, (by show 0 ≤ sizeLine; decide), fun p8 n8 => ?_⟩
      have w8 : W F5 _ ((p8, .lst []) :: (D5, .lst acc5) :: (nz as5_0 vs5_0 ++ os)) := w5.new n8
      obtain ⟨j9, st9, ej9, es9, hm⟩ := pn_newS hm
      have w9 : W F5 _ ((D5, .lst acc5) :: (nz (as5_0 ++ [p8]) (vs5_0 ++ [[]]) ++ os)) := w8.nadd (pre := [_]) h5_0.len
      have q9 : (as5_0 ++ [p8])[j9]? = some p8 := IQ.new (h5_0.len2.trans ej9.symm)
      have h9 : Sto K F5 (as5_0 ++ [p8]) (vs5_0 ++ [[]]) st9 := es9 ▸ Sto.snoc (p := p8) h5_0 h7
      replace ha5 := A2.imp (fun _ _ => RX.mono (pfx_snoc (p := p8))) ha5
      exact hN5 _ _ (post_ok hm) _ _ _ _ w9 (Same.refl _) ⟨_, _, rfl, (pfx_trans p5_0 (pfx_snoc (p := p8))), h9, A2.snoc ha5 ⟨_, rfl, q9⟩⟩
    intro g5 us5 F5 H5 os5 ys5 s5 w5 o5 hm
    obtain ⟨as5_0, vs5_0, rfl, p5_0, h5_0, gg5⟩ := o5
    replace q1 := s5 _ _ q1
    replace q2 := s5 _ _ q2
    replace h2 := A2.mono s5 h2
    replace sF := sF.trans s5
    refine ⟨_, rfl, _, _, _, _, rfl, rfl, SqT.of (w5.same _ _ q1), rfl, _, rfl, ⟨_, SqT.of (w5.same _ _ q2)⟩, ?_⟩
    refine forS (tw_tup (a := a2) h2) hm (fun (g11 : (List (List Int))) σ H' => ∃ (F' : Hp) (as11_0 : List Addr) (vs11_0 : List (List V)) (o11_2 : Option V) (o11_3 : Option V), σ = [some (.ref a1), some (.ref D5), o11_2, o11_3, none, none] ∧ Same F5 F' ∧ W F' H' ((D5, .lst us5) :: (nz as11_0 vs11_0 ++ os)) ∧ as5_0 <+: as11_0 ∧ Sto K F' as11_0 vs11_0 g11) ⟨_, _, _, _, _, rfl, Same.refl _, w5, pfx_refl, h5_0⟩ (fun g σ H' hI => by obtain ⟨F', _, _, _, _, _, s, w, _⟩ := hI; exact SqT.of (w.same _ _ (s _ _ q2))) ?_ ?_
    · -- a turn
      intro b11 g11 x11 σ11 H11 H11' N11 P11 hI hy hN11 hm
      obtain ⟨F11, as11_0, vs11_0, o11_2, o11_3, rfl, s11, w11, p11_0, h11_0⟩ := hI
      replace q1 := s11 _ _ q1
      replace h2 := A2.mono s11 h2
      replace q2 := s11 _ _ q2
      replace sF := sF.trans s11
      replace gg5 := A2.imp (fun _ _ => RX.mono p11_0) gg5
      obtain ⟨rfl, r12⟩ := hy
      replace r12 := Rep.mono s11 r12
      obtain ⟨a13, u13, z13, rfl, q13, r13a, r13b⟩ := r12
      obtain rfl : u13 = V.int b11.1 := r13a
      obtain rfl : z13 = V.int b11.2 := r13b
      obtain ⟨t14, e14, hm⟩ := pb_get hm
      obtain ⟨u14, f14, r14⟩ := A2.at gg5 e14
      obtain ⟨a15, rfl, q15⟩ := r14
      obtain ⟨x16, e16, hm⟩ := pb_getS hm
      obtain ⟨vs16, i16, h16⟩ := Sto.getq h11_0 e16 q15
      obtain ⟨l17, z17, e17, hm⟩ := pn_app hm
      obtain ⟨st17, es17, hm⟩ := pn_setS hm
      refine ⟨_, _, rfl, SqT.of (w11.same _ _ q13), rfl, _, _, rfl, _, _, rfl, rfl, _, rfl, _, rfl, _, _, _, _, rfl, rfl, SqL.of (w11.get (pre := [])), f14, .inl ⟨rfl, _, SqL.of (W.nget (pre := [_]) w11 q15 i16)⟩, _, rfl, _, _, _, rfl, rfl, (W.nget (pre := [_]) w11 q15 i16), (A2.lt h16 z17), ?_⟩
      have h17 : Sto K F11 as11_0 (vs11_0.set t14 (vs16 ++ [(.int b11.2)])) st17 := es17 ▸ Sto.set h11_0 (e17 ▸ A2.snoc h16 rep_i)
      have w17 : W F11 _ ((D5, .lst us5) :: (nz as11_0 (vs11_0.set t14 (vs16 ++ [(.int b11.2)])) ++ os)) := w11.nset (pre := [_]) (vs16 ++ [(.int b11.2)]) q15 i16
      obtain ⟨t18, e18, hm⟩ := pb_get hm
      obtain ⟨u18, f18, r18⟩ := A2.at gg5 e18
      obtain ⟨a19, rfl, q19⟩ := r18
      obtain ⟨x20, e20, hm⟩ := pb_getS hm
      obtain ⟨vs20, i20, h20⟩ := Sto.getq h17 e20 q19
      obtain ⟨l21, z21, e21, hm⟩ := pn_app hm
      obtain ⟨st21, es21, hm⟩ := pn_setS hm
      refine ⟨_, rfl, _, rfl, _, _, _, _, rfl, rfl, SqL.of (w17.get (pre := [])), f18, .inl ⟨rfl, _, SqL.of (W.nget (pre := [_]) w17 q19 i20)⟩, _, rfl, _, _, _, rfl, rfl, (W.nget (pre := [_]) w17 q19 i20), (A2.lt h20 z21), ?_⟩
      have h21 : Sto K F11 as11_0 ((vs11_0.set t14 (vs16 ++ [(.int b11.2)])).set t18 (vs20 ++ [(.int b11.1)])) st21 := es21 ▸ Sto.set h17 (e21 ▸ A2.snoc h20 rep_i)
      have w21 : W F11 _ ((D5, .lst us5) :: (nz as11_0 ((vs11_0.set t14 (vs16 ++ [(.int b11.2)])).set t18 (vs20 ++ [(.int b11.1)])) ++ os)) := w17.nset (pre := [_]) (vs20 ++ [(.int b11.1)]) q19 i20
      exact hN11 _ (post_ok hm) _ _ ⟨_, _, _, _, _, rfl, s11, w21, p11_0, h21⟩
    intro g11 σ11 H11 hI hm
    obtain ⟨F11, as11_0, vs11_0, o11_2, o11_3, rfl, s11, w11, p11_0, h11_0⟩ := hI
    replace q1 := s11 _ _ q1
    replace h2 := A2.mono s11 h2
    replace q2 := s11 _ _ q2
    replace sF := sF.trans s11
    replace gg5 := A2.imp (fun _ _ => RX.mono p11_0) gg5
    refine ⟨_, rfl, _, rfl, ⟨_, SqL.of (w11.get (pre := []))⟩, fun D22 nD22 => ?_⟩
    refine lcM (K := K) (tw_listR (a := D5) gg5) hm w11 nD22 (fun F' H' acc s w => SqL.of (w.get (pre := [_]))) ?_ ?_
    · -- one turn
      intro b22 x22 F22 H22 H22' acc22 N22 P22 s22 w22 y22 hN22 hm
      replace q1 := s22 _ _ q1
      replace h2 := A2.mono s22 h2
      replace q2 := s22 _ _ q2
      replace h11_0 := Sto.mono s22 h11_0
      replace sF := sF.trans s22
      obtain ⟨rfl, r24⟩ := y22
      obtain ⟨a25, rfl, q25⟩ := r24
      obtain ⟨x26, e26, hm⟩ := pb_getS hm
      obtain ⟨vs26, i26, h26⟩ := Sto.getq h11_0 e26 q25
      have h27 : A2 (rep K F22) ((sortI x26).map V.int) (sortI x26) := A2.of_ints
      refine ⟨rfl, _, rfl, _, _, rfl, ints_q (SqL.of (W.nget (pre := [_, _]) w22 q25 i26)) h26, fun p28 n28 => ?_⟩
      have w28 : W F22 _ ((p28, .lst ((sortI x26).map V.int)) :: (D22, .lst acc22) :: (D5, .lst us5) :: (nz as11_0 vs11_0 ++ os)) := w22.new n28
      obtain ⟨F29, s29, w29, q29⟩ : ∃ F', Same F22 F' ∧ W F' _ ((D22, .lst acc22) :: (D5, .lst us5) :: (nz as11_0 vs11_0 ++ os)) ∧ F' p28 = some (.lst ((sortI x26).map V.int)) := w28.freezeE (pre := [])
      replace q1 := s29 _ _ q1
      replace h2 := A2.mono s29 h2
      replace q2 := s29 _ _ q2
      replace h11_0 := Sto.mono s29 h11_0
      replace h26 := A2.mono s29 h26
      replace h27 := A2.mono s29 h27
      replace sF := sF.trans s29
      exact hN22 _ (post_ok hm) _ _ _ w29 s29 (rep_lst q29 h27)
    intro us22 F22 H22 ys22 s22 w22 gg22 hm
    replace q1 := s22 _ _ q1
    replace h2 := A2.mono s22 h2
    replace q2 := s22 _ _ q2
    replace h11_0 := Sto.mono s22 h11_0
    replace sF := sF.trans s22
    obtain ⟨F31, s31, w31, q31⟩ : ∃ F', Same F22 F' ∧ W F' _ ((D5, .lst us5) :: (nz as11_0 vs11_0 ++ os)) ∧ F' D22 = some (.lst us22) := w22.freezeE (pre := [])
    replace q1 := s31 _ _ q1
    replace h2 := A2.mono s31 h2
    replace q2 := s31 _ _ q2
    replace h11_0 := Sto.mono s31 h11_0
    replace gg22 := A2.mono s31 gg22
    replace sF := sF.trans s31
    have w32 : W F31 _ ((nz as11_0 vs11_0 ++ os)) := w31.drop (pre := [])
    have w33 : W F31 _ (os) := w32.dropL (pre := [])
    exact (post_ok hm) _ _ _ w33 sF (rep_lst q31 gg22)
def sp_fars_by (K : Fg) : Sp := fun vs H Q E => ∃ (F : Hp) (os : List (Addr × HO)) (v_near : V) (x_near : (List (List Int))) (x_place : Int), vs = [v_near, .int x_place] ∧ W F H (os) ∧ rep K F v_near x_near ∧ Post (fars_by x_near x_place) (RetL K F os Q) noX
theorem sc_fars_by : FnScope ["near", "place", "found", "line", "at", "other"] ["near", "place"] (defScope s_fars_by) := ⟨rfl, rfl, rfl, by decide +kernel, rfl, by decide +kernel, by decide +kernel⟩
theorem ok_fars_by (T : Tx K mg A FD) : FnOk P w K mg base CX0 1 (A 9) (FD 9) ["near", "place"] (sp_fars_by K) := by
  refine T.d9.fn.ok sc_fars_by (fun vs H Q E h => ?_) (fun cdv Ar outer s H vs Q E hr h => ?_)
  · obtain ⟨F, os, v_near, x_near, x_place, rfl, _⟩ := h
    rfl
  · obtain ⟨F0, os, v_near, x_near, x_place, rfl, w0, r_near, hm⟩ := h
    have sF : Same F0 F0 := Same.refl _
    obtain ⟨a1, vs1, rfl, q1, h1⟩ := r_near
    refine ⟨_, (pss_cons (ps_set (i := 2) sc_fars_by.nd rfl (Or.inl rfl) (pe_op op_rep (pe_lst (pa_cons pe_non pa_nil)) (pe_callB (call_lenN (K := K) rfl) (by rfl) T.n_len (by decide +kernel) (pa_cons (pv 0) pa_nil)))) (pss_cons (ps_asg pe_int (pg_sub (pv 2) (pv 1) set_list)) (pss_cons (ps_set (i := 3) sc_fars_by.nd rfl (Or.inl rfl) (pe_lst (pa_cons (pv 1) pa_nil))) (pss_cons (ps_set (i := 4) sc_fars_by.nd rfl (Or.inl rfl) pe_int1) (pss_cons (ps_while PassesOwn.never (pt_cmp (pc_lt (pv 4) (pe_callB (call_lenN (K := K) rfl) (by rfl) T.n_len (by decide +kernel) (pa_cons (pv 3) pa_nil)))) (pss_cons (ps_for PassesOwn.never rfl (pi_listK (K := K) rfl (pe_ix (ix_listK (K := K) rfl) (pv 0) (pe_ix (ix_listK (K := K) rfl) (pv 3) (pv 4) (fun _ _ => rfl)) (fun _ _ => rfl))) (pg_name (i := 5) sc_fars_by.nd rfl (Or.inl rfl)) (pss_one (ps_if (pt_cmpR op_isN2 (pe_ix (ix_listK (K := K) rfl) (pv 2) (pv 5) (fun _ _ => rfl)) pe_non (nomark _)) (pss_cons (ps_asg (pe_op op_add (pe_ix (ix_listK (K := K) rfl) (pv 2) (pe_ix (ix_listK (K := K) rfl) (pv 3) (pv 4) (fun _ _ => rfl)) (fun _ _ => rfl)) pe_int) (pg_sub (pv 2) (pv 5) set_list)) (pss_one (ps_expr (pe_bm PySem.F.plainAttrs_list PySem.F.slot_list_append PySem.F.type_list_append mt_append (pv 3) (pa_cons (pv 5) pa_nil))))) pss_nil))) (pss_one (ps_set (i := 4) sc_fars_by.nd rfl (Or.inl rfl) (pe_op op_add (pv 4) pe_int))))) (pss_one (ps_ret (pv 2)))))))), ?_⟩
    have h2 : A2 (rep K F0) [.non] ([none] : (List (Option Int))) := .cons rep_none (.nil)
    refine ⟨(by show 1 ≤ sizeLine; decide), fun p3 n3 => ?_⟩
    have w3 : W F0 _ ((p3, .lst [.non]) :: os) := w0.new n3
    obtain ⟨l4, z4, e4, hm⟩ := pb_rep hm
    have h4 : A2 (rep K F0) (List.replicate (x_near.length : Int).toNat [.non]).flatten l4 := e4 ▸ A2.flat h2 _
    refine ⟨_, rfl, _, _, _, rfl, .inl (SqL.of (w3.same _ _ q1)), h1.length, _, _, _, rfl, rfl, (w3.get (pre := [])), z4.1, z4.2.1, (by rw [h2.length]; exact z4.2.2), fun p5 n5 => ?_⟩
    have w5 : W F0 _ ((p5, .lst (List.replicate (x_near.length : Int).toNat [.non]).flatten) :: (p3, .lst [.non]) :: os) := w3.new n5
    have w6 : W F0 _ ((p5, .lst (List.replicate (x_near.length : Int).toNat [.non]).flatten) :: os) := w5.drop (pre := [_])
    obtain ⟨j7, l7, z7, e7, hm⟩ := pn_set hm
    refine ⟨_, rfl, _, rfl, _, _, _, _, rfl, rfl, (w6.get (pre := [])), (A2.ix h4 z7), ?_⟩
    have h7 : A2 (rep K F0) ((List.replicate (x_near.length : Int).toNat [.non]).flatten.set j7 (V.int 0)) l7 := e7 ▸ A2.set (rep_some rep_i) j7 h4
    have w8 : W F0 _ ((p5, .lst ((List.replicate (x_near.length : Int).toNat [.non]).flatten.set j7 (V.int 0))) :: os) := w6.set (pre := [])
    have h9 : A2 (rep K F0) [(.int x_place)] ([x_place] : (List Int)) := .cons rep_i (.nil)
    refine ⟨_, rfl, (by show 1 ≤ sizeLine; decide), fun p10 n10 => ?_⟩
    have w10 : W F0 _ ((p10, .lst [(.int x_place)]) :: (p5, .lst ((List.replicate (x_near.length : Int).toNat [.non]).flatten.set j7 (V.int 0))) :: os) := w8.new n10
    refine ⟨trivial, ?_⟩
    refine stepN ?_
    try dsimp only
    refine stepSeq (whileS hm (fun (g11 : Int × (List Int) × (List (Option Int))) σ H' => ∃ (F' : Hp) (vs11_0 : List V) (vs11_1 : List V) (o11_5 : Option V), σ = [some (.ref a1), some (.int x_place), some (.ref p5), some (.ref p10), some (.int g11.1), o11_5] ∧ Same F0 F' ∧ W F' H' ((p10, .lst vs11_0) :: (p5, .lst vs11_1) :: os) ∧ A2 (rep K F') vs11_0 g11.2.1 ∧ A2 (rep K F') vs11_1 g11.2.2) ⟨_, _, _, _, rfl, Same.refl _, w10, h9, h7⟩ ?_ ?_ ?_)
    · intro g11 σ11 H11 N11 P11 hI hN11 hm
      obtain ⟨F11, vs11_0, vs11_1, o11_5, rfl, s11, w11, h11_0, h11_1⟩ := hI
      replace h1 := A2.mono s11 h1
      replace q1 := s11 _ _ q1
      replace sF := sF.trans s11
      exact ⟨_, rfl, _, rfl, _, _, _, rfl, .inl (SqL.of (w11.get (pre := []))), h11_0.length, _, _, rfl, rfl, _, rfl, hN11 _ (post_ok hm) _ ⟨_, _, _, _, rfl, s11, w11, h11_0, h11_1⟩⟩
    · intro g11 σ11 H11 N11 P11 hI hN11 hm
      obtain ⟨F11, vs11_0, vs11_1, o11_5, rfl, s11, w11, h11_0, h11_1⟩ := hI
      replace h1 := A2.mono s11 h1
      replace q1 := s11 _ _ q1
      replace sF := sF.trans s11
      obtain ⟨t13, e13, hm⟩ := pb_get hm
      obtain ⟨u13, f13, r13⟩ := A2.at h11_0 e13
      obtain rfl : u13 = V.int t13 := r13
      obtain ⟨t14, e14, hm⟩ := pb_get hm
      obtain ⟨u14, f14, r14⟩ := A2.at h1 e14
      obtain ⟨a15, vs15, rfl, q15, h15⟩ := r14
      refine ⟨_, rfl, _, rfl, _, rfl, _, _, _, _, rfl, rfl, SqL.of (w11.get (pre := [])), f13, _, _, _, _, rfl, rfl, SqL.of (w11.same _ _ q1), f14, _, rfl, ⟨_, SqL.of (w11.same _ _ q15)⟩, ?_⟩
      refine forS (tw_list (a := a15) h15) hm (fun (g12 : (List Int) × (List (Option Int))) σ H' => ∃ (F' : Hp) (vs12_0 : List V) (vs12_1 : List V) (o12_5 : Option V), σ = [some (.ref a1), some (.int x_place), some (.ref p5), some (.ref p10), some (.int g11.1), o12_5] ∧ Same F11 F' ∧ W F' H' ((p10, .lst vs12_0) :: (p5, .lst vs12_1) :: os) ∧ A2 (rep K F') vs12_0 g12.1 ∧ A2 (rep K F') vs12_1 g12.2) ⟨_, _, _, _, rfl, Same.refl _, w11, h11_0, h11_1⟩ (fun g σ H' hI => by obtain ⟨F', _, _, _, _, s, w, _⟩ := hI; exact SqL.of (w.same _ _ (s _ _ q15))) ?_ ?_
      · -- a turn
        intro b12 g12 x12 σ12 H12 H12' N12 P12 hI hy hN12 hm
        obtain ⟨F12, vs12_0, vs12_1, o12_5, rfl, s12, w12, h12_0, h12_1⟩ := hI
        replace h1 := A2.mono s12 h1
        replace q1 := s12 _ _ q1
        replace q15 := s12 _ _ q15
        replace h15 := A2.mono s12 h15
        replace sF := sF.trans s12
        obtain ⟨rfl, r16⟩ := hy
        obtain rfl : x12 = V.int b12 := r16
        obtain ⟨t17, e17, hm⟩ := pb_get hm
        obtain ⟨u17, f17, r17⟩ := A2.at h12_1 e17
        refine ⟨_, rfl, _, rfl, _, _, _, _, rfl, rfl, SqL.of (w12.get (pre := [_])), f17, rfl, _, isN_eq r17, _, rfl, ?_⟩
        refine post_ite hm (fun k19 hm => ?_) (fun k19 hm => ?_)
        · skip
          obtain ⟨t20, e20, hm⟩ := pb_get hm
          obtain ⟨u20, f20, r20⟩ := A2.at h12_0 e20
          obtain rfl : u20 = V.int t20 := r20
          obtain ⟨t21, e21, hm⟩ := pb_get hm
          obtain ⟨u21, f21, r21⟩ := A2.at h12_1 e21
          obtain ⟨t23, e23, hm⟩ := pb_ofO hm
          have r23 : rep K F12 u21 (some t23) := e23 ▸ r21
          replace r23 : u21 = V.int t23 := r23
          subst r23
          obtain ⟨j24, l24, z24, e24, hm⟩ := pn_set hm
          refine ⟨_, rfl, _, rfl, _, rfl, _, _, _, _, rfl, rfl, SqL.of (w12.get (pre := [])), f20, _, _, _, _, rfl, rfl, SqL.of (w12.get (pre := [_])), f21, _, _, rfl, rfl, _, rfl, _, rfl, _, _, _, _, rfl, rfl, (w12.get (pre := [_])), (A2.ix h12_1 z24), ?_⟩
          have h24 : A2 (rep K F12) (vs12_1.set j24 (V.int (t23 + (1 : Int)))) l24 := e24 ▸ A2.set (rep_some rep_i) j24 h12_1
          have w25 : W F12 _ ((p10, .lst vs12_0) :: (p5, .lst (vs12_1.set j24 (V.int (t23 + (1 : Int))))) :: os) := w12.set (pre := [_])
          obtain ⟨l26, z26, e26, hm⟩ := pn_app hm
          refine ⟨_, rfl, .inl ⟨rfl, _, SqL.of (w25.get (pre := []))⟩, _, rfl, _, _, _, rfl, rfl, (w25.get (pre := [])), (A2.lt h12_0 z26), ?_⟩
          have h26 : A2 (rep K F12) (vs12_0 ++ [(V.int b12)]) l26 := e26 ▸ A2.snoc h12_0 rep_i
          have w27 : W F12 _ ((p10, .lst (vs12_0 ++ [(V.int b12)])) :: (p5, .lst (vs12_1.set j24 (V.int (t23 + (1 : Int))))) :: os) := w25.set (pre := [])
          exact hN12 _ (post_ok hm) _ _ ⟨_, _, _, _, rfl, s12, w27, h26, h24⟩
        · skip
          exact hN12 _ (post_ok hm) _ _ ⟨_, _, _, _, rfl, s12, w12, h12_0, h12_1⟩
      intro g12 σ12 H12 hI hm
      obtain ⟨F12, vs12_0, vs12_1, o12_5, rfl, s12, w12, h12_0, h12_1⟩ := hI
      replace h1 := A2.mono s12 h1
      replace q1 := s12 _ _ q1
      replace q15 := s12 _ _ q15
      replace h15 := A2.mono s12 h15
      replace sF := sF.trans s12
      exact ⟨_, rfl, _, _, rfl, rfl, hN11 _ (post_ok hm) _ _ ⟨_, _, _, _, rfl, (s11.trans s12), w12, h12_0, h12_1⟩⟩
    intro g11 σ11 H11 hI hm
    obtain ⟨F11, vs11_0, vs11_1, o11_5, rfl, s11, w11, h11_0, h11_1⟩ := hI
    replace h1 := A2.mono s11 h1
    replace q1 := s11 _ _ q1
    replace sF := sF.trans s11
    have w28 : W F11 _ ((p5, .lst vs11_1) :: os) := w11.drop (pre := [])
    exact ⟨_, rfl, (post_ok hm) _ _ _ _ w28 sF h11_1⟩
def sp_sorted_tiesX (K : Fg) : Sp := fun vs H Q E => ∃ (F : Hp) (os : List (Addr × HO)) (x_many : Int) (a_ties : Addr) (vs_ties : List V) (x_ties : (List (Int × Int))), vs = [.int x_many, .ref a_ties] ∧ W F H ((a_ties, .lst vs_ties) :: os) ∧ A2 (rep K F) vs_ties x_ties ∧ Post (sorted_tiesX x_many x_ties) (fun (y : (Tup (Int × Int))) => ∀ (v : V) (F' H' : Hp), W F' H' ((a_ties, .lst vs_ties) :: os) → Same F F' → rep K F' v (y : (Tup (Int × Int))) → Q v H') (RetXD fld K F ((a_ties, .lst vs_ties) :: os) E)
theorem sc_sorted_ties : FnScope ["many", "ties", "found", "one", "other", "tie"] ["many", "ties"] (defScope s_sorted_ties) := ⟨rfl, rfl, rfl, by decide +kernel, rfl, by decide +kernel, by decide +kernel⟩
theorem ok_sorted_tiesX (T : Tx K mg A FD) : FnOk P w K mg base (L2.CX P w) 1 (A 10) (FD 10) ["many", "ties"] (sp_sorted_tiesX K) := by
  refine T.d10.fn.okX sc_sorted_ties (fun vs H Q E h => ?_) (fun cdv Ar outer s H vs Q E hr h => ?_)
  · obtain ⟨F, os, x_many, a_ties, vs_ties, x_ties, rfl, _⟩ := h
    rfl
  · obtain ⟨F0, os, x_many, a_ties, vs_ties, x_ties, rfl, w0, h_ties, hm⟩ := h
    have sF : Same F0 F0 := Same.refl _
    refine ⟨_, (pss_cons (ps_set (i := 2) sc_sorted_ties.nd rfl (Or.inl rfl) (pe_lst pa_nil)) (pss_cons (ps_for (passes_of rfl) rfl (pi_listK (K := K) rfl (pv 1)) (pg_k (K := K) (t := fun K => gTup K 2 _) rfl (pg_tup (n := 2) rfl (pgs_cons (pg_name (i := 3) sc_sorted_ties.nd rfl (Or.inl rfl)) (pgs_cons (pg_name (i := 4) sc_sorted_ties.nd rfl (Or.inl rfl)) pgs_nil)))) (pss_cons (ps_set (i := 5) sc_sorted_ties.nd rfl (Or.inl rfl) (pe_tup (pa_cons (pe_callB (call_min2 rfl) (by rfl) T.n_min (by decide +kernel) (pa_cons (pv 3) (pa_cons (pv 4) pa_nil))) (pa_cons (pe_callB (call_max2 rfl) (by rfl) T.n_max (by decide +kernel) (pa_cons (pv 3) (pa_cons (pv 4) pa_nil))) pa_nil)))) (pss_cons (ps_if (PW.pt (pw_or (pt_cmp (pc_lt (pe_ix (ix_tupK (K := K) rfl) (pv 5) pe_int (fun _ _ => rfl)) pe_int)) (pw_or (pt_cmp (pc_ge (pe_ix (ix_tupK (K := K) rfl) (pv 5) pe_int (fun _ _ => rfl)) (pv 0))) (pw_or (pt_cmp (pc_eqI (pv 3) (pv 4))) (pw_or1 (pt_cmpR (op_inL (K := K) rfl (Int × Int) (by decide) (Room.units65 hr)) (pv 5) (pv 2) (by rfl))))))) (pss_one (ps_raise rfl (takes_of rfl rfl rfl rfl) (pmk_own PySem.F.excBase_ValueError T.x_NoWeb.xc T.x_NoWeb.gm T.x_NoWeb.kp (raises_own T.x_NoWeb.b T.x_NoWeb.t) (by exact rfl)))) pss_nil) (pss_one (ps_expr (pe_bm PySem.F.plainAttrs_list PySem.F.slot_list_append PySem.F.type_list_append mt_append (pv 2) (pa_cons (pv 5) pa_nil))))))) (pss_one (ps_ret (pe_callTy (call_tuple_ofK (K := K) rfl) (by rfl) T.n_tuple (by decide +kernel) (pa_cons (pe_callB (cr_sortP (K := K) rfl) (by rfl) T.n_sorted (by decide +kernel) (pa_cons (pv 2) pa_nil)) pa_nil)))))), ?_⟩
    have h2 : A2 (rep K F0) [] ([] : (List (Int × Int))) := .nil
    refine ⟨(by show 0 ≤ sizeLine; decide), fun p3 n3 => ?_⟩
    have w3 : W F0 _ ((p3, .lst []) :: (a_ties, .lst vs_ties) :: os) := w0.new n3
    refine ⟨_, rfl, _, rfl, ⟨_, SqL.of (w3.get (pre := [_]))⟩, ?_⟩
    refine forS (tw_list (a := a_ties) h_ties) hm (fun (g4 : (List (Int × Int))) σ H' => ∃ (F' : Hp) (vs4_0 : List V) (o4_5 : Option V) (o4_3 : Option V) (o4_4 : Option V), σ = [some (.int x_many), some (.ref a_ties), some (.ref p3), o4_3, o4_4, o4_5] ∧ Same F0 F' ∧ W F' H' ((p3, .lst vs4_0) :: (a_ties, .lst vs_ties) :: os) ∧ A2 (rep K F') vs4_0 g4) ⟨_, _, _, _, _, rfl, Same.refl _, w3, h2⟩ (fun g σ H' hI => by obtain ⟨F', _, _, _, _, _, s, w, _⟩ := hI; exact SqL.of (w.get (pre := [_]))) ?_ ?_
    · -- a turn
      intro b4 g4 x4 σ4 H4 H4' N4 P4 hI hy hN4 hm
      obtain ⟨F4, vs4_0, o4_5, o4_3, o4_4, rfl, s4, w4, h4_0⟩ := hI
      replace h_ties := A2.mono s4 h_ties
      replace sF := sF.trans s4
      obtain ⟨rfl, r5⟩ := hy
      replace r5 := Rep.mono s4 r5
      obtain ⟨a6, u6, z6, rfl, q6, r6a, r6b⟩ := r5
      obtain rfl : u6 = V.int b4.1 := r6a
      obtain rfl : z6 = V.int b4.2 := r6b
      refine ⟨_, _, rfl, SqT.of (w4.same _ _ q6), rfl, _, _, rfl, _, _, rfl, rfl, _, rfl, _, rfl, _, _, rfl, _, rfl, _, rfl, _, _, rfl, (by show 2 ≤ sizeLine; decide), fun p7 n7 => ?_⟩
      obtain ⟨F7, s7, w7, q7⟩ := w4.frzE (o := .tup [(.int (min2 b4.1 b4.2)), (.int (max2 b4.1 b4.2))]) n7
      replace h4_0 := A2.mono s7 h4_0
      replace h_ties := A2.mono s7 h_ties
      replace sF := sF.trans s7
      refine stepN ?_
      try dsimp only
      refine stepSeq (stepIf ?_)
      refine cutT (fun c H' => c = (((decide ((min2 b4.1 b4.2) < (0 : Int))) || ((decide (x_many ≤ (max2 b4.1 b4.2))) || ((decide (b4.1 = b4.2)) || (inB ((min2 b4.1 b4.2), (max2 b4.1 b4.2)) g4))))) ∧ ∃ F', Same F7 F' ∧ W F' H' ((p3, .lst vs4_0) :: (a_ties, .lst vs_ties) :: os)) (fun Q8 q8 => ?_) (fun c8 H8 hc8 => ?_)
      · -- the ways
        refine ⟨_, rfl, _, _, _, _, rfl, rfl, SqT.of (w7.same _ _ q7), rfl, _, _, rfl, rfl, _, rfl, ?_⟩
        refine ifB (fun k9 => ?_) (fun k9 => ?_)
        · skip
          exact q8 _ _ ⟨(by first | rfl | exact absurd k9 (by decide) | (simp [k9]; done) | ((try simp only [Bool.not_eq_true] at k9); simp only [k9, Bool.true_or, Bool.false_or, Bool.or_false, Bool.or_true, Bool.true_and, Bool.false_and, Bool.and_true, Bool.and_false])), _, Same.refl _, w7⟩
        · skip
          refine ⟨_, rfl, _, _, _, _, rfl, rfl, SqT.of (w7.same _ _ q7), rfl, _, rfl, _, _, rfl, rfl, _, rfl, ?_⟩
          refine ifB (fun k11 => ?_) (fun k11 => ?_)
          · skip
            exact q8 _ _ ⟨(by first | rfl | exact absurd k9 (by decide) | exact absurd k11 (by decide) | (simp [k9, k11]; done) | ((try simp only [Bool.not_eq_true] at k9); (try simp only [Bool.not_eq_true] at k11); simp only [k9, k11, Bool.true_or, Bool.false_or, Bool.or_false, Bool.or_true, Bool.true_and, Bool.false_and, Bool.and_true, Bool.and_false])), _, Same.refl _, w7⟩
          · skip
            refine ⟨_, rfl, _, rfl, _, _, rfl, rfl, _, rfl, ?_⟩
            refine ifB (fun k13 => ?_) (fun k13 => ?_)
            · skip
              exact q8 _ _ ⟨(by first | rfl | exact absurd k9 (by decide) | exact absurd k11 (by decide) | exact absurd k13 (by decide) | (simp [k9, k11, k13]; done) | ((try simp only [Bool.not_eq_true] at k9); (try simp only [Bool.not_eq_true] at k11); (try simp only [Bool.not_eq_true] at k13); simp only [k9, k11, k13, Bool.true_or, Bool.false_or, Bool.or_false, Bool.or_true, Bool.true_and, Bool.false_and, Bool.and_true, Bool.and_false])), _, Same.refl _, w7⟩
            · skip
              exact ⟨_, rfl, _, rfl, (((min2 b4.1 b4.2), (max2 b4.1 b4.2)) : (Int × Int)), _, (Rep.mono w7.same (rep_pair q7 rep_i rep_i)), (rep_own (pre := []) w7 h4_0), _, rfl, q8 _ _ ⟨(by first | rfl | exact absurd k9 (by decide) | exact absurd k11 (by decide) | exact absurd k13 (by decide) | (simp [k9, k11, k13]; done) | ((try simp only [Bool.not_eq_true] at k9); (try simp only [Bool.not_eq_true] at k11); (try simp only [Bool.not_eq_true] at k13); simp only [k9, k11, k13, Bool.true_or, Bool.false_or, Bool.or_false, Bool.or_true, Bool.true_and, Bool.false_and, Bool.and_true, Bool.and_false])), _, Same.refl _, w7⟩⟩
      obtain ⟨rfl, F8, s8, w8⟩ := hc8
      replace q7 := s8 _ _ q7
      replace h4_0 := A2.mono s8 h4_0
      replace h_ties := A2.mono s8 h_ties
      replace sF := sF.trans s8
      refine post_ite hm (fun k16 hm => ?_) (fun k16 hm => ?_)
      · skip
        try dsimp only
        have w17 : W F8 _ ((a_ties, .lst vs_ties) :: os) := w8.drop (pre := [])
        exact hm _ none _ _ T.x_NoWeb.ns w17 sF (XD.no fn_NoWeb)
      · skip
        obtain ⟨l18, z18, e18, hm⟩ := pn_app hm
        refine ⟨_, rfl, .inl ⟨rfl, _, SqL.of (w8.get (pre := []))⟩, _, rfl, _, _, _, rfl, rfl, (w8.get (pre := [])), (A2.lt h4_0 z18), ?_⟩
        have h18 : A2 (rep K F8) (vs4_0 ++ [(V.ref p7)]) l18 := e18 ▸ A2.snoc h4_0 (rep_pair q7 rep_i rep_i)
        have w19 : W F8 _ ((p3, .lst (vs4_0 ++ [(V.ref p7)])) :: (a_ties, .lst vs_ties) :: os) := w8.set (pre := [])
        exact hN4 _ (post_ok hm) _ _ ⟨_, _, _, _, _, rfl, (s4.trans (s7.trans s8)), w19, h18⟩
    intro g4 σ4 H4 hI hm
    obtain ⟨F4, vs4_0, o4_5, o4_3, o4_4, rfl, s4, w4, h4_0⟩ := hI
    replace h_ties := A2.mono s4 h_ties
    replace sF := sF.trans s4
    refine ⟨_, rfl, _, _, F4, g4, rfl, SqL.of (w4.get (pre := [])), w4.same, h4_0, fun p20 us20 n20 h20 => ?_⟩
    have w20 : W F4 _ ((p20, .lst us20) :: (p3, .lst vs4_0) :: (a_ties, .lst vs_ties) :: os) := w4.new n20
    have h22 : A2 (rep K F4) us20 (sortP g4) := h20
    refine ⟨_, _, rfl, .inl ⟨SqL.of (w20.get (pre := [])), fun p23 n23 => ?_⟩⟩
    obtain ⟨F23, s23, w23, q23⟩ := w20.frzE (o := .tup us20) n23
    replace h4_0 := A2.mono s23 h4_0
    replace h_ties := A2.mono s23 h_ties
    replace h20 := A2.mono s23 h20
    replace h22 := A2.mono s23 h22
    replace sF := sF.trans s23
    have w24 : W F23 _ ((p3, .lst vs4_0) :: (a_ties, .lst vs_ties) :: os) := w23.drop (pre := [])
    have w25 : W F23 _ ((a_ties, .lst vs_ties) :: os) := w24.drop (pre := [])
    exact (post_ok hm) _ _ _ w25 sF (rep_tup q23 h22)
def sp_made_webX (K : Fg) : Sp := fun vs H Q E => ∃ (F : Hp) (os : List (Addr × HO)) (x_many : Int) (a_ties : Addr) (vs_ties : List V) (x_ties : (List (Int × Int))), vs = [.int x_many, .ref a_ties] ∧ W F H ((a_ties, .lst vs_ties) :: os) ∧ A2 (rep K F) vs_ties x_ties ∧ Post (made_webX x_many x_ties) (fun (y : (Int × (Tup (Int × Int)))) => ∀ (v : V) (F' H' : Hp), W F' H' ((a_ties, .lst vs_ties) :: os) → Same F F' → rep K F' v (y : (Int × (Tup (Int × Int)))) → Q v H') (RetXD fld K F ((a_ties, .lst vs_ties) :: os) E)
theorem sc_made_web : FnScope ["many", "ties", "web", "fars", "place"] ["many", "ties"] (defScope s_made_web) := ⟨rfl, rfl, rfl, by decide +kernel, rfl, by decide +kernel, by decide +kernel⟩
theorem ok_made_webX (T : Tx K mg A FD) : FnOk P w K mg base (L2.CX P w) 3 (A 11) (FD 11) ["many", "ties"] (sp_made_webX K) := by
  refine T.d11.fn.okX sc_made_web (fun vs H Q E h => ?_) (fun cdv Ar outer s H vs Q E hr h => ?_)
  · obtain ⟨F, os, x_many, a_ties, vs_ties, x_ties, rfl, _⟩ := h
    rfl
  · obtain ⟨F0, os, x_many, a_ties, vs_ties, x_ties, rfl, w0, h_ties, hm⟩ := h
    have sF : Same F0 F0 := Same.refl _
    refine ⟨_, (pss_cons (ps_if (pt_not (pt_chain op_le op_le pe_int (pv 0) (pe_globI (by rfl) T.c_MOST_PLACES))) (pss_one (ps_raise rfl (takes_of rfl rfl rfl rfl) (pmk_own PySem.F.excBase_ValueError T.x_NoWeb.xc T.x_NoWeb.gm T.x_NoWeb.kp (raises_own T.x_NoWeb.b T.x_NoWeb.t) (by exact rfl)))) pss_nil) (pss_cons (ps_set (i := 2) sc_made_web.nd rfl (Or.inl rfl) (pe_tup (pa_cons (pv 0) (pa_cons (pe_callS (ok_sorted_tiesX T) (hr.mono (by decide)) (by rfl) T.d10.mg T.d10.fn.kp T.d10.b (fun σ => passAt (takes_of rfl rfl rfl rfl) σ) (pa_cons (pv 0) (pa_cons (pv 1) pa_nil))) pa_nil)))) (pss_cons (ps_set (i := 3) sc_made_web.nd rfl (Or.inl rfl) (pe_call (ok_fars_by T) (hr.mono (by decide)) (by rfl) T.d9.mg T.d9.fn.kp T.d9.b .nil pass0 (pa_cons (pe_call (ok_near_lists T) (hr.mono (by decide)) (by rfl) T.d8.mg T.d8.fn.kp T.d8.b .nil pass0 (pa_cons (pv 2) pa_nil)) (pa_cons pe_int pa_nil)))) (pss_cons (ps_for (passes_of rfl) rfl (pi_range1 (by rfl) T.n_range (pa_cons (pv 0) pa_nil)) (pg_name (i := 4) sc_made_web.nd rfl (Or.inl rfl)) (pss_one (ps_if (pt_cmpR op_isN2 (pe_ix (ix_listK (K := K) rfl) (pv 3) (pv 4) (fun _ _ => rfl)) pe_non (nomark _)) (pss_one (ps_raise rfl (takes_of rfl rfl rfl rfl) (pmk_oex T.xi_Apart.ox T.xi_Apart.ini T.xi_Apart.tI (ok_Apart_init T) (hr.mono (by decide)) T.d6000.b .nil pass0 (by rfl) T.x_Apart.gm (pa_cons (pv 4) pa_nil)))) pss_nil))) (pss_one (ps_ret (pv 2))))))), ?_⟩
    try dsimp only
    refine stepSeq (stepIf ?_)
    refine stepNot ?_
    refine cutT (fun c H' => c = ((decide ((1 : Int) ≤ x_many)) && (decide (x_many ≤ (60 : Int)))) ∧ ∃ F', Same F0 F' ∧ W F' H' ((a_ties, .lst vs_ties) :: os)) (fun Q2 q2 => ?_) (fun c2 H2 hc2 => ?_)
    · -- the ways
      refine ⟨_, rfl, _, _, rfl, rfl, _, rfl, ?_⟩
      refine ifB (fun k3 => ?_) (fun k3 => ?_)
      · skip
        exact ⟨_, _, rfl, rfl, _, rfl, q2 _ _ ⟨(by first | rfl | exact absurd k3 (by decide) | (simp [k3]; done) | ((try simp only [Bool.not_eq_true] at k3); simp only [k3, Bool.true_or, Bool.false_or, Bool.or_false, Bool.or_true, Bool.true_and, Bool.false_and, Bool.and_true, Bool.and_false])), _, Same.refl _, w0⟩⟩
      · skip
        exact ⟨_, rfl, q2 _ _ ⟨(by first | rfl | exact absurd k3 (by decide) | (simp [k3]; done) | ((try simp only [Bool.not_eq_true] at k3); simp only [k3, Bool.true_or, Bool.false_or, Bool.or_false, Bool.or_true, Bool.true_and, Bool.false_and, Bool.and_true, Bool.and_false])), _, Same.refl _, w0⟩⟩
    obtain ⟨rfl, F2, s2, w2⟩ := hc2
    replace h_ties := A2.mono s2 h_ties
    replace sF := sF.trans s2
    refine post_ite hm (fun k6 hm => ?_) (fun k6 hm => ?_)
    · skip
      try dsimp only
      exact hm _ none _ _ T.x_NoWeb.ns w2 sF (XD.no fn_NoWeb)
    · skip
      refine ⟨_, rfl, _, rfl, _, rfl, _, _, _, _, _, _, rfl, w2, h_ties, ?_⟩
      refine (post_bind hm).mono (fun y7 hm v7 F7 H7 w7 s7 r7 => ?_) (fun _ z C d F' H' nC w s xd => z C d F' H' nC w (sF.trans s) xd)
      replace h_ties := A2.mono s7 h_ties
      replace sF := sF.trans s7
      obtain ⟨a8, vs8, rfl, q8, h8⟩ := r7
      refine ⟨(by show 2 ≤ sizeLine; decide), fun p9 n9 => ?_⟩
      obtain ⟨F9, s9, w9, q9⟩ := w7.frzE (o := .tup [(.int x_many), (.ref a8)]) n9
      replace h_ties := A2.mono s9 h_ties
      replace q8 := s9 _ _ q8
      replace h8 := A2.mono s9 h8
      replace sF := sF.trans s9
      refine ⟨_, rfl, _, _, _, ((x_many, y7) : (Int × (Tup (Int × Int)))), rfl, w9, (rep_pair q9 rep_i (rep_tup q8 h8)), ?_⟩
      refine (post_nx hm).mono (fun y10 hm v10 F10 H10 w10 s10 r10 => ?_) (fun _ z => z)
      replace q9 := s10 _ _ q9
      replace h8 := A2.mono s10 h8
      replace q8 := s10 _ _ q8
      replace h_ties := A2.mono s10 h_ties
      replace sF := sF.trans s10
      obtain ⟨a11, vs11, rfl, q11, h11⟩ := r10
      refine ⟨_, _, _, (y10 : (List (List Int))), _, rfl, w10, (rep_lst q11 h11), ?_⟩
      refine (post_nx hm).mono (fun y12 hm p12 us12 F12 H12 w12 s12 g12 => ?_) (fun _ z => z)
      replace q9 := s12 _ _ q9
      replace h8 := A2.mono s12 h8
      replace q8 := s12 _ _ q8
      replace h_ties := A2.mono s12 h_ties
      replace q11 := s12 _ _ q11
      replace h11 := A2.mono s12 h11
      replace sF := sF.trans s12
      obtain ⟨F14, s14, w14, q14⟩ : ∃ F', Same F12 F' ∧ W F' _ ((a_ties, .lst vs_ties) :: os) ∧ F' p12 = some (.lst us12) := w12.freezeE (pre := [])
      replace q9 := s14 _ _ q9
      replace h8 := A2.mono s14 h8
      replace q8 := s14 _ _ q8
      replace h_ties := A2.mono s14 h_ties
      replace q11 := s14 _ _ q11
      replace h11 := A2.mono s14 h11
      replace g12 := A2.mono s14 g12
      replace sF := sF.trans s14
      obtain ⟨c16, hm⟩ := pb_rng hm
      refine ⟨_, rfl, _, rfl, c16.2.2.1, c16.2.2.2, ?_⟩
      refine forS (tw_rng0 (j := x_many)) hm (fun (g15 : Unit) σ H' => ∃ (F' : Hp) (o15_4 : Option V), σ = [some (.int x_many), some (.ref a_ties), some (.ref p9), some (.ref p12), o15_4] ∧ Same F14 F' ∧ W F' H' ((a_ties, .lst vs_ties) :: os)) ⟨_, _, rfl, Same.refl _, w14⟩ (fun _ _ _ _ => trivial) ?_ ?_
      · -- a turn
        intro b15 g15 x15 σ15 H15 H15' N15 P15 hI hy hN15 hm
        obtain ⟨F15, o15_4, rfl, s15, w15⟩ := hI
        replace q9 := s15 _ _ q9
        replace h8 := A2.mono s15 h8
        replace q8 := s15 _ _ q8
        replace g12 := A2.mono s15 g12
        replace q14 := s15 _ _ q14
        replace h_ties := A2.mono s15 h_ties
        replace sF := sF.trans s15
        obtain ⟨rfl, rfl⟩ := hy
        obtain ⟨t17, e17, hm⟩ := pb_get hm
        obtain ⟨u17, f17, r17⟩ := A2.at g12 e17
        refine ⟨_, rfl, _, rfl, _, _, _, _, rfl, rfl, SqL.of (w15.same _ _ q14), f17, rfl, _, isN_eq r17, _, rfl, ?_⟩
        refine post_ite hm (fun k19 hm => ?_) (fun k19 hm => ?_)
        · skip
          try dsimp only
          refine ⟨_, rfl, ?_⟩
          exact ⟨(by show 1 ≤ 1000; decide), fun a na => raise_xd w15 sF (post_raiseX hm) T.x_Apart.ns fd_Apart rfl a na⟩
        · skip
          exact hN15 _ (post_ok hm) _ _ ⟨_, _, rfl, s15, w15⟩
      intro g15 σ15 H15 hI hm
      obtain ⟨F15, o15_4, rfl, s15, w15⟩ := hI
      replace q9 := s15 _ _ q9
      replace h8 := A2.mono s15 h8
      replace q8 := s15 _ _ q8
      replace g12 := A2.mono s15 g12
      replace q14 := s15 _ _ q14
      replace h_ties := A2.mono s15 h_ties
      replace sF := sF.trans s15
      exact ⟨_, rfl, (post_ok hm) _ _ _ w15 sF (rep_pair q9 rep_i (rep_tup q8 h8))⟩
def sp_law_pot (K : Fg) : Sp := fun vs H Q E => ∃ (F : Hp) (os : List (Addr × HO)) (x_cell : Int) (x_k : Int), vs = [.int x_cell, .int x_k] ∧ W F H (os) ∧ Post (law_pot x_cell x_k) (RetL K F os Q) noX
theorem sc_law_pot : FnScope ["cell", "k", "mark", "found", "turn"] ["cell", "k"] (defScope s_law_pot) := ⟨rfl, rfl, rfl, by decide +kernel, rfl, by decide +kernel, by decide +kernel⟩
theorem ok_law_pot (T : Tx K mg A FD) : FnOk P w K mg base CX0 1 (A 13) (FD 13) ["cell", "k"] (sp_law_pot K) := by
  refine T.d13.fn.ok sc_law_pot (fun vs H Q E h => ?_) (fun cdv Ar outer s H vs Q E hr h => ?_)
  · obtain ⟨F, os, x_cell, x_k, rfl, _⟩ := h
    rfl
  · obtain ⟨F0, os, x_cell, x_k, rfl, w0, hm⟩ := h
    have sF : Same F0 F0 := Same.refl _
    refine ⟨_, (pss_cons (ps_set (i := 2) sc_law_pot.nd rfl (Or.inl rfl) (pe_op op_mod (pe_op op_add (pv 0) (pe_op op_mul pe_int (pe_op op_add (pv 1) pe_int))) pe_int)) (pss_cons (ps_set (i := 3) sc_law_pot.nd rfl (Or.inl rfl) (pe_lst (pa_cons pe_int pa_nil))) (pss_cons (ps_for PassesOwn.never rfl (pi_range1 (by rfl) T.n_range (pa_cons pe_int pa_nil)) (pg_name (i := 4) sc_law_pot.nd rfl (Or.inl rfl)) (pss_cons (ps_set (i := 2) sc_law_pot.nd rfl (Or.inl rfl) (pe_op op_mod (pe_op op_add (pe_op op_add (pe_op op_add (pe_op op_mul (pv 2) (pv 2)) (pe_op op_mul pe_int (pv 2))) (pe_op op_mul pe_int (pv 4))) (pv 1)) pe_int)) (pss_one (ps_asg (pe_op op_add (pe_op op_mul (pe_ix (ix_listK (K := K) rfl) (pv 3) pe_int (fun _ _ => rfl)) pe_int) (pv 2)) (pg_sub (pv 3) pe_int set_list))))) (pss_cons (ps_if (pt_cmp (pc_ge (pv 0) (pe_op op_pow pe_int pe_int))) (pss_one (ps_expr (pe_bm PySem.F.plainAttrs_list PySem.F.slot_list_append PySem.F.type_list_append mt_append (pv 3) (pa_cons (pv 0) pa_nil)))) pss_nil) (pss_one (ps_ret (pv 3))))))), ?_⟩
    have h3 : A2 (rep K F0) [(.int 0)] ([(0 : Int)] : (List Int)) := .cons rep_i (.nil)
    refine ⟨_, rfl, _, rfl, _, _, rfl, rfl, _, _, rfl, rfl, (.inl (by constructor <;> decide)), _, _, rfl, rfl, _, _, rfl, rfl, (by show (0 : Int) < (2147483647 : Int); decide), (by show 1 ≤ sizeLine; decide), fun p4 n4 => ?_⟩
    have w4 : W F0 _ ((p4, .lst [(.int 0)]) :: os) := w0.new n4
    refine ⟨_, rfl, (by decide), (by decide), ?_⟩
    refine forS (tw_rng0 (j := (24 : Int))) hm (fun (g5 : Int × (List Int)) σ H' => ∃ (F' : Hp) (vs5_0 : List V) (o5_4 : Option V), σ = [some (.int x_cell), some (.int x_k), some (.int g5.1), some (.ref p4), o5_4] ∧ Same F0 F' ∧ W F' H' ((p4, .lst vs5_0) :: os) ∧ A2 (rep K F') vs5_0 g5.2) ⟨_, _, _, rfl, Same.refl _, w4, h3⟩ (fun _ _ _ _ => trivial) ?_ ?_
    · -- a turn
      intro b5 g5 x5 σ5 H5 H5' N5 P5 hI hy hN5 hm
      obtain ⟨F5, vs5_0, o5_4, rfl, s5, w5, h5_0⟩ := hI
      replace sF := sF.trans s5
      obtain ⟨rfl, rfl⟩ := hy
      obtain ⟨c6, hm⟩ := pb_mul hm
      obtain ⟨t10, e10, hm⟩ := pb_get hm
      obtain ⟨u10, f10, r10⟩ := A2.at h5_0 e10
      obtain rfl : u10 = V.int t10 := r10
      obtain ⟨j12, l12, z12, e12, hm⟩ := pn_set hm
      refine ⟨_, rfl, _, rfl, _, _, rfl, rfl, c6, _, rfl, _, _, rfl, rfl, (.inl (by constructor <;> decide)), _, _, rfl, rfl, _, rfl, _, _, rfl, rfl, (.inl (by constructor <;> decide)), _, _, rfl, rfl, _, rfl, _, _, rfl, rfl, _, _, rfl, rfl, (by show (0 : Int) < (2147483629 : Int); decide), _, rfl, _, _, _, _, rfl, rfl, SqL.of (w5.get (pre := [])), f10, _, _, rfl, rfl, (.inr (by constructor <;> decide)), _, rfl, _, _, rfl, rfl, _, rfl, _, _, _, _, rfl, rfl, (w5.get (pre := [])), (A2.ix h5_0 z12), ?_⟩
      have h12 : A2 (rep K F5) (vs5_0.set j12 (V.int ((t10 * (2147483629 : Int)) + (((((g5.1 * g5.1) + ((48271 : Int) * g5.1)) + ((3 : Int) * b5)) + x_k) % (2147483629 : Int))))) l12 := e12 ▸ A2.set rep_i j12 h5_0
      have w13 : W F5 _ ((p4, .lst (vs5_0.set j12 (V.int ((t10 * (2147483629 : Int)) + (((((g5.1 * g5.1) + ((48271 : Int) * g5.1)) + ((3 : Int) * b5)) + x_k) % (2147483629 : Int)))))) :: os) := w5.set (pre := [])
      exact hN5 _ (post_ok hm) _ _ ⟨_, _, _, rfl, s5, w13, h12⟩
    intro g5 σ5 H5 hI hm
    obtain ⟨F5, vs5_0, o5_4, rfl, s5, w5, h5_0⟩ := hI
    replace sF := sF.trans s5
    try dsimp only
    refine joinS hm (fun (g14 : (List Int)) σ H' => ∃ (F' : Hp) (vs14_0 : List V), σ = [some (.int x_cell), some (.int x_k), some (.int g5.1), some (.ref p4), o5_4] ∧ Same F5 F' ∧ W F' H' ((p4, .lst vs14_0) :: os) ∧ A2 (rep K F') vs14_0 g14) ?_ ?_
    · intro N14 P14 hN14 hm
      refine ⟨_, rfl, _, _, rfl, rfl, (by refine ⟨?_, ?_, ?_⟩ <;> decide), _, _, rfl, rfl, _, rfl, ?_⟩
      refine post_ite hm (fun k16 hm => ?_) (fun k16 hm => ?_)
      · skip
        obtain ⟨l17, z17, e17, hm⟩ := pn_app hm
        refine ⟨_, rfl, .inl ⟨rfl, _, SqL.of (w5.get (pre := []))⟩, _, rfl, _, _, _, rfl, rfl, (w5.get (pre := [])), (A2.lt h5_0 z17), ?_⟩
        have h17 : A2 (rep K F5) (vs5_0 ++ [(V.int x_cell)]) l17 := e17 ▸ A2.snoc h5_0 rep_i
        have w18 : W F5 _ ((p4, .lst (vs5_0 ++ [(V.int x_cell)])) :: os) := w5.set (pre := [])
        exact hN14 _ (post_ok hm) _ _ ⟨_, _, rfl, Same.refl _, w18, h17⟩
      · skip
        exact hN14 _ (post_ok hm) _ _ ⟨_, _, rfl, Same.refl _, w5, h5_0⟩
    intro g14 σ14 H14 hI hm
    obtain ⟨F14, vs14_0, rfl, s14, w14, h14_0⟩ := hI
    replace sF := sF.trans s14
    exact ⟨_, rfl, (post_ok hm) _ _ _ _ w14 sF h14_0⟩
def sp_law_take (K : Fg) : Sp := fun vs H Q E => ∃ (F : Hp) (os : List (Addr × HO)) (a_pot : Addr) (vs_pot : List V) (x_pot : (List Int)) (x_many : Int), vs = [.ref a_pot, .int x_many] ∧ W F H ((a_pot, .lst vs_pot) :: os) ∧ A2 (rep K F) vs_pot x_pot ∧ Post (law_take x_pot x_many) (RetM K F a_pot os Q) noX
theorem sc_law_take : FnScope ["pot", "many", "found"] ["pot", "many"] (defScope s_law_take) := ⟨rfl, rfl, rfl, by decide +kernel, rfl, by decide +kernel, by decide +kernel⟩
theorem ok_law_take (T : Tx K mg A FD) : FnOk P w K mg base CX0 1 (A 14) (FD 14) ["pot", "many"] (sp_law_take K) := by
  refine T.d14.fn.ok sc_law_take (fun vs H Q E h => ?_) (fun cdv Ar outer s H vs Q E hr h => ?_)
  · obtain ⟨F, os, a_pot, vs_pot, x_pot, x_many, rfl, _⟩ := h
    rfl
  · obtain ⟨F0, os, a_pot, vs_pot, x_pot, x_many, rfl, w0, h_pot, hm⟩ := h
    have sF : Same F0 F0 := Same.refl _
    refine ⟨_, (pss_cons (ps_set (i := 2) sc_law_take.nd rfl (Or.inl rfl) (pe_op op_mod (pe_ix (ix_listK (K := K) rfl) (pv 0) (pe_un un_neg pe_int) (fun _ _ => rfl)) (pv 1))) (pss_cons (ps_asg (pe_op op_fdivW (pe_ix (ix_listK (K := K) rfl) (pv 0) (pe_un un_neg pe_int) (fun _ _ => rfl)) (pv 1)) (pg_sub (pv 0) (pe_un un_neg pe_int) set_list)) (pss_cons (ps_if (PW.pt (pw_and (pt_cmp (pc_eqI (pe_ix (ix_listK (K := K) rfl) (pv 0) (pe_un un_neg pe_int) (fun _ _ => rfl)) pe_int)) (pw_and1 (pt_cmp (pc_gt (pe_callB (call_lenN (K := K) rfl) (by rfl) T.n_len (by decide +kernel) (pa_cons (pv 0) pa_nil)) pe_int))))) (pss_one (ps_expr (pe_bm0 PySem.F.plainAttrs_list PySem.F.slot_list_pop PySem.F.type_list_pop mt_pop (pv 0)))) pss_nil) (pss_one (ps_ret (pv 2)))))), ?_⟩
    obtain ⟨t2, e2, hm⟩ := pb_get hm
    obtain ⟨u2, f2, r2⟩ := A2.at h_pot e2
    obtain rfl : u2 = V.int t2 := r2
    obtain ⟨c3, hm⟩ := pb_mod hm
    obtain ⟨t4, e4, hm⟩ := pb_get hm
    obtain ⟨u4, f4, r4⟩ := A2.at h_pot e4
    obtain rfl : u4 = V.int t4 := r4
    obtain ⟨c5, hm⟩ := pb_div hm
    obtain ⟨j6, l6, z6, e6, hm⟩ := pn_set hm
    refine ⟨_, rfl, _, rfl, _, _, _, _, rfl, rfl, SqL.of (w0.get (pre := [])), f2, _, rfl, _, _, rfl, rfl, c3, _, rfl, _, rfl, _, _, _, _, rfl, rfl, SqL.of (w0.get (pre := [])), f4, _, rfl, _, _, rfl, rfl, c5, _, rfl, _, rfl, _, _, _, _, rfl, rfl, (w0.get (pre := [])), (A2.ix h_pot z6), ?_⟩
    have h6 : A2 (rep K F0) (vs_pot.set j6 (V.int (t4 / x_many))) l6 := e6 ▸ A2.set rep_i j6 h_pot
    have w7 : W F0 _ ((a_pot, .lst (vs_pot.set j6 (V.int (t4 / x_many)))) :: os) := w0.set (pre := [])
    try dsimp only
    refine joinS hm (fun (g8 : (List Int)) σ H' => ∃ (F' : Hp) (vs8_0 : List V), σ = [some (.ref a_pot), some (.int x_many), some (.int (t2 % x_many))] ∧ Same F0 F' ∧ W F' H' ((a_pot, .lst vs8_0) :: os) ∧ A2 (rep K F') vs8_0 g8) ?_ ?_
    · intro N8 P8 hN8 hm
      refine stepIf ?_
      refine joinT hm (fun (j9 : Bool) c H' => c = j9 ∧ ∃ (F' : Hp), Same F0 F' ∧ W F' H' ((a_pot, .lst (vs_pot.set j6 (V.int (t4 / x_many)))) :: os)) ?_ ?_
      · intro Q9 P9 q9 hm
        obtain ⟨t10, e10, hm⟩ := pb_get hm
        obtain ⟨u10, f10, r10⟩ := A2.at h6 e10
        obtain rfl : u10 = V.int t10 := r10
        refine ⟨_, rfl, _, rfl, _, _, _, _, rfl, rfl, SqL.of (w7.get (pre := [])), f10, _, _, rfl, rfl, _, rfl, ?_⟩
        refine post_ite hm (fun k11 hm => ?_) (fun k11 hm => ?_)
        · skip
          exact ⟨_, rfl, _, _, _, rfl, .inl (SqL.of (w7.get (pre := []))), h6.length, _, _, rfl, rfl, _, rfl, q9 _ (post_ok hm) _ _ ⟨rfl, _, Same.refl _, w7⟩⟩
        · skip
          exact q9 _ (post_ok hm) _ _ ⟨rfl, _, Same.refl _, w7⟩
      intro j9 c9 H9 hc9 hm
      obtain ⟨rfl, F9, s9, w9⟩ := hc9
      replace h6 := A2.mono s9 h6
      replace sF := sF.trans s9
      refine post_ite hm (fun k14 hm => ?_) (fun k14 hm => ?_)
      · skip
        obtain ⟨x15, l15, y15, e15, hm⟩ := pn_popI hm
        obtain ⟨u15, f15, r15⟩ := A2.lastV h6 y15
        refine ⟨_, rfl, .inl ⟨rfl, _, SqL.of (w9.get (pre := []))⟩, _, _, _, rfl, rfl, (w9.get (pre := [])), f15, ?_⟩
        have h15 : A2 (rep K F9) (vs_pot.set j6 (V.int (t4 / x_many))).dropLast l15 := e15 ▸ A2.dropLast h6
        obtain rfl : u15 = V.int x15 := r15
        have w16 : W F9 _ ((a_pot, .lst (vs_pot.set j6 (V.int (t4 / x_many))).dropLast) :: os) := w9.set (pre := [])
        exact hN8 _ (post_ok hm) _ _ ⟨_, _, rfl, s9, w16, h15⟩
      · skip
        exact hN8 _ (post_ok hm) _ _ ⟨_, _, rfl, s9, w9, h6⟩
    intro g8 σ8 H8 hI hm
    obtain ⟨F8, vs8_0, rfl, s8, w8, h8_0⟩ := hI
    replace sF := sF.trans s8
    exact ⟨_, rfl, (post_ok hm) _ _ _ _ w8 sF rep_i h8_0⟩
def sp_law_folded (K : Fg) : Sp := fun vs H Q E => ∃ (F : Hp) (os : List (Addr × HO)) (v_script : V) (x_script : Scr) (x_many : Int), vs = [v_script, .int x_many] ∧ W F H (os) ∧ rep K F v_script x_script ∧ Post (law_folded x_script x_many) (RetL K F os Q) noX
theorem sc_law_folded : FnScope ["script", "many", "found", "k", "cell"] ["script", "many"] (defScope s_law_folded) := ⟨rfl, rfl, rfl, by decide +kernel, rfl, by decide +kernel, by decide +kernel⟩
theorem ok_law_folded (T : Tx K mg A FD) : FnOk P w K mg base CX0 1 (A 15) (FD 15) ["script", "many"] (sp_law_folded K) := by
  refine T.d15.fn.ok sc_law_folded (fun vs H Q E h => ?_) (fun cdv Ar outer s H vs Q E hr h => ?_)
  · obtain ⟨F, os, v_script, x_script, x_many, rfl, _⟩ := h
    rfl
  · obtain ⟨F0, os, v_script, x_script, x_many, rfl, w0, r_script, hm⟩ := h
    have sF : Same F0 F0 := Same.refl _
    obtain ⟨a1, rfl, q1⟩ := r_script
    have h1 : A2 (rep K F0) (x_script.l.map V.int) x_script.l := A2.of_ints
    refine ⟨_, (pss_cons (ps_set (i := 2) sc_law_folded.nd rfl (Or.inl rfl) (pe_op op_rep (pe_lst (pa_cons pe_int pa_nil)) (pv 1))) (pss_cons (ps_for PassesOwn.never rfl (pi_k (K := K) (wi := fun K => iEnum K _) rfl (pi_enum (by rfl) T.n_enumerate (pa_cons (pe_slice (sl_listK (K := K) rfl) (pv 0) po_none (po_some pe_int)) pa_nil))) (pg_k (K := K) (t := fun K => gTup K 2 _) rfl (pg_tup (n := 2) rfl (pgs_cons (pg_name (i := 3) sc_law_folded.nd rfl (Or.inl rfl)) (pgs_cons (pg_name (i := 4) sc_law_folded.nd rfl (Or.inl rfl)) pgs_nil)))) (pss_one (ps_asg (pe_op op_add (pe_op op_mul (pe_ix (ix_listK (K := K) rfl) (pv 2) (pe_op op_mod (pv 3) (pv 1)) (fun _ _ => rfl)) pe_int) (pv 4)) (pg_sub (pv 2) (pe_op op_mod (pv 3) (pv 1)) set_list)))) (pss_one (ps_ret (pv 2))))), ?_⟩
    have h2 : A2 (rep K F0) [(.int 0)] ([(0 : Int)] : (List Int)) := .cons rep_i (.nil)
    refine ⟨(by show 1 ≤ sizeLine; decide), fun p3 n3 => ?_⟩
    have w3 : W F0 _ ((p3, .lst [(.int 0)]) :: os) := w0.new n3
    obtain ⟨l4, z4, e4, hm⟩ := pb_rep hm
    have h4 : A2 (rep K F0) (List.replicate x_many.toNat [(.int 0)]).flatten l4 := e4 ▸ A2.flat h2 _
    refine ⟨_, rfl, _, _, _, rfl, rfl, (w3.get (pre := [])), z4.1, z4.2.1, (by rw [h2.length]; exact z4.2.2), fun p5 n5 => ?_⟩
    have w5 : W F0 _ ((p5, .lst (List.replicate x_many.toNat [(.int 0)]).flatten) :: (p3, .lst [(.int 0)]) :: os) := w3.new n5
    have w6 : W F0 _ ((p5, .lst (List.replicate x_many.toNat [(.int 0)]).flatten) :: os) := w5.drop (pre := [_])
    have h8 : A2 (rep K F0) (cutV (x_script.l.map V.int) none (some (63 : Int))) (cutL x_script.l none (some (63 : Int))) := sl_cut h1 _ _
    refine ⟨_, rfl, _, rfl, _, _, rfl, w6.same.seq q1, fun p9 n9 => ?_⟩
    have w9 : W F0 _ ((p9, .lst (cutV (x_script.l.map V.int) none (some (63 : Int)))) :: (p5, .lst (List.replicate x_many.toNat [(.int 0)]).flatten) :: os) := w6.new n9
    obtain ⟨F10, s10, w10, q10⟩ : ∃ F', Same F0 F' ∧ W F' _ ((p5, .lst (List.replicate x_many.toNat [(.int 0)]).flatten) :: os) ∧ F' p9 = some (.lst (cutV (x_script.l.map V.int) none (some (63 : Int)))) := w9.freezeE (pre := [])
    replace h1 := A2.mono s10 h1
    replace q1 := s10.seq q1
    replace h4 := A2.mono s10 h4
    replace h8 := A2.mono s10 h8
    replace sF := sF.trans s10
    refine ⟨_, _, rfl, SqL.of (w10.same _ _ q10), ?_⟩
    refine forS (tw_enum (a := p9) h8) hm (fun (g7 : (List Int)) σ H' => ∃ (F' : Hp) (vs7_0 : List V) (o7_3 : Option V) (o7_4 : Option V), σ = [some (.ref a1), some (.int x_many), some (.ref p5), o7_3, o7_4] ∧ Same F10 F' ∧ W F' H' ((p5, .lst vs7_0) :: os) ∧ A2 (rep K F') vs7_0 g7) ⟨_, _, _, _, rfl, Same.refl _, w10, h4⟩ (fun g σ H' hI => by obtain ⟨F', _, _, _, _, s, w, _⟩ := hI; exact SqL.of (w.same _ _ (s _ _ q10))) ?_ ?_
    · -- a turn
      intro b7 g7 x7 σ7 H7 H7' N7 P7 hI hy hN7 hm
      obtain ⟨F7, vs7_0, o7_3, o7_4, rfl, s7, w7, h7_0⟩ := hI
      replace h1 := A2.mono s7 h1
      replace q1 := s7.seq q1
      replace h8 := A2.mono s7 h8
      replace q10 := s7 _ _ q10
      replace sF := sF.trans s7
      obtain ⟨T11, u11, rfl, n11, rfl, r11⟩ := hy
      obtain ⟨F11, s11, w11, q11⟩ := w7.frzE (o := .tup [.int b7.1, u11]) n11
      replace r11 := Rep.mono s7 r11
      replace h1 := A2.mono s11 h1
      replace q1 := s11.seq q1
      replace h8 := A2.mono s11 h8
      replace q10 := s11 _ _ q10
      replace h7_0 := A2.mono s11 h7_0
      replace sF := sF.trans s11
      replace r11 := Rep.mono s11 r11
      obtain rfl : u11 = V.int b7.2 := r11
      obtain ⟨c12, hm⟩ := pb_mod hm
      obtain ⟨t13, e13, hm⟩ := pb_get hm
      obtain ⟨u13, f13, r13⟩ := A2.at h7_0 e13
      obtain rfl : u13 = V.int t13 := r13
      obtain ⟨c15, hm⟩ := pb_mod hm
      obtain ⟨j16, l16, z16, e16, hm⟩ := pn_set hm
      refine ⟨_, _, rfl, SqT.of (w11.same _ _ q11), rfl, _, _, rfl, _, _, rfl, rfl, _, rfl, _, rfl, _, rfl, _, _, rfl, rfl, c12, _, _, _, _, rfl, rfl, SqL.of (w11.get (pre := [])), f13, _, _, rfl, rfl, (.inr (by constructor <;> decide)), _, rfl, _, _, rfl, rfl, _, rfl, _, rfl, _, rfl, _, _, rfl, rfl, c15, _, _, _, _, rfl, rfl, (w11.get (pre := [])), (A2.ix h7_0 z16), ?_⟩
      have h16 : A2 (rep K F11) (vs7_0.set j16 (V.int ((t13 * (31 : Int)) + b7.2))) l16 := e16 ▸ A2.set rep_i j16 h7_0
      have w17 : W F11 _ ((p5, .lst (vs7_0.set j16 (V.int ((t13 * (31 : Int)) + b7.2)))) :: os) := w11.set (pre := [])
      exact hN7 _ (post_ok hm) _ _ ⟨_, _, _, _, rfl, (s7.trans s11), w17, h16⟩
    intro g7 σ7 H7 hI hm
    obtain ⟨F7, vs7_0, o7_3, o7_4, rfl, s7, w7, h7_0⟩ := hI
    replace h1 := A2.mono s7 h1
    replace q1 := s7.seq q1
    replace h8 := A2.mono s7 h8
    replace q10 := s7 _ _ q10
    replace sF := sF.trans s7
    exact ⟨_, rfl, (post_ok hm) _ _ _ _ w7 sF h7_0⟩
def sp_law_cells (K : Fg) : Sp := fun vs H Q E => ∃ (F : Hp) (os : List (Addr × HO)) (v_script : V) (x_script : Scr) (x_most : Int), vs = [v_script, .int x_most] ∧ W F H (os) ∧ rep K F v_script x_script ∧ Post (law_cells x_script x_most) (RetL K F os Q) noX
theorem sc_law_cells : FnScope ["script", "most"] ["script", "most"] (defScope s_law_cells) := ⟨rfl, rfl, rfl, by decide +kernel, rfl, by decide +kernel, by decide +kernel⟩
theorem ok_law_cells (T : Tx K mg A FD) : FnOk P w K mg base CX0 2 (A 16) (FD 16) ["script", "most"] (sp_law_cells K) := by
  refine T.d16.fn.ok sc_law_cells (fun vs H Q E h => ?_) (fun cdv Ar outer s H vs Q E hr h => ?_)
  · obtain ⟨F, os, v_script, x_script, x_most, rfl, _⟩ := h
    rfl
  · obtain ⟨F0, os, v_script, x_script, x_most, rfl, w0, r_script, hm⟩ := h
    have sF : Same F0 F0 := Same.refl _
    obtain ⟨a1, rfl, q1⟩ := r_script
    have h1 : A2 (rep K F0) (x_script.l.map V.int) x_script.l := A2.of_ints
    refine ⟨_, (pss_cons (ps_if (pt_cmpR (op_eqDt (K := K) rfl Scr (by decide) hr.units) (pv 0) (pe_lst pa_nil) (nomark _)) (pss_one (ps_ret (pe_lst (pa_cons pe_int pa_nil)))) pss_nil) (pss_one (ps_ret (pe_call (ok_law_folded T) (hr.mono (by decide)) (by rfl) T.d15.mg T.d15.fn.kp T.d15.b .nil pass0 (pa_cons (pv 0) (pa_cons (pe_callB (call_min2 rfl) (by rfl) T.n_min (by decide +kernel) (pa_cons (pv 1) (pa_cons (pe_callB (call_lenN (K := K) rfl) (by rfl) T.n_len (by decide +kernel) (pa_cons (pv 0) pa_nil)) pa_nil))) pa_nil)))))), ?_⟩
    have h2 : A2 (rep K F0) [] ([] : (List Int)) := .nil
    refine ⟨_, rfl, (by show 0 ≤ sizeLine; decide), fun p3 n3 => ?_⟩
    have w3 : W F0 _ ((p3, .lst []) :: os) := w0.new n3
    refine ⟨(x_script : Scr), (⟨([] : (List Int))⟩ : Scr), (Rep.mono w3.same ⟨_, rfl, q1⟩), ⟨_, rfl, SqL.of (w3.get (pre := []))⟩, _, rfl, ?_⟩
    have w4 : W F0 _ (os) := w3.drop (pre := [])
    refine post_ite hm (fun k5 hm => ?_) (fun k5 hm => ?_)
    · skip
      have h6 : A2 (rep K F0) [(.int 0)] ([(0 : Int)] : (List Int)) := .cons rep_i (.nil)
      refine ⟨(by show 1 ≤ sizeLine; decide), fun p7 n7 => ?_⟩
      have w7 : W F0 _ ((p7, .lst [(.int 0)]) :: os) := w4.new n7
      exact (post_ok hm) _ _ _ _ w7 sF h6
    · skip
      refine ⟨_, rfl, _, rfl, _, rfl, _, _, _, rfl, .inl (w4.same.seq q1), h1.length, _, _, rfl, _, _, _, (x_script : Scr), _, rfl, w4, ⟨_, rfl, q1⟩, ?_⟩
      refine (post_bind hm).mono (fun y8 hm p8 us8 F8 H8 w8 s8 g8 => ?_) (fun _ z => z)
      replace q1 := s8.seq q1
      replace h1 := A2.mono s8 h1
      replace sF := sF.trans s8
      exact (post_ok hm) _ _ _ _ w8 sF g8
def sp_law_bunches (K : Fg) : Sp := fun vs H Q E => ∃ (F : Hp) (os : List (Addr × HO)) (a_pot : Addr) (vs_pot : List V) (x_pot : (List Int)) (x_many : Int), vs = [.ref a_pot, .int x_many] ∧ W F H ((a_pot, .lst vs_pot) :: os) ∧ A2 (rep K F) vs_pot x_pot ∧ Post (law_bunches x_pot x_many) (RetLM K F a_pot os Q) noX
theorem sc_law_bunches : FnScope ["pot", "many", "some", "inner", "spots", "found", "k", "j", "far", "near", "turn", "one", "other"] ["pot", "many"] (defScope s_law_bunches) := ⟨rfl, rfl, rfl, by decide +kernel, rfl, by decide +kernel, by decide +kernel⟩
set_option maxHeartbeats 40000000 in
theorem ok_law_bunches (T : Tx K mg A FD) : FnOk P w K mg base CX0 2 (A 18) (FD 18) ["pot", "many"] (sp_law_bunches K) := by
  refine T.d18.fn.ok sc_law_bunches (fun vs H Q E h => ?_) (fun cdv Ar outer s H vs Q E hr h => ?_)
  · obtain ⟨F, os, a_pot, vs_pot, x_pot, x_many, rfl, _⟩ := h
    rfl
  · obtain ⟨F0, os, a_pot, vs_pot, x_pot, x_many, rfl, w0, h_pot, hm⟩ := h
    have sF : Same F0 F0 := Same.refl _
    refine ⟨_, (pss_cons (ps_set (i := 2) sc_law_bunches.nd rfl (Or.inr rfl) (pe_op op_add pe_int (pe_call (ok_law_take T) (hr.mono (by decide)) (by rfl) T.d14.mg T.d14.fn.kp T.d14.b .nil pass0 (pa_cons (pv 0) (pa_cons pe_int pa_nil))))) (pss_cons (ps_setLc (i := 3) (own := [("k", 6)]) (g := gName 6) (by rfl) sc_law_bunches.nd rfl rfl (sw_true rfl rfl rfl (by decide +kernel)) (pi_range1 (by rfl) T.n_range (pa_cons (pv 2) pa_nil)) (blkOk_by (own := [("k", 6)]) (N := ["pot", "many", "some", "inner", "spots", "found", "k", "j", "far", "near", "turn", "one", "other"]) (sc := defScope s_law_bunches) (by decide +kernel)) (fun _ _ _ _ _ => (pg_name (i := 6) sc_law_bunches.nd rfl (Or.inl rfl))) (fun _ _ _ _ _ => pts_nil) (fun _ _ _ _ _ => (pe_call (ok_law_take T) (hr.mono (by decide)) (by rfl) T.d14.mg T.d14.fn.kp T.d14.b .nil pass0 (pa_cons (pv 0) (pa_cons pe_int pa_nil))))) (pss_cons (ps_setLc (i := 4) (own := [("k", 6)]) (g := gName 6) (by rfl) sc_law_bunches.nd rfl rfl (sw_true rfl rfl rfl (by decide +kernel)) (pi_range1 (by rfl) T.n_range (pa_cons (pv 1) pa_nil)) (blkOk_by (own := [("k", 6)]) (N := ["pot", "many", "some", "inner", "spots", "found", "k", "j", "far", "near", "turn", "one", "other"]) (sc := defScope s_law_bunches) (by decide +kernel)) (fun _ _ _ _ _ => (pg_name (i := 6) sc_law_bunches.nd rfl (Or.inl rfl))) (fun _ _ _ _ _ => pts_nil) (fun _ _ _ _ _ => (pe_call (ok_law_take T) (hr.mono (by decide)) (by rfl) T.d14.mg T.d14.fn.kp T.d14.b .nil pass0 (pa_cons (pv 0) (pa_cons (pv 2) pa_nil))))) (pss_cons (ps_set (i := 5) sc_law_bunches.nd rfl (Or.inl rfl) (pe_lst pa_nil)) (pss_cons (ps_for PassesOwn.never rfl (pi_range1 (by rfl) T.n_range (pa_cons (pv 1) pa_nil)) (pg_name (i := 6) sc_law_bunches.nd rfl (Or.inl rfl)) (pss_one (ps_for PassesOwn.never rfl (pi_range1 (by rfl) T.n_range (pa_cons (pv 6) pa_nil)) (pg_name (i := 7) sc_law_bunches.nd rfl (Or.inl rfl)) (pss_cons (ps_set (i := 8) sc_law_bunches.nd rfl (Or.inl rfl) (pe_callB call_abs (by rfl) T.n_abs (by decide +kernel) (pa_cons (pe_op op_sub (pe_ix (ix_listK (K := K) rfl) (pv 4) (pv 7) (fun _ _ => rfl)) (pe_ix (ix_listK (K := K) rfl) (pv 4) (pv 6) (fun _ _ => rfl))) pa_nil))) (pss_one (ps_if (PW.pt (pw_or (pt_cmp (pc_eqI (pv 8) pe_int)) (pw_or1 (PW.pt (pw_and (pt_cmp (pc_eqI (pv 8) pe_int)) (pw_and1 (pt_cmp (pc_eqI (pe_ix (ix_listK (K := K) rfl) (pv 3) (pe_ix (ix_listK (K := K) rfl) (pv 4) (pv 6) (fun _ _ => rfl)) (fun _ _ => rfl)) pe_int)))))))) (pss_one (ps_expr (pe_bm PySem.F.plainAttrs_list PySem.F.slot_list_append PySem.F.type_list_append mt_append (pv 5) (pa_cons (pe_tup (pa_cons (pv 7) (pa_cons (pv 6) pa_nil))) pa_nil)))) pss_nil)))))) (pss_cons (ps_set (i := 9) sc_law_bunches.nd rfl (Or.inr rfl) (pe_disp (pps_cons pe_int pe_bl pps_nil) rfl rfl (by simp) (by simp))) (pss_cons (ps_for PassesOwn.never rfl (pi_range1 (by rfl) T.n_range (pa_cons (pv 1) pa_nil)) (pg_name (i := 10) sc_law_bunches.nd rfl (Or.inl rfl)) (pss_one (ps_for PassesOwn.never rfl (pi_listK (K := K) rfl (pv 5)) (pg_k (K := K) (t := fun K => gTup K 2 _) rfl (pg_tup (n := 2) rfl (pgs_cons (pg_name (i := 11) sc_law_bunches.nd rfl (Or.inl rfl)) (pgs_cons (pg_name (i := 12) sc_law_bunches.nd rfl (Or.inl rfl)) pgs_nil)))) (pss_one (ps_if (PW.pt (pw_or (pt_cmp (pc_dinH (Room.units1 hr) (pv 11) (pv 9))) (pw_or1 (pt_cmp (pc_dinH (Room.units1 hr) (pv 12) (pv 9)))))) (pss_cons (ps_dput (Room.units1 hr) (pv 9) (pv 11) pe_bl (by rfl)) (pss_one (ps_dput (Room.units1 hr) (pv 9) (pv 12) pe_bl (by rfl)))) pss_nil))))) (pss_one (ps_ret (pe_op op_cat (pv 5) (pe_lc (own := [("k", 6)]) (g := gName 6) (by rfl) sc_law_bunches.nd (pi_range2 (by rfl) T.n_range (pa_cons pe_int (pa_cons (pv 1) pa_nil))) (blkOk_by (own := [("k", 6)]) (N := ["pot", "many", "some", "inner", "spots", "found", "k", "j", "far", "near", "turn", "one", "other"]) (sc := defScope s_law_bunches) (by decide +kernel)) (fun _ _ _ _ _ => (pg_name (i := 6) sc_law_bunches.nd rfl (Or.inl rfl))) (fun _ _ _ _ _ => (pts_one (pt_cmp (pc_dnotinH (Room.units1 hr) (pv 6) (pv 9))))) (fun _ _ _ _ _ => (pe_tup (pa_cons pe_int (pa_cons (pv 6) pa_nil))))))))))))))), ?_⟩
    refine ⟨_, rfl, _, _, _, _, _, _, rfl, w0, h_pot, ?_⟩
    refine (post_bind hm).mono (fun y2 hm v2 vs2 F2 H2 w2 s2 r2 h2 => ?_) (fun _ z => z)
    replace sF := sF.trans s2
    obtain rfl : v2 = V.int y2.1 := r2
    obtain ⟨c3, hm⟩ := pb_rng hm
    refine ⟨_, _, rfl, rfl, _, rfl, _, rfl, c3.2.2.1, c3.2.2.2, fun D4 nD4 => ?_⟩
    refine lcMap (K := K) (tw_rng0 (j := ((2 : Int) + y2.1))) hm (fun (g4 : (List Int)) F' os' => ∃ (vs4_0 : List V), os' = (a_pot, .lst vs4_0) :: os ∧ A2 (rep K F') vs4_0 g4) w2 ⟨_, rfl, h2⟩ nD4 (fun g F' H' os' acc s w o => by obtain ⟨_, rfl, _⟩ := o; exact trivial) ?_ ?_
    · -- one turn
      intro b4 g4 x4 F4 H4 H4' os4 acc4 N4 P4 s4 w4 o4 y4 hN4 hm
      obtain ⟨vs4_0, rfl, h4_0⟩ := o4
      replace sF := sF.trans s4
      obtain ⟨rfl, rfl⟩ := y4
      have w6 : W F4 _ ((a_pot, .lst vs4_0) :: (D4, .lst acc4) :: os) := w4.front (pre := [_])
      refine ⟨rfl, _, rfl, _, _, _, _, _, _, rfl, w6, h4_0, ?_⟩
      refine (post_bind hm).mono (fun y7 hm v7 vs7 F7 H7 w7 s7 r7 h7 => ?_) (fun _ z => z)
      replace sF := sF.trans s7
      obtain rfl : v7 = V.int y7.1 := r7
      have w8 : W F7 _ ((D4, .lst acc4) :: (a_pot, .lst vs7) :: os) := w7.front (pre := [_])
      exact hN4 _ _ (post_ok hm) _ _ _ _ w8 s7 ⟨_, rfl, h7⟩ rep_i
    intro g4 us4 F4 H4 os4 ys4 s4 w4 o4 gg4 hm
    obtain ⟨vs4_0, rfl, h4_0⟩ := o4
    replace sF := sF.trans s4
    obtain ⟨F10, s10, w10, q10⟩ : ∃ F', Same F4 F' ∧ W F' _ ((a_pot, .lst vs4_0) :: os) ∧ F' D4 = some (.lst us4) := w4.freezeE (pre := [])
    replace h4_0 := A2.mono s10 h4_0
    replace gg4 := A2.mono s10 gg4
    replace sF := sF.trans s10
    obtain ⟨c11, hm⟩ := pb_rng hm
    refine ⟨_, rfl, _, rfl, c11.2.2.1, c11.2.2.2, fun D12 nD12 => ?_⟩
    refine lcMap (K := K) (tw_rng0 (j := x_many)) hm (fun (g12 : (List Int)) F' os' => ∃ (vs12_0 : List V), os' = (a_pot, .lst vs12_0) :: os ∧ A2 (rep K F') vs12_0 g12) w10 ⟨_, rfl, h4_0⟩ nD12 (fun g F' H' os' acc s w o => by obtain ⟨_, rfl, _⟩ := o; exact trivial) ?_ ?_
    · -- one turn
      intro b12 g12 x12 F12 H12 H12' os12 acc12 N12 P12 s12 w12 o12 y12 hN12 hm
      obtain ⟨vs12_0, rfl, h12_0⟩ := o12
      replace gg4 := A2.mono s12 gg4
      replace q10 := s12 _ _ q10
      replace sF := sF.trans s12
      obtain ⟨rfl, rfl⟩ := y12
      have w14 : W F12 _ ((a_pot, .lst vs12_0) :: (D12, .lst acc12) :: os) := w12.front (pre := [_])
      refine ⟨rfl, _, rfl, _, rfl, _, _, _, _, _, _, rfl, w14, h12_0, ?_⟩
      refine (post_bind hm).mono (fun y15 hm v15 vs15 F15 H15 w15 s15 r15 h15 => ?_) (fun _ z => z)
      replace gg4 := A2.mono s15 gg4
      replace q10 := s15 _ _ q10
      replace sF := sF.trans s15
      obtain rfl : v15 = V.int y15.1 := r15
      have w16 : W F15 _ ((D12, .lst acc12) :: (a_pot, .lst vs15) :: os) := w15.front (pre := [_])
      exact hN12 _ _ (post_ok hm) _ _ _ _ w16 s15 ⟨_, rfl, h15⟩ rep_i
    intro g12 us12 F12 H12 os12 ys12 s12 w12 o12 gg12 hm
    obtain ⟨vs12_0, rfl, h12_0⟩ := o12
    replace gg4 := A2.mono s12 gg4
    replace q10 := s12 _ _ q10
    replace sF := sF.trans s12
    obtain ⟨F18, s18, w18, q18⟩ : ∃ F', Same F12 F' ∧ W F' _ ((a_pot, .lst vs12_0) :: os) ∧ F' D12 = some (.lst us12) := w12.freezeE (pre := [])
    replace gg4 := A2.mono s18 gg4
    replace q10 := s18 _ _ q10
    replace h12_0 := A2.mono s18 h12_0
    replace gg12 := A2.mono s18 gg12
    replace sF := sF.trans s18
    have h19 : A2 (rep K F18) [] ([] : (List (Int × Int))) := .nil
    refine ⟨(by show 0 ≤ sizeLine; decide), fun p20 n20 => ?_⟩
    have w20 : W F18 _ ((p20, .lst []) :: (a_pot, .lst vs12_0) :: os) := w18.new n20
    obtain ⟨c22, hm⟩ := pb_rng hm
    refine ⟨_, rfl, _, rfl, c22.2.2.1, c22.2.2.2, ?_⟩
    refine forS (tw_rng0 (j := x_many)) hm (fun (g21 : (List (Int × Int))) σ H' => ∃ (F' : Hp) (vs21_0 : List V) (o21_7 : Option V) (o21_8 : Option V) (o21_6 : Option V), σ = [some (.ref a_pot), some (.int x_many), some (.int ((2 : Int) + y2.1)), some (.ref D4), some (.ref D12), some (.ref p20), o21_6, o21_7, o21_8, none, none, none, none] ∧ Same F18 F' ∧ W F' H' ((p20, .lst vs21_0) :: (a_pot, .lst vs12_0) :: os) ∧ A2 (rep K F') vs21_0 g21) ⟨_, _, _, _, _, rfl, Same.refl _, w20, h19⟩ (fun _ _ _ _ => trivial) ?_ ?_
    · -- a turn
      intro b21 g21 x21 σ21 H21 H21' N21 P21 hI hy hN21 hm
      obtain ⟨F21, vs21_0, o21_7, o21_8, o21_6, rfl, s21, w21, h21_0⟩ := hI
      replace gg4 := A2.mono s21 gg4
      replace q10 := s21 _ _ q10
      replace gg12 := A2.mono s21 gg12
      replace q18 := s21 _ _ q18
      replace h12_0 := A2.mono s21 h12_0
      replace sF := sF.trans s21
      obtain ⟨rfl, rfl⟩ := hy
      obtain ⟨c24, hm⟩ := pb_rng hm
      refine ⟨_, rfl, _, rfl, c24.2.2.1, c24.2.2.2, ?_⟩
      refine forS (tw_rng0 (j := b21)) hm (fun (g23 : (List (Int × Int))) σ H' => ∃ (F' : Hp) (vs23_0 : List V) (o23_8 : Option V) (o23_7 : Option V), σ = [some (.ref a_pot), some (.int x_many), some (.int ((2 : Int) + y2.1)), some (.ref D4), some (.ref D12), some (.ref p20), some (.int b21), o23_7, o23_8, none, none, none, none] ∧ Same F21 F' ∧ W F' H' ((p20, .lst vs23_0) :: (a_pot, .lst vs12_0) :: os) ∧ A2 (rep K F') vs23_0 g23) ⟨_, _, _, _, rfl, Same.refl _, w21, h21_0⟩ (fun _ _ _ _ => trivial) ?_ ?_
      · -- a turn
        intro b23 g23 x23 σ23 H23 H23' N23 P23 hI hy hN23 hm
        obtain ⟨F23, vs23_0, o23_8, o23_7, rfl, s23, w23, h23_0⟩ := hI
        replace gg4 := A2.mono s23 gg4
        replace q10 := s23 _ _ q10
        replace gg12 := A2.mono s23 gg12
        replace q18 := s23 _ _ q18
        replace h12_0 := A2.mono s23 h12_0
        replace sF := sF.trans s23
        obtain ⟨rfl, rfl⟩ := hy
        obtain ⟨t25, e25, hm⟩ := pb_get hm
        obtain ⟨u25, f25, r25⟩ := A2.at gg12 e25
        obtain rfl : u25 = V.int t25 := r25
        obtain ⟨t26, e26, hm⟩ := pb_get hm
        obtain ⟨u26, f26, r26⟩ := A2.at gg12 e26
        obtain rfl : u26 = V.int t26 := r26
        refine ⟨_, rfl, _, rfl, _, _, _, _, rfl, rfl, SqL.of (w23.same _ _ q18), f25, _, rfl, _, rfl, _, _, _, _, rfl, rfl, SqL.of (w23.same _ _ q18), f26, _, _, rfl, rfl, _, rfl, ?_⟩
        refine stepN ?_
        try dsimp only
        refine stepIf ?_
        refine joinT hm (fun (j27 : Bool) c H' => c = j27 ∧ ∃ (F' : Hp), Same F23 F' ∧ W F' H' ((p20, .lst vs23_0) :: (a_pot, .lst vs12_0) :: os)) ?_ ?_
        · intro Q27 P27 q27 hm
          refine ⟨_, rfl, _, _, rfl, rfl, _, rfl, ?_⟩
          refine post_ite hm (fun k28 hm => ?_) (fun k28 hm => ?_)
          · skip
            exact q27 _ (post_ok hm) _ _ ⟨rfl, _, Same.refl _, w23⟩
          · skip
            refine joinT hm (fun (j30 : Bool) c H' => c = j30 ∧ ∃ (F' : Hp), Same F23 F' ∧ W F' H' ((p20, .lst vs23_0) :: (a_pot, .lst vs12_0) :: os)) ?_ ?_
            · intro Q30 P30 q30 hm
              refine ⟨_, rfl, _, _, rfl, rfl, _, rfl, ?_⟩
              refine post_ite hm (fun k31 hm => ?_) (fun k31 hm => ?_)
              · skip
                obtain ⟨t32, e32, hm⟩ := pb_get hm
                obtain ⟨u32, f32, r32⟩ := A2.at gg12 e32
                obtain rfl : u32 = V.int t32 := r32
                obtain ⟨t33, e33, hm⟩ := pb_get hm
                obtain ⟨u33, f33, r33⟩ := A2.at gg4 e33
                obtain rfl : u33 = V.int t33 := r33
                exact ⟨_, rfl, _, rfl, _, rfl, _, _, _, _, rfl, rfl, SqL.of (w23.same _ _ q18), f32, _, _, _, _, rfl, rfl, SqL.of (w23.same _ _ q10), f33, _, _, rfl, rfl, _, rfl, q30 _ (post_ok hm) _ _ ⟨rfl, _, Same.refl _, w23⟩⟩
              · skip
                exact q30 _ (post_ok hm) _ _ ⟨rfl, _, Same.refl _, w23⟩
            intro j30 c30 H30 hc30 hm
            obtain ⟨rfl, F30, s30, w30⟩ := hc30
            replace gg4 := A2.mono s30 gg4
            replace q10 := s30 _ _ q10
            replace gg12 := A2.mono s30 gg12
            replace q18 := s30 _ _ q18
            replace h23_0 := A2.mono s30 h23_0
            replace h12_0 := A2.mono s30 h12_0
            replace sF := sF.trans s30
            exact q27 _ (post_ok hm) _ _ ⟨rfl, _, s30, w30⟩
        intro j27 c27 H27 hc27 hm
        obtain ⟨rfl, F27, s27, w27⟩ := hc27
        replace gg4 := A2.mono s27 gg4
        replace q10 := s27 _ _ q10
        replace gg12 := A2.mono s27 gg12
        replace q18 := s27 _ _ q18
        replace h23_0 := A2.mono s27 h23_0
        replace h12_0 := A2.mono s27 h12_0
        replace sF := sF.trans s27
        refine post_ite hm (fun k37 hm => ?_) (fun k37 hm => ?_)
        · skip
          refine ⟨_, rfl, .inl ⟨rfl, _, SqL.of (w27.get (pre := []))⟩, _, rfl, _, rfl, (by show 2 ≤ sizeLine; decide), fun p38 n38 => ?_⟩
          obtain ⟨F38, s38, w38, q38⟩ := w27.frzE (o := .tup [(.int b23), (.int b21)]) n38
          replace gg4 := A2.mono s38 gg4
          replace q10 := s38 _ _ q10
          replace gg12 := A2.mono s38 gg12
          replace q18 := s38 _ _ q18
          replace h23_0 := A2.mono s38 h23_0
          replace h12_0 := A2.mono s38 h12_0
          replace sF := sF.trans s38
          obtain ⟨l39, z39, e39, hm⟩ := pn_app hm
          refine ⟨_, _, _, rfl, rfl, (w38.get (pre := [])), (A2.lt h23_0 z39), ?_⟩
          have h39 : A2 (rep K F38) (vs23_0 ++ [(V.ref p38)]) l39 := e39 ▸ A2.snoc h23_0 (rep_pair q38 rep_i rep_i)
          have w40 : W F38 _ ((p20, .lst (vs23_0 ++ [(V.ref p38)])) :: (a_pot, .lst vs12_0) :: os) := w38.set (pre := [])
          exact hN23 _ (post_ok hm) _ _ ⟨_, _, _, _, rfl, (s23.trans (s27.trans s38)), w40, h39⟩
        · skip
          exact hN23 _ (post_ok hm) _ _ ⟨_, _, _, _, rfl, (s23.trans s27), w27, h23_0⟩
      intro g23 σ23 H23 hI hm
      obtain ⟨F23, vs23_0, o23_8, o23_7, rfl, s23, w23, h23_0⟩ := hI
      replace gg4 := A2.mono s23 gg4
      replace q10 := s23 _ _ q10
      replace gg12 := A2.mono s23 gg12
      replace q18 := s23 _ _ q18
      replace h12_0 := A2.mono s23 h12_0
      replace sF := sF.trans s23
      exact hN21 _ (post_ok hm) _ _ ⟨_, _, _, _, _, rfl, (s21.trans s23), w23, h23_0⟩
    intro g21 σ21 H21 hI hm
    obtain ⟨F21, vs21_0, o21_7, o21_8, o21_6, rfl, s21, w21, h21_0⟩ := hI
    replace gg4 := A2.mono s21 gg4
    replace q10 := s21 _ _ q10
    replace gg12 := A2.mono s21 gg12
    replace q18 := s21 _ _ q18
    replace h12_0 := A2.mono s21 h12_0
    replace sF := sF.trans s21
    refine fun p41 n41 => ?_
    have w41 : W F21 _ ((p41, .dK []) :: (p20, .lst vs21_0) :: (a_pot, .lst vs12_0) :: os) := w21.new n41
    refine ⟨(w41.get (pre := [])), encM kI V.bl ([((0 : Int), true)] : List (Int × Bool)), rfl, (by show 1 ≤ 15; decide), ?_⟩
    have w42 : W F21 _ ((p41, .dK (mergeK [] (encM kI V.bl ([((0 : Int), true)] : List (Int × Bool))))) :: (p20, .lst vs21_0) :: (a_pot, .lst vs12_0) :: os) := w41.set (pre := [])
    have h41 : (mergeK [] (encM kI V.bl ([((0 : Int), true)] : List (Int × Bool)))) = encM kI V.bl (mmk ([((0 : Int), true)] : List (Int × Bool))) := merge_enc _ []
    obtain ⟨c44, hm⟩ := pb_rng hm
    refine ⟨_, rfl, _, rfl, c44.2.2.1, c44.2.2.2, ?_⟩
    refine forS (tw_rng0 (j := x_many)) hm (fun (g43 : (List (Int × Bool))) σ H' => ∃ (F' : Hp) (vs43_0 : List (Key × V)) (o43_11 : Option V) (o43_12 : Option V) (o43_10 : Option V), σ = [some (.ref a_pot), some (.int x_many), some (.int ((2 : Int) + y2.1)), some (.ref D4), some (.ref D12), some (.ref p20), o21_6, o21_7, o21_8, some (.ref p41), o43_10, o43_11, o43_12] ∧ Same F21 F' ∧ W F' H' ((p41, .dK vs43_0) :: (p20, .lst vs21_0) :: (a_pot, .lst vs12_0) :: os) ∧ vs43_0 = encM kI V.bl g43) ⟨_, _, _, _, _, rfl, Same.refl _, w42, h41⟩ (fun _ _ _ _ => trivial) ?_ ?_
    · -- a turn
      intro b43 g43 x43 σ43 H43 H43' N43 P43 hI hy hN43 hm
      obtain ⟨F43, vs43_0, o43_11, o43_12, o43_10, rfl, s43, w43, h43_0⟩ := hI
      replace gg4 := A2.mono s43 gg4
      replace q10 := s43 _ _ q10
      replace gg12 := A2.mono s43 gg12
      replace q18 := s43 _ _ q18
      replace h21_0 := A2.mono s43 h21_0
      replace h12_0 := A2.mono s43 h12_0
      replace sF := sF.trans s43
      obtain ⟨rfl, rfl⟩ := hy
      refine ⟨_, rfl, _, rfl, ⟨_, SqL.of (w43.get (pre := [_]))⟩, ?_⟩
      refine forS (tw_list (a := p20) h21_0) hm (fun (g45 : (List (Int × Bool))) σ H' => ∃ (F' : Hp) (vs45_0 : List (Key × V)) (o45_11 : Option V) (o45_12 : Option V), σ = [some (.ref a_pot), some (.int x_many), some (.int ((2 : Int) + y2.1)), some (.ref D4), some (.ref D12), some (.ref p20), o21_6, o21_7, o21_8, some (.ref p41), some (.int b43), o45_11, o45_12] ∧ Same F43 F' ∧ W F' H' ((p41, .dK vs45_0) :: (p20, .lst vs21_0) :: (a_pot, .lst vs12_0) :: os) ∧ vs45_0 = encM kI V.bl g45) ⟨_, _, _, _, rfl, Same.refl _, w43, h43_0⟩ (fun g σ H' hI => by obtain ⟨F', _, _, _, _, s, w, _⟩ := hI; exact SqL.of (w.get (pre := [_]))) ?_ ?_
      · -- a turn
        intro b45 g45 x45 σ45 H45 H45' N45 P45 hI hy hN45 hm
        obtain ⟨F45, vs45_0, o45_11, o45_12, rfl, s45, w45, h45_0⟩ := hI
        replace gg4 := A2.mono s45 gg4
        replace q10 := s45 _ _ q10
        replace gg12 := A2.mono s45 gg12
        replace q18 := s45 _ _ q18
        replace h21_0 := A2.mono s45 h21_0
        replace h12_0 := A2.mono s45 h12_0
        replace sF := sF.trans s45
        obtain ⟨rfl, r46⟩ := hy
        replace r46 := Rep.mono s45 r46
        obtain ⟨a47, u47, z47, rfl, q47, r47a, r47b⟩ := r46
        obtain rfl : u47 = V.int b45.1 := r47a
        obtain rfl : z47 = V.int b45.2 := r47b
        refine ⟨_, _, rfl, SqT.of (w45.same _ _ q47), rfl, _, _, rfl, _, _, rfl, rfl, ?_⟩
        try dsimp only
        refine stepIf ?_
        refine cutT (fun c H' => c = (((mhas g45 b45.1) || (mhas g45 b45.2))) ∧ ∃ F', Same F45 F' ∧ W F' H' ((p41, .dK vs45_0) :: (p20, .lst vs21_0) :: (a_pot, .lst vs12_0) :: os)) (fun Q48 q48 => ?_) (fun c48 H48 hc48 => ?_)
        · -- the ways
          refine ⟨_, rfl, _, rfl, _, _, _, rfl, dget_k (ev := V.bl) (m := g45) (k := b45.1) ((w45.get (pre := [])).trans (congrArg (fun z => some (HO.dK z)) h45_0)), get_has _ _ _, _, rfl, ?_⟩
          refine ifB (fun k49 => ?_) (fun k49 => ?_)
          · skip
            exact q48 _ _ ⟨(by first | rfl | exact absurd k49 (by decide) | (simp [k49]; done) | ((try simp only [Bool.not_eq_true] at k49); simp only [k49, Bool.true_or, Bool.false_or, Bool.or_false, Bool.or_true, Bool.true_and, Bool.false_and, Bool.and_true, Bool.and_false])), _, Same.refl _, w45⟩
          · skip
            exact ⟨_, rfl, _, rfl, _, _, _, rfl, dget_k (ev := V.bl) (m := g45) (k := b45.2) ((w45.get (pre := [])).trans (congrArg (fun z => some (HO.dK z)) h45_0)), get_has _ _ _, _, rfl, q48 _ _ ⟨(by first | rfl | exact absurd k49 (by decide) | (simp [k49]; done) | ((try simp only [Bool.not_eq_true] at k49); simp only [k49, Bool.true_or, Bool.false_or, Bool.or_false, Bool.or_true, Bool.true_and, Bool.false_and, Bool.and_true, Bool.and_false])), _, Same.refl _, w45⟩⟩
        obtain ⟨rfl, F48, s48, w48⟩ := hc48
        replace gg4 := A2.mono s48 gg4
        replace q10 := s48 _ _ q10
        replace gg12 := A2.mono s48 gg12
        replace q18 := s48 _ _ q18
        replace h21_0 := A2.mono s48 h21_0
        replace h12_0 := A2.mono s48 h12_0
        replace sF := sF.trans s48
        refine post_ite hm (fun k52 hm => ?_) (fun k52 hm => ?_)
        · skip
          obtain ⟨l53, z53, e53, hm⟩ := pn_mput hm
          refine ⟨_, rfl, _, rfl, _, _, rfl, dput_k (ev := V.bl) (m := g45) (k := b45.1) (v := true) ((w48.get (pre := [])).trans (congrArg (fun z => some (HO.dK z)) h45_0)) z53, ?_⟩
          have h53 : (encM kI V.bl (mput g45 b45.1 true)) = encM kI V.bl l53 := by rw [e53]
          have w54 : W F48 _ ((p41, .dK (encM kI V.bl (mput g45 b45.1 true))) :: (p20, .lst vs21_0) :: (a_pot, .lst vs12_0) :: os) := w48.set (pre := [])
          obtain ⟨l55, z55, e55, hm⟩ := pn_mput hm
          refine ⟨_, rfl, _, rfl, _, _, rfl, dput_k (ev := V.bl) (m := l53) (k := b45.2) (v := true) ((w54.get (pre := [])).trans (congrArg (fun z => some (HO.dK z)) h53)) z55, ?_⟩
          have h55 : (encM kI V.bl (mput l53 b45.2 true)) = encM kI V.bl l55 := by rw [e55]
          have w56 : W F48 _ ((p41, .dK (encM kI V.bl (mput l53 b45.2 true))) :: (p20, .lst vs21_0) :: (a_pot, .lst vs12_0) :: os) := w54.set (pre := [])
          exact hN45 _ (post_ok hm) _ _ ⟨_, _, _, _, rfl, (s45.trans s48), w56, h55⟩
        · skip
          exact hN45 _ (post_ok hm) _ _ ⟨_, _, _, _, rfl, (s45.trans s48), w48, h45_0⟩
      intro g45 σ45 H45 hI hm
      obtain ⟨F45, vs45_0, o45_11, o45_12, rfl, s45, w45, h45_0⟩ := hI
      replace gg4 := A2.mono s45 gg4
      replace q10 := s45 _ _ q10
      replace gg12 := A2.mono s45 gg12
      replace q18 := s45 _ _ q18
      replace h21_0 := A2.mono s45 h21_0
      replace h12_0 := A2.mono s45 h12_0
      replace sF := sF.trans s45
      exact hN43 _ (post_ok hm) _ _ ⟨_, _, _, _, _, rfl, (s43.trans s45), w45, h45_0⟩
    intro g43 σ43 H43 hI hm
    obtain ⟨F43, vs43_0, o43_11, o43_12, o43_10, rfl, s43, w43, h43_0⟩ := hI
    replace gg4 := A2.mono s43 gg4
    replace q10 := s43 _ _ q10
    replace gg12 := A2.mono s43 gg12
    replace q18 := s43 _ _ q18
    replace h21_0 := A2.mono s43 h21_0
    replace h12_0 := A2.mono s43 h12_0
    replace sF := sF.trans s43
    obtain ⟨c57, hm⟩ := pb_rng hm
    refine ⟨_, rfl, _, rfl, _, _, rfl, c57, fun D58 nD58 => ?_⟩
    refine lcF (K := K) (tw_rng (i := (1 : Int)) (j := x_many)) hm w43 nD58 (fun F' H' acc s w => trivial) ?_ ?_
    · -- one turn
      intro b58 x58 F58 H58 H58' acc58 N58 M58 P58 s58 w58 y58 hN58 hM58 hm
      replace gg4 := A2.mono s58 gg4
      replace q10 := s58 _ _ q10
      replace gg12 := A2.mono s58 gg12
      replace q18 := s58 _ _ q18
      replace h21_0 := A2.mono s58 h21_0
      replace h12_0 := A2.mono s58 h12_0
      replace sF := sF.trans s58
      obtain ⟨rfl, rfl⟩ := y58
      refine ⟨rfl, _, rfl, _, rfl, _, _, _, rfl, dget_k (ev := V.bl) (m := g43) (k := b58) ((w58.get (pre := [_])).trans (congrArg (fun z => some (HO.dK z)) h43_0)), get_has _ _ _, _, rfl, ?_⟩
      refine post_ite hm (fun k60 hm => ?_) (fun k60 hm => ?_)
      · skip
        refine ⟨_, rfl, (by show 2 ≤ sizeLine; decide), fun p61 n61 => ?_⟩
        obtain ⟨F61, s61, w61, q61⟩ := w58.frzE (o := .tup [(.int 0), (.int b58)]) n61
        replace gg4 := A2.mono s61 gg4
        replace q10 := s61 _ _ q10
        replace gg12 := A2.mono s61 gg12
        replace q18 := s61 _ _ q18
        replace h21_0 := A2.mono s61 h21_0
        replace h12_0 := A2.mono s61 h12_0
        replace sF := sF.trans s61
        exact hN58 _ (post_ok hm) _ _ _ w61 s61 (rep_pair q61 rep_i rep_i)
      · skip
        exact hM58 (post_ok hm) _ _ w58 (Same.refl _)
    intro us58 F58 H58 ys58 s58 w58 gg58 hm
    replace gg4 := A2.mono s58 gg4
    replace q10 := s58 _ _ q10
    replace gg12 := A2.mono s58 gg12
    replace q18 := s58 _ _ q18
    replace h21_0 := A2.mono s58 h21_0
    replace h12_0 := A2.mono s58 h12_0
    replace sF := sF.trans s58
    obtain ⟨l63, z63, e63, hm⟩ := pn_extend hm
    have h63 : A2 (rep K F58) (vs21_0 ++ us58) l63 := e63 ▸ A2.append h21_0 gg58
    refine ⟨_, _, _, _, rfl, rfl, (w58.get (pre := [_, _])), (w58.get (pre := [])), (A2.le2 h21_0 gg58 z63), fun p64 n64 => ?_⟩
    have w64 : W F58 _ ((p64, .lst (vs21_0 ++ us58)) :: (D58, .lst us58) :: (p41, .dK vs43_0) :: (p20, .lst vs21_0) :: (a_pot, .lst vs12_0) :: os) := w58.new n64
    have w65 : W F58 _ ((p64, .lst (vs21_0 ++ us58)) :: (p41, .dK vs43_0) :: (p20, .lst vs21_0) :: (a_pot, .lst vs12_0) :: os) := w64.drop (pre := [_])
    have w66 : W F58 _ ((p64, .lst (vs21_0 ++ us58)) :: (p20, .lst vs21_0) :: (a_pot, .lst vs12_0) :: os) := w65.drop (pre := [_])
    have w67 : W F58 _ ((p64, .lst (vs21_0 ++ us58)) :: (a_pot, .lst vs12_0) :: os) := w66.drop (pre := [_])
    exact (post_ok hm) _ _ _ _ _ w67 sF h63 h12_0
def sp_law_ties (K : Fg) : Sp := fun vs H Q E => ∃ (F : Hp) (os : List (Addr × HO)) (a_pot : Addr) (vs_pot : List V) (x_pot : (List Int)) (x_many : Int), vs = [.ref a_pot, .int x_many] ∧ W F H ((a_pot, .lst vs_pot) :: os) ∧ A2 (rep K F) vs_pot x_pot ∧ Post (law_ties x_pot x_many) (RetLM K F a_pot os Q) noX
theorem sc_law_ties : FnScope ["pot", "many", "way", "found", "k", "most", "one", "other", "j"] ["pot", "many"] (defScope s_law_ties) := ⟨rfl, rfl, rfl, by decide +kernel, rfl, by decide +kernel, by decide +kernel⟩
set_option maxHeartbeats 40000000 in
theorem ok_law_ties (T : Tx K mg A FD) : FnOk P w K mg base CX0 3 (A 17) (FD 17) ["pot", "many"] (sp_law_ties K) := by
  refine T.d17.fn.ok sc_law_ties (fun vs H Q E h => ?_) (fun cdv Ar outer s H vs Q E hr h => ?_)
  · obtain ⟨F, os, a_pot, vs_pot, x_pot, x_many, rfl, _⟩ := h
    rfl
  · obtain ⟨F0, os, a_pot, vs_pot, x_pot, x_many, rfl, w0, h_pot, hm⟩ := h
    have sF : Same F0 F0 := Same.refl _
    refine ⟨_, (pss_cons (ps_set (i := 2) sc_law_ties.nd rfl (Or.inl rfl) (pe_call (ok_law_take T) (hr.mono (by decide)) (by rfl) T.d14.mg T.d14.fn.kp T.d14.b .nil pass0 (pa_cons (pv 0) (pa_cons pe_int pa_nil)))) (pss_cons (ps_setLc (i := 3) (own := [("k", 4)]) (g := gName 4) (by rfl) sc_law_ties.nd rfl rfl (sw_true rfl rfl rfl (by decide +kernel)) (pi_range2 (by rfl) T.n_range (pa_cons pe_int (pa_cons (pv 1) pa_nil))) (blkOk_by (own := [("k", 4)]) (N := ["pot", "many", "way", "found", "k", "most", "one", "other", "j"]) (sc := defScope s_law_ties) (by decide +kernel)) (fun _ _ _ _ _ => (pg_name (i := 4) sc_law_ties.nd rfl (Or.inl rfl))) (fun _ _ _ _ _ => pts_nil) (fun _ _ _ _ _ => (pe_tup (pa_cons (pe_op op_sub (pv 4) pe_int) (pa_cons (pv 4) pa_nil))))) (pss_cons (ps_if (PW.pt (pw_and (pt_cmp (pc_eqI (pv 2) pe_int)) (pw_and1 (pt_cmp (pc_gt (pv 1) pe_int))))) (pss_one (ps_expr (pe_bm PySem.F.plainAttrs_list PySem.F.slot_list_append PySem.F.type_list_append mt_append (pv 3) (pa_cons (pe_tup (pa_cons pe_int (pa_cons (pe_op op_sub (pv 1) pe_int) pa_nil))) pa_nil)))) pss_nil) (pss_cons (ps_if (pt_cmp (pc_eqI (pv 2) pe_int)) (pss_one (ps_setLc (i := 3) (own := [("k", 4)]) (g := gName 4) (by rfl) sc_law_ties.nd rfl rfl (sw_true rfl rfl rfl (by decide +kernel)) (pi_range2 (by rfl) T.n_range (pa_cons pe_int (pa_cons (pv 1) pa_nil))) (blkOk_by (own := [("k", 4)]) (N := ["pot", "many", "way", "found", "k", "most", "one", "other", "j"]) (sc := defScope s_law_ties) (by decide +kernel)) (fun _ _ _ _ _ => (pg_name (i := 4) sc_law_ties.nd rfl (Or.inl rfl))) (fun _ _ _ _ _ => pts_nil) (fun _ _ _ _ _ => (pe_tup (pa_cons pe_int (pa_cons (pv 4) pa_nil)))))) pss_nil) (pss_cons (ps_if (PW.pt (pw_and (pt_cmp (pc_eqI (pv 2) pe_int)) (pw_and1 (pt_cmp (pc_lt (pv 1) pe_int))))) (pss_cons (ps_set (i := 3) sc_law_ties.nd rfl (Or.inl rfl) (pe_lst pa_nil)) (pss_one (ps_for PassesOwn.never rfl (pi_range1 (by rfl) T.n_range (pa_cons (pv 1) pa_nil)) (pg_name (i := 4) sc_law_ties.nd rfl (Or.inr rfl)) (pss_one (ps_expr (pe_bm PySem.F.plainAttrs_list PySem.F.slot_list_extend PySem.F.type_list_extend mt_extend (pv 3) (pa_cons (pe_lc (own := [("j", 8)]) (g := gName 8) (by rfl) sc_law_ties.nd (pi_range1 (by rfl) T.n_range (pa_cons (pv 4) pa_nil)) (blkOk_by (own := [("j", 8)]) (N := ["pot", "many", "way", "found", "k", "most", "one", "other", "j"]) (sc := defScope s_law_ties) (by decide +kernel)) (fun _ _ _ _ _ => (pg_name (i := 8) sc_law_ties.nd rfl (Or.inl rfl))) (fun _ _ _ _ _ => pts_nil) (fun _ _ _ _ _ => (pe_tup (pa_cons (pv 8) (pa_cons (pv 4) pa_nil))))) pa_nil))))))) pss_nil) (pss_cons (ps_if (PW.pt (pw_and (pt_cmp (pc_eqI (pv 2) pe_int)) (pw_and1 (pt_cmp (pc_lt (pv 1) pe_int))))) (pss_one (ps_set (i := 3) sc_law_ties.nd rfl (Or.inl rfl) (pe_call (ok_law_bunches T) (hr.mono (by decide)) (by rfl) T.d18.mg T.d18.fn.kp T.d18.b .nil pass0 (pa_cons (pv 0) (pa_cons (pv 1) pa_nil))))) pss_nil) (pss_cons (ps_if (pt_cmp (pc_gt (pv 2) pe_int)) (pss_cons (ps_set (i := 3) sc_law_ties.nd rfl (Or.inl rfl) (pe_lst pa_nil)) (pss_one (ps_for PassesOwn.never rfl (pi_range2 (by rfl) T.n_range (pa_cons pe_int (pa_cons (pv 1) pa_nil))) (pg_name (i := 4) sc_law_ties.nd rfl (Or.inr rfl)) (pss_one (ps_expr (pe_bm PySem.F.plainAttrs_list PySem.F.slot_list_append PySem.F.type_list_append mt_append (pv 3) (pa_cons (pe_tup (pa_cons (pe_ix (ix_listK (K := K) rfl) (pe_lst (pa_cons (pe_call (ok_law_take T) (hr.mono (by decide)) (by rfl) T.d14.mg T.d14.fn.kp T.d14.b .nil pass0 (pa_cons (pv 0) (pa_cons (pv 4) pa_nil))) (pa_cons (pe_op op_sub (pv 4) pe_int) (pa_cons (pe_callB (call_max2 rfl) (by rfl) T.n_max (by decide +kernel) (pa_cons pe_int (pa_cons (pe_op op_sub (pv 4) pe_int) pa_nil))) pa_nil)))) (pe_call (ok_law_take T) (hr.mono (by decide)) (by rfl) T.d14.mg T.d14.fn.kp T.d14.b .nil pass0 (pa_cons (pv 0) (pa_cons pe_int pa_nil))) (fun _ _ => rfl)) (pa_cons (pv 4) pa_nil))) pa_nil))))))) pss_nil) (pss_cons (ps_if (pt_cmp (pc_gt (pv 2) pe_int)) (pss_cons (ps_set (i := 5) sc_law_ties.nd rfl (Or.inl rfl) (pe_ix (ix_listK (K := K) rfl) (pe_lst (pa_cons pe_int (pa_cons pe_int (pa_cons pe_int (pa_cons pe_int pa_nil))))) (pe_call (ok_law_take T) (hr.mono (by decide)) (by rfl) T.d14.mg T.d14.fn.kp T.d14.b .nil pass0 (pa_cons (pv 0) (pa_cons pe_int pa_nil))) (fun _ _ => rfl))) (pss_one (ps_for PassesOwn.never rfl (pi_range1 (by rfl) T.n_range (pa_cons (pe_call (ok_law_take T) (hr.mono (by decide)) (by rfl) T.d14.mg T.d14.fn.kp T.d14.b .nil pass0 (pa_cons (pv 0) (pa_cons (pv 5) pa_nil))) pa_nil)) (pg_name (i := 4) sc_law_ties.nd rfl (Or.inr rfl)) (pss_cons (ps_set (i := 6) sc_law_ties.nd rfl (Or.inl rfl) (pe_call (ok_law_take T) (hr.mono (by decide)) (by rfl) T.d14.mg T.d14.fn.kp T.d14.b .nil pass0 (pa_cons (pv 0) (pa_cons (pv 1) pa_nil)))) (pss_cons (ps_set (i := 7) sc_law_ties.nd rfl (Or.inl rfl) (pe_call (ok_law_take T) (hr.mono (by decide)) (by rfl) T.d14.mg T.d14.fn.kp T.d14.b .nil pass0 (pa_cons (pv 0) (pa_cons (pv 1) pa_nil)))) (pss_one (ps_if (PW.pt (pw_and (pt_cmp (pc_lt (pv 6) (pv 7))) (pw_and1 (pt_cmpR (op_notInL (K := K) rfl (Int × Int) (by decide) (Room.units65 hr)) (pe_tup (pa_cons (pv 6) (pa_cons (pv 7) pa_nil))) (pv 3) (by rfl))))) (pss_one (ps_expr (pe_bm PySem.F.plainAttrs_list PySem.F.slot_list_append PySem.F.type_list_append mt_append (pv 3) (pa_cons (pe_tup (pa_cons (pv 6) (pa_cons (pv 7) pa_nil))) pa_nil)))) pss_nil))))))) pss_nil) (pss_one (ps_ret (pv 3))))))))))), ?_⟩
    refine ⟨_, rfl, _, _, _, _, _, _, rfl, w0, h_pot, ?_⟩
    refine (post_bind hm).mono (fun y2 hm v2 vs2 F2 H2 w2 s2 r2 h2 => ?_) (fun _ z => z)
    replace sF := sF.trans s2
    obtain rfl : v2 = V.int y2.1 := r2
    obtain ⟨c3, hm⟩ := pb_rng hm
    refine ⟨_, rfl, _, _, rfl, c3, fun D4 nD4 => ?_⟩
    refine lcM (K := K) (tw_rng (i := (1 : Int)) (j := x_many)) hm w2 nD4 (fun F' H' acc s w => trivial) ?_ ?_
    · -- one turn
      intro b4 x4 F4 H4 H4' acc4 N4 P4 s4 w4 y4 hN4 hm
      replace h2 := A2.mono s4 h2
      replace sF := sF.trans s4
      obtain ⟨rfl, rfl⟩ := y4
      refine ⟨rfl, _, rfl, _, _, rfl, rfl, _, rfl, (by show 2 ≤ sizeLine; decide), fun p6 n6 => ?_⟩
      obtain ⟨F6, s6, w6, q6⟩ := w4.frzE (o := .tup [(.int (b4 - (1 : Int))), (.int b4)]) n6
      replace h2 := A2.mono s6 h2
      replace sF := sF.trans s6
      exact hN4 _ (post_ok hm) _ _ _ w6 s6 (rep_pair q6 rep_i rep_i)
    intro us4 F4 H4 ys4 s4 w4 gg4 hm
    replace h2 := A2.mono s4 h2
    replace sF := sF.trans s4
    refine stepN ?_
    try dsimp only
    refine joinS hm (fun (g8 : (List (Int × Int))) σ H' => ∃ (F' : Hp) (vs8_0 : List V), σ = [some (.ref a_pot), some (.int x_many), some (.int y2.1), some (.ref D4), none, none, none, none, none] ∧ Same F4 F' ∧ W F' H' ((D4, .lst vs8_0) :: (a_pot, .lst vs2) :: os) ∧ A2 (rep K F') vs8_0 g8) ?_ ?_
    · intro N8 P8 hN8 hm
      refine stepIf ?_
      refine cutT (fun c H' => c = (((decide (y2.1 = (1 : Int))) && (decide ((2 : Int) < x_many)))) ∧ ∃ F', Same F4 F' ∧ W F' H' ((D4, .lst us4) :: (a_pot, .lst vs2) :: os)) (fun Q9 q9 => ?_) (fun c9 H9 hc9 => ?_)
      · -- the ways
        refine ⟨_, rfl, _, _, rfl, rfl, _, rfl, ?_⟩
        refine ifB (fun k10 => ?_) (fun k10 => ?_)
        · skip
          exact ⟨_, rfl, _, _, rfl, rfl, _, rfl, q9 _ _ ⟨(by first | rfl | exact absurd k10 (by decide) | (simp [k10]; done) | ((try simp only [Bool.not_eq_true] at k10); simp only [k10, Bool.true_or, Bool.false_or, Bool.or_false, Bool.or_true, Bool.true_and, Bool.false_and, Bool.and_true, Bool.and_false])), _, Same.refl _, w4⟩⟩
        · skip
          exact q9 _ _ ⟨(by first | rfl | exact absurd k10 (by decide) | (simp [k10]; done) | ((try simp only [Bool.not_eq_true] at k10); simp only [k10, Bool.true_or, Bool.false_or, Bool.or_false, Bool.or_true, Bool.true_and, Bool.false_and, Bool.and_true, Bool.and_false])), _, Same.refl _, w4⟩
      obtain ⟨rfl, F9, s9, w9⟩ := hc9
      replace gg4 := A2.mono s9 gg4
      replace h2 := A2.mono s9 h2
      replace sF := sF.trans s9
      refine post_ite hm (fun k13 hm => ?_) (fun k13 hm => ?_)
      · skip
        refine ⟨_, rfl, .inl ⟨rfl, _, SqL.of (w9.get (pre := []))⟩, _, rfl, _, _, rfl, rfl, (by show 2 ≤ sizeLine; decide), fun p14 n14 => ?_⟩
        obtain ⟨F14, s14, w14, q14⟩ := w9.frzE (o := .tup [(.int 0), (.int (x_many - (1 : Int)))]) n14
        replace gg4 := A2.mono s14 gg4
        replace h2 := A2.mono s14 h2
        replace sF := sF.trans s14
        obtain ⟨l15, z15, e15, hm⟩ := pn_app hm
        refine ⟨_, _, _, rfl, rfl, (w14.get (pre := [])), (A2.lt gg4 z15), ?_⟩
        have h15 : A2 (rep K F14) (us4 ++ [(V.ref p14)]) l15 := e15 ▸ A2.snoc gg4 (rep_pair q14 rep_i rep_i)
        have w16 : W F14 _ ((D4, .lst (us4 ++ [(V.ref p14)])) :: (a_pot, .lst vs2) :: os) := w14.set (pre := [])
        exact hN8 _ (post_ok hm) _ _ ⟨_, _, rfl, (s9.trans s14), w16, h15⟩
      · skip
        exact hN8 _ (post_ok hm) _ _ ⟨_, _, rfl, s9, w9, gg4⟩
    intro g8 σ8 H8 hI hm
    obtain ⟨F8, vs8_0, rfl, s8, w8, h8_0⟩ := hI
    replace h2 := A2.mono s8 h2
    replace sF := sF.trans s8
    try dsimp only
    refine joinS hm (fun (g17 : (List (Int × Int))) σ H' => ∃ (F' : Hp) (ao17_3 : Addr) (uo17_3 : List V), σ = [some (.ref a_pot), some (.int x_many), some (.int y2.1), some (.ref ao17_3), none, none, none, none, none] ∧ Same F8 F' ∧ W F' H' ((ao17_3, .lst uo17_3) :: (a_pot, .lst vs2) :: os) ∧ A2 (rep K F') uo17_3 g17) ?_ ?_
    · intro N17 P17 hN17 hm
      refine ⟨_, rfl, _, _, rfl, rfl, _, rfl, ?_⟩
      refine post_ite hm (fun k18 hm => ?_) (fun k18 hm => ?_)
      · skip
        obtain ⟨c19, hm⟩ := pb_rng hm
        refine ⟨_, rfl, _, _, rfl, c19, fun D20 nD20 => ?_⟩
        refine lcM (K := K) (tw_rng (i := (1 : Int)) (j := x_many)) hm w8 nD20 (fun F' H' acc s w => trivial) ?_ ?_
        · -- one turn
          intro b20 x20 F20 H20 H20' acc20 N20 P20 s20 w20 y20 hN20 hm
          replace h8_0 := A2.mono s20 h8_0
          replace h2 := A2.mono s20 h2
          replace sF := sF.trans s20
          obtain ⟨rfl, rfl⟩ := y20
          refine ⟨rfl, _, rfl, (by show 2 ≤ sizeLine; decide), fun p22 n22 => ?_⟩
          obtain ⟨F22, s22, w22, q22⟩ := w20.frzE (o := .tup [(.int 0), (.int b20)]) n22
          replace h8_0 := A2.mono s22 h8_0
          replace h2 := A2.mono s22 h2
          replace sF := sF.trans s22
          exact hN20 _ (post_ok hm) _ _ _ w22 s22 (rep_pair q22 rep_i rep_i)
        intro us20 F20 H20 ys20 s20 w20 gg20 hm
        replace h8_0 := A2.mono s20 h8_0
        replace h2 := A2.mono s20 h2
        replace sF := sF.trans s20
        have w24 : W F20 _ ((D20, .lst us20) :: (a_pot, .lst vs2) :: os) := w20.drop (pre := [_])
        exact hN17 _ (post_ok hm) _ _ ⟨_, _, _, rfl, s20, w24, gg20⟩
      · skip
        exact hN17 _ (post_ok hm) _ _ ⟨_, _, _, rfl, Same.refl _, w8, h8_0⟩
    intro g17 σ17 H17 hI hm
    obtain ⟨F17, ao17_3, uo17_3, rfl, s17, w17, ko17_3⟩ := hI
    replace h2 := A2.mono s17 h2
    replace sF := sF.trans s17
    try dsimp only
    refine joinS hm (fun (g26 : (List (Int × Int))) σ H' => ∃ (F' : Hp) (ao26_3 : Addr) (uo26_3 : List V) (o26_4 : Option V), σ = [some (.ref a_pot), some (.int x_many), some (.int y2.1), some (.ref ao26_3), o26_4, none, none, none, none] ∧ Same F17 F' ∧ W F' H' ((ao26_3, .lst uo26_3) :: (a_pot, .lst vs2) :: os) ∧ A2 (rep K F') uo26_3 g26) ?_ ?_
    · intro N26 P26 hN26 hm
      refine stepIf ?_
      refine cutT (fun c H' => c = (((decide (y2.1 = (3 : Int))) && (decide (x_many < (21 : Int))))) ∧ ∃ F', Same F17 F' ∧ W F' H' ((ao17_3, .lst uo17_3) :: (a_pot, .lst vs2) :: os)) (fun Q27 q27 => ?_) (fun c27 H27 hc27 => ?_)
      · -- the ways
        refine ⟨_, rfl, _, _, rfl, rfl, _, rfl, ?_⟩
        refine ifB (fun k28 => ?_) (fun k28 => ?_)
        · skip
          exact ⟨_, rfl, _, _, rfl, rfl, _, rfl, q27 _ _ ⟨(by first | rfl | exact absurd k28 (by decide) | (simp [k28]; done) | ((try simp only [Bool.not_eq_true] at k28); simp only [k28, Bool.true_or, Bool.false_or, Bool.or_false, Bool.or_true, Bool.true_and, Bool.false_and, Bool.and_true, Bool.and_false])), _, Same.refl _, w17⟩⟩
        · skip
          exact q27 _ _ ⟨(by first | rfl | exact absurd k28 (by decide) | (simp [k28]; done) | ((try simp only [Bool.not_eq_true] at k28); simp only [k28, Bool.true_or, Bool.false_or, Bool.or_false, Bool.or_true, Bool.true_and, Bool.false_and, Bool.and_true, Bool.and_false])), _, Same.refl _, w17⟩
      obtain ⟨rfl, F27, s27, w27⟩ := hc27
      replace ko17_3 := A2.mono s27 ko17_3
      replace h2 := A2.mono s27 h2
      replace sF := sF.trans s27
      refine post_ite hm (fun k31 hm => ?_) (fun k31 hm => ?_)
      · skip
        have h32 : A2 (rep K F27) [] ([] : (List (Int × Int))) := .nil
        refine ⟨(by show 0 ≤ sizeLine; decide), fun p33 n33 => ?_⟩
        have w33 : W F27 _ ((p33, .lst []) :: (ao17_3, .lst uo17_3) :: (a_pot, .lst vs2) :: os) := w27.new n33
        have w34 : W F27 _ ((p33, .lst []) :: (a_pot, .lst vs2) :: os) := w33.drop (pre := [_])
        obtain ⟨c36, hm⟩ := pb_rng hm
        refine ⟨_, rfl, _, rfl, c36.2.2.1, c36.2.2.2, ?_⟩
        refine forS (tw_rng0 (j := x_many)) hm (fun (g35 : (List (Int × Int))) σ H' => ∃ (F' : Hp) (vs35_0 : List V) (o35_4 : Option V), σ = [some (.ref a_pot), some (.int x_many), some (.int y2.1), some (.ref p33), o35_4, none, none, none, none] ∧ Same F27 F' ∧ W F' H' ((p33, .lst vs35_0) :: (a_pot, .lst vs2) :: os) ∧ A2 (rep K F') vs35_0 g35) ⟨_, _, _, rfl, Same.refl _, w34, h32⟩ (fun _ _ _ _ => trivial) ?_ ?_
        · -- a turn
          intro b35 g35 x35 σ35 H35 H35' N35 P35 hI hy hN35 hm
          obtain ⟨F35, vs35_0, o35_4, rfl, s35, w35, h35_0⟩ := hI
          replace h2 := A2.mono s35 h2
          replace sF := sF.trans s35
          obtain ⟨rfl, rfl⟩ := hy
          obtain ⟨c37, hm⟩ := pb_rng hm
          refine ⟨_, rfl, .inl ⟨rfl, _, SqL.of (w35.get (pre := []))⟩, _, rfl, _, rfl, c37.2.2.1, c37.2.2.2, fun D38 nD38 => ?_⟩
          refine lcM (K := K) (tw_rng0 (j := b35)) hm w35 nD38 (fun F' H' acc s w => trivial) ?_ ?_
          · -- one turn
            intro b38 x38 F38 H38 H38' acc38 N38 P38 s38 w38 y38 hN38 hm
            replace h35_0 := A2.mono s38 h35_0
            replace h2 := A2.mono s38 h2
            replace sF := sF.trans s38
            obtain ⟨rfl, rfl⟩ := y38
            refine ⟨rfl, _, rfl, _, rfl, (by show 2 ≤ sizeLine; decide), fun p40 n40 => ?_⟩
            obtain ⟨F40, s40, w40, q40⟩ := w38.frzE (o := .tup [(.int b38), (.int b35)]) n40
            replace h35_0 := A2.mono s40 h35_0
            replace h2 := A2.mono s40 h2
            replace sF := sF.trans s40
            exact hN38 _ (post_ok hm) _ _ _ w40 s40 (rep_pair q40 rep_i rep_i)
          intro us38 F38 H38 ys38 s38 w38 gg38 hm
          replace h35_0 := A2.mono s38 h35_0
          replace h2 := A2.mono s38 h2
          replace sF := sF.trans s38
          obtain ⟨l42, z42, e42, hm⟩ := pn_extend hm
          refine ⟨_, _, _, _, rfl, rfl, (w38.get (pre := [_])), (w38.get (pre := [])), (A2.le2 h35_0 gg38 z42), ?_⟩
          have h42 : A2 (rep K F38) (vs35_0 ++ us38) l42 := e42 ▸ A2.append h35_0 gg38
          have w43 : W F38 _ ((D38, .lst us38) :: (p33, .lst (vs35_0 ++ us38)) :: (a_pot, .lst vs2) :: os) := w38.set (pre := [_])
          have w44 : W F38 _ ((p33, .lst (vs35_0 ++ us38)) :: (a_pot, .lst vs2) :: os) := w43.drop (pre := [])
          exact hN35 _ (post_ok hm) _ _ ⟨_, _, _, rfl, (s35.trans s38), w44, h42⟩
        intro g35 σ35 H35 hI hm
        obtain ⟨F35, vs35_0, o35_4, rfl, s35, w35, h35_0⟩ := hI
        replace h2 := A2.mono s35 h2
        replace sF := sF.trans s35
        exact hN26 _ (post_ok hm) _ _ ⟨_, _, _, _, rfl, (s27.trans s35), w35, h35_0⟩
      · skip
        exact hN26 _ (post_ok hm) _ _ ⟨_, _, _, _, rfl, s27, w27, ko17_3⟩
    intro g26 σ26 H26 hI hm
    obtain ⟨F26, ao26_3, uo26_3, o26_4, rfl, s26, w26, ko26_3⟩ := hI
    replace h2 := A2.mono s26 h2
    replace sF := sF.trans s26
    try dsimp only
    refine joinS hm (fun (g46 : (List (Int × Int)) × (List Int)) σ H' => ∃ (F' : Hp) (ao46_3 : Addr) (uo46_3 : List V) (vs46_0 : List V), σ = [some (.ref a_pot), some (.int x_many), some (.int y2.1), some (.ref ao46_3), o26_4, none, none, none, none] ∧ Same F26 F' ∧ W F' H' ((ao46_3, .lst uo46_3) :: (a_pot, .lst vs46_0) :: os) ∧ A2 (rep K F') uo46_3 g46.1 ∧ A2 (rep K F') vs46_0 g46.2) ?_ ?_
    · intro N46 P46 hN46 hm
      refine stepIf ?_
      refine cutT (fun c H' => c = (((decide (y2.1 = (4 : Int))) && (decide (x_many < (13 : Int))))) ∧ ∃ F', Same F26 F' ∧ W F' H' ((ao26_3, .lst uo26_3) :: (a_pot, .lst vs2) :: os)) (fun Q47 q47 => ?_) (fun c47 H47 hc47 => ?_)
      · -- the ways
        refine ⟨_, rfl, _, _, rfl, rfl, _, rfl, ?_⟩
        refine ifB (fun k48 => ?_) (fun k48 => ?_)
        · skip
          exact ⟨_, rfl, _, _, rfl, rfl, _, rfl, q47 _ _ ⟨(by first | rfl | exact absurd k48 (by decide) | (simp [k48]; done) | ((try simp only [Bool.not_eq_true] at k48); simp only [k48, Bool.true_or, Bool.false_or, Bool.or_false, Bool.or_true, Bool.true_and, Bool.false_and, Bool.and_true, Bool.and_false])), _, Same.refl _, w26⟩⟩
        · skip
          exact q47 _ _ ⟨(by first | rfl | exact absurd k48 (by decide) | (simp [k48]; done) | ((try simp only [Bool.not_eq_true] at k48); simp only [k48, Bool.true_or, Bool.false_or, Bool.or_false, Bool.or_true, Bool.true_and, Bool.false_and, Bool.and_true, Bool.and_false])), _, Same.refl _, w26⟩
      obtain ⟨rfl, F47, s47, w47⟩ := hc47
      replace ko26_3 := A2.mono s47 ko26_3
      replace h2 := A2.mono s47 h2
      replace sF := sF.trans s47
      refine post_ite hm (fun k51 hm => ?_) (fun k51 hm => ?_)
      · skip
        have w52 : W F47 _ ((a_pot, .lst vs2) :: (ao26_3, .lst uo26_3) :: os) := w47.front (pre := [_])
        refine ⟨_, rfl, _, rfl, _, _, _, _, _, _, rfl, w52, h2, ?_⟩
        refine (post_bind hm).mono (fun y53 hm p53 us53 vs53 F53 H53 w53 s53 g53 h53 => ?_) (fun _ z => z)
        replace ko26_3 := A2.mono s53 ko26_3
        replace sF := sF.trans s53
        have w55 : W F53 _ ((p53, .lst us53) :: (a_pot, .lst vs53) :: os) := w53.drop (pre := [_, _])
        exact hN46 _ (post_ok hm) _ _ ⟨_, _, _, _, rfl, (s47.trans s53), w55, g53, h53⟩
      · skip
        exact hN46 _ (post_ok hm) _ _ ⟨_, _, _, _, rfl, s47, w47, ko26_3, h2⟩
    intro g46 σ46 H46 hI hm
    obtain ⟨F46, ao46_3, uo46_3, vs46_0, rfl, s46, w46, ko46_3, h46_0⟩ := hI
    replace sF := sF.trans s46
    try dsimp only
    refine joinS hm (fun (g57 : (List (Int × Int)) × (List Int)) σ H' => ∃ (F' : Hp) (ao57_3 : Addr) (uo57_3 : List V) (vs57_0 : List V) (o57_4 : Option V), σ = [some (.ref a_pot), some (.int x_many), some (.int y2.1), some (.ref ao57_3), o57_4, none, none, none, none] ∧ Same F46 F' ∧ W F' H' ((ao57_3, .lst uo57_3) :: (a_pot, .lst vs57_0) :: os) ∧ A2 (rep K F') uo57_3 g57.1 ∧ A2 (rep K F') vs57_0 g57.2) ?_ ?_
    · intro N57 P57 hN57 hm
      refine ⟨_, rfl, _, _, rfl, rfl, _, rfl, ?_⟩
      refine post_ite hm (fun k58 hm => ?_) (fun k58 hm => ?_)
      · skip
        have h59 : A2 (rep K F46) [] ([] : (List (Int × Int))) := .nil
        refine ⟨(by show 0 ≤ sizeLine; decide), fun p60 n60 => ?_⟩
        have w60 : W F46 _ ((p60, .lst []) :: (ao46_3, .lst uo46_3) :: (a_pot, .lst vs46_0) :: os) := w46.new n60
        have w61 : W F46 _ ((p60, .lst []) :: (a_pot, .lst vs46_0) :: os) := w60.drop (pre := [_])
        obtain ⟨c63, hm⟩ := pb_rng hm
        refine ⟨_, rfl, _, _, rfl, c63, ?_⟩
        refine forS (tw_rng (i := (1 : Int)) (j := x_many)) hm (fun (g62 : (List (Int × Int)) × (List Int)) σ H' => ∃ (F' : Hp) (vs62_0 : List V) (vs62_1 : List V) (o62_4 : Option V), σ = [some (.ref a_pot), some (.int x_many), some (.int y2.1), some (.ref p60), o62_4, none, none, none, none] ∧ Same F46 F' ∧ W F' H' ((p60, .lst vs62_0) :: (a_pot, .lst vs62_1) :: os) ∧ A2 (rep K F') vs62_0 g62.1 ∧ A2 (rep K F') vs62_1 g62.2) ⟨_, _, _, _, rfl, Same.refl _, w61, h59, h46_0⟩ (fun _ _ _ _ => trivial) ?_ ?_
        · -- a turn
          intro b62 g62 x62 σ62 H62 H62' N62 P62 hI hy hN62 hm
          obtain ⟨F62, vs62_0, vs62_1, o62_4, rfl, s62, w62, h62_0, h62_1⟩ := hI
          replace sF := sF.trans s62
          obtain ⟨rfl, rfl⟩ := hy
          have w64 : W F62 _ ((a_pot, .lst vs62_1) :: (p60, .lst vs62_0) :: os) := w62.front (pre := [_])
          refine ⟨_, rfl, .inl ⟨rfl, _, SqL.of (w62.get (pre := []))⟩, _, rfl, _, rfl, _, _, _, _, _, _, rfl, w64, h62_1, ?_⟩
          refine (post_bind hm).mono (fun y65 hm v65 vs65 F65 H65 w65 s65 r65 h65 => ?_) (fun _ z => z)
          replace h62_0 := A2.mono s65 h62_0
          replace sF := sF.trans s65
          obtain rfl : v65 = V.int y65.1 := r65
          have h66 : A2 (rep K F65) [(.int y65.1), (.int (b62 - (1 : Int))), (.int (max2 (0 : Int) (b62 - (2 : Int))))] ([y65.1, (b62 - (1 : Int)), (max2 (0 : Int) (b62 - (2 : Int)))] : (List Int)) := .cons rep_i (.cons rep_i (.cons rep_i (.nil)))
          refine ⟨_, rfl, _, _, rfl, rfl, _, rfl, _, _, rfl, rfl, _, _, rfl, (by show 3 ≤ sizeLine; decide), fun p67 n67 => ?_⟩
          have w67 : W F65 _ ((p67, .lst [(.int y65.1), (.int (b62 - (1 : Int))), (.int (max2 (0 : Int) (b62 - (2 : Int))))]) :: (a_pot, .lst vs65) :: (p60, .lst vs62_0) :: os) := w65.new n67
          have w68 : W F65 _ ((a_pot, .lst vs65) :: (p67, .lst [(.int y65.1), (.int (b62 - (1 : Int))), (.int (max2 (0 : Int) (b62 - (2 : Int))))]) :: (p60, .lst vs62_0) :: os) := w67.front (pre := [_])
          refine ⟨_, rfl, _, _, _, _, _, _, rfl, w68, h65, ?_⟩
          refine (post_bind hm).mono (fun y69 hm v69 vs69 F69 H69 w69 s69 r69 h69 => ?_) (fun _ z => z)
          replace h62_0 := A2.mono s69 h62_0
          replace h66 := A2.mono s69 h66
          replace sF := sF.trans s69
          obtain rfl : v69 = V.int y69.1 := r69
          obtain ⟨t70, e70, hm⟩ := pb_get hm
          obtain ⟨u70, f70, r70⟩ := A2.at h66 e70
          obtain rfl : u70 = V.int t70 := r70
          refine ⟨_, _, _, _, rfl, rfl, SqL.of (w69.get (pre := [_])), f70, _, rfl, (by show 2 ≤ sizeLine; decide), fun p71 n71 => ?_⟩
          obtain ⟨F71, s71, w71, q71⟩ := w69.frzE (o := .tup [(.int t70), (.int b62)]) n71
          replace h62_0 := A2.mono s71 h62_0
          replace h66 := A2.mono s71 h66
          replace h69 := A2.mono s71 h69
          replace sF := sF.trans s71
          obtain ⟨l72, z72, e72, hm⟩ := pn_app hm
          refine ⟨_, _, _, rfl, rfl, (w71.get (pre := [_, _])), (A2.lt h62_0 z72), ?_⟩
          have h72 : A2 (rep K F71) (vs62_0 ++ [(V.ref p71)]) l72 := e72 ▸ A2.snoc h62_0 (rep_pair q71 rep_i rep_i)
          have w73 : W F71 _ ((a_pot, .lst vs69) :: (p67, .lst [(.int y65.1), (.int (b62 - (1 : Int))), (.int (max2 (0 : Int) (b62 - (2 : Int))))]) :: (p60, .lst (vs62_0 ++ [(V.ref p71)])) :: os) := w71.set (pre := [_, _])
          have w74 : W F71 _ ((a_pot, .lst vs69) :: (p60, .lst (vs62_0 ++ [(V.ref p71)])) :: os) := w73.drop (pre := [_])
          have w75 : W F71 _ ((p60, .lst (vs62_0 ++ [(V.ref p71)])) :: (a_pot, .lst vs69) :: os) := w74.front (pre := [_])
          exact hN62 _ (post_ok hm) _ _ ⟨_, _, _, _, rfl, (s62.trans (s65.trans (s69.trans s71))), w75, h72, h69⟩
        intro g62 σ62 H62 hI hm
        obtain ⟨F62, vs62_0, vs62_1, o62_4, rfl, s62, w62, h62_0, h62_1⟩ := hI
        replace sF := sF.trans s62
        exact hN57 _ (post_ok hm) _ _ ⟨_, _, _, _, _, rfl, s62, w62, h62_0, h62_1⟩
      · skip
        exact hN57 _ (post_ok hm) _ _ ⟨_, _, _, _, _, rfl, Same.refl _, w46, ko46_3, h46_0⟩
    intro g57 σ57 H57 hI hm
    obtain ⟨F57, ao57_3, uo57_3, vs57_0, o57_4, rfl, s57, w57, ko57_3, h57_0⟩ := hI
    replace sF := sF.trans s57
    try dsimp only
    refine joinS hm (fun (g77 : (List (Int × Int)) × (List Int)) σ H' => ∃ (F' : Hp) (vs77_0 : List V) (vs77_1 : List V) (o77_5 : Option V) (o77_4 : Option V) (o77_6 : Option V) (o77_7 : Option V), σ = [some (.ref a_pot), some (.int x_many), some (.int y2.1), some (.ref ao57_3), o77_4, o77_5, o77_6, o77_7, none] ∧ Same F57 F' ∧ W F' H' ((ao57_3, .lst vs77_0) :: (a_pot, .lst vs77_1) :: os) ∧ A2 (rep K F') vs77_0 g77.1 ∧ A2 (rep K F') vs77_1 g77.2) ?_ ?_
    · intro N77 P77 hN77 hm
      refine ⟨_, rfl, _, _, rfl, rfl, _, rfl, ?_⟩
      refine post_ite hm (fun k78 hm => ?_) (fun k78 hm => ?_)
      · skip
        have h79 : A2 (rep K F57) [(.int 7), (.int 7), (.int 7), (.int 142)] ([(7 : Int), (7 : Int), (7 : Int), (142 : Int)] : (List Int)) := .cons rep_i (.cons rep_i (.cons rep_i (.cons rep_i (.nil))))
        refine ⟨(by show 4 ≤ sizeLine; decide), fun p80 n80 => ?_⟩
        have w80 : W F57 _ ((p80, .lst [(.int 7), (.int 7), (.int 7), (.int 142)]) :: (ao57_3, .lst uo57_3) :: (a_pot, .lst vs57_0) :: os) := w57.new n80
        have w81 : W F57 _ ((a_pot, .lst vs57_0) :: (p80, .lst [(.int 7), (.int 7), (.int 7), (.int 142)]) :: (ao57_3, .lst uo57_3) :: os) := w80.front (pre := [_, _])
        refine ⟨_, rfl, _, _, _, _, _, _, rfl, w81, h57_0, ?_⟩
        refine (post_bind hm).mono (fun y82 hm v82 vs82 F82 H82 w82 s82 r82 h82 => ?_) (fun _ z => z)
        replace ko57_3 := A2.mono s82 ko57_3
        replace h79 := A2.mono s82 h79
        replace sF := sF.trans s82
        obtain rfl : v82 = V.int y82.1 := r82
        obtain ⟨t83, e83, hm⟩ := pb_get hm
        obtain ⟨u83, f83, r83⟩ := A2.at h79 e83
        obtain rfl : u83 = V.int t83 := r83
        have w84 : W F82 _ ((a_pot, .lst vs82) :: (ao57_3, .lst uo57_3) :: os) := w82.drop (pre := [_])
        refine ⟨_, _, _, _, rfl, rfl, SqL.of (w82.get (pre := [_])), f83, _, rfl, _, rfl, _, _, _, _, _, _, rfl, w84, h82, ?_⟩
        refine (post_bind hm).mono (fun y86 hm v86 vs86 F86 H86 w86 s86 r86 h86 => ?_) (fun _ z => z)
        replace ko57_3 := A2.mono s86 ko57_3
        replace sF := sF.trans s86
        obtain rfl : v86 = V.int y86.1 := r86
        obtain ⟨c87, hm⟩ := pb_rng hm
        refine ⟨_, rfl, c87.2.2.1, c87.2.2.2, ?_⟩
        refine forS (tw_rng0 (j := y86.1)) hm (fun (g85 : (List Int) × (List (Int × Int))) σ H' => ∃ (F' : Hp) (vs85_0 : List V) (vs85_1 : List V) (o85_6 : Option V) (o85_7 : Option V) (o85_4 : Option V), σ = [some (.ref a_pot), some (.int x_many), some (.int y2.1), some (.ref ao57_3), o85_4, some (.int t83), o85_6, o85_7, none] ∧ Same F86 F' ∧ W F' H' ((a_pot, .lst vs85_0) :: (ao57_3, .lst vs85_1) :: os) ∧ A2 (rep K F') vs85_0 g85.1 ∧ A2 (rep K F') vs85_1 g85.2) ⟨_, _, _, _, _, _, rfl, Same.refl _, w86, h86, ko57_3⟩ (fun _ _ _ _ => trivial) ?_ ?_
        · -- a turn
          intro b85 g85 x85 σ85 H85 H85' N85 P85 hI hy hN85 hm
          obtain ⟨F85, vs85_0, vs85_1, o85_6, o85_7, o85_4, rfl, s85, w85, h85_0, h85_1⟩ := hI
          replace sF := sF.trans s85
          obtain ⟨rfl, rfl⟩ := hy
          refine ⟨_, rfl, _, rfl, _, _, _, _, _, _, rfl, w85, h85_0, ?_⟩
          refine (post_bind hm).mono (fun y88 hm v88 vs88 F88 H88 w88 s88 r88 h88 => ?_) (fun _ z => z)
          replace h85_1 := A2.mono s88 h85_1
          replace sF := sF.trans s88
          obtain rfl : v88 = V.int y88.1 := r88
          refine ⟨_, rfl, _, rfl, _, _, _, _, _, _, rfl, w88, h88, ?_⟩
          refine (post_bind hm).mono (fun y89 hm v89 vs89 F89 H89 w89 s89 r89 h89 => ?_) (fun _ z => z)
          replace h85_1 := A2.mono s89 h85_1
          replace sF := sF.trans s89
          obtain rfl : v89 = V.int y89.1 := r89
          refine stepN ?_
          try dsimp only
          refine stepIf ?_
          refine cutT (fun c H' => c = (((decide (y88.1 < y89.1)) && (!inB (y88.1, y89.1) g85.2))) ∧ ∃ F', Same F89 F' ∧ W F' H' ((a_pot, .lst vs89) :: (ao57_3, .lst vs85_1) :: os)) (fun Q90 q90 => ?_) (fun c90 H90 hc90 => ?_)
          · -- the ways
            refine ⟨_, rfl, _, rfl, _, _, rfl, rfl, _, rfl, ?_⟩
            refine ifB (fun k91 => ?_) (fun k91 => ?_)
            · skip
              refine ⟨_, rfl, _, rfl, (by show 2 ≤ sizeLine; decide), fun p92 n92 => ?_⟩
              obtain ⟨F92, s92, w92, q92⟩ := w89.frzE (o := .tup [(.int y88.1), (.int y89.1)]) n92
              replace h89 := A2.mono s92 h89
              replace h85_1 := A2.mono s92 h85_1
              replace sF := sF.trans s92
              exact ⟨_, rfl, ((y88.1, y89.1) : (Int × Int)), _, (Rep.mono w92.same (rep_pair q92 rep_i rep_i)), (rep_own (pre := [_]) w92 h85_1), _, rfl, q90 _ _ ⟨(by first | rfl | exact absurd k91 (by decide) | (simp [k91]; done) | ((try simp only [Bool.not_eq_true] at k91); simp only [k91, Bool.true_or, Bool.false_or, Bool.or_false, Bool.or_true, Bool.true_and, Bool.false_and, Bool.and_true, Bool.and_false])), _, s92, w92⟩⟩
            · skip
              exact q90 _ _ ⟨(by first | rfl | exact absurd k91 (by decide) | (simp [k91]; done) | ((try simp only [Bool.not_eq_true] at k91); simp only [k91, Bool.true_or, Bool.false_or, Bool.or_false, Bool.or_true, Bool.true_and, Bool.false_and, Bool.and_true, Bool.and_false])), _, Same.refl _, w89⟩
          obtain ⟨rfl, F90, s90, w90⟩ := hc90
          replace h89 := A2.mono s90 h89
          replace h85_1 := A2.mono s90 h85_1
          replace sF := sF.trans s90
          refine post_ite hm (fun k95 hm => ?_) (fun k95 hm => ?_)
          · skip
            refine ⟨_, rfl, .inl ⟨rfl, _, SqL.of (w90.get (pre := [_]))⟩, _, rfl, _, rfl, (by show 2 ≤ sizeLine; decide), fun p96 n96 => ?_⟩
            obtain ⟨F96, s96, w96, q96⟩ := w90.frzE (o := .tup [(.int y88.1), (.int y89.1)]) n96
            replace h89 := A2.mono s96 h89
            replace h85_1 := A2.mono s96 h85_1
            replace sF := sF.trans s96
            obtain ⟨l97, z97, e97, hm⟩ := pn_app hm
            refine ⟨_, _, _, rfl, rfl, (w96.get (pre := [_])), (A2.lt h85_1 z97), ?_⟩
            have h97 : A2 (rep K F96) (vs85_1 ++ [(V.ref p96)]) l97 := e97 ▸ A2.snoc h85_1 (rep_pair q96 rep_i rep_i)
            have w98 : W F96 _ ((a_pot, .lst vs89) :: (ao57_3, .lst (vs85_1 ++ [(V.ref p96)])) :: os) := w96.set (pre := [_])
            exact hN85 _ (post_ok hm) _ _ ⟨_, _, _, _, _, _, rfl, (s85.trans (s88.trans (s89.trans (s90.trans s96)))), w98, h89, h97⟩
          · skip
            exact hN85 _ (post_ok hm) _ _ ⟨_, _, _, _, _, _, rfl, (s85.trans (s88.trans (s89.trans s90))), w90, h89, h85_1⟩
        intro g85 σ85 H85 hI hm
        obtain ⟨F85, vs85_0, vs85_1, o85_6, o85_7, o85_4, rfl, s85, w85, h85_0, h85_1⟩ := hI
        replace sF := sF.trans s85
        have w99 : W F85 _ ((ao57_3, .lst vs85_1) :: (a_pot, .lst vs85_0) :: os) := w85.front (pre := [_])
        exact hN77 _ (post_ok hm) _ _ ⟨_, _, _, _, _, _, _, rfl, (s82.trans (s86.trans s85)), w99, h85_1, h85_0⟩
      · skip
        exact hN77 _ (post_ok hm) _ _ ⟨_, _, _, _, _, _, _, rfl, Same.refl _, w57, ko57_3, h57_0⟩
    intro g77 σ77 H77 hI hm
    obtain ⟨F77, vs77_0, vs77_1, o77_5, o77_4, o77_6, o77_7, rfl, s77, w77, h77_0, h77_1⟩ := hI
    replace sF := sF.trans s77
    exact ⟨_, rfl, (post_ok hm) _ _ _ _ _ w77 sF h77_0 h77_1⟩
def sp_law_order (K : Fg) : Sp := fun vs H Q E => ∃ (F : Hp) (os : List (Addr × HO)) (a_pot : Addr) (vs_pot : List V) (x_pot : (List Int)) (x_many : Int), vs = [.ref a_pot, .int x_many] ∧ W F H ((a_pot, .lst vs_pot) :: os) ∧ A2 (rep K F) vs_pot x_pot ∧ Post (law_order x_pot x_many) (RetLM K F a_pot os Q) noX
theorem sc_law_order : FnScope ["pot", "many", "left", "k"] ["pot", "many"] (defScope s_law_order) := ⟨rfl, rfl, rfl, by decide +kernel, rfl, by decide +kernel, by decide +kernel⟩
theorem ok_law_order (T : Tx K mg A FD) : FnOk P w K mg base CX0 2 (A 19) (FD 19) ["pot", "many"] (sp_law_order K) := by
  refine T.d19.fn.ok sc_law_order (fun vs H Q E h => ?_) (fun cdv Ar outer s H vs Q E hr h => ?_)
  · obtain ⟨F, os, a_pot, vs_pot, x_pot, x_many, rfl, _⟩ := h
    rfl
  · obtain ⟨F0, os, a_pot, vs_pot, x_pot, x_many, rfl, w0, h_pot, hm⟩ := h
    have sF : Same F0 F0 := Same.refl _
    refine ⟨_, (pss_cons (ps_set (i := 2) sc_law_order.nd rfl (Or.inr rfl) (pe_listRg rfl (by rfl) T.n_list (prg_1 (by rfl) T.n_range (pv 1)))) (pss_one (ps_ret (pe_lc (own := [("k", 3)]) (g := gName 3) (by rfl) sc_law_order.nd (pi_range1 (by rfl) T.n_range (pa_cons (pv 1) pa_nil)) (blkOk_by (own := [("k", 3)]) (N := ["pot", "many", "left", "k"]) (sc := defScope s_law_order) (by decide +kernel)) (fun _ _ _ _ _ => (pg_name (i := 3) sc_law_order.nd rfl (Or.inl rfl))) (fun _ _ _ _ _ => pts_nil) (fun _ _ _ _ _ => (pe_k (K := K) (t := fun K => tBM K _ _ _ _) rfl (pe_bm PySem.F.plainAttrs_list PySem.F.slot_list_pop PySem.F.type_list_pop mt_popAt (pv 2) (pa_cons (pe_call (ok_law_take T) (hr.mono (by decide)) (by rfl) T.d14.mg T.d14.fn.kp T.d14.b .nil pass0 (pa_cons (pv 0) (pa_cons (pe_callB (call_lenN (K := K) rfl) (by rfl) T.n_len (by decide +kernel) (pa_cons (pv 2) pa_nil)) pa_nil))) pa_nil)))))))), ?_⟩
    obtain ⟨l2, z2, e2, hm⟩ := pb_lrng hm
    have h2 : A2 (rep K F0) (rgV 0 x_many) l2 := by rw [e2, rgV_eq]; exact A2.of_ints
    refine ⟨_, rfl, _, rfl, z2, fun p3 n3 => ?_⟩
    have w3 : W F0 _ ((p3, .lst (rgV 0 x_many)) :: (a_pot, .lst vs_pot) :: os) := w0.new n3
    obtain ⟨c4, hm⟩ := pb_rng hm
    refine ⟨_, rfl, _, rfl, c4.2.2.1, c4.2.2.2, fun D5 nD5 => ?_⟩
    refine lcMap (K := K) (tw_rng0 (j := x_many)) hm (fun (g5 : (List Int) × (List Int)) F' os' => ∃ (vs5_0 : List V) (vs5_1 : List V), os' = (p3, .lst vs5_0) :: (a_pot, .lst vs5_1) :: os ∧ A2 (rep K F') vs5_0 g5.1 ∧ A2 (rep K F') vs5_1 g5.2) w3 ⟨_, _, rfl, h2, h_pot⟩ nD5 (fun g F' H' os' acc s w o => by obtain ⟨_, _, rfl, _, _⟩ := o; exact trivial) ?_ ?_
    · -- one turn
      intro b5 g5 x5 F5 H5 H5' os5 acc5 N5 P5 s5 w5 o5 y5 hN5 hm
      obtain ⟨vs5_0, vs5_1, rfl, h5_0, h5_1⟩ := o5
      replace sF := sF.trans s5
      obtain ⟨rfl, rfl⟩ := y5
      have w8 : W F5 _ ((a_pot, .lst vs5_1) :: (D5, .lst acc5) :: (p3, .lst vs5_0) :: os) := w5.front (pre := [_, _])
      refine ⟨rfl, _, rfl, .inl ⟨rfl, _, SqL.of (w5.get (pre := [_]))⟩, _, rfl, _, rfl, _, _, _, rfl, .inl (SqL.of (w5.get (pre := [_]))), h5_0.length, _, _, _, _, _, _, rfl, w8, h5_1, ?_⟩
      refine (post_bind hm).mono (fun y9 hm v9 vs9 F9 H9 w9 s9 r9 h9 => ?_) (fun _ z => z)
      replace h5_0 := A2.mono s9 h5_0
      replace sF := sF.trans s9
      obtain rfl : v9 = V.int y9.1 := r9
      obtain ⟨j7, x7, l7, z7, i7, y7, e7, hm⟩ := pn_popB hm
      obtain ⟨u7, f7, r7⟩ := A2.get h5_0 y7
      refine ⟨_, _, _, _, _, rfl, rfl, (w9.get (pre := [_, _])), z7.1, z7.2, (ixN_seq (A2.ix h5_0 i7)).1, f7, ?_⟩
      have h7 : A2 (rep K F9) (vs5_0.eraseIdx j7) l7 := e7 ▸ A2.eraseIdx j7 h5_0
      obtain rfl : u7 = V.int x7 := r7
      have w10 : W F9 _ ((a_pot, .lst vs9) :: (D5, .lst acc5) :: (p3, .lst (vs5_0.eraseIdx j7)) :: os) := w9.set (pre := [_, _])
      have w11 : W F9 _ ((p3, .lst (vs5_0.eraseIdx j7)) :: (a_pot, .lst vs9) :: (D5, .lst acc5) :: os) := w10.front (pre := [_, _])
      have w12 : W F9 _ ((D5, .lst acc5) :: (p3, .lst (vs5_0.eraseIdx j7)) :: (a_pot, .lst vs9) :: os) := w11.front (pre := [_, _])
      exact hN5 _ _ (post_ok hm) _ _ _ _ w12 s9 ⟨_, _, rfl, h7, h9⟩ rep_i
    intro g5 us5 F5 H5 os5 ys5 s5 w5 o5 gg5 hm
    obtain ⟨vs5_0, vs5_1, rfl, h5_0, h5_1⟩ := o5
    replace sF := sF.trans s5
    have w14 : W F5 _ ((D5, .lst us5) :: (a_pot, .lst vs5_1) :: os) := w5.drop (pre := [_])
    exact (post_ok hm) _ _ _ _ _ w14 sF gg5 h5_1
def sp_law_web (K : Fg) : Sp := fun vs H Q E => ∃ (F : Hp) (os : List (Addr × HO)) (a_pot : Addr) (vs_pot : List V) (x_pot : (List Int)) (x_most : Int), vs = [.ref a_pot, .int x_most] ∧ W F H ((a_pot, .lst vs_pot) :: os) ∧ A2 (rep K F) vs_pot x_pot ∧ Post (law_web x_pot x_most) (RetM K F a_pot os Q) noX
theorem sc_law_web : FnScope ["pot", "most", "many", "order", "found", "one", "other"] ["pot", "most"] (defScope s_law_web) := ⟨rfl, rfl, rfl, by decide +kernel, rfl, by decide +kernel, by decide +kernel⟩
theorem ok_law_web (T : Tx K mg A FD) : FnOk P w K mg base CX0 4 (A 20) (FD 20) ["pot", "most"] (sp_law_web K) := by
  refine T.d20.fn.ok sc_law_web (fun vs H Q E h => ?_) (fun cdv Ar outer s H vs Q E hr h => ?_)
  · obtain ⟨F, os, a_pot, vs_pot, x_pot, x_most, rfl, _⟩ := h
    rfl
  · obtain ⟨F0, os, a_pot, vs_pot, x_pot, x_most, rfl, w0, h_pot, hm⟩ := h
    have sF : Same F0 F0 := Same.refl _
    refine ⟨_, (pss_cons (ps_set (i := 2) sc_law_web.nd rfl (Or.inl rfl) (pe_op op_add pe_int (pe_call (ok_law_take T) (hr.mono (by decide)) (by rfl) T.d14.mg T.d14.fn.kp T.d14.b .nil pass0 (pa_cons (pv 0) (pa_cons (pv 1) pa_nil))))) (pss_cons (ps_if (pt_cmp (pc_eqI (pe_call (ok_law_take T) (hr.mono (by decide)) (by rfl) T.d14.mg T.d14.fn.kp T.d14.b .nil pass0 (pa_cons (pv 0) (pa_cons pe_int pa_nil))) pe_int)) (pss_one (ps_set (i := 2) sc_law_web.nd rfl (Or.inl rfl) (pe_op op_add pe_int (pe_call (ok_law_take T) (hr.mono (by decide)) (by rfl) T.d14.mg T.d14.fn.kp T.d14.b .nil pass0 (pa_cons (pv 0) (pa_cons pe_int pa_nil)))))) pss_nil) (pss_cons (ps_set (i := 3) sc_law_web.nd rfl (Or.inl rfl) (pe_call (ok_law_order T) (hr.mono (by decide)) (by rfl) T.d19.mg T.d19.fn.kp T.d19.b .nil pass0 (pa_cons (pv 0) (pa_cons (pv 2) pa_nil)))) (pss_cons (ps_set (i := 4) sc_law_web.nd rfl (Or.inl rfl) (pe_lst pa_nil)) (pss_cons (ps_for PassesOwn.never rfl (pi_listK (K := K) rfl (pe_call (ok_law_ties T) (hr.mono (by decide)) (by rfl) T.d17.mg T.d17.fn.kp T.d17.b .nil pass0 (pa_cons (pv 0) (pa_cons (pv 2) pa_nil)))) (pg_k (K := K) (t := fun K => gTup K 2 _) rfl (pg_tup (n := 2) rfl (pgs_cons (pg_name (i := 5) sc_law_web.nd rfl (Or.inl rfl)) (pgs_cons (pg_name (i := 6) sc_law_web.nd rfl (Or.inl rfl)) pgs_nil)))) (pss_one (ps_expr (pe_bm PySem.F.plainAttrs_list PySem.F.slot_list_append PySem.F.type_list_append mt_append (pv 4) (pa_cons (pe_tup (pa_cons (pe_callB (call_min2 rfl) (by rfl) T.n_min (by decide +kernel) (pa_cons (pe_ix (ix_listK (K := K) rfl) (pv 3) (pv 5) (fun _ _ => rfl)) (pa_cons (pe_ix (ix_listK (K := K) rfl) (pv 3) (pv 6) (fun _ _ => rfl)) pa_nil))) (pa_cons (pe_callB (call_max2 rfl) (by rfl) T.n_max (by decide +kernel) (pa_cons (pe_ix (ix_listK (K := K) rfl) (pv 3) (pv 5) (fun _ _ => rfl)) (pa_cons (pe_ix (ix_listK (K := K) rfl) (pv 3) (pv 6) (fun _ _ => rfl)) pa_nil))) pa_nil))) pa_nil))))) (pss_one (ps_ret (pe_tup (pa_cons (pv 2) (pa_cons (pe_callTy (call_tuple_ofK (K := K) rfl) (by rfl) T.n_tuple (by decide +kernel) (pa_cons (pe_callB (cr_sortP (K := K) rfl) (by rfl) T.n_sorted (by decide +kernel) (pa_cons (pv 4) pa_nil)) pa_nil)) pa_nil)))))))))), ?_⟩
    refine ⟨_, rfl, _, rfl, _, _, _, _, _, _, rfl, w0, h_pot, ?_⟩
    refine (post_bind hm).mono (fun y2 hm v2 vs2 F2 H2 w2 s2 r2 h2 => ?_) (fun _ z => z)
    replace sF := sF.trans s2
    obtain rfl : v2 = V.int y2.1 := r2
    refine ⟨_, _, rfl, rfl, ?_⟩
    refine stepN ?_
    try dsimp only
    refine joinS hm (fun (g3 : Int × (List Int)) σ H' => ∃ (F' : Hp) (vs3_0 : List V), σ = [some (.ref a_pot), some (.int x_most), some (.int g3.1), none, none, none, none] ∧ Same F2 F' ∧ W F' H' ((a_pot, .lst vs3_0) :: os) ∧ A2 (rep K F') vs3_0 g3.2) ?_ ?_
    · intro N3 P3 hN3 hm
      refine ⟨_, rfl, _, _, _, _, _, _, rfl, w2, h2, ?_⟩
      refine (post_bind hm).mono (fun y4 hm v4 vs4 F4 H4 w4 s4 r4 h4 => ?_) (fun _ z => z)
      replace sF := sF.trans s4
      obtain rfl : v4 = V.int y4.1 := r4
      refine ⟨_, _, rfl, rfl, _, rfl, ?_⟩
      refine post_ite hm (fun k5 hm => ?_) (fun k5 hm => ?_)
      · skip
        refine ⟨_, rfl, _, _, _, _, _, _, rfl, w4, h4, ?_⟩
        refine (post_bind hm).mono (fun y6 hm v6 vs6 F6 H6 w6 s6 r6 h6 => ?_) (fun _ z => z)
        replace sF := sF.trans s6
        obtain rfl : v6 = V.int y6.1 := r6
        exact ⟨_, _, rfl, rfl, hN3 _ (post_ok hm) _ _ ⟨_, _, rfl, (s4.trans s6), w6, h6⟩⟩
      · skip
        exact hN3 _ (post_ok hm) _ _ ⟨_, _, rfl, s4, w4, h4⟩
    intro g3 σ3 H3 hI hm
    obtain ⟨F3, vs3_0, rfl, s3, w3, h3_0⟩ := hI
    replace sF := sF.trans s3
    refine ⟨_, rfl, _, rfl, _, _, _, _, _, _, rfl, w3, h3_0, ?_⟩
    refine (post_bind hm).mono (fun y7 hm p7 us7 vs7 F7 H7 w7 s7 g7 h7 => ?_) (fun _ z => z)
    replace sF := sF.trans s7
    obtain ⟨F9, s9, w9, q9⟩ : ∃ F', Same F7 F' ∧ W F' _ ((a_pot, .lst vs7) :: os) ∧ F' p7 = some (.lst us7) := w7.freezeE (pre := [])
    replace h7 := A2.mono s9 h7
    replace g7 := A2.mono s9 g7
    replace sF := sF.trans s9
    have h10 : A2 (rep K F9) [] ([] : (List (Int × Int))) := .nil
    refine ⟨(by show 0 ≤ sizeLine; decide), fun p11 n11 => ?_⟩
    have w11 : W F9 _ ((p11, .lst []) :: (a_pot, .lst vs7) :: os) := w9.new n11
    have w13 : W F9 _ ((a_pot, .lst vs7) :: (p11, .lst []) :: os) := w11.front (pre := [_])
    refine ⟨_, rfl, _, rfl, _, _, _, _, _, _, rfl, w13, h7, ?_⟩
    refine (post_bind hm).mono (fun y14 hm p14 us14 vs14 F14 H14 w14 s14 g14 h14 => ?_) (fun _ z => z)
    replace g7 := A2.mono s14 g7
    replace q9 := s14 _ _ q9
    replace h10 := A2.mono s14 h10
    replace sF := sF.trans s14
    obtain ⟨F16, s16, w16, q16⟩ : ∃ F', Same F14 F' ∧ W F' _ ((a_pot, .lst vs14) :: (p11, .lst []) :: os) ∧ F' p14 = some (.lst us14) := w14.freezeE (pre := [])
    replace g7 := A2.mono s16 g7
    replace q9 := s16 _ _ q9
    replace h10 := A2.mono s16 h10
    replace h14 := A2.mono s16 h14
    replace g14 := A2.mono s16 g14
    replace sF := sF.trans s16
    refine ⟨_, rfl, ⟨_, SqL.of (w16.same _ _ q16)⟩, ?_⟩
    refine forS (tw_list (a := p14) g14) hm (fun (g12 : (List (Int × Int))) σ H' => ∃ (F' : Hp) (vs12_0 : List V) (o12_5 : Option V) (o12_6 : Option V), σ = [some (.ref a_pot), some (.int x_most), some (.int g3.1), some (.ref p7), some (.ref p11), o12_5, o12_6] ∧ Same F16 F' ∧ W F' H' ((a_pot, .lst vs14) :: (p11, .lst vs12_0) :: os) ∧ A2 (rep K F') vs12_0 g12) ⟨_, _, _, _, rfl, Same.refl _, w16, h10⟩ (fun g σ H' hI => by obtain ⟨F', _, _, _, _, s, w, _⟩ := hI; exact SqL.of (w.same _ _ (s _ _ q16))) ?_ ?_
    · -- a turn
      intro b12 g12 x12 σ12 H12 H12' N12 P12 hI hy hN12 hm
      obtain ⟨F12, vs12_0, o12_5, o12_6, rfl, s12, w12, h12_0⟩ := hI
      replace g7 := A2.mono s12 g7
      replace q9 := s12 _ _ q9
      replace h14 := A2.mono s12 h14
      replace g14 := A2.mono s12 g14
      replace q16 := s12 _ _ q16
      replace sF := sF.trans s12
      obtain ⟨rfl, r17⟩ := hy
      replace r17 := Rep.mono s12 r17
      obtain ⟨a18, u18, z18, rfl, q18, r18a, r18b⟩ := r17
      obtain rfl : u18 = V.int b12.1 := r18a
      obtain rfl : z18 = V.int b12.2 := r18b
      obtain ⟨t19, e19, hm⟩ := pb_get hm
      obtain ⟨u19, f19, r19⟩ := A2.at g7 e19
      obtain rfl : u19 = V.int t19 := r19
      obtain ⟨t20, e20, hm⟩ := pb_get hm
      obtain ⟨u20, f20, r20⟩ := A2.at g7 e20
      obtain rfl : u20 = V.int t20 := r20
      obtain ⟨t21, e21, hm⟩ := pb_get hm
      obtain ⟨u21, f21, r21⟩ := A2.at g7 e21
      obtain rfl : u21 = V.int t21 := r21
      obtain ⟨t22, e22, hm⟩ := pb_get hm
      obtain ⟨u22, f22, r22⟩ := A2.at g7 e22
      obtain rfl : u22 = V.int t22 := r22
      refine ⟨_, _, rfl, SqT.of (w12.same _ _ q18), rfl, _, _, rfl, _, _, rfl, rfl, _, rfl, .inl ⟨rfl, _, SqL.of (w12.get (pre := [_]))⟩, _, rfl, _, rfl, _, _, _, _, rfl, rfl, SqL.of (w12.same _ _ q9), f19, _, rfl, _, rfl, _, _, _, _, rfl, rfl, SqL.of (w12.same _ _ q9), f20, _, _, rfl, _, rfl, _, rfl, _, _, _, _, rfl, rfl, SqL.of (w12.same _ _ q9), f21, _, rfl, _, rfl, _, _, _, _, rfl, rfl, SqL.of (w12.same _ _ q9), f22, _, _, rfl, (by show 2 ≤ sizeLine; decide), fun p23 n23 => ?_⟩
      obtain ⟨F23, s23, w23, q23⟩ := w12.frzE (o := .tup [(.int (min2 t19 t20)), (.int (max2 t21 t22))]) n23
      replace g7 := A2.mono s23 g7
      replace q9 := s23 _ _ q9
      replace h14 := A2.mono s23 h14
      replace h12_0 := A2.mono s23 h12_0
      replace sF := sF.trans s23
      obtain ⟨l24, z24, e24, hm⟩ := pn_app hm
      refine ⟨_, _, _, rfl, rfl, (w23.get (pre := [_])), (A2.lt h12_0 z24), ?_⟩
      have h24 : A2 (rep K F23) (vs12_0 ++ [(V.ref p23)]) l24 := e24 ▸ A2.snoc h12_0 (rep_pair q23 rep_i rep_i)
      have w25 : W F23 _ ((a_pot, .lst vs14) :: (p11, .lst (vs12_0 ++ [(V.ref p23)])) :: os) := w23.set (pre := [_])
      exact hN12 _ (post_ok hm) _ _ ⟨_, _, _, _, rfl, (s12.trans s23), w25, h24⟩
    intro g12 σ12 H12 hI hm
    obtain ⟨F12, vs12_0, o12_5, o12_6, rfl, s12, w12, h12_0⟩ := hI
    replace g7 := A2.mono s12 g7
    replace q9 := s12 _ _ q9
    replace h14 := A2.mono s12 h14
    replace g14 := A2.mono s12 g14
    replace q16 := s12 _ _ q16
    replace sF := sF.trans s12
    refine ⟨_, rfl, _, rfl, _, _, F12, g12, rfl, SqL.of (w12.get (pre := [_])), w12.same, h12_0, fun p26 us26 n26 h26 => ?_⟩
    have w26 : W F12 _ ((p26, .lst us26) :: (a_pot, .lst vs14) :: (p11, .lst vs12_0) :: os) := w12.new n26
    have h28 : A2 (rep K F12) us26 (sortP g12) := h26
    refine ⟨_, _, rfl, .inl ⟨SqL.of (w26.get (pre := [])), fun p29 n29 => ?_⟩⟩
    obtain ⟨F29, s29, w29, q29⟩ := w26.frzE (o := .tup us26) n29
    replace g7 := A2.mono s29 g7
    replace q9 := s29 _ _ q9
    replace h14 := A2.mono s29 h14
    replace h12_0 := A2.mono s29 h12_0
    replace h26 := A2.mono s29 h26
    replace h28 := A2.mono s29 h28
    replace sF := sF.trans s29
    refine ⟨(by show 2 ≤ sizeLine; decide), fun p30 n30 => ?_⟩
    obtain ⟨F30, s30, w30, q30⟩ := w29.frzE (o := .tup [(.int g3.1), (.ref p29)]) n30
    replace g7 := A2.mono s30 g7
    replace q9 := s30 _ _ q9
    replace h14 := A2.mono s30 h14
    replace h12_0 := A2.mono s30 h12_0
    replace h26 := A2.mono s30 h26
    replace h28 := A2.mono s30 h28
    replace q29 := s30 _ _ q29
    replace sF := sF.trans s30
    have w31 : W F30 _ ((a_pot, .lst vs14) :: (p11, .lst vs12_0) :: os) := w30.drop (pre := [])
    have w32 : W F30 _ ((a_pot, .lst vs14) :: os) := w31.drop (pre := [_])
    exact (post_ok hm) _ _ _ _ w32 sF (rep_pair q30 rep_i (rep_tup q29 h28)) h14
def sp_law_fars (K : Fg) : Sp := fun vs H Q E => ∃ (F : Hp) (os : List (Addr × HO)) (v_web : V) (x_web : (Int × (Tup (Int × Int)))) (x_place : Int), vs = [v_web, .int x_place] ∧ W F H (os) ∧ rep K F v_web x_web ∧ Post (law_fars x_web x_place) (RetL K F os Q) noX
theorem sc_law_fars : FnScope ["web", "place", "found", "turn", "met", "one", "other", "here"] ["web", "place"] (defScope s_law_fars) := ⟨rfl, rfl, rfl, by decide +kernel, rfl, by decide +kernel, by decide +kernel⟩
theorem ok_law_fars (T : Tx K mg A FD) : FnOk P w K mg base CX0 1 (A 21) (FD 21) ["web", "place"] (sp_law_fars K) := by
  refine T.d21.fn.ok sc_law_fars (fun vs H Q E h => ?_) (fun cdv Ar outer s H vs Q E hr h => ?_)
  · obtain ⟨F, os, v_web, x_web, x_place, rfl, _⟩ := h
    rfl
  · obtain ⟨F0, os, v_web, x_web, x_place, rfl, w0, r_web, hm⟩ := h
    have sF : Same F0 F0 := Same.refl _
    obtain ⟨a1, u1, z1, rfl, q1, r1a, r1b⟩ := r_web
    obtain rfl : u1 = V.int x_web.1 := r1a
    obtain ⟨a2, vs2, rfl, q2, h2⟩ := r1b
    refine ⟨_, (pss_cons (ps_set (i := 2) sc_law_fars.nd rfl (Or.inr rfl) (pe_disp (pps_cons (pv 1) pe_int pps_nil) rfl rfl (by simp) (by simp))) (pss_cons (ps_for PassesOwn.never rfl (pi_range2 (by rfl) T.n_range (pa_cons pe_int (pa_cons (pe_ix (ix_tupK (K := K) rfl) (pv 0) pe_int (fun _ _ => rfl)) pa_nil))) (pg_name (i := 3) sc_law_fars.nd rfl (Or.inl rfl)) (pss_cons (ps_set (i := 4) sc_law_fars.nd rfl (Or.inl rfl) (pe_lst pa_nil)) (pss_cons (ps_for PassesOwn.never rfl (pi_tupK (K := K) rfl (pe_slice (sl_tupU (K := K) rfl) (pe_ix (ix_tupK (K := K) rfl) (pv 0) pe_int (fun _ _ => rfl)) po_none (po_some (pe_op op_mul (pe_callB (call_lenN (K := K) rfl) (by rfl) T.n_len (by decide +kernel) (pa_cons (pe_ix (ix_tupK (K := K) rfl) (pv 0) pe_int (fun _ _ => rfl)) pa_nil)) (pe_callTy call_intB (by rfl) T.n_int (by decide +kernel) (pa_cons (pe_cmp (pc_lt (pe_callB call_lenDR (by rfl) T.n_len (by decide +kernel) (pa_cons (pv 2) pa_nil)) (pe_ix (ix_tupK (K := K) rfl) (pv 0) pe_int (fun _ _ => rfl)))) pa_nil)))))) (pg_k (K := K) (t := fun K => gTup K 2 _) rfl (pg_tup (n := 2) rfl (pgs_cons (pg_name (i := 5) sc_law_fars.nd rfl (Or.inl rfl)) (pgs_cons (pg_name (i := 6) sc_law_fars.nd rfl (Or.inl rfl)) pgs_nil)))) (pss_cons (ps_if (PW.pt (pw_and (pt_cmp (pc_dinH (Room.units1 hr) (pv 5) (pv 2))) (pw_and (pt_cmp (pc_eqI (pe_dget (Room.units1 hr) (pv 2) (pv 5) (fun _ _ => rfl)) (pe_op op_sub (pv 3) pe_int))) (pw_and1 (pt_cmp (pc_dnotinH (Room.units1 hr) (pv 6) (pv 2))))))) (pss_one (ps_expr (pe_bm PySem.F.plainAttrs_list PySem.F.slot_list_append PySem.F.type_list_append mt_append (pv 4) (pa_cons (pv 6) pa_nil)))) pss_nil) (pss_one (ps_if (PW.pt (pw_and (pt_cmp (pc_dinH (Room.units1 hr) (pv 6) (pv 2))) (pw_and (pt_cmp (pc_eqI (pe_dget (Room.units1 hr) (pv 2) (pv 6) (fun _ _ => rfl)) (pe_op op_sub (pv 3) pe_int))) (pw_and1 (pt_cmp (pc_dnotinH (Room.units1 hr) (pv 5) (pv 2))))))) (pss_one (ps_expr (pe_bm PySem.F.plainAttrs_list PySem.F.slot_list_append PySem.F.type_list_append mt_append (pv 4) (pa_cons (pv 5) pa_nil)))) pss_nil)))) (pss_one (ps_for PassesOwn.never rfl (pi_listK (K := K) rfl (pv 4)) (pg_name (i := 7) sc_law_fars.nd rfl (Or.inl rfl)) (pss_one (ps_dput (Room.units1 hr) (pv 2) (pv 7) (pv 3) (by rfl)))))))) (pss_one (ps_ret (pe_lc (own := [("here", 7)]) (g := gName 7) (by rfl) sc_law_fars.nd (pi_range1 (by rfl) T.n_range (pa_cons (pe_ix (ix_tupK (K := K) rfl) (pv 0) pe_int (fun _ _ => rfl)) pa_nil)) (blkOk_by (own := [("here", 7)]) (N := ["web", "place", "found", "turn", "met", "one", "other", "here"]) (sc := defScope s_law_fars) (by decide +kernel)) (fun _ _ _ _ _ => (pg_name (i := 7) sc_law_fars.nd rfl (Or.inl rfl))) (fun _ _ _ _ _ => pts_nil) (fun _ _ _ _ _ => (pe_dget2R (Room.units1 hr) (pv 2) (pv 7) (pe_un un_neg pe_int) ⟨rfl, rfl, rfl, rfl⟩))))))), ?_⟩
    refine fun p3 n3 => ?_
    have w3 : W F0 _ ((p3, .dK []) :: os) := w0.new n3
    refine ⟨_, rfl, (w3.get (pre := [])), encM kI V.int ([(x_place, (0 : Int))] : List (Int × Int)), rfl, (by show 1 ≤ 15; decide), ?_⟩
    have w4 : W F0 _ ((p3, .dK (mergeK [] (encM kI V.int ([(x_place, (0 : Int))] : List (Int × Int))))) :: os) := w3.set (pre := [])
    have h3 : (mergeK [] (encM kI V.int ([(x_place, (0 : Int))] : List (Int × Int)))) = encM kI V.int (mmk ([(x_place, (0 : Int))] : List (Int × Int))) := merge_enc _ []
    obtain ⟨c6, hm⟩ := pb_rng hm
    refine ⟨_, rfl, _, _, _, _, rfl, rfl, SqT.of (w4.same _ _ q1), rfl, _, _, rfl, c6, ?_⟩
    refine forS (tw_rng (i := (1 : Int)) (j := x_web.1)) hm (fun (g5 : (List (Int × Int))) σ H' => ∃ (F' : Hp) (vs5_0 : List (Key × V)) (o5_4 : Option V) (o5_5 : Option V) (o5_6 : Option V) (o5_7 : Option V) (o5_3 : Option V), σ = [some (.ref a1), some (.int x_place), some (.ref p3), o5_3, o5_4, o5_5, o5_6, o5_7] ∧ Same F0 F' ∧ W F' H' ((p3, .dK vs5_0) :: os) ∧ vs5_0 = encM kI V.int g5) ⟨_, _, _, _, _, _, _, rfl, Same.refl _, w4, h3⟩ (fun _ _ _ _ => trivial) ?_ ?_
    · -- a turn
      intro b5 g5 x5 σ5 H5 H5' N5 P5 hI hy hN5 hm
      obtain ⟨F5, vs5_0, o5_4, o5_5, o5_6, o5_7, o5_3, rfl, s5, w5, h5_0⟩ := hI
      replace q1 := s5 _ _ q1
      replace h2 := A2.mono s5 h2
      replace q2 := s5 _ _ q2
      replace sF := sF.trans s5
      obtain ⟨rfl, rfl⟩ := hy
      have h7 : A2 (rep K F5) [] ([] : (List Int)) := .nil
      refine ⟨(by show 0 ≤ sizeLine; decide), fun p8 n8 => ?_⟩
      have w8 : W F5 _ ((p8, .lst []) :: (p3, .dK vs5_0) :: os) := w5.new n8
      obtain ⟨c10, hm⟩ := pb_mul hm
      refine ⟨_, rfl, _, _, _, _, rfl, rfl, SqT.of (w8.same _ _ q1), rfl, _, rfl, _, _, _, _, rfl, rfl, SqT.of (w8.same _ _ q1), rfl, _, _, _, rfl, .inr (SqT.of (w8.same _ _ q2)), h2.length, _, rfl, _, _, _, rfl, ((w8.get (pre := [_])).trans (congrArg (fun z => some (HO.dK z)) h5_0)), enc_length _, _, rfl, _, _, _, _, rfl, rfl, SqT.of (w8.same _ _ q1), rfl, _, _, rfl, rfl, _, rfl, _, _, rfl, rfl, c10, _, rfl, _, _, _, _, rfl, w8, q2, fun p11 F11 H11 s11 w11 q11 => ?_⟩
      have h11 : A2 (rep K F5) (cutV vs2 none (some ((x_web.2.l.length : Int) * (b2i (decide ((g5.length : Int) < x_web.1)))))) (cutL x_web.2.l none (some ((x_web.2.l.length : Int) * (b2i (decide ((g5.length : Int) < x_web.1)))))) := sl_cut h2 _ _
      replace q1 := s11 _ _ q1
      replace h2 := A2.mono s11 h2
      replace q2 := s11 _ _ q2
      replace h7 := A2.mono s11 h7
      replace h11 := A2.mono s11 h11
      replace sF := sF.trans s11
      refine ⟨_, rfl, ⟨_, SqT.of (w11.same _ _ q11)⟩, ?_⟩
      refine forS (tw_tup (a := p11) h11) hm (fun (g9 : (List Int)) σ H' => ∃ (F' : Hp) (vs9_0 : List V) (o9_5 : Option V) (o9_6 : Option V), σ = [some (.ref a1), some (.int x_place), some (.ref p3), some (.int b5), some (.ref p8), o9_5, o9_6, o5_7] ∧ Same F11 F' ∧ W F' H' ((p8, .lst vs9_0) :: (p3, .dK vs5_0) :: os) ∧ A2 (rep K F') vs9_0 g9) ⟨_, _, _, _, rfl, Same.refl _, w11, h7⟩ (fun g σ H' hI => by obtain ⟨F', _, _, _, _, s, w, _⟩ := hI; exact SqT.of (w.same _ _ (s _ _ q11))) ?_ ?_
      · -- a turn
        intro b9 g9 x9 σ9 H9 H9' N9 P9 hI hy hN9 hm
        obtain ⟨F9, vs9_0, o9_5, o9_6, rfl, s9, w9, h9_0⟩ := hI
        replace q1 := s9 _ _ q1
        replace h2 := A2.mono s9 h2
        replace q2 := s9 _ _ q2
        replace h11 := A2.mono s9 h11
        replace q11 := s9 _ _ q11
        replace sF := sF.trans s9
        obtain ⟨rfl, r12⟩ := hy
        replace r12 := Rep.mono s9 r12
        obtain ⟨a13, u13, z13, rfl, q13, r13a, r13b⟩ := r12
        obtain rfl : u13 = V.int b9.1 := r13a
        obtain rfl : z13 = V.int b9.2 := r13b
        refine ⟨_, _, rfl, SqT.of (w9.same _ _ q13), rfl, _, _, rfl, _, _, rfl, rfl, ?_⟩
        try dsimp only
        refine joinS hm (fun (g14 : (List Int)) σ H' => ∃ (F' : Hp) (vs14_0 : List V), σ = [some (.ref a1), some (.int x_place), some (.ref p3), some (.int b5), some (.ref p8), some (.int b9.1), some (.int b9.2), o5_7] ∧ Same F9 F' ∧ W F' H' ((p8, .lst vs14_0) :: (p3, .dK vs5_0) :: os) ∧ A2 (rep K F') vs14_0 g14) ?_ ?_
        · intro N14 P14 hN14 hm
          refine stepIf ?_
          refine joinT hm (fun (j15 : Bool) c H' => c = j15 ∧ ∃ (F' : Hp), Same F9 F' ∧ W F' H' ((p8, .lst vs9_0) :: (p3, .dK vs5_0) :: os)) ?_ ?_
          · intro Q15 P15 q15 hm
            refine ⟨_, rfl, _, rfl, _, _, _, rfl, dget_k (ev := V.int) (m := g5) (k := b9.1) ((w9.get (pre := [_])).trans (congrArg (fun z => some (HO.dK z)) h5_0)), get_has _ _ _, _, rfl, ?_⟩
            refine post_ite hm (fun k16 hm => ?_) (fun k16 hm => ?_)
            · skip
              obtain ⟨t17, e17, hm⟩ := pb_mget hm
              refine ⟨_, rfl, _, rfl, _, _, rfl, dgets_k (ev := V.int) ((w9.get (pre := [_])).trans (congrArg (fun z => some (HO.dK z)) h5_0)) e17, _, rfl, _, _, rfl, rfl, _, _, rfl, rfl, _, rfl, ?_⟩
              refine post_ite hm (fun k18 hm => ?_) (fun k18 hm => ?_)
              · skip
                exact ⟨_, rfl, _, rfl, _, _, _, rfl, dget_k (ev := V.int) (m := g5) (k := b9.2) ((w9.get (pre := [_])).trans (congrArg (fun z => some (HO.dK z)) h5_0)), get_has _ _ _, _, rfl, q15 _ (post_ok hm) _ _ ⟨rfl, _, Same.refl _, w9⟩⟩
              · skip
                exact q15 _ (post_ok hm) _ _ ⟨rfl, _, Same.refl _, w9⟩
            · skip
              exact q15 _ (post_ok hm) _ _ ⟨rfl, _, Same.refl _, w9⟩
          intro j15 c15 H15 hc15 hm
          obtain ⟨rfl, F15, s15, w15⟩ := hc15
          replace q1 := s15 _ _ q1
          replace h2 := A2.mono s15 h2
          replace q2 := s15 _ _ q2
          replace h9_0 := A2.mono s15 h9_0
          replace sF := sF.trans s15
          refine post_ite hm (fun k22 hm => ?_) (fun k22 hm => ?_)
          · skip
            obtain ⟨l23, z23, e23, hm⟩ := pn_app hm
            refine ⟨_, rfl, .inl ⟨rfl, _, SqL.of (w15.get (pre := []))⟩, _, rfl, _, _, _, rfl, rfl, (w15.get (pre := [])), (A2.lt h9_0 z23), ?_⟩
            have h23 : A2 (rep K F15) (vs9_0 ++ [(V.int b9.2)]) l23 := e23 ▸ A2.snoc h9_0 rep_i
            have w24 : W F15 _ ((p8, .lst (vs9_0 ++ [(V.int b9.2)])) :: (p3, .dK vs5_0) :: os) := w15.set (pre := [])
            exact hN14 _ (post_ok hm) _ _ ⟨_, _, rfl, s15, w24, h23⟩
          · skip
            exact hN14 _ (post_ok hm) _ _ ⟨_, _, rfl, s15, w15, h9_0⟩
        intro g14 σ14 H14 hI hm
        obtain ⟨F14, vs14_0, rfl, s14, w14, h14_0⟩ := hI
        replace q1 := s14 _ _ q1
        replace h2 := A2.mono s14 h2
        replace q2 := s14 _ _ q2
        replace sF := sF.trans s14
        try dsimp only
        refine stepIf ?_
        refine joinT hm (fun (j25 : Bool) c H' => c = j25 ∧ ∃ (F' : Hp), Same F14 F' ∧ W F' H' ((p8, .lst vs14_0) :: (p3, .dK vs5_0) :: os)) ?_ ?_
        · intro Q25 P25 q25 hm
          refine ⟨_, rfl, _, rfl, _, _, _, rfl, dget_k (ev := V.int) (m := g5) (k := b9.2) ((w14.get (pre := [_])).trans (congrArg (fun z => some (HO.dK z)) h5_0)), get_has _ _ _, _, rfl, ?_⟩
          refine post_ite hm (fun k26 hm => ?_) (fun k26 hm => ?_)
          · skip
            obtain ⟨t27, e27, hm⟩ := pb_mget hm
            refine ⟨_, rfl, _, rfl, _, _, rfl, dgets_k (ev := V.int) ((w14.get (pre := [_])).trans (congrArg (fun z => some (HO.dK z)) h5_0)) e27, _, rfl, _, _, rfl, rfl, _, _, rfl, rfl, _, rfl, ?_⟩
            refine post_ite hm (fun k28 hm => ?_) (fun k28 hm => ?_)
            · skip
              exact ⟨_, rfl, _, rfl, _, _, _, rfl, dget_k (ev := V.int) (m := g5) (k := b9.1) ((w14.get (pre := [_])).trans (congrArg (fun z => some (HO.dK z)) h5_0)), get_has _ _ _, _, rfl, q25 _ (post_ok hm) _ _ ⟨rfl, _, Same.refl _, w14⟩⟩
            · skip
              exact q25 _ (post_ok hm) _ _ ⟨rfl, _, Same.refl _, w14⟩
          · skip
            exact q25 _ (post_ok hm) _ _ ⟨rfl, _, Same.refl _, w14⟩
        intro j25 c25 H25 hc25 hm
        obtain ⟨rfl, F25, s25, w25⟩ := hc25
        replace q1 := s25 _ _ q1
        replace h2 := A2.mono s25 h2
        replace q2 := s25 _ _ q2
        replace h14_0 := A2.mono s25 h14_0
        replace sF := sF.trans s25
        refine post_ite hm (fun k32 hm => ?_) (fun k32 hm => ?_)
        · skip
          obtain ⟨l33, z33, e33, hm⟩ := pn_app hm
          refine ⟨_, rfl, .inl ⟨rfl, _, SqL.of (w25.get (pre := []))⟩, _, rfl, _, _, _, rfl, rfl, (w25.get (pre := [])), (A2.lt h14_0 z33), ?_⟩
          have h33 : A2 (rep K F25) (vs14_0 ++ [(V.int b9.1)]) l33 := e33 ▸ A2.snoc h14_0 rep_i
          have w34 : W F25 _ ((p8, .lst (vs14_0 ++ [(V.int b9.1)])) :: (p3, .dK vs5_0) :: os) := w25.set (pre := [])
          exact hN9 _ (post_ok hm) _ _ ⟨_, _, _, _, rfl, (s9.trans (s14.trans s25)), w34, h33⟩
        · skip
          exact hN9 _ (post_ok hm) _ _ ⟨_, _, _, _, rfl, (s9.trans (s14.trans s25)), w25, h14_0⟩
      intro g9 σ9 H9 hI hm
      obtain ⟨F9, vs9_0, o9_5, o9_6, rfl, s9, w9, h9_0⟩ := hI
      replace q1 := s9 _ _ q1
      replace h2 := A2.mono s9 h2
      replace q2 := s9 _ _ q2
      replace h11 := A2.mono s9 h11
      replace q11 := s9 _ _ q11
      replace sF := sF.trans s9
      refine ⟨_, rfl, _, rfl, ⟨_, SqL.of (w9.get (pre := []))⟩, ?_⟩
      refine forS (tw_list (a := p8) h9_0) hm (fun (g35 : (List (Int × Int))) σ H' => ∃ (F' : Hp) (vs35_0 : List (Key × V)) (o35_7 : Option V), σ = [some (.ref a1), some (.int x_place), some (.ref p3), some (.int b5), some (.ref p8), o9_5, o9_6, o35_7] ∧ Same F9 F' ∧ W F' H' ((p8, .lst vs9_0) :: (p3, .dK vs35_0) :: os) ∧ vs35_0 = encM kI V.int g35) ⟨_, _, _, rfl, Same.refl _, w9, h5_0⟩ (fun g σ H' hI => by obtain ⟨F', _, _, _, s, w, _⟩ := hI; exact SqL.of (w.get (pre := []))) ?_ ?_
      · -- a turn
        intro b35 g35 x35 σ35 H35 H35' N35 P35 hI hy hN35 hm
        obtain ⟨F35, vs35_0, o35_7, rfl, s35, w35, h35_0⟩ := hI
        replace q1 := s35 _ _ q1
        replace h2 := A2.mono s35 h2
        replace q2 := s35 _ _ q2
        replace h9_0 := A2.mono s35 h9_0
        replace sF := sF.trans s35
        obtain ⟨rfl, r36⟩ := hy
        obtain rfl : x35 = V.int b35 := r36
        obtain ⟨l37, z37, e37, hm⟩ := pn_mput hm
        refine ⟨_, rfl, _, rfl, _, rfl, _, _, rfl, dput_k (ev := V.int) (m := g35) (k := b35) (v := b5) ((w35.get (pre := [_])).trans (congrArg (fun z => some (HO.dK z)) h35_0)) z37, ?_⟩
        have h37 : (encM kI V.int (mput g35 b35 b5)) = encM kI V.int l37 := by rw [e37]
        have w38 : W F35 _ ((p8, .lst vs9_0) :: (p3, .dK (encM kI V.int (mput g35 b35 b5))) :: os) := w35.set (pre := [_])
        exact hN35 _ (post_ok hm) _ _ ⟨_, _, _, rfl, s35, w38, h37⟩
      intro g35 σ35 H35 hI hm
      obtain ⟨F35, vs35_0, o35_7, rfl, s35, w35, h35_0⟩ := hI
      replace q1 := s35 _ _ q1
      replace h2 := A2.mono s35 h2
      replace q2 := s35 _ _ q2
      replace h9_0 := A2.mono s35 h9_0
      replace sF := sF.trans s35
      have w39 : W F35 _ ((p3, .dK vs35_0) :: os) := w35.drop (pre := [])
      exact hN5 _ (post_ok hm) _ _ ⟨_, _, _, _, _, _, _, rfl, (s5.trans (s11.trans (s9.trans s35))), w39, h35_0⟩
    intro g5 σ5 H5 hI hm
    obtain ⟨F5, vs5_0, o5_4, o5_5, o5_6, o5_7, o5_3, rfl, s5, w5, h5_0⟩ := hI
    replace q1 := s5 _ _ q1
    replace h2 := A2.mono s5 h2
    replace q2 := s5 _ _ q2
    replace sF := sF.trans s5
    obtain ⟨c40, hm⟩ := pb_rng hm
    refine ⟨_, rfl, _, _, _, _, rfl, rfl, SqT.of (w5.same _ _ q1), rfl, _, rfl, c40.2.2.1, c40.2.2.2, fun D41 nD41 => ?_⟩
    refine lcM (K := K) (tw_rng0 (j := x_web.1)) hm w5 nD41 (fun F' H' acc s w => trivial) ?_ ?_
    · -- one turn
      intro b41 x41 F41 H41 H41' acc41 N41 P41 s41 w41 y41 hN41 hm
      replace q1 := s41 _ _ q1
      replace h2 := A2.mono s41 h2
      replace q2 := s41 _ _ q2
      replace sF := sF.trans s41
      obtain ⟨rfl, rfl⟩ := y41
      exact ⟨rfl, _, rfl, _, rfl, isD_k ((w41.get (pre := [_])).trans (congrArg (fun z => some (HO.dK z)) h5_0)), _, rfl, _, rfl, _, _, dget_k (ev := V.int) (m := g5) (k := b41) ((w41.get (pre := [_])).trans (congrArg (fun z => some (HO.dK z)) h5_0)), getD_ev _ _ _, hN41 _ (post_ok hm) _ _ _ w41 (Same.refl _) rep_i⟩
    intro us41 F41 H41 ys41 s41 w41 gg41 hm
    replace q1 := s41 _ _ q1
    replace h2 := A2.mono s41 h2
    replace q2 := s41 _ _ q2
    replace sF := sF.trans s41
    have w44 : W F41 _ ((D41, .lst us41) :: os) := w41.drop (pre := [_])
    exact (post_ok hm) _ _ _ _ w44 sF gg41
def sp_law_spoilt (K : Fg) : Sp := fun vs H Q E => ∃ (F : Hp) (os : List (Addr × HO)) (a_pot : Addr) (vs_pot : List V) (x_pot : (List Int)) (x_many : Int) (v_ties : V) (x_ties : (Tup (Int × Int))), vs = [.ref a_pot, .int x_many, v_ties] ∧ W F H ((a_pot, .lst vs_pot) :: os) ∧ A2 (rep K F) vs_pot x_pot ∧ rep K F v_ties x_ties ∧ Post (law_spoilt x_pot x_many x_ties) (RetLM K F a_pot os Q) noX
theorem sc_law_spoilt : FnScope ["pot", "many", "ties", "found", "turn", "way", "at", "odd", "same", "tie"] ["pot", "many", "ties"] (defScope s_law_spoilt) := ⟨rfl, rfl, rfl, by decide +kernel, rfl, by decide +kernel, by decide +kernel⟩
set_option maxHeartbeats 40000000 in
theorem ok_law_spoilt (T : Tx K mg A FD) : FnOk P w K mg base CX0 2 (A 22) (FD 22) ["pot", "many", "ties"] (sp_law_spoilt K) := by
  refine T.d22.fn.ok sc_law_spoilt (fun vs H Q E h => ?_) (fun cdv Ar outer s H vs Q E hr h => ?_)
  · obtain ⟨F, os, a_pot, vs_pot, x_pot, x_many, v_ties, x_ties, rfl, _⟩ := h
    rfl
  · obtain ⟨F0, os, a_pot, vs_pot, x_pot, x_many, v_ties, x_ties, rfl, w0, h_pot, r_ties, hm⟩ := h
    have sF : Same F0 F0 := Same.refl _
    obtain ⟨a2, vs2, rfl, q2, h2⟩ := r_ties
    refine ⟨_, (pss_cons (ps_set (i := 3) sc_law_spoilt.nd rfl (Or.inl rfl) (pe_callTy (call_list_ofK (K := K) rfl) (by rfl) T.n_list (by decide +kernel) (pa_cons (pv 2) pa_nil))) (pss_cons (ps_for PassesOwn.never rfl (pi_range1 (by rfl) T.n_range (pa_cons (pe_call (ok_law_take T) (hr.mono (by decide)) (by rfl) T.d14.mg T.d14.fn.kp T.d14.b .nil pass0 (pa_cons (pv 0) (pa_cons pe_int pa_nil))) pa_nil)) (pg_name (i := 4) sc_law_spoilt.nd rfl (Or.inl rfl)) (pss_cons (ps_set (i := 5) sc_law_spoilt.nd rfl (Or.inl rfl) (pe_call (ok_law_take T) (hr.mono (by decide)) (by rfl) T.d14.mg T.d14.fn.kp T.d14.b .nil pass0 (pa_cons (pv 0) (pa_cons pe_int pa_nil)))) (pss_cons (ps_set (i := 6) sc_law_spoilt.nd rfl (Or.inl rfl) (pe_call (ok_law_take T) (hr.mono (by decide)) (by rfl) T.d14.mg T.d14.fn.kp T.d14.b .nil pass0 (pa_cons (pv 0) (pa_cons (pe_op op_add (pe_callB (call_lenN (K := K) rfl) (by rfl) T.n_len (by decide +kernel) (pa_cons (pv 3) pa_nil)) pe_int) pa_nil)))) (pss_cons (ps_set (i := 7) sc_law_spoilt.nd rfl (Or.inl rfl) (pe_ix (ix_listK (K := K) rfl) (pe_lst (pa_cons (pe_un un_neg pe_int) (pa_cons (pv 1) (pa_cons (pe_op op_add (pe_op op_add (pv 1) pe_int) (pe_call (ok_law_take T) (hr.mono (by decide)) (by rfl) T.d14.mg T.d14.fn.kp T.d14.b .nil pass0 (pa_cons (pv 0) (pa_cons (pe_op op_pow pe_int pe_int) pa_nil)))) (pa_cons (pe_op op_sub (pe_un un_neg pe_int) (pe_call (ok_law_take T) (hr.mono (by decide)) (by rfl) T.d14.mg T.d14.fn.kp T.d14.b .nil pass0 (pa_cons (pv 0) (pa_cons (pe_op op_pow pe_int pe_int) pa_nil)))) pa_nil))))) (pe_call (ok_law_take T) (hr.mono (by decide)) (by rfl) T.d14.mg T.d14.fn.kp T.d14.b .nil pass0 (pa_cons (pv 0) (pa_cons pe_int pa_nil))) (fun _ _ => rfl))) (pss_cons (ps_if (pt_cmp (pc_eqI (pv 5) pe_int)) (pss_one (ps_expr (pe_bm PySem.F.plainAttrs_list PySem.F.slot_list_insert PySem.F.type_list_insert mt_insert (pv 3) (pa_cons (pv 6) (pa_cons (pe_ix (ix_listK (K := K) rfl) (pe_lst (pa_cons (pe_tup (pa_cons (pv 7) (pa_cons pe_int pa_nil))) (pa_cons (pe_tup (pa_cons pe_int (pa_cons (pv 7) pa_nil))) pa_nil))) (pe_call (ok_law_take T) (hr.mono (by decide)) (by rfl) T.d14.mg T.d14.fn.kp T.d14.b .nil pass0 (pa_cons (pv 0) (pa_cons pe_int pa_nil))) (fun _ _ => rfl)) pa_nil))))) pss_nil) (pss_cons (ps_if (pt_cmp (pc_eqI (pv 5) pe_int)) (pss_cons (ps_set (i := 8) sc_law_spoilt.nd rfl (Or.inl rfl) (pe_call (ok_law_take T) (hr.mono (by decide)) (by rfl) T.d14.mg T.d14.fn.kp T.d14.b .nil pass0 (pa_cons (pv 0) (pa_cons (pv 1) pa_nil)))) (pss_one (ps_expr (pe_bm PySem.F.plainAttrs_list PySem.F.slot_list_insert PySem.F.type_list_insert mt_insert (pv 3) (pa_cons (pv 6) (pa_cons (pe_tup (pa_cons (pv 8) (pa_cons (pv 8) pa_nil))) pa_nil)))))) pss_nil) (pss_cons (ps_if (PW.pt (pw_and (pt_cmp (pc_eqI (pv 5) pe_int)) (pw_and1 (pt_cmpR (op_neDt (K := K) rfl (List (Int × Int)) (by decide) hr.units) (pv 3) (pe_lst pa_nil) (nomark _))))) (pss_cons (ps_set (i := 9) sc_law_spoilt.nd rfl (Or.inl rfl) (pe_ix (ix_listK (K := K) rfl) (pv 3) (pe_call (ok_law_take T) (hr.mono (by decide)) (by rfl) T.d14.mg T.d14.fn.kp T.d14.b .nil pass0 (pa_cons (pv 0) (pa_cons (pe_callB (call_lenN (K := K) rfl) (by rfl) T.n_len (by decide +kernel) (pa_cons (pv 3) pa_nil)) pa_nil))) (fun _ _ => rfl))) (pss_one (ps_expr (pe_bm PySem.F.plainAttrs_list PySem.F.slot_list_insert PySem.F.type_list_insert mt_insert (pv 3) (pa_cons (pv 6) (pa_cons (pe_ix (ix_listK (K := K) rfl) (pe_lst (pa_cons (pv 9) (pa_cons (pe_tup (pa_cons (pe_ix (ix_tupK (K := K) rfl) (pv 9) pe_int (fun _ _ => rfl)) (pa_cons (pe_ix (ix_tupK (K := K) rfl) (pv 9) pe_int (fun _ _ => rfl)) pa_nil))) pa_nil))) (pe_call (ok_law_take T) (hr.mono (by decide)) (by rfl) T.d14.mg T.d14.fn.kp T.d14.b .nil pass0 (pa_cons (pv 0) (pa_cons pe_int pa_nil))) (fun _ _ => rfl)) pa_nil)))))) pss_nil) (pss_one (ps_if (PW.pt (pw_and (pt_cmp (pc_gt (pv 5) pe_int)) (pw_and1 (pt_cmpR (op_neDt (K := K) rfl (List (Int × Int)) (by decide) hr.units) (pv 3) (pe_lst pa_nil) (nomark _))))) (pss_one (ps_expr (pe_bm PySem.F.plainAttrs_list PySem.F.slot_list_pop PySem.F.type_list_pop mt_popAt (pv 3) (pa_cons (pe_call (ok_law_take T) (hr.mono (by decide)) (by rfl) T.d14.mg T.d14.fn.kp T.d14.b .nil pass0 (pa_cons (pv 0) (pa_cons (pe_callB (call_lenN (K := K) rfl) (by rfl) T.n_len (by decide +kernel) (pa_cons (pv 3) pa_nil)) pa_nil))) pa_nil)))) pss_nil))))))))) (pss_one (ps_ret (pv 3))))), ?_⟩
    have h3 : A2 (rep K F0) vs2 x_ties.l := h2
    refine ⟨_, rfl, _, _, rfl, .inr (SqT.of (w0.same _ _ q2)), fun p4 n4 => ?_⟩
    have w4 : W F0 _ ((p4, .lst vs2) :: (a_pot, .lst vs_pot) :: os) := w0.new n4
    have w6 : W F0 _ ((a_pot, .lst vs_pot) :: (p4, .lst vs2) :: os) := w4.front (pre := [_])
    refine ⟨_, rfl, _, _, _, _, _, _, rfl, w6, h_pot, ?_⟩
    refine (post_bind hm).mono (fun y7 hm v7 vs7 F7 H7 w7 s7 r7 h7 => ?_) (fun _ z => z)
    replace h2 := A2.mono s7 h2
    replace q2 := s7 _ _ q2
    replace h3 := A2.mono s7 h3
    replace sF := sF.trans s7
    obtain rfl : v7 = V.int y7.1 := r7
    obtain ⟨c8, hm⟩ := pb_rng hm
    refine ⟨_, rfl, c8.2.2.1, c8.2.2.2, ?_⟩
    refine forS (tw_rng0 (j := y7.1)) hm (fun (g5 : (List Int) × (List (Int × Int))) σ H' => ∃ (F' : Hp) (vs5_0 : List V) (vs5_1 : List V) (o5_5 : Option V) (o5_6 : Option V) (o5_7 : Option V) (o5_8 : Option V) (o5_9 : Option V) (o5_4 : Option V), σ = [some (.ref a_pot), some (.int x_many), some (.ref a2), some (.ref p4), o5_4, o5_5, o5_6, o5_7, o5_8, o5_9] ∧ Same F7 F' ∧ W F' H' ((a_pot, .lst vs5_0) :: (p4, .lst vs5_1) :: os) ∧ A2 (rep K F') vs5_0 g5.1 ∧ A2 (rep K F') vs5_1 g5.2) ⟨_, _, _, _, _, _, _, _, _, rfl, Same.refl _, w7, h7, h3⟩ (fun _ _ _ _ => trivial) ?_ ?_
    · -- a turn
      intro b5 g5 x5 σ5 H5 H5' N5 P5 hI hy hN5 hm
      obtain ⟨F5, vs5_0, vs5_1, o5_5, o5_6, o5_7, o5_8, o5_9, o5_4, rfl, s5, w5, h5_0, h5_1⟩ := hI
      replace h2 := A2.mono s5 h2
      replace q2 := s5 _ _ q2
      replace sF := sF.trans s5
      obtain ⟨rfl, rfl⟩ := hy
      refine ⟨_, rfl, _, _, _, _, _, _, rfl, w5, h5_0, ?_⟩
      refine (post_bind hm).mono (fun y9 hm v9 vs9 F9 H9 w9 s9 r9 h9 => ?_) (fun _ z => z)
      replace h2 := A2.mono s9 h2
      replace q2 := s9 _ _ q2
      replace h5_1 := A2.mono s9 h5_1
      replace sF := sF.trans s9
      obtain rfl : v9 = V.int y9.1 := r9
      refine ⟨_, rfl, _, rfl, _, _, _, rfl, .inl (SqL.of (w9.get (pre := [_]))), h5_1.length, _, _, rfl, rfl, _, _, _, _, _, _, rfl, w9, h9, ?_⟩
      refine (post_bind hm).mono (fun y10 hm v10 vs10 F10 H10 w10 s10 r10 h10 => ?_) (fun _ z => z)
      replace h2 := A2.mono s10 h2
      replace q2 := s10 _ _ q2
      replace h5_1 := A2.mono s10 h5_1
      replace sF := sF.trans s10
      obtain rfl : v10 = V.int y10.1 := r10
      refine ⟨_, rfl, _, rfl, _, rfl, _, _, rfl, rfl, _, rfl, _, _, rfl, rfl, (by refine ⟨?_, ?_, ?_⟩ <;> decide), _, _, _, _, _, _, rfl, w10, h10, ?_⟩
      refine (post_bind hm).mono (fun y12 hm v12 vs12 F12 H12 w12 s12 r12 h12 => ?_) (fun _ z => z)
      replace h2 := A2.mono s12 h2
      replace q2 := s12 _ _ q2
      replace h5_1 := A2.mono s12 h5_1
      replace sF := sF.trans s12
      obtain rfl : v12 = V.int y12.1 := r12
      refine ⟨_, _, rfl, rfl, _, rfl, _, rfl, _, _, rfl, rfl, (by refine ⟨?_, ?_, ?_⟩ <;> decide), _, _, _, _, _, _, rfl, w12, h12, ?_⟩
      refine (post_bind hm).mono (fun y14 hm v14 vs14 F14 H14 w14 s14 r14 h14 => ?_) (fun _ z => z)
      replace h2 := A2.mono s14 h2
      replace q2 := s14 _ _ q2
      replace h5_1 := A2.mono s14 h5_1
      replace sF := sF.trans s14
      obtain rfl : v14 = V.int y14.1 := r14
      have h15 : A2 (rep K F14) [(.int (-(1 : Int))), (.int x_many), (.int ((x_many + (1 : Int)) + y12.1)), (.int ((-(1 : Int)) - y14.1))] ([(-(1 : Int)), x_many, ((x_many + (1 : Int)) + y12.1), ((-(1 : Int)) - y14.1)] : (List Int)) := .cons rep_i (.cons rep_i (.cons rep_i (.cons rep_i (.nil))))
      refine ⟨_, _, rfl, rfl, (by show 4 ≤ sizeLine; decide), fun p16 n16 => ?_⟩
      have w16 : W F14 _ ((p16, .lst [(.int (-(1 : Int))), (.int x_many), (.int ((x_many + (1 : Int)) + y12.1)), (.int ((-(1 : Int)) - y14.1))]) :: (a_pot, .lst vs14) :: (p4, .lst vs5_1) :: os) := w14.new n16
      have w17 : W F14 _ ((a_pot, .lst vs14) :: (p16, .lst [(.int (-(1 : Int))), (.int x_many), (.int ((x_many + (1 : Int)) + y12.1)), (.int ((-(1 : Int)) - y14.1))]) :: (p4, .lst vs5_1) :: os) := w16.front (pre := [_])
      refine ⟨_, rfl, _, _, _, _, _, _, rfl, w17, h14, ?_⟩
      refine (post_bind hm).mono (fun y18 hm v18 vs18 F18 H18 w18 s18 r18 h18 => ?_) (fun _ z => z)
      replace h2 := A2.mono s18 h2
      replace q2 := s18 _ _ q2
      replace h5_1 := A2.mono s18 h5_1
      replace h15 := A2.mono s18 h15
      replace sF := sF.trans s18
      obtain rfl : v18 = V.int y18.1 := r18
      obtain ⟨t19, e19, hm⟩ := pb_get hm
      obtain ⟨u19, f19, r19⟩ := A2.at h15 e19
      obtain rfl : u19 = V.int t19 := r19
      have w20 : W F18 _ ((a_pot, .lst vs18) :: (p4, .lst vs5_1) :: os) := w18.drop (pre := [_])
      refine ⟨_, _, _, _, rfl, rfl, SqL.of (w18.get (pre := [_])), f19, ?_⟩
      refine stepN ?_
      try dsimp only
      refine joinS hm (fun (g21 : (List Int) × (List (Int × Int))) σ H' => ∃ (F' : Hp) (vs21_0 : List V) (vs21_1 : List V), σ = [some (.ref a_pot), some (.int x_many), some (.ref a2), some (.ref p4), some (.int b5), some (.int y9.1), some (.int y10.1), some (.int t19), o5_8, o5_9] ∧ Same F18 F' ∧ W F' H' ((a_pot, .lst vs21_0) :: (p4, .lst vs21_1) :: os) ∧ A2 (rep K F') vs21_0 g21.1 ∧ A2 (rep K F') vs21_1 g21.2) ?_ ?_
      · intro N21 P21 hN21 hm
        refine ⟨_, rfl, _, _, rfl, rfl, _, rfl, ?_⟩
        refine post_ite hm (fun k22 hm => ?_) (fun k22 hm => ?_)
        · skip
          refine ⟨_, rfl, .inl ⟨rfl, _, SqL.of (w20.get (pre := [_]))⟩, _, rfl, _, rfl, (by show 2 ≤ sizeLine; decide), fun p23 n23 => ?_⟩
          obtain ⟨F23, s23, w23, q23⟩ := w20.frzE (o := .tup [(.int t19), (.int 0)]) n23
          replace h2 := A2.mono s23 h2
          replace q2 := s23 _ _ q2
          replace h18 := A2.mono s23 h18
          replace h5_1 := A2.mono s23 h5_1
          replace sF := sF.trans s23
          refine ⟨_, rfl, (by show 2 ≤ sizeLine; decide), fun p24 n24 => ?_⟩
          obtain ⟨F24, s24, w24, q24⟩ := w23.frzE (o := .tup [(.int 0), (.int t19)]) n24
          replace h2 := A2.mono s24 h2
          replace q2 := s24 _ _ q2
          replace h18 := A2.mono s24 h18
          replace h5_1 := A2.mono s24 h5_1
          replace q23 := s24 _ _ q23
          replace sF := sF.trans s24
          have h25 : A2 (rep K F24) [(.ref p23), (.ref p24)] ([(t19, (0 : Int)), ((0 : Int), t19)] : (List (Int × Int))) := .cons (rep_pair q23 rep_i rep_i) (.cons (rep_pair q24 rep_i rep_i) (.nil))
          refine ⟨(by show 2 ≤ sizeLine; decide), fun p26 n26 => ?_⟩
          have w26 : W F24 _ ((p26, .lst [(.ref p23), (.ref p24)]) :: (a_pot, .lst vs18) :: (p4, .lst vs5_1) :: os) := w24.new n26
          have w27 : W F24 _ ((a_pot, .lst vs18) :: (p26, .lst [(.ref p23), (.ref p24)]) :: (p4, .lst vs5_1) :: os) := w26.front (pre := [_])
          refine ⟨_, rfl, _, _, _, _, _, _, rfl, w27, h18, ?_⟩
          refine (post_bind hm).mono (fun y28 hm v28 vs28 F28 H28 w28 s28 r28 h28 => ?_) (fun _ z => z)
          replace h2 := A2.mono s28 h2
          replace q2 := s28 _ _ q2
          replace h5_1 := A2.mono s28 h5_1
          replace q23 := s28 _ _ q23
          replace q24 := s28 _ _ q24
          replace h25 := A2.mono s28 h25
          replace sF := sF.trans s28
          obtain rfl : v28 = V.int y28.1 := r28
          obtain ⟨t29, e29, hm⟩ := pb_get hm
          obtain ⟨u29, f29, r29⟩ := A2.at h25 e29
          obtain ⟨a30, u30, z30, rfl, q30, r30a, r30b⟩ := r29
          obtain rfl : u30 = V.int t29.1 := r30a
          obtain rfl : z30 = V.int t29.2 := r30b
          obtain ⟨l31, z31, e31, hm⟩ := pn_ins hm
          refine ⟨_, _, _, _, rfl, rfl, SqL.of (w28.get (pre := [_])), f29, _, _, _, _, rfl, rfl, (w28.get (pre := [_, _])), (line_ins h5_1 z31.1), z31.2.1, (by have := z31.2.2; omega), ?_⟩
          have h31 : A2 (rep K F28) (vs5_1.take y10.1.toNat ++ [(.ref a30)] ++ vs5_1.drop y10.1.toNat) l31 := e31 ▸ A2.ins _ h5_1 (rep_pair q30 rep_i rep_i)
          have w32 : W F28 _ ((a_pot, .lst vs28) :: (p26, .lst [(.ref p23), (.ref p24)]) :: (p4, .lst (vs5_1.take y10.1.toNat ++ [(.ref a30)] ++ vs5_1.drop y10.1.toNat)) :: os) := w28.set (pre := [_, _])
          have w33 : W F28 _ ((a_pot, .lst vs28) :: (p4, .lst (vs5_1.take y10.1.toNat ++ [(.ref a30)] ++ vs5_1.drop y10.1.toNat)) :: os) := w32.drop (pre := [_])
          exact hN21 _ (post_ok hm) _ _ ⟨_, _, _, rfl, (s23.trans (s24.trans s28)), w33, h28, h31⟩
        · skip
          exact hN21 _ (post_ok hm) _ _ ⟨_, _, _, rfl, Same.refl _, w20, h18, h5_1⟩
      intro g21 σ21 H21 hI hm
      obtain ⟨F21, vs21_0, vs21_1, rfl, s21, w21, h21_0, h21_1⟩ := hI
      replace h2 := A2.mono s21 h2
      replace q2 := s21 _ _ q2
      replace sF := sF.trans s21
      try dsimp only
      refine joinS hm (fun (g34 : (List Int) × (List (Int × Int))) σ H' => ∃ (F' : Hp) (vs34_0 : List V) (vs34_1 : List V) (o34_8 : Option V), σ = [some (.ref a_pot), some (.int x_many), some (.ref a2), some (.ref p4), some (.int b5), some (.int y9.1), some (.int y10.1), some (.int t19), o34_8, o5_9] ∧ Same F21 F' ∧ W F' H' ((a_pot, .lst vs34_0) :: (p4, .lst vs34_1) :: os) ∧ A2 (rep K F') vs34_0 g34.1 ∧ A2 (rep K F') vs34_1 g34.2) ?_ ?_
      · intro N34 P34 hN34 hm
        refine ⟨_, rfl, _, _, rfl, rfl, _, rfl, ?_⟩
        refine post_ite hm (fun k35 hm => ?_) (fun k35 hm => ?_)
        · skip
          refine ⟨_, rfl, _, rfl, _, _, _, _, _, _, rfl, w21, h21_0, ?_⟩
          refine (post_bind hm).mono (fun y36 hm v36 vs36 F36 H36 w36 s36 r36 h36 => ?_) (fun _ z => z)
          replace h2 := A2.mono s36 h2
          replace q2 := s36 _ _ q2
          replace h21_1 := A2.mono s36 h21_1
          replace sF := sF.trans s36
          obtain rfl : v36 = V.int y36.1 := r36
          refine ⟨_, rfl, .inl ⟨rfl, _, SqL.of (w36.get (pre := [_]))⟩, _, rfl, _, rfl, _, rfl, (by show 2 ≤ sizeLine; decide), fun p37 n37 => ?_⟩
          obtain ⟨F37, s37, w37, q37⟩ := w36.frzE (o := .tup [(.int y36.1), (.int y36.1)]) n37
          replace h2 := A2.mono s37 h2
          replace q2 := s37 _ _ q2
          replace h36 := A2.mono s37 h36
          replace h21_1 := A2.mono s37 h21_1
          replace sF := sF.trans s37
          obtain ⟨l38, z38, e38, hm⟩ := pn_ins hm
          refine ⟨_, _, _, _, rfl, rfl, (w37.get (pre := [_])), (line_ins h21_1 z38.1), z38.2.1, (by have := z38.2.2; omega), ?_⟩
          have h38 : A2 (rep K F37) (vs21_1.take y10.1.toNat ++ [(.ref p37)] ++ vs21_1.drop y10.1.toNat) l38 := e38 ▸ A2.ins _ h21_1 (rep_pair q37 rep_i rep_i)
          have w39 : W F37 _ ((a_pot, .lst vs36) :: (p4, .lst (vs21_1.take y10.1.toNat ++ [(.ref p37)] ++ vs21_1.drop y10.1.toNat)) :: os) := w37.set (pre := [_])
          exact hN34 _ (post_ok hm) _ _ ⟨_, _, _, _, rfl, (s36.trans s37), w39, h36, h38⟩
        · skip
          exact hN34 _ (post_ok hm) _ _ ⟨_, _, _, _, rfl, Same.refl _, w21, h21_0, h21_1⟩
      intro g34 σ34 H34 hI hm
      obtain ⟨F34, vs34_0, vs34_1, o34_8, rfl, s34, w34, h34_0, h34_1⟩ := hI
      replace h2 := A2.mono s34 h2
      replace q2 := s34 _ _ q2
      replace sF := sF.trans s34
      try dsimp only
      refine joinS hm (fun (g40 : (List Int) × (List (Int × Int))) σ H' => ∃ (F' : Hp) (vs40_0 : List V) (vs40_1 : List V) (o40_9 : Option V), σ = [some (.ref a_pot), some (.int x_many), some (.ref a2), some (.ref p4), some (.int b5), some (.int y9.1), some (.int y10.1), some (.int t19), o34_8, o40_9] ∧ Same F34 F' ∧ W F' H' ((a_pot, .lst vs40_0) :: (p4, .lst vs40_1) :: os) ∧ A2 (rep K F') vs40_0 g40.1 ∧ A2 (rep K F') vs40_1 g40.2) ?_ ?_
      · intro N40 P40 hN40 hm
        refine stepIf ?_
        refine cutT (fun c H' => c = (((decide (y9.1 = (2 : Int))) && (!decide (g34.2 = ([] : (List (Int × Int))))))) ∧ ∃ F', Same F34 F' ∧ W F' H' ((a_pot, .lst vs34_0) :: (p4, .lst vs34_1) :: os)) (fun Q41 q41 => ?_) (fun c41 H41 hc41 => ?_)
        · -- the ways
          refine ⟨_, rfl, _, _, rfl, rfl, _, rfl, ?_⟩
          refine ifB (fun k42 => ?_) (fun k42 => ?_)
          · skip
            have h43 : A2 (rep K F34) [] ([] : (List (Int × Int))) := .nil
            refine ⟨_, rfl, (by show 0 ≤ sizeLine; decide), fun p44 n44 => ?_⟩
            have w44 : W F34 _ ((p44, .lst []) :: (a_pot, .lst vs34_0) :: (p4, .lst vs34_1) :: os) := w34.new n44
            have w46 : W F34 _ ((a_pot, .lst vs34_0) :: (p4, .lst vs34_1) :: os) := w44.drop (pre := [])
            exact ⟨(g34.2 : (List (Int × Int))), (([] : (List (Int × Int))) : (List (Int × Int))), (rep_own (pre := [_, _]) w44 h34_1), (rep_own (pre := []) w44 h43), _, rfl, q41 _ _ ⟨(by first | rfl | exact absurd k42 (by decide) | (simp [k42]; done) | ((try simp only [Bool.not_eq_true] at k42); simp only [k42, Bool.true_or, Bool.false_or, Bool.or_false, Bool.or_true, Bool.true_and, Bool.false_and, Bool.and_true, Bool.and_false])), _, Same.refl _, w46⟩⟩
          · skip
            exact q41 _ _ ⟨(by first | rfl | exact absurd k42 (by decide) | (simp [k42]; done) | ((try simp only [Bool.not_eq_true] at k42); simp only [k42, Bool.true_or, Bool.false_or, Bool.or_false, Bool.or_true, Bool.true_and, Bool.false_and, Bool.and_true, Bool.and_false])), _, Same.refl _, w34⟩
        obtain ⟨rfl, F41, s41, w41⟩ := hc41
        replace h2 := A2.mono s41 h2
        replace q2 := s41 _ _ q2
        replace h34_0 := A2.mono s41 h34_0
        replace h34_1 := A2.mono s41 h34_1
        replace sF := sF.trans s41
        refine post_ite hm (fun k48 hm => ?_) (fun k48 hm => ?_)
        · skip
          refine ⟨_, rfl, _, rfl, _, rfl, _, _, _, rfl, .inl (SqL.of (w41.get (pre := [_]))), h34_1.length, _, _, _, _, _, _, rfl, w41, h34_0, ?_⟩
          refine (post_bind hm).mono (fun y49 hm v49 vs49 F49 H49 w49 s49 r49 h49 => ?_) (fun _ z => z)
          replace h2 := A2.mono s49 h2
          replace q2 := s49 _ _ q2
          replace h34_1 := A2.mono s49 h34_1
          replace sF := sF.trans s49
          obtain rfl : v49 = V.int y49.1 := r49
          obtain ⟨t50, e50, hm⟩ := pb_get hm
          obtain ⟨u50, f50, r50⟩ := A2.at h34_1 e50
          obtain ⟨a51, u51, z51, rfl, q51, r51a, r51b⟩ := r50
          obtain rfl : u51 = V.int t50.1 := r51a
          obtain rfl : z51 = V.int t50.2 := r51b
          refine ⟨_, _, _, _, rfl, rfl, SqL.of (w49.get (pre := [_])), f50, _, rfl, .inl ⟨rfl, _, SqL.of (w49.get (pre := [_]))⟩, _, rfl, _, rfl, _, rfl, _, _, _, _, rfl, rfl, SqT.of (w49.same _ _ q51), rfl, _, rfl, _, _, _, _, rfl, rfl, SqT.of (w49.same _ _ q51), rfl, (by show 2 ≤ sizeLine; decide), fun p52 n52 => ?_⟩
          obtain ⟨F52, s52, w52, q52⟩ := w49.frzE (o := .tup [(.int t50.2), (.int t50.1)]) n52
          replace h2 := A2.mono s52 h2
          replace q2 := s52 _ _ q2
          replace q51 := s52 _ _ q51
          replace h49 := A2.mono s52 h49
          replace h34_1 := A2.mono s52 h34_1
          replace sF := sF.trans s52
          have h53 : A2 (rep K F52) [(.ref a51), (.ref p52)] ([t50, (t50.2, t50.1)] : (List (Int × Int))) := .cons (rep_pair q51 rep_i rep_i) (.cons (rep_pair q52 rep_i rep_i) (.nil))
          refine ⟨(by show 2 ≤ sizeLine; decide), fun p54 n54 => ?_⟩
          have w54 : W F52 _ ((p54, .lst [(.ref a51), (.ref p52)]) :: (a_pot, .lst vs49) :: (p4, .lst vs34_1) :: os) := w52.new n54
          have w55 : W F52 _ ((a_pot, .lst vs49) :: (p54, .lst [(.ref a51), (.ref p52)]) :: (p4, .lst vs34_1) :: os) := w54.front (pre := [_])
          refine ⟨_, rfl, _, _, _, _, _, _, rfl, w55, h49, ?_⟩
          refine (post_bind hm).mono (fun y56 hm v56 vs56 F56 H56 w56 s56 r56 h56 => ?_) (fun _ z => z)
          replace h2 := A2.mono s56 h2
          replace q2 := s56 _ _ q2
          replace q51 := s56 _ _ q51
          replace h34_1 := A2.mono s56 h34_1
          replace q52 := s56 _ _ q52
          replace h53 := A2.mono s56 h53
          replace sF := sF.trans s56
          obtain rfl : v56 = V.int y56.1 := r56
          obtain ⟨t57, e57, hm⟩ := pb_get hm
          obtain ⟨u57, f57, r57⟩ := A2.at h53 e57
          obtain ⟨a58, u58, z58, rfl, q58, r58a, r58b⟩ := r57
          obtain rfl : u58 = V.int t57.1 := r58a
          obtain rfl : z58 = V.int t57.2 := r58b
          obtain ⟨l59, z59, e59, hm⟩ := pn_ins hm
          refine ⟨_, _, _, _, rfl, rfl, SqL.of (w56.get (pre := [_])), f57, _, _, _, _, rfl, rfl, (w56.get (pre := [_, _])), (line_ins h34_1 z59.1), z59.2.1, (by have := z59.2.2; omega), ?_⟩
          have h59 : A2 (rep K F56) (vs34_1.take y10.1.toNat ++ [(.ref a58)] ++ vs34_1.drop y10.1.toNat) l59 := e59 ▸ A2.ins _ h34_1 (rep_pair q58 rep_i rep_i)
          have w60 : W F56 _ ((a_pot, .lst vs56) :: (p54, .lst [(.ref a51), (.ref p52)]) :: (p4, .lst (vs34_1.take y10.1.toNat ++ [(.ref a58)] ++ vs34_1.drop y10.1.toNat)) :: os) := w56.set (pre := [_, _])
          have w61 : W F56 _ ((a_pot, .lst vs56) :: (p4, .lst (vs34_1.take y10.1.toNat ++ [(.ref a58)] ++ vs34_1.drop y10.1.toNat)) :: os) := w60.drop (pre := [_])
          exact hN40 _ (post_ok hm) _ _ ⟨_, _, _, _, rfl, (s41.trans (s49.trans (s52.trans s56))), w61, h56, h59⟩
        · skip
          exact hN40 _ (post_ok hm) _ _ ⟨_, _, _, _, rfl, s41, w41, h34_0, h34_1⟩
      intro g40 σ40 H40 hI hm
      obtain ⟨F40, vs40_0, vs40_1, o40_9, rfl, s40, w40, h40_0, h40_1⟩ := hI
      replace h2 := A2.mono s40 h2
      replace q2 := s40 _ _ q2
      replace sF := sF.trans s40
      try dsimp only
      refine stepIf ?_
      refine cutT (fun c H' => c = (((decide ((2 : Int) < y9.1)) && (!decide (g40.2 = ([] : (List (Int × Int))))))) ∧ ∃ F', Same F40 F' ∧ W F' H' ((a_pot, .lst vs40_0) :: (p4, .lst vs40_1) :: os)) (fun Q62 q62 => ?_) (fun c62 H62 hc62 => ?_)
      · -- the ways
        refine ⟨_, rfl, _, _, rfl, rfl, _, rfl, ?_⟩
        refine ifB (fun k63 => ?_) (fun k63 => ?_)
        · skip
          have h64 : A2 (rep K F40) [] ([] : (List (Int × Int))) := .nil
          refine ⟨_, rfl, (by show 0 ≤ sizeLine; decide), fun p65 n65 => ?_⟩
          have w65 : W F40 _ ((p65, .lst []) :: (a_pot, .lst vs40_0) :: (p4, .lst vs40_1) :: os) := w40.new n65
          have w67 : W F40 _ ((a_pot, .lst vs40_0) :: (p4, .lst vs40_1) :: os) := w65.drop (pre := [])
          exact ⟨(g40.2 : (List (Int × Int))), (([] : (List (Int × Int))) : (List (Int × Int))), (rep_own (pre := [_, _]) w65 h40_1), (rep_own (pre := []) w65 h64), _, rfl, q62 _ _ ⟨(by first | rfl | exact absurd k63 (by decide) | (simp [k63]; done) | ((try simp only [Bool.not_eq_true] at k63); simp only [k63, Bool.true_or, Bool.false_or, Bool.or_false, Bool.or_true, Bool.true_and, Bool.false_and, Bool.and_true, Bool.and_false])), _, Same.refl _, w67⟩⟩
        · skip
          exact q62 _ _ ⟨(by first | rfl | exact absurd k63 (by decide) | (simp [k63]; done) | ((try simp only [Bool.not_eq_true] at k63); simp only [k63, Bool.true_or, Bool.false_or, Bool.or_false, Bool.or_true, Bool.true_and, Bool.false_and, Bool.and_true, Bool.and_false])), _, Same.refl _, w40⟩
      obtain ⟨rfl, F62, s62, w62⟩ := hc62
      replace h2 := A2.mono s62 h2
      replace q2 := s62 _ _ q2
      replace h40_0 := A2.mono s62 h40_0
      replace h40_1 := A2.mono s62 h40_1
      replace sF := sF.trans s62
      refine post_ite hm (fun k69 hm => ?_) (fun k69 hm => ?_)
      · skip
        refine ⟨_, rfl, .inl ⟨rfl, _, SqL.of (w62.get (pre := [_]))⟩, _, rfl, _, rfl, _, _, _, rfl, .inl (SqL.of (w62.get (pre := [_]))), h40_1.length, _, _, _, _, _, _, rfl, w62, h40_0, ?_⟩
        refine (post_bind hm).mono (fun y71 hm v71 vs71 F71 H71 w71 s71 r71 h71 => ?_) (fun _ z => z)
        replace h2 := A2.mono s71 h2
        replace q2 := s71 _ _ q2
        replace h40_1 := A2.mono s71 h40_1
        replace sF := sF.trans s71
        obtain rfl : v71 = V.int y71.1 := r71
        obtain ⟨j70, x70, l70, z70, i70, y70, e70, hm⟩ := pn_popB hm
        obtain ⟨u70, f70, r70⟩ := A2.get h40_1 y70
        refine ⟨_, _, _, _, _, rfl, rfl, (w71.get (pre := [_])), z70.1, z70.2, (ixN_seq (A2.ix h40_1 i70)).1, f70, ?_⟩
        have h70 : A2 (rep K F71) (vs40_1.eraseIdx j70) l70 := e70 ▸ A2.eraseIdx j70 h40_1
        obtain ⟨a72, u72, z72, rfl, q72, r72a, r72b⟩ := r70
        obtain rfl : u72 = V.int x70.1 := r72a
        obtain rfl : z72 = V.int x70.2 := r72b
        have w73 : W F71 _ ((a_pot, .lst vs71) :: (p4, .lst (vs40_1.eraseIdx j70)) :: os) := w71.set (pre := [_])
        exact hN5 _ (post_ok hm) _ _ ⟨_, _, _, _, _, _, _, _, _, rfl, (s5.trans (s9.trans (s10.trans (s12.trans (s14.trans (s18.trans (s21.trans (s34.trans (s40.trans (s62.trans s71)))))))))), w73, h71, h70⟩
      · skip
        exact hN5 _ (post_ok hm) _ _ ⟨_, _, _, _, _, _, _, _, _, rfl, (s5.trans (s9.trans (s10.trans (s12.trans (s14.trans (s18.trans (s21.trans (s34.trans (s40.trans s62))))))))), w62, h40_0, h40_1⟩
    intro g5 σ5 H5 hI hm
    obtain ⟨F5, vs5_0, vs5_1, o5_5, o5_6, o5_7, o5_8, o5_9, o5_4, rfl, s5, w5, h5_0, h5_1⟩ := hI
    replace h2 := A2.mono s5 h2
    replace q2 := s5 _ _ q2
    replace sF := sF.trans s5
    have w74 : W F5 _ ((p4, .lst vs5_1) :: (a_pot, .lst vs5_0) :: os) := w5.front (pre := [_])
    exact ⟨_, rfl, (post_ok hm) _ _ _ _ _ w74 sF h5_1 h5_0⟩
def sp_law_due (K : Fg) : Sp := fun vs H Q E => ∃ (F : Hp) (os : List (Addr × HO)) (x_many : Int) (a_ties : Addr) (vs_ties : List V) (x_ties : (List (Int × Int))), vs = [.int x_many, .ref a_ties] ∧ W F H ((a_ties, .lst vs_ties) :: os) ∧ A2 (rep K F) vs_ties x_ties ∧ Post (law_due x_many x_ties) (fun (y : Tl) => ∀ (v : V) (F' H' : Hp), W F' H' ((a_ties, .lst vs_ties) :: os) → Same F F' → rep K F' v (y : Tl) → Q v H') noX
theorem sc_law_due : FnScope ["many", "ties", "met", "one", "other", "tie", "fars"] ["many", "ties"] (defScope s_law_due) := ⟨rfl, rfl, rfl, by decide +kernel, rfl, by decide +kernel, by decide +kernel⟩
theorem ok_law_due (T : Tx K mg A FD) : FnOk P w K mg base CX0 2 (A 23) (FD 23) ["many", "ties"] (sp_law_due K) := by
  refine T.d23.fn.ok sc_law_due (fun vs H Q E h => ?_) (fun cdv Ar outer s H vs Q E hr h => ?_)
  · obtain ⟨F, os, x_many, a_ties, vs_ties, x_ties, rfl, _⟩ := h
    rfl
  · obtain ⟨F0, os, x_many, a_ties, vs_ties, x_ties, rfl, w0, h_ties, hm⟩ := h
    have sF : Same F0 F0 := Same.refl _
    refine ⟨_, (pss_cons (ps_if (PW.pt (pw_or (pt_cmp (pc_lt (pv 0) pe_int)) (pw_or1 (pt_cmp (pc_gt (pv 0) pe_int))))) (pss_one (ps_ret pe_str)) pss_nil) (pss_cons (ps_set (i := 2) sc_law_due.nd rfl (Or.inl rfl) (pe_lst pa_nil)) (pss_cons (ps_for PassesOwn.never rfl (pi_listK (K := K) rfl (pv 1)) (pg_k (K := K) (t := fun K => gTup K 2 _) rfl (pg_tup (n := 2) rfl (pgs_cons (pg_name (i := 3) sc_law_due.nd rfl (Or.inl rfl)) (pgs_cons (pg_name (i := 4) sc_law_due.nd rfl (Or.inl rfl)) pgs_nil)))) (pss_cons (ps_set (i := 5) sc_law_due.nd rfl (Or.inl rfl) (pe_tup (pa_cons (pe_callB (call_min2 rfl) (by rfl) T.n_min (by decide +kernel) (pa_cons (pv 3) (pa_cons (pv 4) pa_nil))) (pa_cons (pe_callB (call_max2 rfl) (by rfl) T.n_max (by decide +kernel) (pa_cons (pv 3) (pa_cons (pv 4) pa_nil))) pa_nil)))) (pss_cons (ps_if (PW.pt (pw_or (pt_cmp (pc_eqI (pv 3) (pv 4))) (pw_or (pt_cmp (pc_lt (pe_ix (ix_tupK (K := K) rfl) (pv 5) pe_int (fun _ _ => rfl)) pe_int)) (pw_or (pt_cmp (pc_ge (pe_ix (ix_tupK (K := K) rfl) (pv 5) pe_int (fun _ _ => rfl)) (pv 0))) (pw_or1 (pt_cmpR (op_inL (K := K) rfl (Int × Int) (by decide) (Room.units65 hr)) (pv 5) (pv 2) (by rfl))))))) (pss_one (ps_ret pe_str)) pss_nil) (pss_one (ps_expr (pe_bm PySem.F.plainAttrs_list PySem.F.slot_list_append PySem.F.type_list_append mt_append (pv 2) (pa_cons (pv 5) pa_nil))))))) (pss_cons (ps_set (i := 6) sc_law_due.nd rfl (Or.inl rfl) (pe_call (ok_law_fars T) (hr.mono (by decide)) (by rfl) T.d21.mg T.d21.fn.kp T.d21.b .nil pass0 (pa_cons (pe_tup (pa_cons (pv 0) (pa_cons (pe_callTy (call_tuple_ofK (K := K) rfl) (by rfl) T.n_tuple (by decide +kernel) (pa_cons (pv 1) pa_nil)) pa_nil))) (pa_cons pe_int pa_nil)))) (pss_cons (ps_if (pt_cmpR (op_inL (K := K) rfl Int (by decide) (Room.units65 hr)) (pe_un un_neg pe_int) (pv 6) (by rfl)) (pss_one (ps_ret (pe_tup (pa_cons pe_str (pa_cons (pe_bm PySem.F.plainAttrs_list PySem.F.slot_list_index PySem.F.type_list_index (mt_indexI (K := K) rfl) (pv 6) (pa_cons (pe_un un_neg pe_int) pa_nil)) pa_nil))))) pss_nil) (pss_one (ps_ret (pe_tup (pa_cons (pv 0) (pa_cons (pe_callTy (call_tuple_ofK (K := K) rfl) (by rfl) T.n_tuple (by decide +kernel) (pa_cons (pe_callB (cr_sortP (K := K) rfl) (by rfl) T.n_sorted (by decide +kernel) (pa_cons (pv 2) pa_nil)) pa_nil)) pa_nil)))))))))), ?_⟩
    try dsimp only
    refine stepSeq (stepIf ?_)
    refine cutT (fun c H' => c = (((decide (x_many < (1 : Int))) || (decide ((60 : Int) < x_many)))) ∧ ∃ F', Same F0 F' ∧ W F' H' ((a_ties, .lst vs_ties) :: os)) (fun Q2 q2 => ?_) (fun c2 H2 hc2 => ?_)
    · -- the ways
      refine ⟨_, rfl, _, _, rfl, rfl, _, rfl, ?_⟩
      refine ifB (fun k3 => ?_) (fun k3 => ?_)
      · skip
        exact q2 _ _ ⟨(by first | rfl | exact absurd k3 (by decide) | (simp [k3]; done) | ((try simp only [Bool.not_eq_true] at k3); simp only [k3, Bool.true_or, Bool.false_or, Bool.or_false, Bool.or_true, Bool.true_and, Bool.false_and, Bool.and_true, Bool.and_false])), _, Same.refl _, w0⟩
      · skip
        exact ⟨_, rfl, _, _, rfl, rfl, _, rfl, q2 _ _ ⟨(by first | rfl | exact absurd k3 (by decide) | (simp [k3]; done) | ((try simp only [Bool.not_eq_true] at k3); simp only [k3, Bool.true_or, Bool.false_or, Bool.or_false, Bool.or_true, Bool.true_and, Bool.false_and, Bool.and_true, Bool.and_false])), _, Same.refl _, w0⟩⟩
    obtain ⟨rfl, F2, s2, w2⟩ := hc2
    replace h_ties := A2.mono s2 h_ties
    replace sF := sF.trans s2
    refine post_ite hm (fun k6 hm => ?_) (fun k6 hm => ?_)
    · skip
      exact (post_ok hm) _ _ _ w2 sF rep_tlS
    · skip
      have h7 : A2 (rep K F2) [] ([] : (List (Int × Int))) := .nil
      refine ⟨(by show 0 ≤ sizeLine; decide), fun p8 n8 => ?_⟩
      have w8 : W F2 _ ((p8, .lst []) :: (a_ties, .lst vs_ties) :: os) := w2.new n8
      refine ⟨_, rfl, _, rfl, ⟨_, SqL.of (w8.get (pre := [_]))⟩, ?_⟩
      refine forX (tw_list (a := a_ties) h_ties) hm (fun (g9 : (List (Int × Int))) σ H' => ∃ (F' : Hp) (vs9_0 : List V) (o9_5 : Option V) (o9_3 : Option V) (o9_4 : Option V), σ = [some (.int x_many), some (.ref a_ties), some (.ref p8), o9_3, o9_4, o9_5, none] ∧ Same F2 F' ∧ W F' H' ((p8, .lst vs9_0) :: (a_ties, .lst vs_ties) :: os) ∧ A2 (rep K F') vs9_0 g9) ⟨_, _, _, _, _, rfl, Same.refl _, w8, h7⟩ (fun g σ H' hI => by obtain ⟨F', _, _, _, _, _, s, w, _⟩ := hI; exact SqL.of (w.get (pre := [_]))) ?_ ?_
      · -- a turn
        intro b9 g9 x9 σ9 H9 H9' N9 B9 P9 hI hy hN9 hB9 hZ9 hm
        obtain ⟨F9, vs9_0, o9_5, o9_3, o9_4, rfl, s9, w9, h9_0⟩ := hI
        replace h_ties := A2.mono s9 h_ties
        replace sF := sF.trans s9
        obtain ⟨rfl, r10⟩ := hy
        replace r10 := Rep.mono s9 r10
        obtain ⟨a11, u11, z11, rfl, q11, r11a, r11b⟩ := r10
        obtain rfl : u11 = V.int b9.1 := r11a
        obtain rfl : z11 = V.int b9.2 := r11b
        refine ⟨_, _, rfl, SqT.of (w9.same _ _ q11), rfl, _, _, rfl, _, _, rfl, rfl, _, rfl, _, rfl, _, _, rfl, _, rfl, _, rfl, _, _, rfl, (by show 2 ≤ sizeLine; decide), fun p12 n12 => ?_⟩
        obtain ⟨F12, s12, w12, q12⟩ := w9.frzE (o := .tup [(.int (min2 b9.1 b9.2)), (.int (max2 b9.1 b9.2))]) n12
        replace h9_0 := A2.mono s12 h9_0
        replace h_ties := A2.mono s12 h_ties
        replace sF := sF.trans s12
        refine stepN ?_
        try dsimp only
        refine stepSeq (stepIf ?_)
        refine cutT (fun c H' => c = (((decide (b9.1 = b9.2)) || ((decide ((min2 b9.1 b9.2) < (0 : Int))) || ((decide (x_many ≤ (max2 b9.1 b9.2))) || (inB ((min2 b9.1 b9.2), (max2 b9.1 b9.2)) g9))))) ∧ ∃ F', Same F12 F' ∧ W F' H' ((p8, .lst vs9_0) :: (a_ties, .lst vs_ties) :: os)) (fun Q13 q13 => ?_) (fun c13 H13 hc13 => ?_)
        · -- the ways
          refine ⟨_, rfl, _, rfl, _, _, rfl, rfl, _, rfl, ?_⟩
          refine ifB (fun k14 => ?_) (fun k14 => ?_)
          · skip
            exact q13 _ _ ⟨(by first | rfl | exact absurd k14 (by decide) | (simp [k14]; done) | ((try simp only [Bool.not_eq_true] at k14); simp only [k14, Bool.true_or, Bool.false_or, Bool.or_false, Bool.or_true, Bool.true_and, Bool.false_and, Bool.and_true, Bool.and_false])), _, Same.refl _, w12⟩
          · skip
            refine ⟨_, rfl, _, _, _, _, rfl, rfl, SqT.of (w12.same _ _ q12), rfl, _, _, rfl, rfl, _, rfl, ?_⟩
            refine ifB (fun k16 => ?_) (fun k16 => ?_)
            · skip
              exact q13 _ _ ⟨(by first | rfl | exact absurd k14 (by decide) | exact absurd k16 (by decide) | (simp [k14, k16]; done) | ((try simp only [Bool.not_eq_true] at k14); (try simp only [Bool.not_eq_true] at k16); simp only [k14, k16, Bool.true_or, Bool.false_or, Bool.or_false, Bool.or_true, Bool.true_and, Bool.false_and, Bool.and_true, Bool.and_false])), _, Same.refl _, w12⟩
            · skip
              refine ⟨_, rfl, _, _, _, _, rfl, rfl, SqT.of (w12.same _ _ q12), rfl, _, rfl, _, _, rfl, rfl, _, rfl, ?_⟩
              refine ifB (fun k18 => ?_) (fun k18 => ?_)
              · skip
                exact q13 _ _ ⟨(by first | rfl | exact absurd k14 (by decide) | exact absurd k16 (by decide) | exact absurd k18 (by decide) | (simp [k14, k16, k18]; done) | ((try simp only [Bool.not_eq_true] at k14); (try simp only [Bool.not_eq_true] at k16); (try simp only [Bool.not_eq_true] at k18); simp only [k14, k16, k18, Bool.true_or, Bool.false_or, Bool.or_false, Bool.or_true, Bool.true_and, Bool.false_and, Bool.and_true, Bool.and_false])), _, Same.refl _, w12⟩
              · skip
                exact ⟨_, rfl, _, rfl, (((min2 b9.1 b9.2), (max2 b9.1 b9.2)) : (Int × Int)), _, (Rep.mono w12.same (rep_pair q12 rep_i rep_i)), (rep_own (pre := []) w12 h9_0), _, rfl, q13 _ _ ⟨(by first | rfl | exact absurd k14 (by decide) | exact absurd k16 (by decide) | exact absurd k18 (by decide) | (simp [k14, k16, k18]; done) | ((try simp only [Bool.not_eq_true] at k14); (try simp only [Bool.not_eq_true] at k16); (try simp only [Bool.not_eq_true] at k18); simp only [k14, k16, k18, Bool.true_or, Bool.false_or, Bool.or_false, Bool.or_true, Bool.true_and, Bool.false_and, Bool.and_true, Bool.and_false])), _, Same.refl _, w12⟩⟩
        obtain ⟨rfl, F13, s13, w13⟩ := hc13
        replace q12 := s13 _ _ q12
        replace h9_0 := A2.mono s13 h9_0
        replace h_ties := A2.mono s13 h_ties
        replace sF := sF.trans s13
        refine post_ite hm (fun k21 hm => ?_) (fun k21 hm => ?_)
        · skip
          have hm := hZ9 _ (post_ok hm)
          have w22 : W F13 _ ((a_ties, .lst vs_ties) :: os) := w13.drop (pre := [])
          exact (post_ok hm) _ _ _ w22 sF rep_tlS
        · skip
          obtain ⟨l23, z23, e23, hm⟩ := pn_app hm
          refine ⟨_, rfl, .inl ⟨rfl, _, SqL.of (w13.get (pre := []))⟩, _, rfl, _, _, _, rfl, rfl, (w13.get (pre := [])), (A2.lt h9_0 z23), ?_⟩
          have h23 : A2 (rep K F13) (vs9_0 ++ [(V.ref p12)]) l23 := e23 ▸ A2.snoc h9_0 (rep_pair q12 rep_i rep_i)
          have w24 : W F13 _ ((p8, .lst (vs9_0 ++ [(V.ref p12)])) :: (a_ties, .lst vs_ties) :: os) := w13.set (pre := [])
          exact hN9 _ (post_ok hm) _ _ ⟨_, _, _, _, _, rfl, (s9.trans (s12.trans s13)), w24, h23⟩
      intro g9 σ9 H9 hI hm
      obtain ⟨F9, vs9_0, o9_5, o9_3, o9_4, rfl, s9, w9, h9_0⟩ := hI
      replace h_ties := A2.mono s9 h_ties
      replace sF := sF.trans s9
      have h25 : A2 (rep K F9) vs_ties x_ties := h_ties
      refine ⟨_, rfl, _, rfl, _, _, rfl, .inl ⟨SqL.of (w9.get (pre := [_])), fun p26 n26 => ?_⟩⟩
      obtain ⟨F26, s26, w26, q26⟩ := w9.frzE (o := .tup vs_ties) n26
      replace h9_0 := A2.mono s26 h9_0
      replace h_ties := A2.mono s26 h_ties
      replace h25 := A2.mono s26 h25
      replace sF := sF.trans s26
      refine ⟨(by show 2 ≤ sizeLine; decide), fun p27 n27 => ?_⟩
      obtain ⟨F27, s27, w27, q27⟩ := w26.frzE (o := .tup [(.int x_many), (.ref p26)]) n27
      replace h9_0 := A2.mono s27 h9_0
      replace h_ties := A2.mono s27 h_ties
      replace h25 := A2.mono s27 h25
      replace q26 := s27 _ _ q26
      replace sF := sF.trans s27
      refine ⟨_, _, _, ((x_many, (Tup.mk x_ties)) : (Int × (Tup (Int × Int)))), _, rfl, w27, (rep_pair q27 rep_i (rep_tup q26 h25)), ?_⟩
      refine (post_bind hm).mono (fun y28 hm p28 us28 F28 H28 w28 s28 g28 => ?_) (fun _ z => z)
      replace h9_0 := A2.mono s28 h9_0
      replace h_ties := A2.mono s28 h_ties
      replace h25 := A2.mono s28 h25
      replace q26 := s28 _ _ q26
      replace q27 := s28 _ _ q27
      replace sF := sF.trans s28
      obtain ⟨F30, s30, w30, q30⟩ : ∃ F', Same F28 F' ∧ W F' _ ((p8, .lst vs9_0) :: (a_ties, .lst vs_ties) :: os) ∧ F' p28 = some (.lst us28) := w28.freezeE (pre := [])
      replace h9_0 := A2.mono s30 h9_0
      replace h_ties := A2.mono s30 h_ties
      replace h25 := A2.mono s30 h25
      replace q26 := s30 _ _ q26
      replace q27 := s30 _ _ q27
      replace g28 := A2.mono s30 g28
      replace sF := sF.trans s30
      refine ⟨_, rfl, _, rfl, ((-(1 : Int)) : Int), _, rep_i, (Rep.mono w30.same (rep_lst q30 g28)), _, rfl, ?_⟩
      refine post_ite hm (fun k31 hm => ?_) (fun k31 hm => ?_)
      · skip
        obtain ⟨t32, e32, hm⟩ := pb_idx hm
        refine ⟨_, rfl, .inl ⟨rfl, _, SqL.of (w30.same _ _ q30)⟩, _, rfl, _, _, _, _, rfl, rfl, ints_q (SqL.of (w30.same _ _ q30)) g28, e32, (by show 2 ≤ sizeLine; decide), fun p33 n33 => ?_⟩
        obtain ⟨F33, s33, w33, q33⟩ := w30.frzE (o := .tup [(.str "apart"), (.int (t32 : Int))]) n33
        replace g28 := A2.mono s33 g28
        replace q30 := s33 _ _ q30
        replace h9_0 := A2.mono s33 h9_0
        replace h_ties := A2.mono s33 h_ties
        replace sF := sF.trans s33
        have w34 : W F33 _ ((a_ties, .lst vs_ties) :: os) := w33.drop (pre := [])
        exact (post_ok hm) _ _ _ w34 sF (rep_tlA q33)
      · skip
        refine ⟨_, rfl, _, rfl, _, _, F30, g9, rfl, SqL.of (w30.get (pre := [])), w30.same, h9_0, fun p35 us35 n35 h35 => ?_⟩
        have w35 : W F30 _ ((p35, .lst us35) :: (p8, .lst vs9_0) :: (a_ties, .lst vs_ties) :: os) := w30.new n35
        have h37 : A2 (rep K F30) us35 (sortP g9) := h35
        refine ⟨_, _, rfl, .inl ⟨SqL.of (w35.get (pre := [])), fun p38 n38 => ?_⟩⟩
        obtain ⟨F38, s38, w38, q38⟩ := w35.frzE (o := .tup us35) n38
        replace g28 := A2.mono s38 g28
        replace q30 := s38 _ _ q30
        replace h9_0 := A2.mono s38 h9_0
        replace h_ties := A2.mono s38 h_ties
        replace h35 := A2.mono s38 h35
        replace h37 := A2.mono s38 h37
        replace sF := sF.trans s38
        refine ⟨(by show 2 ≤ sizeLine; decide), fun p39 n39 => ?_⟩
        obtain ⟨F39, s39, w39, q39⟩ := w38.frzE (o := .tup [(.int x_many), (.ref p38)]) n39
        replace g28 := A2.mono s39 g28
        replace q30 := s39 _ _ q30
        replace h9_0 := A2.mono s39 h9_0
        replace h_ties := A2.mono s39 h_ties
        replace h35 := A2.mono s39 h35
        replace h37 := A2.mono s39 h37
        replace q38 := s39 _ _ q38
        replace sF := sF.trans s39
        have w40 : W F39 _ ((p8, .lst vs9_0) :: (a_ties, .lst vs_ties) :: os) := w39.drop (pre := [])
        have w41 : W F39 _ ((a_ties, .lst vs_ties) :: os) := w40.drop (pre := [])
        exact (post_ok hm) _ _ _ w41 sF (rep_tlW (rep_pair q39 rep_i (rep_tup q38 h37)))
def sp_law_told (K : Fg) : Sp := fun vs H Q E => ∃ (F : Hp) (os : List (Addr × HO)) (x_many : Int) (a_ties : Addr) (vs_ties : List V) (x_ties : (List (Int × Int))), vs = [.int x_many, .ref a_ties] ∧ W F H ((a_ties, .lst vs_ties) :: os) ∧ A2 (rep K F) vs_ties x_ties ∧ Post (law_told x_many x_ties) (fun (y : Tl) => ∀ (v : V) (F' H' : Hp), W F' H' ((a_ties, .lst vs_ties) :: os) → Same F F' → rep K F' v (y : Tl) → Q v H') noX
theorem sc_law_told : FnScope ["many", "ties", "found", "e"] ["many", "ties"] (defScope s_law_told) := ⟨rfl, rfl, rfl, by decide +kernel, rfl, by decide +kernel, by decide +kernel⟩
theorem ok_law_told (T : Tx K mg A FD) : FnOk P w K mg base CX0 4 (A 24) (FD 24) ["many", "ties"] (sp_law_told K) := by
  refine T.d24.fn.ok sc_law_told (fun vs H Q E h => ?_) (fun cdv Ar outer s H vs Q E hr h => ?_)
  · obtain ⟨F, os, x_many, a_ties, vs_ties, x_ties, rfl, _⟩ := h
    rfl
  · obtain ⟨F0, os, x_many, a_ties, vs_ties, x_ties, rfl, w0, h_ties, hm⟩ := h
    have sF : Same F0 F0 := Same.refl _
    refine ⟨_, (pss_cons (ps_set (i := 2) sc_law_told.nd rfl (Or.inl rfl) pe_non1) (pss_cons (ps_try_as (i := 3) rfl rfl sc_law_told.nd rfl rfl ⟨rfl, by decide, .inl T.g_HailError⟩ takes0 (fun W pn xe tk _ => (pss_one (ps_set (i := 2) sc_law_told.nd rfl (Or.inl rfl) (pe_callS (ok_made_webX T) (hr.mono (by decide)) (by rfl) T.d11.mg T.d11.fn.kp T.d11.b (fun σ => passAt tk σ) (pa_cons (pv 0) (pa_cons (pv 1) pa_nil)))))) (fun a oe cls d pn hz hf => (pss_one (ps_if (PW.pt (pw_or (pt_val (pe_callB (call_isEY (K := K) rfl hz hf) (by rfl) T.n_isinstance (by decide +kernel) (pa_cons (pv 3) (pa_cons (pe_tup (pa_cons (pe_glob (v := .ref (A 3)) (by rfl) T.g_NoPlace rfl) (pa_cons (pe_glob (v := .ref (A 4)) (by rfl) T.g_NoThing rfl) pa_nil))) pa_nil)))) (pw_or1 (pt_not (pt_val (pe_callB (call_isEY (K := K) rfl hz hf) (by rfl) T.n_isinstance (by decide +kernel) (pa_cons (pv 3) (pa_cons (pe_bltn (v := .ty "ValueError") (by rfl) T.n_ValueError (by decide +kernel) rfl) pa_nil)))))))) (pss_one (ps_set (i := 2) sc_law_told.nd rfl (Or.inl rfl) pe_str1)) (pss_one (ps_if (pt_cmpR op_eqB (pe_callB (call_isEY (K := K) rfl hz hf) (by rfl) T.n_isinstance (by decide +kernel) (pa_cons (pv 3) (pa_cons (pe_glob (v := .ref (A 5)) (by rfl) T.g_Apart rfl) pa_nil))) (pe_callB (call_isEY (K := K) rfl hz hf) (by rfl) T.n_isinstance (by decide +kernel) (pa_cons (pv 3) (pa_cons (pe_glob (v := .ref (A 2)) (by rfl) T.g_NoWeb rfl) pa_nil))) (nomark _)) (pss_one (ps_set (i := 2) sc_law_told.nd rfl (Or.inl rfl) pe_str1)) (pss_one (ps_if (pt_val (pe_callB (call_isEY (K := K) rfl hz hf) (by rfl) T.n_isinstance (by decide +kernel) (pa_cons (pv 3) (pa_cons (pe_glob (v := .ref (A 2)) (by rfl) T.g_NoWeb rfl) pa_nil)))) (pss_one (ps_set (i := 2) sc_law_told.nd rfl (Or.inl rfl) pe_str1)) (pss_one (ps_set (i := 2) sc_law_told.nd rfl (Or.inl rfl) (pe_tup (pa_cons pe_str (pa_cons (pe_xf T.xi_Apart.xf T.xi_Apart.no hz hf (pv 3)) pa_nil))))))))))))) (pss_one (ps_ret (pv 2))))), ?_⟩
    refine ⟨trivial, ?_⟩
    refine stepN ?_
    try dsimp only
    refine joinS hm (fun (g2 : Tl) σ H' => ∃ (F' : Hp) (v2_2 : V), σ = [some (.int x_many), some (.ref a_ties), some v2_2, none] ∧ Same F0 F' ∧ W F' H' ((a_ties, .lst vs_ties) :: os) ∧ rep K F' v2_2 (g2 : Tl)) ?_ ?_
    · intro N2 P2 hN2 hm
      replace hm := post_tryWith hm
      refine ⟨_, rfl, _, rfl, _, _, _, _, _, _, rfl, w0, h_ties, ?_⟩
      refine (post_bind hm).mono (fun y3 hm v3 F3 H3 w3 s3 r3 => ?_) (fun e z C d Fe He nC w s xd => ?_)
      rotate_left 1
      · skip
        obtain ⟨em2, hm⟩ := z
        refine ⟨true, T.exm em2 nC, fun _ a na => ?_, fun z => nomatch z⟩
        replace h_ties := A2.mono s h_ties
        replace sF := sF.trans s
        try dsimp only
        refine stepIf ?_
        refine joinT hm (fun (j4 : Bool) c H' => c = j4 ∧ ∃ (F' : Hp), Same Fe F' ∧ W F' H' ((a_ties, .lst vs_ties) :: os)) ?_ ?_
        · intro Q4 P4 q4 hm
          obtain ⟨m5, hm⟩ := pb_isC hm
          refine ⟨_, rfl, (by show 2 ≤ sizeLine; decide), fun p6 n6 => ?_⟩
          obtain ⟨F6, s6, w6, q6⟩ := w.frzE (o := .tup [V.ref (A 3), V.ref (A 4)]) n6
          replace h_ties := A2.mono s6 h_ties
          replace xd := XD.mono s6 xd
          replace sF := sF.trans s6
          refine ⟨_, rfl, xd.dict w6.same, T.exc m5 nC, _, _, rfl, .inr ⟨p6, _, [.ref (A 3), .ref (A 4)], rfl, w6.same _ _ q6, fun us h => refs_at (ps := [A 3, A 4]) h, T.ki0 m5 nC⟩, _, rfl, ?_⟩
          refine post_ite hm (fun k7 hm => ?_) (fun k7 hm => ?_)
          · skip
            exact q4 _ (post_ok hm) _ _ ⟨rfl, _, s6, w6⟩
          · skip
            obtain ⟨m9, hm⟩ := pb_isC hm
            exact ⟨_, rfl, _, rfl, xd.dict w6.same, T.exc m9 nC, _, _, rfl, .inl ⟨.type "ValueError", fun _ h => h, T.ki1 m9 nC⟩, _, rfl, q4 _ (post_ok hm) _ _ ⟨rfl, _, s6, w6⟩⟩
        intro j4 c4 H4 hc4 hm
        obtain ⟨rfl, F4, s4, w4⟩ := hc4
        replace h_ties := A2.mono s4 h_ties
        replace xd := XD.mono s4 xd
        replace sF := sF.trans s4
        refine post_ite hm (fun k11 hm => ?_) (fun k11 hm => ?_)
        · skip
          have r12 : rep K F4 (.str "other") ((Tl.tx ⟨("other" : Str), by decide +kernel⟩) : Tl) := rep_tlS
          exact ⟨trivial, hN2 _ (post_ok hm) _ _ ⟨_, _, rfl, (s.trans s4), w4, r12⟩⟩
        · skip
          obtain ⟨m13, hm⟩ := pb_isC hm
          obtain ⟨m14, hm⟩ := pb_isC hm
          refine ⟨_, rfl, _, rfl, xd.dict w4.same, T.exc m13 nC, _, _, rfl, .inl ⟨.ref (A 5), fun _ h => h, T.ki2 m13 nC⟩, _, rfl, _, rfl, xd.dict w4.same, T.exc m14 nC, _, _, rfl, .inl ⟨.ref (A 2), fun _ h => h, T.ki3 m14 nC⟩, _, _, rfl, rfl, _, rfl, ?_⟩
          refine post_ite hm (fun k15 hm => ?_) (fun k15 hm => ?_)
          · skip
            have r16 : rep K F4 (.str "other") ((Tl.tx ⟨("other" : Str), by decide +kernel⟩) : Tl) := rep_tlS
            exact ⟨trivial, hN2 _ (post_ok hm) _ _ ⟨_, _, rfl, (s.trans s4), w4, r16⟩⟩
          · skip
            obtain ⟨m17, hm⟩ := pb_isC hm
            refine ⟨_, rfl, _, rfl, xd.dict w4.same, T.exc m17 nC, _, _, rfl, .inl ⟨.ref (A 2), fun _ h => h, T.ki3 m17 nC⟩, _, rfl, ?_⟩
            refine post_ite hm (fun k18 hm => ?_) (fun k18 hm => ?_)
            · skip
              have r19 : rep K F4 (.str "noweb") ((Tl.tx ⟨("noweb" : Str), by decide +kernel⟩) : Tl) := rep_tlS
              exact ⟨trivial, hN2 _ (post_ok hm) _ _ ⟨_, _, rfl, (s.trans s4), w4, r19⟩⟩
            · skip
              obtain ⟨c20, hm⟩ := pb_xarg hm
              obtain ⟨dd20, ed20, xq20⟩ := XD.at xd (show fld e.cls = some "place" by rw [c20]; exact fd_Apart)
              refine ⟨_, rfl, rfl, (congrArg Value.ref (Nm.uniq (x := "Apart") (c20 ▸ nC) T.x_Apart.ns)), _, _, _, ed20, w4.same _ _ xq20, rfl, (by show 2 ≤ sizeLine; decide), fun p21 n21 => ?_⟩
              obtain ⟨F21, s21, w21, q21⟩ := w4.frzE (o := .tup [(.str "apart"), (.int e.arg)]) n21
              replace h_ties := A2.mono s21 h_ties
              replace xd := XD.mono s21 xd
              replace sF := sF.trans s21
              have r22 : rep K F21 (.ref p21) ((Tl.ap ⟨("apart" : Str), by decide +kernel⟩ e.arg) : Tl) := (rep_tlA q21)
              exact hN2 _ (post_ok hm) _ _ ⟨_, _, rfl, (s.trans (s4.trans s21)), w21, r22⟩
      replace h_ties := A2.mono s3 h_ties
      replace sF := sF.trans s3
      obtain ⟨a23, u23, z23, rfl, q23, r23a, r23b⟩ := r3
      obtain rfl : u23 = V.int y3.1 := r23a
      obtain ⟨a24, vs24, rfl, q24, h24⟩ := r23b
      have r25 : rep K F3 (.ref a23) ((Tl.wb y3) : Tl) := (rep_tlW (rep_pair q23 rep_i (rep_tup q24 h24)))
      exact hN2 _ (post_ok hm) _ _ ⟨_, _, rfl, s3, w3, r25⟩
    intro g2 σ2 H2 hI hm
    obtain ⟨F2, v2_2, rfl, s2, w2, r2_2⟩ := hI
    replace h_ties := A2.mono s2 h_ties
    replace sF := sF.trans s2
    exact ⟨_, rfl, (post_ok hm) _ _ _ w2 sF r2_2⟩
def sp_law (K : Fg) : Sp := fun vs H Q E => ∃ (F : Hp) (os : List (Addr × HO)) (v_script : V) (x_script : Scr), vs = [v_script] ∧ W F H (os) ∧ rep K F v_script x_script ∧ Post (law x_script) (Ret K F os Q) noX
theorem sc_law : FnScope ["script", "k", "cell", "pot", "web", "many", "ties", "handed"] ["script"] (defScope s_law) := ⟨rfl, rfl, rfl, by decide +kernel, rfl, by decide +kernel, by decide +kernel⟩
theorem ok_law (T : Tx K mg A FD) : FnOk P w K mg base CX0 5 (A 25) (FD 25) ["script"] (sp_law K) := by
  refine T.d25.fn.ok sc_law (fun vs H Q E h => ?_) (fun cdv Ar outer s H vs Q E hr h => ?_)
  · obtain ⟨F, os, v_script, x_script, rfl, _⟩ := h
    rfl
  · obtain ⟨F0, os, v_script, x_script, rfl, w0, r_script, hm⟩ := h
    have sF : Same F0 F0 := Same.refl _
    obtain ⟨a1, rfl, q1⟩ := r_script
    have h1 : A2 (rep K F0) (x_script.l.map V.int) x_script.l := A2.of_ints
    refine ⟨_, (pss_cons (ps_for PassesOwn.never rfl (pi_k (K := K) (wi := fun K => iEnum K _) rfl (pi_enum (by rfl) T.n_enumerate (pa_cons (pe_call (ok_law_cells T) (hr.mono (by decide)) (by rfl) T.d16.mg T.d16.fn.kp T.d16.b .nil pass0 (pa_cons (pv 0) (pa_cons pe_int pa_nil))) pa_nil))) (pg_k (K := K) (t := fun K => gTup K 2 _) rfl (pg_tup (n := 2) rfl (pgs_cons (pg_name (i := 1) sc_law.nd rfl (Or.inl rfl)) (pgs_cons (pg_name (i := 2) sc_law.nd rfl (Or.inl rfl)) pgs_nil)))) (pss_cons (ps_set (i := 3) sc_law.nd rfl (Or.inl rfl) (pe_call (ok_law_pot T) (hr.mono (by decide)) (by rfl) T.d13.mg T.d13.fn.kp T.d13.b .nil pass0 (pa_cons (pv 2) (pa_cons (pv 1) pa_nil)))) (pss_cons (ps_set (i := 4) sc_law.nd rfl (Or.inl rfl) (pe_call (ok_law_web T) (hr.mono (by decide)) (by rfl) T.d20.mg T.d20.fn.kp T.d20.b .nil pass0 (pa_cons (pv 3) (pa_cons pe_int pa_nil)))) (pss_cons (ps_set (i := 5) sc_law.nd rfl (Or.inl rfl) (pe_ix (ix_tupK (K := K) rfl) (pv 4) pe_int (fun _ _ => rfl))) (pss_cons (ps_set (i := 6) sc_law.nd rfl (Or.inl rfl) (pe_call (ok_law_spoilt T) (hr.mono (by decide)) (by rfl) T.d22.mg T.d22.fn.kp T.d22.b .nil pass0 (pa_cons (pv 3) (pa_cons (pv 5) (pa_cons (pe_slice (sl_tupU (K := K) rfl) (pe_ix (ix_tupK (K := K) rfl) (pv 4) pe_int (fun _ _ => rfl)) po_none (po_some pe_int)) pa_nil))))) (pss_cons (ps_if (pt_cmp (pc_eqI (pe_call (ok_law_take T) (hr.mono (by decide)) (by rfl) T.d14.mg T.d14.fn.kp T.d14.b .nil pass0 (pa_cons (pv 3) (pa_cons pe_int pa_nil))) pe_int)) (pss_one (ps_set (i := 5) sc_law.nd rfl (Or.inl rfl) (pe_ix (ix_listK (K := K) rfl) (pe_lst (pa_cons pe_int (pa_cons pe_int (pa_cons (pe_op op_sub (pe_un un_neg pe_int) (pe_call (ok_law_take T) (hr.mono (by decide)) (by rfl) T.d14.mg T.d14.fn.kp T.d14.b .nil pass0 (pa_cons (pv 3) (pa_cons (pe_op op_pow pe_int pe_int) pa_nil)))) (pa_cons (pe_op op_add pe_int (pe_call (ok_law_take T) (hr.mono (by decide)) (by rfl) T.d14.mg T.d14.fn.kp T.d14.b .nil pass0 (pa_cons (pv 3) (pa_cons (pe_op op_pow pe_int pe_int) pa_nil)))) pa_nil))))) (pe_call (ok_law_take T) (hr.mono (by decide)) (by rfl) T.d14.mg T.d14.fn.kp T.d14.b .nil pass0 (pa_cons (pv 3) (pa_cons pe_int pa_nil))) (fun _ _ => rfl)))) pss_nil) (pss_cons (ps_set (i := 7) sc_law.nd rfl (Or.inl rfl) (pe_callTy (call_list_ofK (K := K) rfl) (by rfl) T.n_list (by decide +kernel) (pa_cons (pv 6) pa_nil))) (pss_one (ps_if (PW.pt (pw_or (pt_cmpR (op_neDt (K := K) rfl Tl (by decide) hr.units) (pe_call (ok_law_told T) (hr.mono (by decide)) (by rfl) T.d24.mg T.d24.fn.kp T.d24.b .nil pass0 (pa_cons (pv 5) (pa_cons (pv 7) pa_nil))) (pe_call (ok_law_due T) (hr.mono (by decide)) (by rfl) T.d23.mg T.d23.fn.kp T.d23.b .nil pass0 (pa_cons (pv 5) (pa_cons (pv 6) pa_nil))) (nomark _)) (pw_or1 (pt_cmpR (op_neDt (K := K) rfl (List (Int × Int)) (by decide) hr.units) (pv 7) (pv 6) (nomark _))))) (pss_one (ps_ret pe_bl)) pss_nil))))))))) (pss_one (ps_ret pe_bl))), ?_⟩
    refine ⟨_, rfl, _, _, _, (x_script : Scr), _, rfl, w0, ⟨_, rfl, q1⟩, ?_⟩
    refine (post_bind hm).mono (fun y3 hm p3 us3 F3 H3 w3 s3 g3 => ?_) (fun _ z => z)
    replace q1 := s3.seq q1
    replace h1 := A2.mono s3 h1
    replace sF := sF.trans s3
    obtain ⟨F5, s5, w5, q5⟩ : ∃ F', Same F3 F' ∧ W F' _ (os) ∧ F' p3 = some (.lst us3) := w3.freezeE (pre := [])
    replace q1 := s5.seq q1
    replace h1 := A2.mono s5 h1
    replace g3 := A2.mono s5 g3
    replace sF := sF.trans s5
    refine ⟨_, _, rfl, SqL.of (w5.same _ _ q5), ?_⟩
    refine forX (tw_enum (a := p3) g3) hm (fun (g2 : Unit) σ H' => ∃ (F' : Hp) (o2_3 : Option V) (o2_4 : Option V) (o2_5 : Option V) (o2_6 : Option V) (o2_7 : Option V) (o2_1 : Option V) (o2_2 : Option V), σ = [some (.ref a1), o2_1, o2_2, o2_3, o2_4, o2_5, o2_6, o2_7] ∧ Same F5 F' ∧ W F' H' (os)) ⟨_, _, _, _, _, _, _, _, rfl, Same.refl _, w5⟩ (fun g σ H' hI => by obtain ⟨F', _, _, _, _, _, _, _, _, s, w⟩ := hI; exact SqL.of (w.same _ _ (s _ _ q5))) ?_ ?_
    · -- a turn
      intro b2 g2 x2 σ2 H2 H2' N2 B2 P2 hI hy hN2 hB2 hZ2 hm
      obtain ⟨F2, o2_3, o2_4, o2_5, o2_6, o2_7, o2_1, o2_2, rfl, s2, w2⟩ := hI
      replace q1 := s2.seq q1
      replace h1 := A2.mono s2 h1
      replace g3 := A2.mono s2 g3
      replace q5 := s2 _ _ q5
      replace sF := sF.trans s2
      obtain ⟨T6, u6, rfl, n6, rfl, r6⟩ := hy
      obtain ⟨F6, s6, w6, q6⟩ := w2.frzE (o := .tup [.int b2.1, u6]) n6
      replace r6 := Rep.mono s2 r6
      replace q1 := s6.seq q1
      replace h1 := A2.mono s6 h1
      replace g3 := A2.mono s6 g3
      replace q5 := s6 _ _ q5
      replace sF := sF.trans s6
      replace r6 := Rep.mono s6 r6
      obtain rfl : u6 = V.int b2.2 := r6
      refine ⟨_, _, rfl, SqT.of (w6.same _ _ q6), rfl, _, _, rfl, _, _, rfl, rfl, _, rfl, _, rfl, _, _, _, _, rfl, w6, ?_⟩
      refine (post_bind hm).mono (fun y7 hm p7 us7 F7 H7 w7 s7 g7 => ?_) (fun _ z => z)
      replace h1 := A2.mono s7 h1
      replace q1 := s7.seq q1
      replace sF := sF.trans s7
      refine ⟨_, rfl, _, _, _, _, _, _, rfl, w7, g7, ?_⟩
      refine (post_bind hm).mono (fun y9 hm v9 vs9 F9 H9 w9 s9 r9 h9 => ?_) (fun _ z => z)
      replace h1 := A2.mono s9 h1
      replace q1 := s9.seq q1
      replace sF := sF.trans s9
      obtain ⟨a10, u10, z10, rfl, q10, r10a, r10b⟩ := r9
      obtain rfl : u10 = V.int y9.1.1 := r10a
      obtain ⟨a11, vs11, rfl, q11, h11⟩ := r10b
      refine ⟨_, rfl, _, _, _, _, rfl, rfl, SqT.of (w9.same _ _ q10), rfl, _, rfl, _, rfl, _, rfl, _, _, _, _, rfl, rfl, SqT.of (w9.same _ _ q10), rfl, _, rfl, _, _, _, _, rfl, w9, q11, fun p12 F12 H12 s12 w12 q12 => ?_⟩
      have h12 : A2 (rep K F9) (cutV vs11 none (some (197 : Int))) (cutL y9.1.2.l none (some (197 : Int))) := sl_cut h11 _ _
      replace h1 := A2.mono s12 h1
      replace q1 := s12.seq q1
      replace q10 := s12 _ _ q10
      replace h11 := A2.mono s12 h11
      replace q11 := s12 _ _ q11
      replace h9 := A2.mono s12 h9
      replace h12 := A2.mono s12 h12
      replace sF := sF.trans s12
      refine ⟨_, _, _, _, _, _, _, ((Tup.mk (cutL y9.1.2.l none (some (197 : Int)))) : (Tup (Int × Int))), rfl, w12, h9, (rep_tup q12 h12), ?_⟩
      refine (post_bind hm).mono (fun y13 hm p13 us13 vs13 F13 H13 w13 s13 g13 h13 => ?_) (fun _ z => z)
      replace h1 := A2.mono s13 h1
      replace q1 := s13.seq q1
      replace q10 := s13 _ _ q10
      replace h11 := A2.mono s13 h11
      replace q11 := s13 _ _ q11
      replace h12 := A2.mono s13 h12
      replace q12 := s13 _ _ q12
      replace sF := sF.trans s13
      refine stepN ?_
      try dsimp only
      refine joinS hm (fun (g15 : Int × (List Int)) σ H' => ∃ (F' : Hp) (vs15_0 : List V), σ = [some (.ref a1), some (.int b2.1), some (.int b2.2), some (.ref p7), some (.ref a10), some (.int g15.1), some (.ref p13), o2_7] ∧ Same F13 F' ∧ W F' H' ((p13, .lst us13) :: (p7, .lst vs15_0) :: os) ∧ A2 (rep K F') vs15_0 g15.2) ?_ ?_
      · intro N15 P15 hN15 hm
        have w16 : W F13 _ ((p7, .lst vs13) :: (p13, .lst us13) :: os) := w13.front (pre := [_])
        refine ⟨_, rfl, _, _, _, _, _, _, rfl, w16, h13, ?_⟩
        refine (post_bind hm).mono (fun y17 hm v17 vs17 F17 H17 w17 s17 r17 h17 => ?_) (fun _ z => z)
        replace h1 := A2.mono s17 h1
        replace q1 := s17.seq q1
        replace q10 := s17 _ _ q10
        replace h11 := A2.mono s17 h11
        replace q11 := s17 _ _ q11
        replace g13 := A2.mono s17 g13
        replace sF := sF.trans s17
        obtain rfl : v17 = V.int y17.1 := r17
        refine ⟨_, _, rfl, rfl, _, rfl, ?_⟩
        refine post_ite hm (fun k18 hm => ?_) (fun k18 hm => ?_)
        · skip
          refine ⟨_, rfl, _, rfl, _, _, rfl, rfl, (by refine ⟨?_, ?_, ?_⟩ <;> decide), _, _, _, _, _, _, rfl, w17, h17, ?_⟩
          refine (post_bind hm).mono (fun y20 hm v20 vs20 F20 H20 w20 s20 r20 h20 => ?_) (fun _ z => z)
          replace h1 := A2.mono s20 h1
          replace q1 := s20.seq q1
          replace q10 := s20 _ _ q10
          replace h11 := A2.mono s20 h11
          replace q11 := s20 _ _ q11
          replace g13 := A2.mono s20 g13
          replace sF := sF.trans s20
          obtain rfl : v20 = V.int y20.1 := r20
          refine ⟨_, _, rfl, rfl, _, rfl, _, _, rfl, rfl, (by refine ⟨?_, ?_, ?_⟩ <;> decide), _, _, _, _, _, _, rfl, w20, h20, ?_⟩
          refine (post_bind hm).mono (fun y22 hm v22 vs22 F22 H22 w22 s22 r22 h22 => ?_) (fun _ z => z)
          replace h1 := A2.mono s22 h1
          replace q1 := s22.seq q1
          replace q10 := s22 _ _ q10
          replace h11 := A2.mono s22 h11
          replace q11 := s22 _ _ q11
          replace g13 := A2.mono s22 g13
          replace sF := sF.trans s22
          obtain rfl : v22 = V.int y22.1 := r22
          have h23 : A2 (rep K F22) [(.int 0), (.int 61), (.int ((-(1 : Int)) - y20.1)), (.int ((61 : Int) + y22.1))] ([(0 : Int), (61 : Int), ((-(1 : Int)) - y20.1), ((61 : Int) + y22.1)] : (List Int)) := .cons rep_i (.cons rep_i (.cons rep_i (.cons rep_i (.nil))))
          refine ⟨_, _, rfl, rfl, (by show 4 ≤ sizeLine; decide), fun p24 n24 => ?_⟩
          have w24 : W F22 _ ((p24, .lst [(.int 0), (.int 61), (.int ((-(1 : Int)) - y20.1)), (.int ((61 : Int) + y22.1))]) :: (p7, .lst vs22) :: (p13, .lst us13) :: os) := w22.new n24
          have w25 : W F22 _ ((p7, .lst vs22) :: (p24, .lst [(.int 0), (.int 61), (.int ((-(1 : Int)) - y20.1)), (.int ((61 : Int) + y22.1))]) :: (p13, .lst us13) :: os) := w24.front (pre := [_])
          refine ⟨_, rfl, _, _, _, _, _, _, rfl, w25, h22, ?_⟩
          refine (post_bind hm).mono (fun y26 hm v26 vs26 F26 H26 w26 s26 r26 h26 => ?_) (fun _ z => z)
          replace h1 := A2.mono s26 h1
          replace q1 := s26.seq q1
          replace q10 := s26 _ _ q10
          replace h11 := A2.mono s26 h11
          replace q11 := s26 _ _ q11
          replace g13 := A2.mono s26 g13
          replace h23 := A2.mono s26 h23
          replace sF := sF.trans s26
          obtain rfl : v26 = V.int y26.1 := r26
          obtain ⟨t27, e27, hm⟩ := pb_get hm
          obtain ⟨u27, f27, r27⟩ := A2.at h23 e27
          obtain rfl : u27 = V.int t27 := r27
          have w28 : W F26 _ ((p7, .lst vs26) :: (p13, .lst us13) :: os) := w26.drop (pre := [_])
          have w29 : W F26 _ ((p13, .lst us13) :: (p7, .lst vs26) :: os) := w28.front (pre := [_])
          exact ⟨_, _, _, _, rfl, rfl, SqL.of (w26.get (pre := [_])), f27, hN15 _ (post_ok hm) _ _ ⟨_, _, rfl, (s17.trans (s20.trans (s22.trans s26))), w29, h26⟩⟩
        · skip
          have w30 : W F17 _ ((p13, .lst us13) :: (p7, .lst vs17) :: os) := w17.front (pre := [_])
          exact hN15 _ (post_ok hm) _ _ ⟨_, _, rfl, s17, w30, h17⟩
      intro g15 σ15 H15 hI hm
      obtain ⟨F15, vs15_0, rfl, s15, w15, h15_0⟩ := hI
      replace h1 := A2.mono s15 h1
      replace q1 := s15.seq q1
      replace q10 := s15 _ _ q10
      replace h11 := A2.mono s15 h11
      replace q11 := s15 _ _ q11
      replace g13 := A2.mono s15 g13
      replace sF := sF.trans s15
      have h31 : A2 (rep K F15) us13 y13.1 := g13
      refine ⟨_, rfl, _, _, rfl, .inl (SqL.of (w15.get (pre := []))), fun p32 n32 => ?_⟩
      have w32 : W F15 _ ((p32, .lst us13) :: (p13, .lst us13) :: (p7, .lst vs15_0) :: os) := w15.new n32
      refine stepN ?_
      try dsimp only
      refine stepIf ?_
      refine joinT hm (fun (j33 : Bool) c H' => c = j33 ∧ ∃ (F' : Hp), Same F15 F' ∧ W F' H' ((p32, .lst us13) :: (p13, .lst us13) :: (p7, .lst vs15_0) :: os)) ?_ ?_
      · intro Q33 P33 q33 hm
        refine ⟨_, rfl, _, rfl, _, _, _, _, _, _, rfl, w32, h31, ?_⟩
        refine (post_bind hm).mono (fun y34 hm v34 F34 H34 w34 s34 r34 => ?_) (fun _ z => z)
        replace h1 := A2.mono s34 h1
        replace q1 := s34.seq q1
        replace q10 := s34 _ _ q10
        replace h11 := A2.mono s34 h11
        replace q11 := s34 _ _ q11
        replace h31 := A2.mono s34 h31
        replace g13 := A2.mono s34 g13
        replace h15_0 := A2.mono s34 h15_0
        replace sF := sF.trans s34
        have w36 : W F34 _ ((p13, .lst us13) :: (p32, .lst us13) :: (p7, .lst vs15_0) :: os) := w34.front (pre := [_])
        refine ⟨_, rfl, _, rfl, _, _, _, _, _, _, rfl, w36, g13, ?_⟩
        refine (post_bind hm).mono (fun y37 hm v37 F37 H37 w37 s37 r37 => ?_) (fun _ z => z)
        replace h1 := A2.mono s37 h1
        replace q1 := s37.seq q1
        replace q10 := s37 _ _ q10
        replace h11 := A2.mono s37 h11
        replace q11 := s37 _ _ q11
        replace h31 := A2.mono s37 h31
        replace g13 := A2.mono s37 g13
        replace h15_0 := A2.mono s37 h15_0
        replace r34 := Rep.mono s37 r34
        replace sF := sF.trans s37
        refine ⟨(y34 : Tl), (y37 : Tl), (Rep.mono w37.same r34), (Rep.mono w37.same r37), _, rfl, ?_⟩
        refine post_ite hm (fun k39 hm => ?_) (fun k39 hm => ?_)
        · skip
          have w41 : W F37 _ ((p7, .lst vs15_0) :: (p13, .lst us13) :: (p32, .lst us13) :: os) := w37.front (pre := [_, _])
          have w42 : W F37 _ ((p13, .lst us13) :: (p7, .lst vs15_0) :: (p32, .lst us13) :: os) := w41.front (pre := [_])
          have w43 : W F37 _ ((p32, .lst us13) :: (p13, .lst us13) :: (p7, .lst vs15_0) :: os) := w42.front (pre := [_, _])
          exact q33 _ (post_ok hm) _ _ ⟨rfl, _, (s34.trans s37), w43⟩
        · skip
          have w45 : W F37 _ ((p7, .lst vs15_0) :: (p13, .lst us13) :: (p32, .lst us13) :: os) := w37.front (pre := [_, _])
          have w46 : W F37 _ ((p13, .lst us13) :: (p7, .lst vs15_0) :: (p32, .lst us13) :: os) := w45.front (pre := [_])
          have w47 : W F37 _ ((p32, .lst us13) :: (p13, .lst us13) :: (p7, .lst vs15_0) :: os) := w46.front (pre := [_, _])
          exact ⟨_, rfl, _, rfl, (y13.1 : (List (Int × Int))), (y13.1 : (List (Int × Int))), (rep_own (pre := [_]) w37 h31), (rep_own (pre := []) w37 g13), _, rfl, q33 _ (post_ok hm) _ _ ⟨rfl, _, (s34.trans s37), w47⟩⟩
      intro j33 c33 H33 hc33 hm
      obtain ⟨rfl, F33, s33, w33⟩ := hc33
      replace h1 := A2.mono s33 h1
      replace q1 := s33.seq q1
      replace q10 := s33 _ _ q10
      replace h11 := A2.mono s33 h11
      replace q11 := s33 _ _ q11
      replace h31 := A2.mono s33 h31
      replace g13 := A2.mono s33 g13
      replace h15_0 := A2.mono s33 h15_0
      replace sF := sF.trans s33
      refine post_ite hm (fun k48 hm => ?_) (fun k48 hm => ?_)
      · skip
        have hm := hZ2 _ (post_ok hm)
        have w49 : W F33 _ ((p13, .lst us13) :: (p7, .lst vs15_0) :: os) := w33.drop (pre := [])
        have w50 : W F33 _ ((p7, .lst vs15_0) :: os) := w49.drop (pre := [])
        have w51 : W F33 _ (os) := w50.drop (pre := [])
        exact (post_ok hm) _ _ _ w51 sF rep_b
      · skip
        have w52 : W F33 _ ((p13, .lst us13) :: (p7, .lst vs15_0) :: os) := w33.drop (pre := [])
        have w53 : W F33 _ ((p7, .lst vs15_0) :: os) := w52.drop (pre := [])
        have w54 : W F33 _ (os) := w53.drop (pre := [])
        exact hN2 _ (post_ok hm) _ _ ⟨_, _, _, _, _, _, _, _, rfl, (s2.trans (s6.trans (s7.trans (s9.trans (s12.trans (s13.trans (s15.trans s33))))))), w54⟩
    intro g2 σ2 H2 hI hm
    obtain ⟨F2, o2_3, o2_4, o2_5, o2_6, o2_7, o2_1, o2_2, rfl, s2, w2⟩ := hI
    replace q1 := s2.seq q1
    replace h1 := A2.mono s2 h1
    replace g3 := A2.mono s2 g3
    replace q5 := s2 _ _ q5
    replace sF := sF.trans s2
    exact (post_ok hm) _ _ _ w2 sF rep_b
end
end G
/-! MA: webs drawn from a pot (k02 to k17) -/
namespace G
open PySem L2 Z
def PotOk (s : List Int) : Prop := s ≠ [] ∧ s.length ≤ 2 ∧ ∀ x ∈ s, 0 ≤ x
theorem take_okW {s : List Int} {m : Int} (h : PotOk s) (h0 : 0 < m) (h1 : m.natAbs.log2 < 9000) : Post (law_take s m) (fun r => 0 ≤ r.1 ∧ r.1 < m ∧ PotOk r.2) noX := by
  obtain ⟨hne, hl, hp⟩ := h
  unfold law_take
  have split : ∃ ys y, s = ys ++ [y] := ⟨s.dropLast, s.getLast hne, (List.dropLast_concat_getLast hne).symm⟩
  obtain ⟨ys, y, rfl⟩ := split
  have y0 : 0 ≤ y := hp y (by simp)
  have hdiv : 0 ≤ y / m := Int.ediv_nonneg y0 (by omega)
  have eset : setI (ys ++ [y]) (-1) (y / m) = R.ok (ys ++ [y / m]) := by
    unfold setI
    have e : ixN (ys ++ [y]).length (-1) = some ys.length := by
      unfold ixN
      rw [if_neg (by decide), if_pos (by rw [List.length_append, List.length_singleton]; omega)]
      rw [List.length_append, List.length_singleton]
      congr 1
      omega
    rw [e]
    simp
  refine po_getE (getI_last y) (po_mod h0 fun r0 r1 => po_getE (getI_last y) (po_divW h0 h1 ?_))
  rw [eset, ok_bind]
  have ok2 : PotOk (ys ++ [y / m]) := by
    refine ⟨by simp, by simpa using hl, fun x hx => ?_⟩
    rcases List.mem_append.mp hx with hx | hx
    · exact hp x (List.mem_append_left _ hx)
    · rw [List.mem_singleton] at hx
      rw [hx]; exact hdiv
  refine po_bind (Q := PotOk) ?_ fun g hg => ⟨r0, r1, hg⟩
  refine po_bind (Q := fun j => j = true → 1 < (ys ++ [y / m]).length) (po_getE (getI_last (y / m)) (po_if (fun c => ?_) (fun c => ?_))) fun j hj => po_if (fun c => ?_) (fun c => ok2)
  · intro e
    have := of_decide_eq_true e
    omega
  · intro e
    cases e
  · have hlen := hj c
    have e : popI (ys ++ [y / m]) = R.ok (y / m, ys) := by
      unfold popI
      simp
    rw [e, ok_bind]
    rw [List.length_append, List.length_singleton] at hlen hl
    refine ⟨fun e => ?_, by show ys.length ≤ 2; omega, fun x hx => hp x (List.mem_append_left _ hx)⟩
    have e' : ys = [] := e
    rw [e'] at hlen
    simp at hlen
theorem take_ok {s : List Int} {m : Int} (h : PotOk s) (h0 : 0 < m) (h1 : m < 1073741824) : Post (law_take s m) (fun r => 0 ≤ r.1 ∧ r.1 < m ∧ PotOk r.2) noX := take_okW h h0 (Nat.lt_of_lt_of_le ((Nat.log2_lt (by omega)).mpr (show m.natAbs < 2 ^ 30 by omega)) (by decide))
theorem pot_ok {c k : Int} (k0 : 0 ≤ k) (k1 : k < 1000) : Post (law_pot c k) PotOk noX := by
  unfold law_pot
  refine po_bind (po_fold (fun g => 0 ≤ g.1 ∧ g.1 < 2147483647 ∧ ∃ y, g.2 = [y] ∧ 0 ≤ y) ⟨Int.emod_nonneg _ (by decide), Int.emod_lt_of_pos _ (by decide), 0, rfl, Int.le_refl _⟩ ?_) ?_
  · rintro ⟨m, l⟩ x ⟨m0, m1, y, e, y0⟩ hx
    have e' : l = [y] := e
    subst e'
    have m0' : 0 ≤ m := m0
    have m1' : m < 2147483647 := m1
    refine po_mul (.inl ⟨by show -(2 ^ 64) < m; omega, by show m < 2 ^ 64; omega⟩) (po_getE (x := y) rfl (po_set (Int.le_refl _) (by show (0 : Int) < 1; decide) ?_))
    refine ⟨Int.emod_nonneg _ (by decide), Int.lt_trans (Int.emod_lt_of_pos _ (by decide)) (by decide), _, rfl, ?_⟩
    have h1 : 0 ≤ (m * m + 48271 * m + 3 * x + k) % 2147483629 := Int.emod_nonneg _ (by decide)
    have h2 : 0 ≤ y * 2147483629 := Int.mul_nonneg y0 (by decide)
    show 0 ≤ y * 2147483629 + (m * m + 48271 * m + 3 * x + k) % 2147483629
    omega
  · rintro ⟨m, l⟩ ⟨_, _, y, e, y0⟩
    have e' : l = [y] := e
    subst e'
    refine po_bind (Q := PotOk) (po_if (fun c => ?_) (fun _ => ?_)) fun g hg => hg
    · have c' := of_decide_eq_true c
      refine po_app (by show 1 < 100000; decide) ⟨by simp, by simp, fun x hx => ?_⟩
      have hx' : x ∈ [y, _] := hx
      simp at hx'
      rcases hx' with rfl | rfl
      · exact y0
      · refine Int.le_trans ?_ c'
        decide
    · exact ⟨by simp, by simp, fun x hx => by simp at hx; rw [hx]; exact y0⟩
theorem cells_ok {sc : Scr} {m : Int} (h : sc.l.length ≤ 63) (m0 : 0 < m) (m1 : m < 100) : Post (law_cells sc m) (fun l => (l.length : Int) ≤ m) noX := by
  unfold law_cells
  refine po_if (fun c => by show ((1 : Nat) : Int) ≤ m; omega) (fun c => ?_)
  have hne : 0 < sc.l.length := by
    cases e : sc.l with
    | nil =>
      exfalso
      apply c
      rw [decide_eq_true]
      obtain ⟨l⟩ := sc
      simp at e
      rw [e]
    | cons x l => simp
  unfold law_folded
  have hm : 0 < min2 m (sc.l.length : Int) ∧ min2 m (sc.l.length : Int) ≤ m := by
    unfold min2
    split <;> omega
  refine po_bind (Q := fun l => (l.length : Int) ≤ m) (po_rep (by omega) (by omega) (by decide) ?_) fun y hy => hy
  have hlen : (repL [(0 : Int)] (min2 m (sc.l.length : Int))).length = (min2 m (sc.l.length : Int)).toNat := by
    unfold repL
    simp
  refine po_bind (po_fold (fun g => g.length = (min2 m (sc.l.length : Int)).toNat) hlen fun g x hg hx => ?_) fun g hg => ?_
  · refine po_mod hm.1 fun r0 r1 => po_get r0 (by omega) fun _ _ _ => po_mod hm.1 fun s0 s1 => po_set s0 (by omega) ?_
    show (List.set _ _ _).length = _
    rw [List.length_set]
    exact hg
  · show (g.length : Int) ≤ m
    omega
/-! ### an order -/
theorem order_ok {s : List Int} {n : Int} (h : PotOk s) (n0 : 0 ≤ n) (n1 : n < 10000) : Post (law_order s n) (fun r => r.1.Perm (rng 0 n) ∧ PotOk r.2) noX := by
  unfold law_order
  have hl : (rng 0 n).length = n.toNat := by rw [rng_length]; omega
  refine po_listRng (by decide) (by decide) (by omega) (by omega) (by omega) (po_rng (by decide) (by decide) (by omega) (by omega) ?_)
  refine po_bind (po_mapStA (fun pre acc g => (acc ++ g.1).Perm (rng 0 n) ∧ pre.length = acc.length ∧ PotOk g.2) (by omega) ⟨List.Perm.refl _, rfl, h⟩ ?_) ?_
  · rintro pre acc ⟨left, pot⟩ x post e ⟨h1, h2, h3⟩
    have h1' : (acc ++ left).Perm (rng 0 n) := h1
    have hlen := h1'.length_eq
    rw [List.length_append, hl] at hlen
    have hxl : pre.length + (post.length + 1) = n.toNat := by
      have := congrArg List.length e
      rw [hl] at this
      simp at this
      omega
    have h2' : pre.length = acc.length := h2
    refine po_bind (take_ok h3 (by show (0 : Int) < left.length; omega) (by show (left.length : Int) < _; omega)) fun y ⟨y0, y1, hy⟩ => ?_
    have y1' : y.1 < (left.length : Int) := y1
    refine po_popB y0 y1' (by omega) fun z hz => ?_
    refine ⟨?_, by show (pre ++ [x]).length = (acc ++ [z]).length; rw [List.length_append, List.length_append, h2']; rfl, hy⟩
    show ((acc ++ [z]) ++ left.eraseIdx y.1.toNat).Perm _
    refine List.Perm.trans ?_ h1'
    rw [List.append_assoc]
    refine List.Perm.append_left _ ?_
    have hj := (List.getElem?_eq_some_iff.mp hz)
    obtain ⟨hj1, hj2⟩ := hj
    have : left.Perm (z :: left.eraseIdx y.1.toNat) := by
      have e1 : left = left.take y.1.toNat ++ z :: left.drop (y.1.toNat + 1) := by
        rw [← hj2, ← List.drop_eq_getElem_cons hj1, List.take_append_drop]
      have e2 : left.eraseIdx y.1.toNat = left.take y.1.toNat ++ left.drop (y.1.toNat + 1) := List.eraseIdx_eq_take_drop_succ _ _
      rw [e2]
      conv => lhs; rw [e1]
      exact List.perm_middle
    exact this.symm
  · rintro ⟨acc, left, pot⟩ ⟨h1, h2, h3⟩
    have h1' : (acc ++ left).Perm (rng 0 n) := h1
    have h2' : (rng 0 n).length = acc.length := h2
    have := h1'.length_eq
    rw [List.length_append, h2'] at this
    have e : left = [] := List.eq_nil_of_length_eq_zero (by omega)
    subst e
    rw [List.append_nil] at h1'
    exact ⟨h1', h3⟩
/-! ### ties -/
structure TiesOk (b : Nat) (n : Int) (ts : List (Int × Int)) : Prop where
  rg : ∀ p ∈ ts, 0 ≤ p.1 ∧ p.1 < p.2 ∧ p.2 < n
  nd : ts.Nodup
  conn : Conn n ts
  len : ts.length ≤ b
theorem row_map (n : Int) : ((rng 1 n).map fun b => (b - 1, b)).Nodup := List.Pairwise.map _ (fun a b h e => h (by injection e)) (rng_nodup 1 n)
theorem star_map (n : Int) : ((rng 1 n).map fun b => ((0 : Int), b)).Nodup := List.Pairwise.map _ (fun a b h e => h (by injection e)) (rng_nodup 1 n)
theorem row_ok {n : Int} (n0 : 1 ≤ n) (n1 : n ≤ 60) : TiesOk 500 n ((rng 1 n).map fun b => (b - 1, b)) := by
  refine ⟨fun p hp => ?_, row_map n, conn_tree fun k k1 kn => ⟨k - 1, by omega, by omega, .inl (List.mem_map.mpr ⟨k, rng_mem.mpr ⟨k1, kn⟩, rfl⟩)⟩, by rw [List.length_map, rng_length]; omega⟩
  obtain ⟨b, hb, rfl⟩ := List.mem_map.mp hp
  have := rng_mem.mp hb
  exact ⟨by show 0 ≤ b - 1; omega, by show b - 1 < b; omega, this.2⟩
theorem star_ok {n : Int} (n0 : 1 ≤ n) (n1 : n ≤ 60) : TiesOk 500 n ((rng 1 n).map fun b => (0, b)) := by
  refine ⟨fun p hp => ?_, star_map n, conn_tree fun k k1 kn => ⟨0, by omega, by omega, .inl (List.mem_map.mpr ⟨k, rng_mem.mpr ⟨k1, kn⟩, rfl⟩)⟩, by rw [List.length_map, rng_length]; omega⟩
  obtain ⟨b, hb, rfl⟩ := List.mem_map.mp hp
  have := rng_mem.mp hb
  exact ⟨by show (0 : Int) ≤ 0; omega, by show 0 < b; omega, this.2⟩
theorem TiesOk.add {b c : Nat} {n : Int} {ts : List (Int × Int)} {p : Int × Int} (h : TiesOk b n ts) (h0 : 0 ≤ p.1) (h1 : p.1 < p.2) (h2 : p.2 < n) (hn : p ∉ ts) (hl : ts.length + 1 ≤ c) : TiesOk c n (ts ++ [p]) := by
  refine ⟨fun q hq => ?_, ?_, h.conn.mono fun q hq => List.mem_append_left _ hq, by rw [List.length_append, List.length_singleton]; exact hl⟩
  · rcases List.mem_append.mp hq with hq | hq
    · exact h.rg q hq
    · rw [List.mem_singleton] at hq
      rw [hq]; exact ⟨h0, h1, h2⟩
  · rw [List.nodup_append]
    refine ⟨h.nd, by simp, fun a ha c hc e => ?_⟩
    rw [List.mem_singleton] at hc
    rw [e, hc] at ha
    exact hn ha
/-- pairs below, row by row -/
structure Low (k : Int) (ts : List (Int × Int)) : Prop where
  rg : ∀ p ∈ ts, 0 ≤ p.1 ∧ p.1 < p.2 ∧ p.2 < k
  nd : ts.Nodup
theorem Low.ext {k : Int} {ts us : List (Int × Int)} (h : Low k ts) (hu : ∀ p ∈ us, 0 ≤ p.1 ∧ p.1 < p.2 ∧ p.2 = k) (hn : us.Nodup) : Low (k + 1) (ts ++ us) := by
  refine ⟨fun p hp => ?_, ?_⟩
  · rcases List.mem_append.mp hp with hp | hp
    · have := h.rg p hp
      omega
    · have := hu p hp
      omega
  · rw [List.nodup_append]
    refine ⟨h.nd, hn, fun a ha c hc e => ?_⟩
    have h1 := h.rg a ha
    have h2 := hu c hc
    rw [e] at h1
    omega
/-- bunches: a list of ties, and what it lacks to hang together -/
theorem bunches_ok {s : List Int} {n : Int} (h : PotOk s) (n0 : 1 ≤ n) (n1 : n ≤ 60) (n2 : n < 13) : Post (law_bunches s n) (fun r => TiesOk 500 n r.1 ∧ PotOk r.2) noX := by
  unfold law_bunches
  refine po_bind (take_ok h (by decide) (by decide)) fun y2 ⟨a0, a1, ha⟩ => ?_
  refine po_rng (by decide) (by decide) (by omega) (by omega) ?_
  refine po_bind (po_mapStN (fun _ g => PotOk g) (fun _ => True) (by rw [rng_length]; omega) ha fun k g x hk hg hx => po_bind (take_ok hg (by decide) (by decide)) fun y ⟨_, _, hy⟩ => ⟨trivial, hy⟩) fun l4 ⟨b0, _, b1⟩ => ?_
  refine po_rng (by decide) (by decide) (by omega) (by omega) ?_
  refine po_bind (po_mapStN (fun _ g => PotOk g) (fun v => 0 ≤ v ∧ v < 2 + y2.1) (by rw [rng_length]; omega) b1 fun k g x hk hg hx => po_bind (take_ok hg (by omega) (by omega)) fun y ⟨y0, y1, hy⟩ => ⟨⟨y0, y1⟩, hy⟩) fun l12 ⟨c0, cv, c1⟩ => ?_
  rw [rng_length] at b0 c0
  refine po_rng (by decide) (by decide) (by omega) (by omega) ?_
  refine po_bind (po_foldP (fun pre g => Low pre.length g ∧ g.length ≤ 13 * pre.length) ⟨⟨fun _ h => (nomatch h), List.nodup_nil⟩, Nat.zero_le _⟩ ?_) fun g21 ⟨hlow, hlen⟩ => ?_
  · intro pre g k post e ⟨h1, h2⟩
    obtain ⟨e1, k0, kn⟩ := rng_split e
    have ek : k = 0 + (pre.length : Int) := rng_pre e
    refine po_rng (by decide) (by decide) (by omega) (by omega) ?_
    refine po_bind (Q := fun g' => Low (k + 1) g' ∧ g'.length ≤ 13 * pre.length + k.toNat) (Post.mono (po_foldP (fun pr g' => ∃ us, g' = g ++ us ∧ us.length ≤ pr.length ∧ us.Nodup ∧ ∀ p ∈ us, 0 ≤ p.1 ∧ p.1 < (pr.length : Int) ∧ p.2 = k) ⟨[], by simp, Nat.le_refl _, List.nodup_nil, fun _ h => nomatch h⟩ ?_) ?_ fun _ z => z) fun g' ⟨q1, q2⟩ => ?_
    · intro pr g' j po ej ⟨us, eu, ul, un, ur⟩
      obtain ⟨ej1, j0, jk⟩ := rng_split ej
      have ejn : j = 0 + (pr.length : Int) := rng_pre ej
      refine po_get j0 (by omega) fun t25 m25 _ => po_get k0 (by omega) fun t26 m26 _ => ?_
      refine po_bind (Q := fun _ => True) ?_ fun j27 _ => po_if (fun _ => ?_) (fun _ => ?_)
      · refine po_if (fun _ => trivial) fun _ => ?_
        refine po_bind (Q := fun _ => True) (po_if (fun _ => ?_) fun _ => trivial) fun _ _ => trivial
        refine po_get k0 (by omega) fun t32 m32 _ => ?_
        have := cv t32 m32
        exact po_get this.1 (by omega) fun _ _ _ => trivial
      · refine po_app (by rw [eu, List.length_append]; omega) ⟨us ++ [(j, k)], by rw [eu, List.append_assoc], by rw [List.length_append, List.length_append]; simp; omega, ?_, fun p hp => ?_⟩
        · rw [List.nodup_append]
          refine ⟨un, by simp, fun a ha c hc ec => ?_⟩
          rw [List.mem_singleton] at hc
          have := ur a ha
          rw [ec, hc] at this
          have h3 : j < (pr.length : Int) := this.2.1
          omega
        · rw [List.length_append, List.length_singleton]
          rcases List.mem_append.mp hp with hp | hp
          · have := ur p hp
            omega
          · rw [List.mem_singleton] at hp
            rw [hp]
            exact ⟨j0, by show j < _; omega, rfl⟩
      · refine ⟨us, eu, by rw [List.length_append]; omega, un, fun p hp => ?_⟩
        have := ur p hp
        rw [List.length_append, List.length_singleton]
        omega
    · rintro g' ⟨us, eu, ul, un, ur⟩
      have hkl : ((rng 0 k).length : Int) = k := rng_len k0
      rw [eu]
      refine ⟨?_, by rw [List.length_append]; omega⟩
      have ek' : (pre.length : Int) = k := by omega
      rw [ek'] at h1
      refine h1.ext (fun p hp => ?_) un
      have := ur p hp
      omega
    · refine ⟨?_, by rw [List.length_append, List.length_singleton]; omega⟩
      rw [List.length_append, List.length_singleton]
      have : ((pre.length + 1 : Nat) : Int) = k + 1 := by omega
      rw [this]
      exact q1
  · have hnl : ((rng 0 n).length : Int) = n := rng_len (by omega)
    rw [hnl] at hlow
    have hlen' : g21.length ≤ 13 * 13 := by
      have : (rng 0 n).length ≤ 13 := by omega
      omega
    refine po_rng (by decide) (by decide) (by omega) (by omega) ?_
    -- near: all joined to 0 by g21; the neighbours of 0 are in it
    refine po_bind (po_foldN (fun t g => (∀ k, mhas g k = true → ∀ S : Int → Prop, S 0 → (∀ p ∈ g21, S p.1 ↔ S p.2) → S k) ∧ mhas g 0 = true ∧ g.length ≤ 1 + 2 * 169 * t ∧ (0 < t → ∀ k, (0, k) ∈ g21 → mhas g k = true)) ⟨?_, rfl, by show 1 ≤ 1 + 0; omega, fun h => absurd h (Nat.lt_irrefl _)⟩ ?_) fun g43 ⟨p1, p2, p3, p4⟩ => ?_
    · intro k hk S h0 _
      obtain ⟨p, hp, e⟩ := mhas_iff.mp hk
      have hp' : p ∈ [((0 : Int), true)] := hp
      rw [List.mem_singleton] at hp'
      rw [hp'] at e
      have e' : (0 : Int) = k := e
      rw [← e']; exact h0
    · rintro t g x ht ⟨p1, p2, p3, p4⟩ hx
      refine po_bind (po_foldP (fun pre g' => (∀ k, mhas g' k = true → ∀ S : Int → Prop, S 0 → (∀ p ∈ g21, S p.1 ↔ S p.2) → S k) ∧ mhas g' 0 = true ∧ g'.length ≤ g.length + 2 * pre.length ∧ (∀ k, mhas g k = true → mhas g' k = true) ∧ (∀ k, (0, k) ∈ pre → mhas g' k = true)) ⟨p1, p2, by simp, fun _ h => h, fun _ h => nomatch h⟩ ?_) ?_
      · rintro pre g' ⟨a, b⟩ post e ⟨q1, q2, q3, q4, q5⟩
        have hab : (a, b) ∈ g21 := by rw [e]; simp
        have hpl : pre.length < 169 := by
          have := congrArg List.length e
          simp at this
          omega
        have ht' : t < 13 := by
          rw [rng_length] at ht
          omega
        have mput_has : ∀ (m : List (Int × Bool)) (j k : Int), mhas (mput m j true) k = true ↔ (k = j ∨ mhas m k = true) := by
          intro m j k
          rw [mhas_iff, mhas_iff]
          exact mput_keys
        refine po_if (fun c => ?_) (fun c => ?_)
        · refine po_mput (by omega) (po_mput (by rw [mput_length]; split <;> omega) ⟨?_, ?_, ?_, ?_, ?_⟩)
          · intro k hk S h0 hc
            have sab : S a ∧ S b := by
              have hc' := hc (a, b) hab
              rw [Bool.or_eq_true] at c
              rcases c with c | c
              · have := q1 a c S h0 hc
                exact ⟨this, hc'.mp this⟩
              · have := q1 b c S h0 hc
                exact ⟨hc'.mpr this, this⟩
            rcases (mput_has _ _ _).mp hk with rfl | hk
            · exact sab.2
            · rcases (mput_has _ _ _).mp hk with rfl | hk
              · exact sab.1
              · exact q1 k hk S h0 hc
          · exact (mput_has _ _ _).mpr (.inr ((mput_has _ _ _).mpr (.inr q2)))
          · show (mput (mput g' a true) b true).length ≤ g.length + 2 * (pre ++ [(a, b)]).length
            rw [mput_length, mput_length, List.length_append, List.length_singleton]
            split <;> split <;> omega
          · exact fun k hk => (mput_has _ _ _).mpr (.inr ((mput_has _ _ _).mpr (.inr (q4 k hk))))
          · intro k hk
            rcases List.mem_append.mp hk with hk | hk
            · exact (mput_has _ _ _).mpr (.inr ((mput_has _ _ _).mpr (.inr (q5 k hk))))
            · rw [List.mem_singleton] at hk
              injection hk with h1 h2
              exact (mput_has _ _ _).mpr (.inl h2)
        · refine ⟨q1, q2, by rw [List.length_append, List.length_singleton]; omega, q4, fun k hk => ?_⟩
          rcases List.mem_append.mp hk with hk | hk
          · exact q5 k hk
          · rw [List.mem_singleton] at hk
            injection hk with h1 h2
            exfalso
            apply c
            show (mhas g' a || mhas g' b) = true
            rw [← h1, q2]; rfl
      · rintro g' ⟨q1, q2, q3, q4, q5⟩
        refine ⟨q1, q2, ?_, fun _ k hk => q5 k hk⟩
        have : 2 * g21.length ≤ 2 * 169 := by omega
        rw [Nat.mul_add]
        omega
    · refine po_rng (by decide) (by decide) (by omega) (by omega) ?_
      have p4' := p4 (by rw [rng_length]; omega)
      refine po_filGE (g := fun b => if mhas g43 b = true then none else some ((0 : Int), b)) (by rw [rng_length]; omega) (fun b hb => ?_) ?_
      · cases e : mhas g43 b <;> rfl
      · have hfl : ((rng 1 n).filterMap fun b => if mhas g43 b = true then none else some ((0 : Int), b)).length ≤ 60 := by
          refine Nat.le_trans (List.length_filterMap_le _ _) ?_
          rw [rng_length]; omega
        refine po_extend (by omega) ⟨⟨fun p hp => ?_, ?_, ?_, by rw [List.length_append]; omega⟩, c1⟩
        · rcases List.mem_append.mp hp with hp | hp
          · exact hlow.rg p hp
          · obtain ⟨b, hb, e⟩ := List.mem_filterMap.mp hp
            split at e
            · cases e
            · cases e
              have := rng_mem.mp hb
              exact ⟨Int.le_refl 0, by show (0 : Int) < b; omega, this.2⟩
        · rw [List.nodup_append]
          refine ⟨hlow.nd, ?_, fun a ha c hc e => ?_⟩
          · refine List.Pairwise.filterMap _ (fun a b hab x hx y hy exy => ?_) (rng_nodup 1 n)
            have hx' : (if mhas g43 a = true then none else some ((0 : Int), a)) = some x := hx
            have hy' : (if mhas g43 b = true then none else some ((0 : Int), b)) = some y := hy
            split at hx'
            · cases hx'
            · split at hy'
              · cases hy'
              · cases hx'
                cases hy'
                injection exy with _ h2
                exact hab h2
          · obtain ⟨b, hb, e2⟩ := List.mem_filterMap.mp hc
            split at e2
            · cases e2
            · rename_i hnb
              cases e2
              rw [e] at ha
              exact hnb (p4' b ha)
        · intro S h0 hc
          have hc1 : ∀ p ∈ g21, S p.1 ↔ S p.2 := fun p hp => hc p (List.mem_append_left _ hp)
          intro k k0 kn
          by_cases hk : mhas g43 k = true
          · exact p1 k hk S h0 hc1
          · by_cases hz : k = 0
            · rw [hz]; exact h0
            · refine (hc (0, k) (List.mem_append_right _ (List.mem_filterMap.mpr ⟨k, rng_mem.mpr ⟨by omega, kn⟩, ?_⟩))).mp h0
              rw [if_neg hk]
theorem TiesOk.up {b c : Nat} {n : Int} {ts : List (Int × Int)} (h : TiesOk b n ts) (hl : b ≤ c) : TiesOk c n ts := ⟨h.rg, h.nd, h.conn, Nat.le_trans h.len hl⟩
theorem ties_ok {s : List Int} {n : Int} (h : PotOk s) (n0 : 1 ≤ n) (n1 : n ≤ 60) : Post (law_ties s n) (fun r => TiesOk 700 n r.1 ∧ PotOk r.2) noX := by
  unfold law_ties
  have hl1 : (rng 1 n).length < 100 := by rw [rng_length]; omega
  refine po_bind (take_ok h (by decide) (by decide)) fun y2 ⟨a0, a1, ha⟩ => ?_
  refine po_rng (by decide) (by decide) (by omega) (by omega) (po_mapGE (g := fun b => (b - 1, b)) (by omega) (fun b _ => rfl) ?_)
  have hrow := row_ok n0 n1
  -- ring
  refine po_bind (Q := fun g => TiesOk 500 n g) (po_if (fun c => ?_) fun _ => hrow) fun g8 h8 => ?_
  · rw [Bool.and_eq_true] at c
    have c2 := of_decide_eq_true c.2
    have hll : ((rng 1 n).map fun b => (b - 1, b)).length < 100 := by rw [List.length_map]; exact hl1
    refine po_app (by omega) (hrow.add (by show (0 : Int) ≤ 0; omega) (by show 0 < n - 1; omega) (by show n - 1 < n; omega) (fun hm => ?_) (by omega))
    obtain ⟨b, hb, e⟩ := List.mem_map.mp hm
    injection e with e1 e2
    omega
  -- star
  refine po_bind (Q := fun g => TiesOk 500 n g) (po_if (fun _ => ?_) fun _ => h8) fun g17 h17 => ?_
  · refine po_rng (by decide) (by decide) (by omega) (by omega) (po_mapGE (g := fun b => ((0 : Int), b)) (by omega) (fun b _ => rfl) ?_)
    exact star_ok n0 n1
  -- whole
  refine po_bind (Q := fun g => TiesOk 500 n g) (po_if (fun c => ?_) fun _ => h17) fun g26 h26 => ?_
  · rw [Bool.and_eq_true] at c
    have c2 := of_decide_eq_true c.2
    refine po_rng (by decide) (by decide) (by omega) (by omega) (po_bind (po_foldP (fun pre g => Low pre.length g ∧ g.length ≤ 20 * pre.length ∧ ∀ k : Int, 1 ≤ k → k < pre.length → (k - 1, k) ∈ g) ⟨⟨fun _ h => (nomatch h), List.nodup_nil⟩, Nat.zero_le _, fun k k1 k2 => absurd k2 (by show ¬ k < (0 : Int); omega)⟩ ?_) ?_)
    · intro pre g k post e ⟨q1, q2, q3⟩
      obtain ⟨e1, k0, kn⟩ := rng_split e
      have ek : k = 0 + (pre.length : Int) := rng_pre e
      refine po_rng (by decide) (by decide) (by omega) (by omega) (po_mapGE (g := fun b => (b, k)) (by rw [rng_length]; omega) (fun b _ => rfl) ?_)
      refine po_extend (by rw [List.length_map, rng_length]; omega) ⟨?_, by rw [List.length_append, List.length_append, List.length_map, rng_length, List.length_singleton]; omega, fun j j1 j2 => ?_⟩
      · have e2 : ((pre ++ [k]).length : Int) = k + 1 := by rw [List.length_append, List.length_singleton]; omega
        rw [e2]
        have e3 : (pre.length : Int) = k := by omega
        rw [e3] at q1
        refine q1.ext (fun p hp => ?_) (List.Pairwise.map _ (fun a b h e => h (by injection e)) (rng_nodup 0 k))
        obtain ⟨b, hb, rfl⟩ := List.mem_map.mp hp
        have := rng_mem.mp hb
        exact ⟨this.1, this.2, rfl⟩
      · rw [List.length_append, List.length_singleton] at j2
        by_cases hj : j < (pre.length : Int)
        · exact List.mem_append_left _ (q3 j j1 hj)
        · have : j = k := by omega
          rw [this] at j1 ⊢
          exact List.mem_append_right _ (List.mem_map.mpr ⟨k - 1, rng_mem.mpr ⟨by omega, by omega⟩, rfl⟩)
    · intro g ⟨q1, q2, q3⟩
      have hnl : ((rng 0 n).length : Int) = n := rng_len (by omega)
      rw [hnl] at q1
      refine ⟨q1.rg, q1.nd, conn_tree fun k k1 kn => ⟨k - 1, by omega, by omega, .inl (q3 k k1 (by omega))⟩, by omega⟩
  -- bunches
  refine po_bind (Q := fun g => TiesOk 500 n g.1 ∧ PotOk g.2) (po_if (fun c => ?_) fun _ => ⟨h26, ha⟩) fun g46 ⟨h46, p46⟩ => ?_
  · rw [Bool.and_eq_true] at c
    have c2 := of_decide_eq_true c.2
    exact po_bind (bunches_ok ha n0 n1 c2) fun y hy => hy
  -- trees
  refine po_bind (Q := fun g => TiesOk 500 n g.1 ∧ PotOk g.2) (po_if (fun c => ?_) fun _ => ⟨h46, p46⟩) fun g57 ⟨h57, p57⟩ => ?_
  · refine po_rng (by decide) (by decide) (by omega) (by omega) (po_bind (po_foldP (fun pre g => (∀ p ∈ g.1, 0 ≤ p.1 ∧ p.1 < p.2 ∧ p.2 < 1 + (pre.length : Int)) ∧ g.1.Nodup ∧ g.1.length = pre.length ∧ PotOk g.2 ∧ ∀ k : Int, 1 ≤ k → k < 1 + (pre.length : Int) → ∃ j, 0 ≤ j ∧ j < k ∧ (j, k) ∈ g.1)
      ⟨fun _ h => (nomatch h), List.nodup_nil, rfl, p46, fun k k1 k2 => absurd k2 (by show ¬ k < 1 + (0 : Int); omega)⟩ ?_) ?_)
    · rintro pre ⟨g, pot⟩ k post e ⟨q1, q2, q3, q4, q5⟩
      obtain ⟨e1, k0, kn⟩ := rng_split e
      have ek : k = 1 + (pre.length : Int) := rng_pre e
      have q3' : g.length = pre.length := q3
      refine po_bind (take_ok q4 (by omega) (by omega)) fun y ⟨b0, b1, hb⟩ => po_bind (take_ok hb (by decide) (by decide)) fun z ⟨c0, c1, hc⟩ => ?_
      refine po_get c0 c1 fun t ht _ => po_app (by show g.length < 100000; omega) ?_
      have tr : 0 ≤ t ∧ t < k := by
        have ht' : t = y.1 ∨ t = k - 1 ∨ t = max2 0 (k - 2) := by simpa using ht
        rcases ht' with rfl | rfl | rfl
        · exact ⟨b0, b1⟩
        · omega
        · unfold max2
          split <;> omega
      have hpl : ((pre ++ [k]).length : Int) = k := by rw [List.length_append, List.length_singleton]; omega
      refine ⟨fun p hp => ?_, ?_, by show (g ++ [(t, k)]).length = _; rw [List.length_append, List.length_append, q3']; rfl, hc, fun j j1 j2 => ?_⟩
      · rw [hpl]
        rcases List.mem_append.mp hp with hp | hp
        · have := q1 p hp
          omega
        · rw [List.mem_singleton] at hp
          rw [hp]
          exact ⟨tr.1, tr.2, by show k < 1 + k; omega⟩
      · show (g ++ [(t, k)]).Nodup
        rw [List.nodup_append]
        refine ⟨q2, by simp, fun a ha c hc e => ?_⟩
        rw [List.mem_singleton] at hc
        have := (q1 a ha).2.2
        rw [e, hc] at this
        have this' : k < 1 + (pre.length : Int) := this
        omega
      · rw [hpl] at j2
        by_cases hj : j < k
        · obtain ⟨i, i0, i1, hi⟩ := q5 j j1 (by omega)
          exact ⟨i, i0, i1, List.mem_append_left _ hi⟩
        · have : j = k := by omega
          rw [this]
          exact ⟨t, tr.1, tr.2, List.mem_append_right _ (List.mem_singleton_self _)⟩
    · rintro ⟨g, pot⟩ ⟨q1, q2, q3, q4, q5⟩
      have hnl : ((rng 1 n).length : Int) = n - 1 := by rw [rng_length]; omega
      have q3' : g.length = (rng 1 n).length := q3
      refine ⟨⟨fun p hp => ?_, q2, conn_tree fun k k1 kn => ?_, by show g.length ≤ 500; omega⟩, q4⟩
      · have := q1 p hp
        omega
      · obtain ⟨j, j0, j1, hj⟩ := q5 k k1 (by omega)
        exact ⟨j, j0, j1, .inl hj⟩
  -- some more
  refine po_bind (Q := fun g => TiesOk 700 n g.1 ∧ PotOk g.2) (po_if (fun c => ?_) fun _ => ⟨h57.up (by decide), p57⟩) fun g77 h77 => by exact ⟨h77.1, h77.2⟩
  refine po_bind (take_ok p57 (by decide) (by decide)) fun y ⟨b0, b1, hb⟩ => po_get b0 b1 fun t ht _ => ?_
  have tr : 0 < t ∧ t ≤ 142 := by
    have ht' : t = 7 ∨ t = 7 ∨ t = 7 ∨ t = 142 := by simpa using ht
    omega
  refine po_bind (take_ok hb (by omega) (by omega)) fun z ⟨c0, c1, hc⟩ => po_rng (by decide) (by decide) (by omega) (by omega) ?_
  refine po_bind (po_foldP (fun pre g => TiesOk (500 + pre.length) n g.2 ∧ PotOk g.1) ⟨h57, hc⟩ ?_) ?_
  · rintro pre ⟨pot, g⟩ x post e ⟨q1, q2⟩
    have hpl : pre.length + 1 ≤ 142 := by
      have := congrArg List.length e
      rw [rng_length] at this
      simp at this
      omega
    have q1' : TiesOk (500 + pre.length) n g := q1
    refine po_bind (take_ok q2 (by omega) (by omega)) fun u ⟨u0, u1, hu⟩ => po_bind (take_ok hu (by omega) (by omega)) fun v ⟨v0, v1, hv⟩ => po_if (fun c => ?_) fun _ => ?_
    · rw [Bool.and_eq_true] at c
      have c1 := of_decide_eq_true c.1
      have c2 : (u.1, v.1) ∉ g := by
        have := c.2
        rw [Bool.not_eq_true'] at this
        exact inB_f.mp this
      have hgl := q1'.len
      refine po_app (by show g.length < 100000; omega) ⟨q1'.add u0 c1 v1 c2 ?_, hv⟩
      rw [List.length_append, List.length_singleton]
      omega
    · refine ⟨q1'.up ?_, hv⟩
      rw [List.length_append]
      omega
  · rintro ⟨pot, g⟩ ⟨q1, q2⟩
    refine ⟨TiesOk.up q1 ?_, q2⟩
    rw [rng_length]
    omega
/-! ### the web -/
structure WebOk (n : Int) (ts : List (Int × Int)) : Prop where
  n1 : 1 ≤ n
  n60 : n ≤ 60
  rg : ∀ p ∈ ts, 0 ≤ p.1 ∧ p.1 < p.2 ∧ p.2 < n
  nd : ts.Nodup
  conn : Conn n ts
  len : ts.length ≤ 700
  srt : sortP ts = ts
theorem WebOk.rg4 {n : Int} {ts : List (Int × Int)} (h : WebOk n ts) : ∀ q ∈ ts, 0 ≤ q.1 ∧ q.1 < n ∧ 0 ≤ q.2 ∧ q.2 < n := fun q hq => by
  have := h.rg q hq
  omega
def moved (o : List Int) (p : Int × Int) : Int × Int := (min2 (o.getD p.1.toNat 0) (o.getD p.2.toNat 0), max2 (o.getD p.1.toNat 0) (o.getD p.2.toNat 0))
theorem perm_get {o : List Int} {n : Int} (h : o.Perm (rng 0 n)) (n0 : 0 ≤ n) {k : Int} (k0 : 0 ≤ k) (k1 : k < n) : ∃ x, o[k.toNat]? = some x ∧ 0 ≤ x ∧ x < n := by
  have hl := h.length_eq
  rw [rng_length] at hl
  have hk : k.toNat < o.length := by omega
  refine ⟨o[k.toNat], List.getElem?_eq_getElem hk, ?_⟩
  exact rng_mem.mp (h.mem_iff.mp (List.getElem_mem hk))
theorem perm_getD {o : List Int} {n : Int} (h : o.Perm (rng 0 n)) (n0 : 0 ≤ n) {k : Int} (k0 : 0 ≤ k) (k1 : k < n) : 0 ≤ o.getD k.toNat 0 ∧ o.getD k.toNat 0 < n := by
  obtain ⟨x, e, x0, x1⟩ := perm_get h n0 k0 k1
  rw [List.getD_eq_getElem?_getD, e]
  exact ⟨x0, x1⟩
theorem perm_inj {o : List Int} {n : Int} (h : o.Perm (rng 0 n)) (n0 : 0 ≤ n) {j k : Int} (j0 : 0 ≤ j) (j1 : j < n) (k0 : 0 ≤ k) (k1 : k < n) (e : o.getD j.toNat 0 = o.getD k.toNat 0) : j = k := by
  have hl := h.length_eq
  rw [rng_length] at hl
  have hnd : o.Nodup := (h.nodup_iff).mpr (rng_nodup 0 n)
  have hj : j.toNat < o.length := by omega
  have hk : k.toNat < o.length := by omega
  rw [List.getD_eq_getElem?_getD, List.getD_eq_getElem?_getD, List.getElem?_eq_getElem hj, List.getElem?_eq_getElem hk] at e
  have e' : o[j.toNat] = o[k.toNat] := e
  have hpw := List.pairwise_iff_getElem.mp hnd
  rcases Nat.lt_trichotomy j.toNat k.toNat with q | q | q
  · exact absurd e' (hpw _ _ hj hk q)
  · omega
  · exact absurd e'.symm (hpw _ _ hk hj q)
theorem perm_surj {o : List Int} {n : Int} (h : o.Perm (rng 0 n)) (n0 : 0 ≤ n) {x : Int} (x0 : 0 ≤ x) (x1 : x < n) : ∃ k, 0 ≤ k ∧ k < n ∧ o.getD k.toNat 0 = x := by
  have hx : x ∈ o := h.mem_iff.mpr (rng_mem.mpr ⟨x0, x1⟩)
  obtain ⟨i, hi⟩ := List.mem_iff_getElem?.mp hx
  have hl := h.length_eq
  rw [rng_length] at hl
  have hil := (List.getElem?_eq_some_iff.mp hi).1
  refine ⟨i, by omega, by omega, ?_⟩
  rw [List.getD_eq_getElem?_getD, Int.toNat_natCast, hi]
  rfl
theorem mm_cases (a b : Int) : (min2 a b = a ∧ max2 a b = b ∧ a ≤ b) ∨ (min2 a b = b ∧ max2 a b = a ∧ b ≤ a) := by
  unfold min2 max2
  by_cases h : b < a
  · rw [if_pos h, if_neg (by omega)]
    exact .inr ⟨rfl, rfl, by omega⟩
  · rw [if_neg h]
    by_cases h2 : b > a
    · rw [if_pos h2]
      exact .inl ⟨rfl, rfl, by omega⟩
    · rw [if_neg h2]
      have : a = b := by omega
      subst this
      exact .inl ⟨rfl, rfl, by omega⟩
theorem moved_inj {o : List Int} {n : Int} (h : o.Perm (rng 0 n)) (n0 : 0 ≤ n) {p q : Int × Int} (hp : 0 ≤ p.1 ∧ p.1 < p.2 ∧ p.2 < n) (hq : 0 ≤ q.1 ∧ q.1 < q.2 ∧ q.2 < n) (e : moved o p = moved o q) : p = q := by
  unfold moved at e
  injection e with e1 e2
  have i1 := fun e => perm_inj h n0 (j := p.1) (k := q.1) hp.1 (by omega) hq.1 (by omega) e
  have i2 := fun e => perm_inj h n0 (j := p.2) (k := q.2) (by omega) hp.2.2 (by omega) hq.2.2 e
  have i3 := fun e => perm_inj h n0 (j := p.1) (k := q.2) hp.1 (by omega) (by omega) hq.2.2 e
  have i4 := fun e => perm_inj h n0 (j := p.2) (k := q.1) (by omega) hp.2.2 hq.1 (by omega) e
  rcases mm_cases (o.getD p.1.toNat 0) (o.getD p.2.toNat 0) with ⟨a1, a2, _⟩ | ⟨a1, a2, _⟩ <;> rcases mm_cases (o.getD q.1.toNat 0) (o.getD q.2.toNat 0) with ⟨b1, b2, _⟩ | ⟨b1, b2, _⟩ <;> rw [a1, b1] at e1 <;> rw [a2, b2] at e2
  · exact Prod.ext (i1 e1) (i2 e2)
  · have := i3 e1
    have := i4 e2
    omega
  · have := i4 e1
    have := i3 e2
    omega
  · exact Prod.ext (i1 e2) (i2 e1)
theorem moved_ok {o : List Int} {n : Int} {ts : List (Int × Int)} (ho : o.Perm (rng 0 n)) (n0 : 1 ≤ n) (n1 : n ≤ 60) (h : TiesOk 700 n ts) : WebOk n (sortP (ts.map (moved o))) := by
  have hperm := sortP_perm (ts.map (moved o))
  refine ⟨n0, n1, fun p hp => ?_, ?_, ?_, ?_, ?_⟩
  · obtain ⟨q, hq, rfl⟩ := List.mem_map.mp (hperm.mem_iff.mp hp)
    have hr := h.rg q hq
    have r1 := perm_getD ho (by omega) (k := q.1) hr.1 (by omega)
    have r2 := perm_getD ho (by omega) (k := q.2) (by omega) hr.2.2
    have ne : o.getD q.1.toNat 0 ≠ o.getD q.2.toNat 0 := fun e => by
      have := perm_inj ho (by omega) hr.1 (by omega) (by omega) hr.2.2 e
      omega
    unfold moved
    dsimp only
    rcases mm_cases (o.getD q.1.toNat 0) (o.getD q.2.toNat 0) with ⟨a1, a2, _⟩ | ⟨a1, a2, _⟩ <;> rw [a1, a2] <;> omega
  · refine hperm.nodup_iff.mpr ?_
    refine List.Pairwise.map (R := fun p q => p ≠ q ∧ p ∈ ts ∧ q ∈ ts) _ (fun p q hpq e => hpq.1 (moved_inj ho (by omega) (h.rg p hpq.2.1) (h.rg q hpq.2.2) e)) ?_
    exact h.nd.imp_of_mem fun hp hq hne => ⟨hne, hp, hq⟩
  · intro S h0 hc
    obtain ⟨r, r0, r1, er⟩ := perm_surj ho (by omega) (x := 0) (by omega) (by omega)
    have key := h.conn.any (S := fun k => S (o.getD k.toNat 0)) r0 r1 (by show S (o.getD r.toNat 0); rw [er]; exact h0) fun p hp => by
      have hm : moved o p ∈ sortP (ts.map (moved o)) := hperm.mem_iff.mpr (List.mem_map.mpr ⟨p, hp, rfl⟩)
      have := hc _ hm
      unfold moved at this
      dsimp only at this
      rcases mm_cases (o.getD p.1.toNat 0) (o.getD p.2.toNat 0) with ⟨a1, a2, _⟩ | ⟨a1, a2, _⟩
      · rw [a1, a2] at this
        exact this
      · rw [a1, a2] at this
        exact this.symm
    intro k k0 k1
    obtain ⟨j, j0, j1, ej⟩ := perm_surj ho (by omega) k0 k1
    rw [← ej]
    exact key j j0 j1
  · rw [hperm.length_eq, List.length_map]
    exact h.len
  · exact (sortP_eq (List.Perm.refl _) (sortP_sorted _)).symm
theorem web_ok {s : List Int} {m : Int} (h : PotOk s) (m0 : 1 ≤ m) (m1 : m ≤ 60) : Post (law_web s m) (fun r => WebOk r.1.1 r.1.2.l ∧ PotOk r.2) noX := by
  unfold law_web
  refine po_bind (take_ok h (by omega) (by omega)) fun y2 ⟨a0, a1, ha⟩ => ?_
  refine po_bind (Q := fun g => 1 ≤ g.1 ∧ g.1 ≤ 60 ∧ PotOk g.2) (po_bind (take_ok ha (by decide) (by decide)) fun y4 ⟨b0, b1, hb⟩ => po_if (fun _ => po_bind (take_ok hb (by decide) (by decide)) fun y6 ⟨c0, c1, hc⟩ => ⟨by show 1 ≤ 1 + y6.1; omega, by show 1 + y6.1 ≤ 60; omega, hc⟩) fun _ => ⟨by show 1 ≤ 1 + y2.1; omega, by show 1 + y2.1 ≤ 60; omega, hb⟩) fun g3 ⟨g0, g1, hg⟩ => ?_
  refine po_bind (order_ok hg (by omega) (by omega)) fun y7 ⟨ho, hp⟩ => po_bind (ties_ok hp g0 g1) fun y14 ⟨ht, hq⟩ => ?_
  refine po_bind (Q := fun g => g = y14.1.map (moved y7.1)) (po_foldP (fun pre g => g = pre.map (moved y7.1)) rfl fun pre g x post e hgg => ?_) fun g12 hgg => ?_
  · have hx : x ∈ y14.1 := by rw [e]; simp
    have hr := ht.rg x hx
    obtain ⟨u, eu, _⟩ := perm_get ho (by omega) (k := x.1) hr.1 (by omega)
    obtain ⟨v, ev, _⟩ := perm_get ho (by omega) (k := x.2) (by omega) hr.2.2
    have hlt := ht.len
    have hel := congrArg List.length e
    simp at hel
    refine po_getE (getI_eq hr.1 eu) (po_getE (getI_eq (by omega) ev) (po_getE (getI_eq hr.1 eu) (po_getE (getI_eq (by omega) ev) (po_app (by rw [hgg, List.length_map]; omega) ?_))))
    show _ = _
    rw [hgg, List.map_append]
    congr 1
    show [(min2 u v, max2 u v)] = [moved y7.1 x]
    unfold moved
    rw [List.getD_eq_getElem?_getD, List.getD_eq_getElem?_getD, eu, ev]
    rfl
  · refine ⟨?_, hq⟩
    show WebOk g3.1 (sortP g12)
    rw [hgg]
    exact moved_ok ho g0 g1 ht
end G
/-! MB: neighbours and fars, as the program reckons them -/
namespace G
open PySem L2 Z
/-- the places tied to one, in the ties' order -/
def nbs (ts : List (Int × Int)) (i : Int) : List Int := ts.flatMap fun p => (if p.1 = i then [p.2] else []) ++ (if p.2 = i then [p.1] else [])
theorem nbs_snoc (ts : List (Int × Int)) (x : Int × Int) (i : Int) : nbs (ts ++ [x]) i = nbs ts i ++ ((if x.1 = i then [x.2] else []) ++ (if x.2 = i then [x.1] else [])) := by
  unfold nbs
  rw [List.flatMap_append]
  simp
theorem nbs_mem {ts : List (Int × Int)} {i j : Int} : j ∈ nbs ts i ↔ Adj ts i j := by
  unfold nbs Adj
  rw [List.mem_flatMap]
  constructor
  · rintro ⟨p, hp, h⟩
    rcases List.mem_append.mp h with h | h
    · split at h
      · rename_i e
        rw [List.mem_singleton] at h
        rw [← e, h]
        exact .inl hp
      · cases h
    · split at h
      · rename_i e
        rw [List.mem_singleton] at h
        rw [← e, h]
        exact .inr hp
      · cases h
  · rintro (h | h)
    · exact ⟨_, h, List.mem_append_left _ (by simp)⟩
    · exact ⟨_, h, List.mem_append_right _ (by simp)⟩
theorem nbs_len (ts : List (Int × Int)) (i : Int) : (nbs ts i).length ≤ 2 * ts.length := by
  induction ts with
  | nil => exact Nat.le_refl _
  | cons p ts ih =>
    have e : nbs (p :: ts) i = ((if p.1 = i then [p.2] else []) ++ (if p.2 = i then [p.1] else [])) ++ nbs ts i := rfl
    rw [e, List.length_append, List.length_append, List.length_cons]
    have h1 : (if p.1 = i then [p.2] else []).length ≤ 1 := by split <;> simp
    have h2 : (if p.2 = i then [p.1] else []).length ≤ 1 := by split <;> simp
    omega
theorem map_rng_get {α : Type} {n : Int} {F : Int → α} {j : Int} (h0 : 0 ≤ j) (h1 : j < n) : ((rng 0 n).map F)[j.toNat]? = some (F j) := by
  rw [List.getElem?_map, rng_atE (by omega)]
  show some (F (0 + (j.toNat : Int))) = _
  rw [show (0 : Int) + (j.toNat : Int) = j by omega]
theorem map_rng_set {α : Type} {n : Int} {F : Int → α} {j : Int} {y : α} (h0 : 0 ≤ j) : ((rng 0 n).map F).set j.toNat y = (rng 0 n).map fun i => if i = j then y else F i := by
  apply List.ext_getElem?
  intro k
  rw [List.getElem?_set, List.getElem?_map, List.getElem?_map, List.length_map]
  by_cases hk : k < (n - 0).toNat
  · rw [rng_atE hk]
    by_cases e : j.toNat = k
    · rw [if_pos e, if_pos (by rw [rng_length]; omega)]
      show some y = some (if (0 : Int) + (k : Int) = j then y else F (0 + k))
      rw [if_pos (by omega)]
    · rw [if_neg e]
      show some (F (0 + k)) = some (if (0 : Int) + (k : Int) = j then y else F (0 + k))
      rw [if_neg (by omega)]
  · rw [List.getElem?_eq_none (by rw [rng_length]; omega)]
    by_cases e : j.toNat = k
    · rw [if_pos e, if_neg (by rw [rng_length]; omega)]; rfl
    · rw [if_neg e]
      rfl
theorem map_rng_congr {α : Type} {n : Int} {F G : Int → α} (h : ∀ i, 0 ≤ i → i < n → F i = G i) : (rng 0 n).map F = (rng 0 n).map G := List.map_congr_left fun i hi => h i (rng_mem.mp hi).1 (rng_mem.mp hi).2
theorem range_get {N : Nat} {j : Int} (h0 : 0 ≤ j) (h1 : j < N) : getI (List.range N) j = R.ok j.toNat := by
  refine getI_eq h0 ?_
  rw [List.getElem?_range (by omega)]
def nears (n : Int) (ts : List (Int × Int)) : List (List Int) := (rng 0 n).map fun i => sortI (nbs ts i)
theorem near_lists_ok {n : Int} {ts : List (Int × Int)} (n0 : 0 ≤ n) (n1 : n < 1000) (hl : ts.length < 40000) (hr : ∀ p ∈ ts, 0 ≤ p.1 ∧ p.1 < n ∧ 0 ≤ p.2 ∧ p.2 < n) : near_lists (n, ⟨ts⟩) = R.ok (nears n ts) := by
  refine po_iff ?_
  unfold near_lists
  refine po_rng (by decide) (by decide) (by show -(2 ^ 62) ≤ n; omega) (by show n < 2 ^ 62; omega) ?_
  have hN : (rng 0 n).length = n.toNat := by rw [rng_length]; omega
  refine po_bind (po_mapStA (fun pre acc s => acc = List.range pre.length ∧ s = List.replicate pre.length []) (by show (rng 0 n).length < 100000; omega) ⟨rfl, rfl⟩ fun pre acc s x post e ⟨h1, h2⟩ => ?_) fun l5 ⟨a1, a2⟩ => ?_
  · refine po_newS ⟨?_, ?_⟩
    · show acc ++ [s.length] = _
      rw [h1, h2, List.length_replicate, List.length_append, List.length_singleton, List.range_succ]
    · show s ++ [[]] = _
      rw [h2, List.length_append, List.length_singleton, List.replicate_succ']
  · rw [hN] at a1 a2
    refine po_bind (po_foldP (fun pre g => g = (rng 0 n).map fun i => nbs pre i) ?_ fun pre g x post e hg => ?_) fun g11 hg => ?_
    · rw [a2]
      apply List.ext_getElem?
      intro k
      rw [List.getElem?_replicate, List.getElem?_map]
      by_cases hk : k < n.toNat
      · rw [if_pos hk, rng_atE (by omega)]; rfl
      · rw [if_neg hk, List.getElem?_eq_none (by rw [rng_length]; omega)]; rfl
    · obtain ⟨x1, x2, x3, x4⟩ := hr x (by rw [show ts = pre ++ x :: post from e]; simp)
      have hpl : pre.length < 40000 := by
        have : ts.length = pre.length + (post.length + 1) := by rw [show ts = pre ++ x :: post from e]; simp
        omega
      have hl1 := nbs_len pre x.1
      have hl2 := nbs_len pre x.2
      rw [a1]
      refine po_getE (range_get x1 (by omega)) (po_getS (by rw [hg]; exact map_rng_get x1 x2) (po_app (by omega) (po_setS ?_)))
      rw [hg, map_rng_set x1]
      refine po_getE (range_get x3 (by omega)) (po_getS (map_rng_get x3 x4) (po_app ?_ (po_setS ?_)))
      · split
        · rw [List.length_append, List.length_singleton]; omega
        · omega
      · rw [map_rng_set x3]
        show _ = _
        refine map_rng_congr fun i i0 i1 => ?_
        rw [nbs_snoc]
        by_cases e1 : x.1 = i
        · by_cases e2 : x.2 = i
          · subst e1
            rw [e2]
            simp
          · subst e1
            rw [if_neg (fun q => e2 q.symm), if_pos rfl, if_pos rfl, if_neg e2, List.append_nil]
        · by_cases e2 : x.2 = i
          · subst e2
            rw [if_pos rfl, if_neg (fun q => e1 q.symm), if_neg e1, if_pos rfl, List.nil_append]
          · rw [if_neg (fun q => e2 q.symm), if_neg (fun q => e1 q.symm), if_neg e1, if_neg e2, List.append_nil, List.append_nil]
    · have hg' : g11 = (rng 0 n).map fun i => nbs ts i := hg
      rw [a1]
      refine po_bind (Q := fun l => l = nears n ts) (po_eq (mapG_ok (g := fun b => sortI (nbs ts (b : Nat))) (by rw [List.length_range]; omega) fun b hb => ?_) ?_) fun l h => h
      · have hb' := List.mem_range.mp hb
        refine po_iff (po_getS (xs := nbs ts (b : Nat)) ?_ rfl)
        rw [hg']
        have := map_rng_get (n := n) (F := fun i => nbs ts i) (j := (b : Int)) (by omega) (by omega)
        rw [Int.toNat_natCast] at this
        exact this
      · unfold nears
        apply List.ext_getElem?
        intro k
        rw [List.getElem?_map, List.getElem?_map]
        by_cases hk : k < n.toNat
        · rw [rng_atE (by omega), List.getElem?_range hk]
          show some (sortI (nbs ts (k : Nat))) = some (sortI (nbs ts (0 + (k : Nat))))
          rw [Int.zero_add]
        · rw [List.getElem?_eq_none (by rw [List.length_range]; omega), List.getElem?_eq_none (by rw [rng_length]; omega)]; rfl
theorem sortI_mem {xs : List Int} {x : Int} : x ∈ sortI xs ↔ x ∈ xs := (sortI_perm xs).mem_iff
/-- so many empty lists -/
theorem empties_ok {N : Int} (h0 : 0 ≤ N) (h1 : N < 1000) : Post (mapStG (fun (g5 : (List (List Int))) (b5 : Int) => do
      let r9 ← newS g5 ([] : (List Int))
      R.ok (r9.1, r9.2)) ([] : List (List Int)) (rng 0 N)) (fun l => l.1 = List.range N.toNat ∧ l.2 = List.replicate N.toNat []) noX := by
  have hN : (rng 0 N).length = N.toNat := by rw [rng_length]; omega
  refine Post.mono (po_mapStA (fun pre acc s => acc = List.range pre.length ∧ s = List.replicate pre.length []) (by omega) ⟨rfl, rfl⟩ fun pre acc s x post e ⟨h1, h2⟩ => ?_) (fun l ⟨a1, a2⟩ => by rw [hN] at a1 a2; exact ⟨a1, a2⟩) fun _ z => z
  refine po_newS ⟨?_, ?_⟩
  · show acc ++ [s.length] = _
    rw [h1, h2, List.length_replicate, List.length_append, List.length_singleton, List.range_succ]
  · show s ++ [[]] = _
    rw [h2, List.length_append, List.length_singleton, List.replicate_succ']
/-- ties gathered at both ends -/
theorem gather_ok {n : Int} {ts : List (Int × Int)} (n0 : 0 ≤ n) (n1 : n < 1000) (hl : ts.length < 40000) (hr : ∀ p ∈ ts, 0 ≤ p.1 ∧ p.1 < n ∧ 0 ≤ p.2 ∧ p.2 < n) : Post (foldR (fun (g11 : (List (List Int))) (b11 : (Int × Int)) => do
      let t14 ← getI (List.range n.toNat) b11.1
      let x16 ← getS g11 t14
      let l17 ← app x16 b11.2
      let r17 ← setS g11 t14 l17
      let t18 ← getI (List.range n.toNat) b11.2
      let x20 ← getS r17 t18
      let l21 ← app x20 b11.1
      let r21 ← setS r17 t18 l21
      R.ok r21) (List.replicate n.toNat []) ts) (fun g => g = (rng 0 n).map fun i => nbs ts i) noX := by
  refine po_foldP (fun pre g => g = (rng 0 n).map fun i => nbs pre i) ?_ fun pre g x post e hg => ?_
  · apply List.ext_getElem?
    intro k
    rw [List.getElem?_replicate, List.getElem?_map]
    by_cases hk : k < n.toNat
    · rw [if_pos hk, rng_atE (by omega)]; rfl
    · rw [if_neg hk, List.getElem?_eq_none (by rw [rng_length]; omega)]; rfl
  · obtain ⟨x1, x2, x3, x4⟩ := hr x (by rw [show ts = pre ++ x :: post from e]; simp)
    have hpl : pre.length < 40000 := by
      have : ts.length = pre.length + (post.length + 1) := by rw [show ts = pre ++ x :: post from e]; simp
      omega
    have hl1 := nbs_len pre x.1
    have hl2 := nbs_len pre x.2
    refine po_getE (range_get x1 (by omega)) (po_getS (by rw [hg]; exact map_rng_get x1 x2) (po_app (by omega) (po_setS ?_)))
    rw [hg, map_rng_set x1]
    refine po_getE (range_get x3 (by omega)) (po_getS (map_rng_get x3 x4) (po_app ?_ (po_setS ?_)))
    · split
      · rw [List.length_append, List.length_singleton]; omega
      · omega
    · rw [map_rng_set x3]
      show _ = _
      refine map_rng_congr fun i i0 i1 => ?_
      rw [nbs_snoc]
      by_cases e1 : x.1 = i
      · by_cases e2 : x.2 = i
        · subst e1
          rw [e2]
          simp
        · subst e1
          rw [if_neg (fun q => e2 q.symm), if_pos rfl, if_pos rfl, if_neg e2, List.append_nil]
      · by_cases e2 : x.2 = i
        · subst e2
          rw [if_pos rfl, if_neg (fun q => e1 q.symm), if_neg e1, if_pos rfl, List.nil_append]
        · rw [if_neg (fun q => e2 q.symm), if_neg (fun q => e1 q.symm), if_neg e1, if_neg e2, List.append_nil, List.append_nil]
theorem deref_range {α : Type} {st : List (List α)} {k : Nat} (h : st.length = k) : deref st (List.range k) = R.ok st := by
  unfold deref
  have h1 : mapR (getS st) (List.range k) = R.ok ((List.range k).map fun i => st[i]?.getD []) := mapR_ok fun i hi => by
    have hi' := List.mem_range.mp hi
    unfold getS
    rw [List.getElem?_eq_getElem (by omega)]
    rfl
  rw [h1]
  congr 1
  apply List.ext_getElem?
  intro i
  rw [List.getElem?_map]
  by_cases hi : i < k
  · rw [List.getElem?_range hi, List.getElem?_eq_getElem (by omega)]
    show some (st[i]?.getD []) = _
    rw [List.getElem?_eq_getElem (by omega)]
    rfl
  · rw [List.getElem?_eq_none (by rw [List.length_range]; omega), List.getElem?_eq_none (by omega)]
    rfl
end G
/-! MC: drawn webs: neighbours, fars -/
namespace G
open PySem L2 Z
theorem web_near {n : Int} {ts : List (Int × Int)} (h : WebOk n ts) : near_lists (n, ⟨ts⟩) = R.ok (nears n ts) := near_lists_ok (by have := h.n1; omega) (by have := h.n60; omega) (by have := h.len; omega) h.rg4
theorem enum_mem {α : Type} {xs : List α} {b : Int × α} (h : b ∈ enum xs) : 0 ≤ b.1 ∧ b.1 < (xs.length : Int) ∧ xs[b.1.toNat]? = some b.2 := by
  unfold enum at h
  obtain ⟨i, hi⟩ := List.mem_iff_getElem?.mp h
  rw [List.getElem?_zip_eq_some] at hi
  obtain ⟨h1, h2⟩ := hi
  have hl := (List.getElem?_eq_some_iff.mp h2).1
  rw [rng_atE (by omega)] at h1
  have e : b.1 = (i : Int) := by
    injection h1 with h1
    omega
  rw [e]
  exact ⟨by omega, by omega, by rw [Int.toNat_natCast]; exact h2⟩
theorem web_dist {n : Int} {ts : List (Int × Int)} {p : Int} (h : WebOk n ts) (p0 : 0 ≤ p) (p1 : p < n) : IsDist n ts p (dst n ts p) := conn_ex h.rg4 h.conn p0 p1
theorem WebOk.adj {n : Int} {ts : List (Int × Int)} (h : WebOk n ts) {a b : Int} (q : Adj ts a b) : 0 ≤ a ∧ a < n ∧ 0 ≤ b ∧ b < n ∧ a ≠ b := by
  rcases q with q | q <;> have := h.rg _ q <;> dsimp only at this <;> omega
section
variable {n : Int} {ts : List (Int × Int)} (h : WebOk n ts)
include h
theorem dst_zero {p v : Int} (p0 : 0 ≤ p) (p1 : p < n) (v0 : 0 ≤ v) (v1 : v < n) : dst n ts p v = 0 ↔ v = p := by
  have d := web_dist h p0 p1
  constructor
  · intro e
    apply Classical.byContradiction
    intro hne
    obtain ⟨w, w0, w1, _, ew⟩ := d.desc v v0 v1 hne
    have := d.nn w w0 w1
    omega
  · rintro rfl
    exact d.zero
theorem dst_nn {p v : Int} (p0 : 0 ≤ p) (p1 : p < n) (v0 : 0 ≤ v) (v1 : v < n) : 0 ≤ dst n ts p v := (web_dist h p0 p1).nn v v0 v1
theorem dst_tri {a b x : Int} (q : Adj ts a b) (x0 : 0 ≤ x) (x1 : x < n) : dst n ts a x ≤ dst n ts b x + 1 := by
  obtain ⟨a0, a1, b0, b1, _⟩ := h.adj q
  have da := web_dist h a0 a1
  have db := web_dist h b0 b1
  have key : ∀ (m : Nat) (x : Int), (dst n ts b x).toNat ≤ m → 0 ≤ x → x < n → dst n ts a x ≤ dst n ts b x + 1 := by
    intro m
    induction m with
    | zero =>
      intro x hm x0 x1
      have hx := db.nn x x0 x1
      have e : x = b := (dst_zero h b0 b1 x0 x1).mp (by omega)
      subst e
      have := da.lip a x q
      rw [da.zero] at this
      rw [db.zero]
      exact this
    | succ m ih =>
      intro x hm x0 x1
      by_cases e : x = b
      · subst e
        have := da.lip a x q
        rw [da.zero] at this
        rw [db.zero]
        exact this
      · obtain ⟨y, y0, y1, hy, ey⟩ := db.desc x x0 x1 e
        have := db.nn y y0 y1
        have h1 := ih y (by omega) y0 y1
        have h2 := da.lip y x hy
        omega
  exact key _ x (Nat.le_refl _) x0 x1
theorem dst_le_symm {p v : Int} (p0 : 0 ≤ p) (p1 : p < n) (v0 : 0 ≤ v) (v1 : v < n) : dst n ts v p ≤ dst n ts p v := by
  have dp := web_dist h p0 p1
  have key : ∀ (m : Nat) (v : Int), (dst n ts p v).toNat ≤ m → 0 ≤ v → v < n → dst n ts v p ≤ dst n ts p v := by
    intro m
    induction m with
    | zero =>
      intro v hm v0 v1
      have hx := dp.nn v v0 v1
      have e : v = p := (dst_zero h p0 p1 v0 v1).mp (by omega)
      subst e
      exact Int.le_refl _
    | succ m ih =>
      intro v hm v0 v1
      by_cases e : v = p
      · subst e
        exact Int.le_refl _
      · obtain ⟨w, w0, w1, hw, ew⟩ := dp.desc v v0 v1 e
        have := dp.nn w w0 w1
        have h1 := ih w (by omega) w0 w1
        have h2 := dst_tri h hw.symm p0 p1
        omega
  exact key _ v (Nat.le_refl _) v0 v1
theorem dst_symm {p v : Int} (p0 : 0 ≤ p) (p1 : p < n) (v0 : 0 ≤ v) (v1 : v < n) : dst n ts v p = dst n ts p v := Int.le_antisymm (dst_le_symm h p0 p1 v0 v1) (dst_le_symm h v0 v1 p0 p1)
/-- neighbours are just one far -/
theorem dst_one {p v : Int} (p0 : 0 ≤ p) (p1 : p < n) (v0 : 0 ≤ v) (v1 : v < n) : dst n ts p v = 1 ↔ Adj ts p v := by
  have d := web_dist h p0 p1
  constructor
  · intro e
    obtain ⟨w, w0, w1, hw, ew⟩ := d.desc v v0 v1 (fun q => by
      have := (dst_zero h p0 p1 v0 v1).mpr q
      omega)
    have : w = p := (dst_zero h p0 p1 w0 w1).mp (by omega)
    rw [← this]
    exact hw
  · intro q
    have h1 := d.lip p v q
    rw [d.zero] at h1
    have h2 := d.nn v v0 v1
    have h3 : dst n ts p v ≠ 0 := fun e => (h.adj q).2.2.2.2 ((dst_zero h p0 p1 v0 v1).mp e).symm
    omega
end
theorem perm_nodup {xs ys : List Int} (h1 : xs.Nodup) (h2 : ys.Nodup) (h : ∀ x, x ∈ xs ↔ x ∈ ys) : xs.Perm ys := by
  rw [List.perm_iff_count]
  intro a
  rw [h1.count, h2.count]
  by_cases q : a ∈ xs
  · rw [if_pos q, if_pos ((h a).mp q)]
  · rw [if_neg q, if_neg (fun z => q ((h a).mpr z))]
theorem nbs_nodup {ts : List (Int × Int)} (hn : ts.Nodup) (hr : ∀ p ∈ ts, p.1 < p.2) (i : Int) : (nbs ts i).Nodup := by
  induction ts with
  | nil => exact List.nodup_nil
  | cons p ts ih =>
    have e : nbs (p :: ts) i = ((if p.1 = i then [p.2] else []) ++ (if p.2 = i then [p.1] else [])) ++ nbs ts i := rfl
    obtain ⟨hn1, hn2⟩ := List.nodup_cons.mp hn
    have ih' := ih hn2 fun q hq => hr q (List.mem_cons_of_mem _ hq)
    have hp := hr p List.mem_cons_self
    rw [e]
    by_cases h1 : p.1 = i
    · have h2 : p.2 ≠ i := by omega
      rw [if_pos h1, if_neg h2, List.append_nil]
      refine List.nodup_cons.mpr ⟨fun q => ?_, ih'⟩
      rcases nbs_mem.mp q with q | q
      · exact hn1 (by rw [← h1] at q; exact q)
      · have := hr _ (List.mem_cons_of_mem _ q)
        dsimp only at this
        omega
    · by_cases h2 : p.2 = i
      · rw [if_neg h1, if_pos h2, List.nil_append]
        refine List.nodup_cons.mpr ⟨fun q => ?_, ih'⟩
        rcases nbs_mem.mp q with q | q
        · have := hr _ (List.mem_cons_of_mem _ q)
          dsimp only at this
          omega
        · exact hn1 (by rw [← h2] at q; exact q)
      · rw [if_neg h1, if_neg h2, List.append_nil, List.nil_append]
        exact ih'
theorem rng_sorted (i j : Int) : (rng i j).Pairwise (· < ·) := by
  unfold rng
  refine List.Pairwise.map _ (fun a b h => ?_) List.pairwise_lt_range
  show i + (a : Int) < i + b
  omega
/-- the neighbours of a place, gathered otherwise -/
theorem sort_nbs {n : Int} {ts : List (Int × Int)} (h : WebOk n ts) (i : Int) (P : Int → Bool) (hP : ∀ v, 0 ≤ v → v < n → (P v = true ↔ Adj ts i v)) : sortI (nbs ts i) = (rng 0 n).filter P := by
  refine (sortI_eq ?_ ?_).symm
  · refine perm_nodup ((rng_nodup 0 n).filter _) (nbs_nodup h.nd (fun p hp => (h.rg p hp).2.1) i) fun x => ?_
    rw [List.mem_filter, nbs_mem, rng_mem]
    constructor
    · rintro ⟨⟨x0, x1⟩, hx⟩
      exact (hP x x0 x1).mp hx
    · intro hx
      have := h.adj hx
      exact ⟨⟨this.2.2.1, this.2.2.2.1⟩, (hP x this.2.2.1 this.2.2.2.1).mpr hx⟩
  · exact ((rng_sorted 0 n).sublist List.filter_sublist).imp fun h => Int.le_of_lt h
theorem nears_get {n p : Int} {ts : List (Int × Int)} (p0 : 0 ≤ p) (p1 : p < n) : getI (nears n ts) p = R.ok (sortI (nbs ts p)) := getI_eq p0 (map_rng_get p0 p1)
theorem nbs_len_n {n : Int} {ts : List (Int × Int)} (h : WebOk n ts) (i : Int) : (nbs ts i).length ≤ n.toNat := by
  have := nodup_le (nbs_nodup h.nd (fun p hp => (h.rg p hp).2.1) i) (ys := rng 0 n) fun x hx => by
    have := h.adj (nbs_mem.mp hx)
    exact rng_mem.mpr ⟨this.2.2.1, this.2.2.2.1⟩
  rw [rng_length] at this
  omega
theorem fil_ite {α : Type} (l : List α) (P : α → Bool) : l.filterMap (fun b => if P b = true then some b else none) = l.filter P := by
  induction l with
  | nil => rfl
  | cons a l ih =>
    rw [List.filterMap_cons, List.filter_cons]
    cases P a
    · exact ih
    · show a :: _ = a :: _
      rw [ih]
end G
/-! MF: fars, as the program reckons them -/
namespace G
open PySem L2 Z
/-! ### fars -/
section
variable {n : Int} {ts : List (Int × Int)} {p : Int}
structure Bfs (n : Int) (ts : List (Int × Int)) (p : Int) (at_ : Nat) (line : List Int) (F : Int → Option Int) : Prop where
  le : at_ ≤ line.length
  nd : line.Nodup
  rg : ∀ v ∈ line, 0 ≤ v ∧ v < n
  mem : ∀ v, 0 ≤ v → v < n → (v ∈ line ↔ (F v).isSome = true)
  p0 : F p = some 0
  nn : ∀ v d, F v = some d → 0 ≤ d
  par : ∀ v ∈ line, v = p ∨ ∃ w ∈ line, Adj ts w v ∧ ∃ d, F w = some d ∧ F v = some (d + 1)
  mono : line.Pairwise fun a b => (F a).getD 0 ≤ (F b).getD 0
  cap : ∀ v ∈ line, ∀ u ∈ line.drop at_, (F v).getD 0 ≤ (F u).getD 0 + 1
  done : ∀ i u, i < at_ → line[i]? = some u → ∀ w, Adj ts u w → w ∈ line ∧ (F w).getD 0 ≤ (F u).getD 0 + 1
/-- within a turn: the neighbours of u that are gone through -/
structure BfsIn (n : Int) (ts : List (Int × Int)) (p : Int) (at_ : Nat) (u : Int) (pre : List Int) (line : List Int) (F : Int → Option Int) : Prop where
  b : Bfs n ts p at_ line F
  u0 : line[at_]? = some u
  ok : ∀ w ∈ pre, w ∈ line ∧ (F w).getD 0 ≤ (F u).getD 0 + 1
theorem BfsIn.add {at_ : Nat} {u w : Int} {pre line : List Int} {F : Int → Option Int} {d : Int} (h : BfsIn n ts p at_ u pre line F) (hw : Adj ts u w) (w0 : 0 ≤ w) (w1 : w < n) (hn : F w = none) (hd : F u = some d) :
    BfsIn n ts p at_ u (pre ++ [w]) (line ++ [w]) (fun v => if v = w then some (d + 1) else F v) := by
  have b := h.b
  have hu : u ∈ line := List.mem_of_getElem? h.u0
  have hat : at_ < line.length := (List.getElem?_eq_some_iff.mp h.u0).1
  have hwl : w ∉ line := fun q => by
    have := (b.mem w w0 w1).mp q
    rw [hn] at this
    cases this
  have ne : ∀ v ∈ line, v ≠ w := fun v hv e => hwl (e ▸ hv)
  have eF : ∀ v ∈ line, (if v = w then some (d + 1) else F v) = F v := fun v hv => if_neg (ne v hv)
  have eW : (if w = w then some (d + 1) else F w) = some (d + 1) := if_pos rfl
  have hpl : p ∈ line ∨ True := .inr trivial
  have hd0 := b.nn u d hd
  have hud : u ∈ line.drop at_ := by
    rw [List.mem_iff_getElem?]
    exact ⟨0, by rw [List.getElem?_drop]; exact h.u0⟩
  refine ⟨⟨?_, ?_, ?_, ?_, ?_, ?_, ?_, ?_, ?_, ?_⟩, ?_, ?_⟩
  · rw [List.length_append]; omega
  · rw [List.nodup_append]
    refine ⟨b.nd, by simp, fun a ha c hc => ?_⟩
    rw [List.mem_singleton] at hc
    rw [hc]
    exact ne a ha
  · intro v hv
    rcases List.mem_append.mp hv with hv | hv
    · exact b.rg v hv
    · rw [List.mem_singleton] at hv
      rw [hv]; exact ⟨w0, w1⟩
  · intro v v0 v1
    by_cases e : v = w
    · subst e
      simp
    · show v ∈ line ++ [w] ↔ (if v = w then some (d + 1) else F v).isSome = true
      rw [if_neg e, ← b.mem v v0 v1]
      simp [e]
  · show (if p = w then some (d + 1) else F p) = some 0
    rw [if_neg]
    · exact b.p0
    · intro e
      rw [← e, b.p0] at hn
      cases hn
  · intro v e hv
    have hv' : (if v = w then some (d + 1) else F v) = some e := hv
    by_cases q : v = w
    · rw [if_pos q] at hv'
      cases hv'
      omega
    · rw [if_neg q] at hv'
      exact b.nn v e hv'
  · intro v hv
    rcases List.mem_append.mp hv with hv | hv
    · rcases b.par v hv with e | ⟨x, hx, ha, k, h1, h2⟩
      · exact .inl e
      · refine .inr ⟨x, List.mem_append_left _ hx, ha, k, ?_, ?_⟩
        · show (if x = w then some (d + 1) else F x) = some k
          rw [eF x hx]; exact h1
        · show (if v = w then some (d + 1) else F v) = some (k + 1)
          rw [eF v hv]; exact h2
    · rw [List.mem_singleton] at hv
      subst hv
      refine .inr ⟨u, List.mem_append_left _ hu, hw, d, ?_, eW⟩
      show (if u = v then some (d + 1) else F u) = some d
      rw [eF u hu]; exact hd
  · rw [List.pairwise_append]
    refine ⟨b.mono.imp_of_mem fun {a c} ha hc q => ?_, by simp, fun a ha c hc => ?_⟩
    · show (if a = w then some (d + 1) else F a).getD 0 ≤ (if c = w then some (d + 1) else F c).getD 0
      rw [eF a ha, eF c hc]; exact q
    · rw [List.mem_singleton] at hc
      subst hc
      show (if a = c then some (d + 1) else F a).getD 0 ≤ (if c = c then some (d + 1) else F c).getD 0
      rw [eF a ha, eW]
      have := b.cap a ha u hud
      rw [hd] at this
      exact this
  · intro v hv x hx
    rw [List.drop_append_of_le_length (by omega)] at hx
    show (if v = w then some (d + 1) else F v).getD 0 ≤ (if x = w then some (d + 1) else F x).getD 0 + 1
    have key : ∀ x, x ∈ line.drop at_ → d ≤ (F x).getD 0 := by
      intro x hx
      have hs : line.drop at_ = u :: line.drop (at_ + 1) := by
        rw [List.drop_eq_getElem_cons hat]
        have := (List.getElem?_eq_some_iff.mp h.u0).2
        rw [this]
      have hm := b.mono.sublist (List.drop_sublist at_ line)
      rw [hs] at hm hx
      rcases List.mem_cons.mp hx with rfl | hx
      · rw [hd]; exact Int.le_refl _
      · have := (List.pairwise_cons.mp hm).1 x hx
        rw [hd] at this
        exact this
    have hvd : (if v = w then some (d + 1) else F v).getD 0 ≤ d + 1 := by
      rcases List.mem_append.mp hv with hv | hv
      · rw [eF v hv]
        have := b.cap v hv u hud
        rw [hd] at this
        exact this
      · rw [List.mem_singleton] at hv
        rw [if_pos hv]; exact Int.le_refl _
    rcases List.mem_append.mp hx with hx | hx
    · rw [eF x (List.mem_of_mem_drop hx)]
      have := key x hx
      omega
    · rw [List.mem_singleton] at hx
      rw [if_pos hx]
      show _ ≤ (d + 1) + 1
      omega
  · intro i x hi hx y hy
    rw [List.getElem?_append_left (by omega)] at hx
    obtain ⟨h1, h2⟩ := b.done i x hi hx y hy
    refine ⟨List.mem_append_left _ h1, ?_⟩
    show (if y = w then some (d + 1) else F y).getD 0 ≤ (if x = w then some (d + 1) else F x).getD 0 + 1
    rw [eF y h1, eF x (List.mem_of_getElem? hx)]
    exact h2
  · rw [List.getElem?_append_left hat]; exact h.u0
  · intro v hv
    show v ∈ line ++ [w] ∧ (if v = w then some (d + 1) else F v).getD 0 ≤ (if u = w then some (d + 1) else F u).getD 0 + 1
    rw [eF u hu]
    rcases List.mem_append.mp hv with hv | hv
    · obtain ⟨h1, h2⟩ := h.ok v hv
      rw [eF v h1]
      exact ⟨List.mem_append_left _ h1, h2⟩
    · rw [List.mem_singleton] at hv
      rw [if_pos hv, hd, hv]
      exact ⟨List.mem_append_right _ (List.mem_singleton_self _), Int.le_refl _⟩
theorem BfsIn.skip {at_ : Nat} {u w : Int} {pre line : List Int} {F : Int → Option Int} (h : BfsIn n ts p at_ u pre line F) (hw : (F w).isSome = true) (w0 : 0 ≤ w) (w1 : w < n) : BfsIn n ts p at_ u (pre ++ [w]) line F := by
  refine ⟨h.b, h.u0, fun v hv => ?_⟩
  rcases List.mem_append.mp hv with hv | hv
  · exact h.ok v hv
  · rw [List.mem_singleton] at hv
    subst hv
    have hl := (h.b.mem v w0 w1).mpr hw
    refine ⟨hl, h.b.cap v hl u ?_⟩
    rw [List.mem_iff_getElem?]
    exact ⟨0, by rw [List.getElem?_drop]; exact h.u0⟩
theorem BfsIn.next {at_ : Nat} {u : Int} {nb line : List Int} {F : Int → Option Int} (h : BfsIn n ts p at_ u nb line F) (hnb : ∀ w, Adj ts u w → w ∈ nb) : Bfs n ts p (at_ + 1) line F := by
  have hat : at_ < line.length := (List.getElem?_eq_some_iff.mp h.u0).1
  refine { h.b with le := hat, cap := fun v hv x hx => h.b.cap v hv x ?_, done := fun i x hi hx w hw => ?_ }
  · exact (List.drop_sublist_drop_left line (Nat.le_succ at_)).subset hx
  · by_cases e : i = at_
    · subst e
      rw [h.u0] at hx
      cases hx
      exact h.ok w (hnb w hw)
    · exact h.b.done i x (by omega) hx w hw
theorem Bfs.isDist {line : List Int} {F : Int → Option Int} (b : Bfs n ts p line.length line F) (hc : Conn n ts) (hr : ∀ q ∈ ts, 0 ≤ q.1 ∧ q.1 < n ∧ 0 ≤ q.2 ∧ q.2 < n) (p0 : 0 ≤ p) (p1 : p < n) :
    (∀ v, 0 ≤ v → v < n → (F v).isSome = true) ∧ IsDist n ts p fun v => (F v).getD 0 := by
  have hp : p ∈ line := (b.mem p p0 p1).mpr (by rw [b.p0]; rfl)
  have cl : ∀ u w, u ∈ line → Adj ts u w → w ∈ line ∧ (F w).getD 0 ≤ (F u).getD 0 + 1 := by
    intro u w hu hw
    obtain ⟨i, hi⟩ := List.mem_iff_getElem?.mp hu
    exact b.done i u (List.getElem?_eq_some_iff.mp hi).1 hi w hw
  have all : ∀ k, 0 ≤ k → k < n → k ∈ line := hc.any (S := fun k => k ∈ line) p0 p1 hp fun q hq => ⟨fun h => (cl q.1 q.2 h (.inl hq)).1, fun h => (cl q.2 q.1 h (.inr hq)).1⟩
  refine ⟨fun v v0 v1 => (b.mem v v0 v1).mp (all v v0 v1), ⟨?_, fun v v0 v1 => ?_, fun a c h => ?_, fun v v0 v1 hne => ?_⟩⟩
  · show (F p).getD 0 = 0
    rw [b.p0]; rfl
  · show 0 ≤ (F v).getD 0
    cases e : F v with
    | none => exact Int.le_refl _
    | some d => exact b.nn v d e
  · have ra : 0 ≤ a ∧ a < n := by
      rcases h with h | h
      · exact ⟨(hr _ h).1, (hr _ h).2.1⟩
      · exact ⟨(hr _ h).2.2.1, (hr _ h).2.2.2⟩
    exact (cl a c (all a ra.1 ra.2) h).2
  · rcases b.par v (all v v0 v1) with e | ⟨w, hw, ha, d, h1, h2⟩
    · exact absurd e hne
    · refine ⟨w, (b.rg w hw).1, (b.rg w hw).2, ha, ?_⟩
      show (F w).getD 0 + 1 = (F v).getD 0
      rw [h1, h2]; rfl
end
theorem fars_by_post {n : Int} {ts : List (Int × Int)} {p : Int} (n1 : n < 900) (hr : ∀ q ∈ ts, 0 ≤ q.1 ∧ q.1 < n ∧ 0 ≤ q.2 ∧ q.2 < n) (hc : Conn n ts) (p0 : 0 ≤ p) (p1 : p < n) :
    Post (fars_by (nears n ts) p) (fun l => l = ((rng 0 n).map fun v => some (dst n ts p v)) ∧ IsDist n ts p (dst n ts p)) noX := by
  unfold fars_by
  have hN : (nears n ts).length = n.toNat := by unfold nears; rw [List.length_map, rng_length]; omega
  rw [hN]
  refine po_rep (by omega) (by omega) (by decide) ?_
  have e0 : repL ([none] : List (Option Int)) (n.toNat : Nat) = (rng 0 n).map fun _ => none := by
    unfold repL
    rw [Int.toNat_natCast]
    have h1 : (rng 0 n).length = n.toNat := by rw [rng_length]; omega
    rw [← h1]
    generalize rng 0 n = l
    induction l with
    | nil => rfl
    | cons a l ih =>
      rw [List.length_cons, List.replicate_succ, List.flatten_cons, ih]
      rfl
  rw [e0]
  refine po_set p0 (by rw [List.length_map, rng_length]; omega) ?_
  rw [map_rng_set p0]
  refine po_bind (Q := fun g => g.2.2 = ((rng 0 n).map fun v => some (dst n ts p v)) ∧ IsDist n ts p (dst n ts p)) (po_while (fun g => 0 ≤ g.1 ∧ ∃ F, g.2.2 = (rng 0 n).map F ∧ Bfs n ts p g.1.toNat g.2.1 F) (fun g => n.toNat - g.1.toNat) ?_ (n := fu 1000) ?_ ?_) fun g hg => hg
  · rintro ⟨a, line, fd⟩ ⟨a0, F, e1, b⟩
    have e1' : fd = (rng 0 n).map F := e1
    have a0' : 0 ≤ a := a0
    have b' : Bfs n ts p a.toNat line F := b
    clear e1 b a0
    subst e1'
    refine ⟨fun ht => ?_, fun hf => ?_⟩
    · have ht : a < (line.length : Int) := of_decide_eq_true ht
      refine po_get a0' ht fun u hu e2 => ?_
      obtain ⟨u0, u1⟩ := b'.rg u hu
      refine po_getE (getI_eq u0 (map_rng_get u0 u1)) ?_
      have hin : BfsIn n ts p a.toNat u [] line F := ⟨b', e2, fun _ h => nomatch h⟩
      refine po_bind (po_foldP (fun pre g => ∃ F', g.2 = (rng 0 n).map F' ∧ BfsIn n ts p a.toNat u pre g.1 F') ⟨F, rfl, hin⟩ ?_) ?_
      · rintro pre ⟨ln, fd⟩ w post ew ⟨F', e3, h3⟩
        have e3' : fd = (rng 0 n).map F' := e3
        have h3' : BfsIn n ts p a.toNat u pre ln F' := h3
        clear e3 h3
        subst e3'
        have hw : w ∈ sortI (nbs ts u) := by rw [show sortI (nbs ts u) = pre ++ w :: post from ew]; simp
        have hw := nbs_mem.mp (sortI_mem.mp hw)
        have rw' : 0 ≤ w ∧ w < n := by
          rcases hw with h | h
          · exact ⟨(hr _ h).2.2.1, (hr _ h).2.2.2⟩
          · exact ⟨(hr _ h).1, (hr _ h).2.1⟩
        obtain ⟨w0, w1⟩ := rw'
        refine po_getE (getI_eq w0 (map_rng_get w0 w1)) ?_
        refine po_if (fun c => ?_) (fun c => ?_)
        · have hn : F' w = none := by
            cases e : F' w with
            | none => rfl
            | some d => rw [e] at c; cases c
          refine po_getE (getI_eq a0' h3'.u0) (po_getE (getI_eq u0 (map_rng_get u0 u1)) ?_)
          have hus := (h3'.b.mem u u0 u1).mp (List.mem_of_getElem? h3'.u0)
          obtain ⟨d, hd⟩ := Option.isSome_iff_exists.mp hus
          have hlen : ln.length ≤ n.toNat := by
            have := nodup_le h3'.b.nd (ys := rng 0 n) fun v hv => rng_mem.mpr (h3'.b.rg v hv)
            rw [rng_length] at this
            omega
          refine po_ofO hd (po_set w0 (by rw [List.length_map, rng_length]; omega) (po_app (by show ln.length < 100000; omega) ?_))
          refine ⟨_, map_rng_set w0, ?_⟩
          exact h3'.add hw w0 w1 hn hd
        · refine ⟨F', rfl, h3'.skip ?_ w0 w1⟩
          cases e : F' w with
          | none => rw [e] at c; exact absurd rfl c
          | some d => rfl
      · rintro ⟨ln, fd⟩ ⟨F', e3, h3⟩
        have h3' : BfsIn n ts p a.toNat u (sortI (nbs ts u)) ln F' := h3
        have h4 := h3'.next fun w hw => sortI_mem.mpr (nbs_mem.mpr hw)
        have hat : a.toNat < ln.length := (List.getElem?_eq_some_iff.mp h3'.u0).1
        have hlen : ln.length ≤ n.toNat := by
          have := nodup_le h3'.b.nd (ys := rng 0 n) fun v hv => rng_mem.mpr (h3'.b.rg v hv)
          rw [rng_length] at this
          omega
        refine ⟨⟨by show 0 ≤ a + 1; omega, F', e3, ?_⟩, ?_⟩
        · show Bfs n ts p (a + 1).toNat ln F'
          rw [show (a + 1).toNat = a.toNat + 1 by omega]
          exact h4
        · show n.toNat - (a + 1).toNat < n.toNat - a.toNat
          omega
    · have hf : ¬ a < (line.length : Int) := of_decide_eq_false hf
      have hle := b'.le
      have ea : a.toNat = line.length := by omega
      rw [ea] at b'
      obtain ⟨h1, h2⟩ := b'.isDist hc hr p0 p1
      refine ⟨map_rng_congr fun v v0 v1 => ?_, dst_is h2⟩
      have h3 := dst_eq h2 v v0 v1
      obtain ⟨d, hd⟩ := Option.isSome_iff_exists.mp (h1 v v0 v1)
      have h3' : (F v).getD 0 = dst n ts p v := h3
      rw [hd] at h3' ⊢
      exact congrArg some h3'
  · refine ⟨Int.le_refl 0, _, rfl, ?_⟩
    show Bfs n ts p 0 [p] (fun i => if i = p then some 0 else none)
    refine ⟨Nat.zero_le _, by simp, fun v hv => ?_, fun v v0 v1 => ?_, if_pos rfl, fun v d hv => ?_, fun v hv => ?_, by simp, fun v hv u hu => ?_, fun i u hi => absurd hi (Nat.not_lt_zero _)⟩
    · rw [List.mem_singleton] at hv
      rw [hv]; exact ⟨p0, p1⟩
    · show v ∈ [p] ↔ (if v = p then some (0 : Int) else none).isSome = true
      rw [List.mem_singleton]
      by_cases e : v = p
      · rw [if_pos e]; simp [e]
      · rw [if_neg e]; simp [e]
    · have hv' : (if v = p then some (0 : Int) else none) = some d := hv
      split at hv'
      · cases hv'; exact Int.le_refl _
      · cases hv'
    · exact .inl (List.mem_singleton.mp hv)
    · rw [List.drop_zero] at hu
      rw [List.mem_singleton] at hv hu
      subst hv hu
      show (if u = u then some (0 : Int) else none).getD 0 ≤ (if u = u then some (0 : Int) else none).getD 0 + 1
      rw [if_pos rfl]
      decide
  · rw [fu_eq]
    show n.toNat - (0 : Int).toNat < 1000
    omega
theorem fars_by_ok {n : Int} {ts : List (Int × Int)} {p : Int} (n1 : n < 900) (hr : ∀ q ∈ ts, 0 ≤ q.1 ∧ q.1 < n ∧ 0 ≤ q.2 ∧ q.2 < n) (hc : Conn n ts) (p0 : 0 ≤ p) (p1 : p < n) :
    fars_by (nears n ts) p = R.ok ((rng 0 n).map fun v => some (dst n ts p v)) := po_iff ((fars_by_post n1 hr hc p0 p1).mono (fun _ h => h.1) fun _ h => h)
theorem web_fars {n : Int} {ts : List (Int × Int)} {p : Int} (h : WebOk n ts) (p0 : 0 ≤ p) (p1 : p < n) : fars_by (nears n ts) p = R.ok ((rng 0 n).map fun v => some (dst n ts p v)) := fars_by_ok (by have := h.n60; omega) h.rg4 h.conn p0 p1
end G
namespace G
open PySem L2 Z
/-! ### how far, where not all may be come to -/
/-- f: how far places are, n (as many as there are) where one can not come -/
structure PD (n : Int) (ts : List (Int × Int)) (p : Int) (f : Int → Int) : Prop where
  zero : f p = 0
  nn : ∀ v, 0 ≤ v → v < n → 0 ≤ f v
  lip : ∀ a b, Adj ts a b → f b ≤ f a + 1
  desc : ∀ v, 0 ≤ v → v < n → v ≠ p → f v < n → ∃ w, 0 ≤ w ∧ w < n ∧ Adj ts w v ∧ f w + 1 = f v
theorem PD.z {n p v : Int} {ts : List (Int × Int)} {f : Int → Int} (d : PD n ts p f) (n1 : 1 ≤ n) (v0 : 0 ≤ v) (v1 : v < n) (h : f v ≤ 0) : v = p := by
  apply Classical.byContradiction
  intro hne
  obtain ⟨w, w0, w1, _, e⟩ := d.desc v v0 v1 hne (by omega)
  have := d.nn w w0 w1
  omega
theorem pd_ex {n : Int} {ts : List (Int × Int)} {p : Int} (hr : ∀ q ∈ ts, 0 ≤ q.1 ∧ q.1 < n ∧ 0 ≤ q.2 ∧ q.2 < n) (n1 : 1 ≤ n) : ∃ f, PD n ts p f := by
  classical
  have adj : ∀ a b, Adj ts a b → (0 ≤ a ∧ a < n) ∧ (0 ≤ b ∧ b < n) := fun a b h => by
    rcases h with h | h
    · have := hr _ h
      exact ⟨⟨this.1, this.2.1⟩, ⟨this.2.2.1, this.2.2.2⟩⟩
    · have := hr _ h
      exact ⟨⟨this.2.2.1, this.2.2.2⟩, ⟨this.1, this.2.1⟩⟩
  have key : ∀ v, ∃ d : Int, 0 ≤ d ∧ d ≤ n ∧ (∀ k : Nat, Rch ts p k v → d ≤ k) ∧ (d < n → Rch ts p d.toNat v) := fun v => by
    by_cases hv : ∃ k, Rch ts p k v
    · obtain ⟨k, h1, h2⟩ := least hv
      by_cases q : (k : Int) < n
      · exact ⟨k, by omega, by omega, fun j hj => by
          have : ¬ j < k := fun z => h2 j z hj
          omega, fun _ => by rw [Int.toNat_natCast]; exact h1⟩
      · exact ⟨n, by omega, by omega, fun j hj => by
          have : ¬ j < k := fun z => h2 j z hj
          omega, fun z => absurd z (Int.lt_irrefl n)⟩
    · exact ⟨n, by omega, by omega, fun k hk => absurd ⟨k, hk⟩ hv, fun z => absurd z (Int.lt_irrefl n)⟩
  have hf : ∃ f : Int → Int, ∀ v, 0 ≤ f v ∧ f v ≤ n ∧ (∀ k : Nat, Rch ts p k v → f v ≤ k) ∧ (f v < n → Rch ts p (f v).toNat v) := ⟨fun v => Classical.choose (key v), fun v => Classical.choose_spec (key v)⟩
  obtain ⟨f, hf⟩ := hf
  have lip : ∀ a b, Adj ts a b → f b ≤ f a + 1 := fun a b h => by
    by_cases q : f a < n
    · have h1 := (hf a).2.2.2 q
      have h2 := (hf b).2.2.1 _ (h1.step h)
      have h3 := (hf a).1
      omega
    · have := (hf b).2.1
      omega
  refine ⟨f, ?_, fun v _ _ => (hf v).1, lip, fun v v0 v1 hne hlt => ?_⟩
  · have h1 := (hf p).2.2.1 0 .here
    have h2 := (hf p).1
    omega
  · have h1 := (hf v).2.2.2 hlt
    have h0 := (hf v).1
    generalize hm : (f v).toNat = m at h1
    cases h1 with
    | here => exact absurd rfl hne
    | step h3 h4 =>
      rename_i j w
      obtain ⟨⟨w0, w1⟩, _⟩ := adj _ _ h4
      have h5 := (hf w).2.2.1 _ h3
      have := lip w v h4
      exact ⟨w, w0, w1, h4, by omega⟩
/-- what is gone through round by round is just what is nearer than n -/
theorem bfs_pd {n : Int} {ts : List (Int × Int)} {p : Int} {line : List Int} {F : Int → Option Int} {f : Int → Int} (b : Bfs n ts p line.length line F) (d : PD n ts p f) (p0 : 0 ≤ p) (p1 : p < n) (v : Int) (v0 : 0 ≤ v) (v1 : v < n) : (F v).isSome = true ↔ f v < n := by
  rw [← b.mem v v0 v1]
  have hp : p ∈ line := (b.mem p p0 p1).mpr (by rw [b.p0]; rfl)
  have cl : ∀ u w, u ∈ line → Adj ts u w → w ∈ line := by
    intro u w hu hw
    obtain ⟨i, hi⟩ := List.mem_iff_getElem?.mp hu
    exact (b.done i u (List.getElem?_eq_some_iff.mp hi).1 hi w hw).1
  have hlen : line.length ≤ n.toNat := by
    have := nodup_le b.nd (ys := rng 0 n) fun v hv => rng_mem.mpr (b.rg v hv)
    rw [rng_length] at this
    omega
  have low : ∀ (i : Nat) (u : Int), line[i]? = some u → ∃ e, F u = some e ∧ e ≤ i ∧ f u ≤ e := by
    intro i
    induction i using Nat.strongRecOn with
    | _ i ih =>
      intro u hu
      have hul := List.mem_of_getElem? hu
      rcases b.par u hul with e | ⟨w, hw, ha, k, h1, h2⟩
      · refine ⟨0, by rw [e]; exact b.p0, by omega, by rw [e, d.zero]; exact Int.le_refl _⟩
      · obtain ⟨j, hj⟩ := List.mem_iff_getElem?.mp hw
        have hji : j < i := by
          apply Classical.byContradiction
          intro q
          obtain ⟨jl, ej⟩ := List.getElem?_eq_some_iff.mp hj
          obtain ⟨il, ei⟩ := List.getElem?_eq_some_iff.mp hu
          by_cases q2 : j = i
          · subst q2
            rw [hj] at hu
            cases hu
            rw [h1] at h2
            have := Option.some.inj h2
            omega
          · have := List.pairwise_iff_getElem.mp b.mono i j il jl (by omega)
            rw [ei, ej, h1, h2] at this
            have this' : k + 1 ≤ k := this
            omega
        obtain ⟨e, e1, e2, e3⟩ := ih j hji w hj
        rw [h1] at e1
        cases e1
        have := d.lip w u ha
        exact ⟨_, h2, by omega, by omega⟩
  constructor
  · intro hv
    obtain ⟨i, hi⟩ := List.mem_iff_getElem?.mp hv
    obtain ⟨e, _, e2, e3⟩ := low i v hi
    have := (List.getElem?_eq_some_iff.mp hi).1
    omega
  · have key : ∀ (m : Nat) (v : Int), (f v).toNat = m → 0 ≤ v → v < n → f v < n → v ∈ line := by
      intro m
      induction m with
      | zero =>
        intro v hm v0 v1 hv
        have := d.z (by omega) v0 v1 (by omega)
        rw [this]; exact hp
      | succ m ih =>
        intro v hm v0 v1 hv
        by_cases e : v = p
        · rw [e]; exact hp
        · obtain ⟨w, w0, w1, ha, ew⟩ := d.desc v v0 v1 e hv
          have := d.nn w w0 w1
          exact cl w v (ih w (by omega) w0 w1 (by omega)) ha
    exact key _ v rfl v0 v1
theorem fars_by_bfs {n : Int} {ts : List (Int × Int)} {p : Int} (n1 : n < 900) (hr : ∀ q ∈ ts, 0 ≤ q.1 ∧ q.1 < n ∧ 0 ≤ q.2 ∧ q.2 < n) (p0 : 0 ≤ p) (p1 : p < n) :
    Post (fars_by (nears n ts) p) (fun l => ∃ F line, l = (rng 0 n).map F ∧ Bfs n ts p line.length line F) noX := by
  unfold fars_by
  have hN : (nears n ts).length = n.toNat := by unfold nears; rw [List.length_map, rng_length]; omega
  rw [hN]
  refine po_rep (by omega) (by omega) (by decide) ?_
  have e0 : repL ([none] : List (Option Int)) (n.toNat : Nat) = (rng 0 n).map fun _ => none := by
    unfold repL
    rw [Int.toNat_natCast]
    have h1 : (rng 0 n).length = n.toNat := by rw [rng_length]; omega
    rw [← h1]
    generalize rng 0 n = l
    induction l with
    | nil => rfl
    | cons a l ih =>
      rw [List.length_cons, List.replicate_succ, List.flatten_cons, ih]
      rfl
  rw [e0]
  refine po_set p0 (by rw [List.length_map, rng_length]; omega) ?_
  rw [map_rng_set p0]
  refine po_bind (Q := fun g => ∃ F line, g.2.2 = (rng 0 n).map F ∧ Bfs n ts p line.length line F) (po_while (fun g => 0 ≤ g.1 ∧ ∃ F, g.2.2 = (rng 0 n).map F ∧ Bfs n ts p g.1.toNat g.2.1 F) (fun g => n.toNat - g.1.toNat) ?_ (n := fu 1000) ?_ ?_) fun g hg => hg
  · rintro ⟨a, line, fd⟩ ⟨a0, F, e1, b⟩
    have e1' : fd = (rng 0 n).map F := e1
    have a0' : 0 ≤ a := a0
    have b' : Bfs n ts p a.toNat line F := b
    clear e1 b a0
    subst e1'
    refine ⟨fun ht => ?_, fun hf => ?_⟩
    · have ht : a < (line.length : Int) := of_decide_eq_true ht
      refine po_get a0' ht fun u hu e2 => ?_
      obtain ⟨u0, u1⟩ := b'.rg u hu
      refine po_getE (getI_eq u0 (map_rng_get u0 u1)) ?_
      have hin : BfsIn n ts p a.toNat u [] line F := ⟨b', e2, fun _ h => nomatch h⟩
      refine po_bind (po_foldP (fun pre g => ∃ F', g.2 = (rng 0 n).map F' ∧ BfsIn n ts p a.toNat u pre g.1 F') ⟨F, rfl, hin⟩ ?_) ?_
      · rintro pre ⟨ln, fd⟩ w post ew ⟨F', e3, h3⟩
        have e3' : fd = (rng 0 n).map F' := e3
        have h3' : BfsIn n ts p a.toNat u pre ln F' := h3
        clear e3 h3
        subst e3'
        have hw : w ∈ sortI (nbs ts u) := by rw [show sortI (nbs ts u) = pre ++ w :: post from ew]; simp
        have hw := nbs_mem.mp (sortI_mem.mp hw)
        have rw' : 0 ≤ w ∧ w < n := by
          rcases hw with h | h
          · exact ⟨(hr _ h).2.2.1, (hr _ h).2.2.2⟩
          · exact ⟨(hr _ h).1, (hr _ h).2.1⟩
        obtain ⟨w0, w1⟩ := rw'
        refine po_getE (getI_eq w0 (map_rng_get w0 w1)) ?_
        refine po_if (fun c => ?_) (fun c => ?_)
        · have hn : F' w = none := by
            cases e : F' w with
            | none => rfl
            | some d => rw [e] at c; cases c
          refine po_getE (getI_eq a0' h3'.u0) (po_getE (getI_eq u0 (map_rng_get u0 u1)) ?_)
          have hus := (h3'.b.mem u u0 u1).mp (List.mem_of_getElem? h3'.u0)
          obtain ⟨d, hd⟩ := Option.isSome_iff_exists.mp hus
          have hlen : ln.length ≤ n.toNat := by
            have := nodup_le h3'.b.nd (ys := rng 0 n) fun v hv => rng_mem.mpr (h3'.b.rg v hv)
            rw [rng_length] at this
            omega
          refine po_ofO hd (po_set w0 (by rw [List.length_map, rng_length]; omega) (po_app (by show ln.length < 100000; omega) ?_))
          refine ⟨_, map_rng_set w0, ?_⟩
          exact h3'.add hw w0 w1 hn hd
        · refine ⟨F', rfl, h3'.skip ?_ w0 w1⟩
          cases e : F' w with
          | none => rw [e] at c; exact absurd rfl c
          | some d => rfl
      · rintro ⟨ln, fd⟩ ⟨F', e3, h3⟩
        have h3' : BfsIn n ts p a.toNat u (sortI (nbs ts u)) ln F' := h3
        have h4 := h3'.next fun w hw => sortI_mem.mpr (nbs_mem.mpr hw)
        have hat : a.toNat < ln.length := (List.getElem?_eq_some_iff.mp h3'.u0).1
        have hlen : ln.length ≤ n.toNat := by
          have := nodup_le h3'.b.nd (ys := rng 0 n) fun v hv => rng_mem.mpr (h3'.b.rg v hv)
          rw [rng_length] at this
          omega
        refine ⟨⟨by show 0 ≤ a + 1; omega, F', e3, ?_⟩, ?_⟩
        · show Bfs n ts p (a + 1).toNat ln F'
          rw [show (a + 1).toNat = a.toNat + 1 by omega]
          exact h4
        · show n.toNat - (a + 1).toNat < n.toNat - a.toNat
          omega
    · have hf : ¬ a < (line.length : Int) := of_decide_eq_false hf
      have hle := b'.le
      have ea : a.toNat = line.length := by omega
      rw [ea] at b'
      exact ⟨F, line, rfl, b'⟩
  · refine ⟨Int.le_refl 0, _, rfl, ?_⟩
    show Bfs n ts p 0 [p] (fun i => if i = p then some 0 else none)
    refine ⟨Nat.zero_le _, by simp, fun v hv => ?_, fun v v0 v1 => ?_, if_pos rfl, fun v d hv => ?_, fun v hv => ?_, by simp, fun v hv u hu => ?_, fun i u hi => absurd hi (Nat.not_lt_zero _)⟩
    · rw [List.mem_singleton] at hv
      rw [hv]; exact ⟨p0, p1⟩
    · show v ∈ [p] ↔ (if v = p then some (0 : Int) else none).isSome = true
      rw [List.mem_singleton]
      by_cases e : v = p
      · rw [if_pos e]; simp [e]
      · rw [if_neg e]; simp [e]
    · have hv' : (if v = p then some (0 : Int) else none) = some d := hv
      split at hv'
      · cases hv'; exact Int.le_refl _
      · cases hv'
    · exact .inl (List.mem_singleton.mp hv)
    · rw [List.drop_zero] at hu
      rw [List.mem_singleton] at hv hu
      subst hv hu
      show (if u = u then some (0 : Int) else none).getD 0 ≤ (if u = u then some (0 : Int) else none).getD 0 + 1
      rw [if_pos rfl]
      decide
  · rw [fu_eq]
    show n.toNat - (0 : Int).toNat < 1000
    omega
theorem law_fars_pd {n p : Int} {ts : List (Int × Int)} {f : Int → Int} (hn1 : 1 ≤ n) (hn : n ≤ 60) (hlen : ts.length ≤ 700) (hrg : ∀ q ∈ ts, 0 ≤ q.1 ∧ q.1 < n ∧ 0 ≤ q.2 ∧ q.2 < n) (d : PD n ts p f) (p0 : 0 ≤ p) (p1 : p < n) : law_fars (n, ⟨ts⟩) p = R.ok ((rng 0 n).map fun v => if f v < n then f v else -1) := by
  refine po_iff ?_
  unfold law_fars
  refine po_rng (by decide) (by decide) (by show -(2 ^ 62) ≤ n; omega) (by show n < 2 ^ 62; omega) ?_
  refine po_bind (po_foldP (fun pre g => (mkeys g).Nodup ∧ (∀ v, v ∈ mkeys g → 0 ≤ v ∧ v < n) ∧ ∀ v, 0 ≤ v → v < n → mget g v = if f v ≤ (pre.length : Int) then some (f v) else none) ⟨?_, ?_, ?_⟩ ?_) fun g ⟨k1, k2, k3⟩ => ?_
  · show [p].Nodup
    simp
  · intro v hv
    have hv' : v ∈ [p] := hv
    rw [List.mem_singleton] at hv'
    rw [hv']; exact ⟨p0, p1⟩
  · intro v v0 v1
    show mget [(p, (0 : Int))] v = if f v ≤ ((0 : Nat) : Int) then some (f v) else none
    rw [mget_cons, mget_nil]
    dsimp only
    have dv := d.nn v v0 v1
    by_cases e : p = v
    · subst e
      rw [if_pos rfl, d.zero]; rfl
    · rw [if_neg e, if_neg]
      intro q
      exact e (d.z hn1 v0 v1 (by omega)).symm
  · intro pre g t post e ⟨k1, k2, k3⟩
    have et : t = 1 + (pre.length : Int) := rng_pre e
    have hpl : (pre.length : Int) + 1 < n := by
      have := congrArg List.length e
      rw [rng_length] at this
      simp at this
      omega
    have hgl : (mkeys g).length ≤ n.toNat := by
      have := nodup_le k1 (ys := rng 0 n) fun v hv => rng_mem.mpr (k2 v hv)
      rw [rng_length] at this
      omega
    rw [mkeys_length] at hgl
    have has : ∀ v, 0 ≤ v → v < n → (mhas g v = true ↔ f v ≤ pre.length) := fun v v0 v1 => by
      rw [mhas_mget, k3 v v0 v1]
      split <;> simp_all
    refine po_mul (.inr (by unfold b2i; split <;> omega)) ?_
    -- what is met
    refine po_bind (Q := fun met => (∀ v ∈ met, 0 ≤ v ∧ v < n ∧ f v = t) ∧ (∀ v, 0 ≤ v → v < n → f v = t → v ∈ met) ∧ met.length ≤ 1400) ?_ fun met ⟨m1, m2, m3⟩ => ?_
    · by_cases hall : (g.length : Int) < n
      · have eb : b2i (decide ((g.length : Int) < n)) = 1 := by unfold b2i; rw [decide_eq_true hall]; rfl
        have ec : cutL ts none (some ((ts.length : Int) * b2i (decide ((g.length : Int) < n)))) = ts := by
          rw [eb, Int.mul_one, cut_take, List.take_length]
        show Post (foldR _ [] (cutL ts none (some ((ts.length : Int) * b2i (decide ((g.length : Int) < n)))))) _ noX
        rw [ec]
        refine Post.mono (po_foldP (fun pr met => (∀ v ∈ met, 0 ≤ v ∧ v < n ∧ f v = t) ∧ (∀ q ∈ pr, (f q.1 = pre.length ∧ f q.2 = t → q.2 ∈ met) ∧ (f q.2 = pre.length ∧ f q.1 = t → q.1 ∈ met)) ∧ met.length ≤ 2 * pr.length) ⟨fun _ h => (nomatch h), fun _ h => (nomatch h), Nat.zero_le _⟩ ?_) ?_ fun _ z => z
        · intro pr met q po eq ⟨a1, a2, a3⟩
          have hq : q ∈ ts := by rw [eq]; simp
          have hpr : pr.length < 700 := by
            have := congrArg List.length eq
            simp at this
            omega
          have hr := hrg q hq
          have l1 := d.lip q.1 q.2 (.inl hq)
          have l2 := d.lip q.2 q.1 (.inr hq)
          have e1 : mget g q.1 = _ := k3 q.1 hr.1 hr.2.1
          have e2 : mget g q.2 = _ := k3 q.2 hr.2.2.1 hr.2.2.2
          have test : ∀ a b : Int, 0 ≤ a → a < n → 0 ≤ b → b < n → f b ≤ f a + 1 → Post (do
              let j ← (do
                if (mhas g a) = true then do
                  let t17 ← mgetR g a
                  if (decide (t17 = (t - (1 : Int)))) = true then do
                    R.ok (!mhas g b)
                  else do
                    R.ok false
                else do
                  R.ok false : R (Bool))
              R.ok j : R Bool) (fun j => j = true ↔ (f a = pre.length ∧ f b = t)) noX := fun a b a0 a1 b0 b1 hab => by
            refine po_bind (Q := fun j => j = true ↔ (f a = pre.length ∧ f b = t)) (po_if (fun c => ?_) fun c => ?_) fun _ z => z
            · have c' := (has a a0 a1).mp c
              refine po_mgetE (x := f a) (by rw [k3 a a0 a1, if_pos c']) (po_if (fun c2 => ?_) fun c2 => ?_)
              · have c2' := of_decide_eq_true c2
                show (!mhas g b) = true ↔ _
                rw [Bool.not_eq_true', ← Bool.not_eq_true, has b b0 b1]
                constructor
                · intro z; omega
                · intro z; omega
              · constructor
                · intro z; cases z
                · intro z
                  exact absurd (decide_eq_true (by omega)) c2
            · constructor
              · intro z; cases z
              · intro z
                exact absurd ((has a a0 a1).mpr (by omega)) c
          have T1 := test q.1 q.2 hr.1 hr.2.1 hr.2.2.1 hr.2.2.2 l1
          have T2 := test q.2 q.1 hr.2.2.1 hr.2.2.2 hr.1 hr.2.1 l2
          refine po_bind (Q := fun met' => (∀ v ∈ met', 0 ≤ v ∧ v < n ∧ f v = t) ∧ (∀ v ∈ met, v ∈ met') ∧ (f q.1 = pre.length ∧ f q.2 = t → q.2 ∈ met') ∧ met'.length ≤ 2 * pr.length + 1) ?_ fun met' ⟨b1, b2, b3, b4⟩ => ?_
          · refine po_bind (post_bind T1) fun j hj => po_if (fun c => po_app (by omega) ⟨fun v hv => ?_, fun v hv => List.mem_append_left _ hv, fun _ => List.mem_append_right _ (List.mem_singleton_self _), by rw [List.length_append, List.length_singleton]; omega⟩) fun c => ⟨a1, fun v hv => hv, fun z => absurd (hj.mpr z) c, by omega⟩
            rcases List.mem_append.mp hv with hv | hv
            · exact a1 v hv
            · rw [List.mem_singleton] at hv
              rw [hv]
              exact ⟨hr.2.2.1, hr.2.2.2, (hj.mp c).2⟩
          · refine po_bind (post_bind T2) fun j hj => ?_
            have old : ∀ r ∈ pr, ∀ ms : List Int, (∀ v ∈ met', v ∈ ms) → (f r.1 = pre.length ∧ f r.2 = t → r.2 ∈ ms) ∧ (f r.2 = pre.length ∧ f r.1 = t → r.1 ∈ ms) := fun r hr ms hms =>
              ⟨fun z => hms _ (b2 _ ((a2 r hr).1 z)), fun z => hms _ (b2 _ ((a2 r hr).2 z))⟩
            refine po_if (fun c => po_app (by omega) ⟨fun v hv => ?_, fun r hr' => ?_, by rw [List.length_append, List.length_append, List.length_singleton, List.length_singleton]; omega⟩) fun c => ⟨b1, fun r hr' => ?_, by rw [List.length_append, List.length_singleton]; omega⟩
            · rcases List.mem_append.mp hv with hv | hv
              · exact b1 v hv
              · rw [List.mem_singleton] at hv
                rw [hv]
                exact ⟨hr.1, hr.2.1, (hj.mp c).2⟩
            · rcases List.mem_append.mp hr' with hr' | hr'
              · exact old r hr' _ fun v hv => List.mem_append_left _ hv
              · rw [List.mem_singleton] at hr'
                rw [hr']
                exact ⟨fun z => List.mem_append_left _ (b3 z), fun _ => List.mem_append_right _ (List.mem_singleton_self _)⟩
            · rcases List.mem_append.mp hr' with hr' | hr'
              · exact old r hr' _ fun v hv => hv
              · rw [List.mem_singleton] at hr'
                rw [hr']
                exact ⟨b3, fun z => absurd (hj.mpr z) c⟩
        · intro met ⟨a1, a2, a3⟩
          refine ⟨a1, fun v v0 v1 ev => ?_, by omega⟩
          have hne : v ≠ p := fun e => by
            rw [e, d.zero] at ev
            omega
          obtain ⟨w, w0, w1, hw, ew⟩ := d.desc v v0 v1 hne (by omega)
          rcases hw with hw | hw
          · exact (a2 _ hw).1 ⟨by show f w = _; omega, ev⟩
          · exact (a2 _ hw).2 ⟨by show f w = _; omega, ev⟩
      · have eb : b2i (decide ((g.length : Int) < n)) = 0 := by unfold b2i; rw [decide_eq_false hall]; rfl
        have ec : cutL ts none (some ((ts.length : Int) * b2i (decide ((g.length : Int) < n)))) = [] := by
          rw [eb, Int.mul_zero]
          exact cut_take ts 0
        show Post (foldR _ [] (cutL ts none (some ((ts.length : Int) * b2i (decide ((g.length : Int) < n)))))) _ noX
        rw [ec]
        refine ⟨fun _ h => (nomatch h), fun v v0 v1 ev => ?_, Nat.zero_le _⟩
        exfalso
        -- all are found already
        have hv : v ∈ mkeys g := by
          apply Classical.byContradiction
          intro hv
          have := nodup_le (List.nodup_cons.mpr ⟨hv, k1⟩) (ys := rng 0 n) fun u hu => by
            rcases List.mem_cons.mp hu with rfl | hu
            · exact rng_mem.mpr ⟨v0, v1⟩
            · exact rng_mem.mpr (k2 u hu)
          rw [rng_length, List.length_cons, mkeys_length] at this
          omega
        have := (has v v0 v1).mp (mhas_keys.mpr hv)
        omega
    · refine po_bind (po_foldP (fun pr g' => (mkeys g').Nodup ∧ (∀ v, v ∈ mkeys g' → 0 ≤ v ∧ v < n) ∧ ∀ v, mget g' v = if v ∈ pr then some t else mget g v) ⟨k1, k2, fun v => by rw [if_neg (fun h => nomatch h)]⟩ ?_) fun g' ⟨c1, c2, c3⟩ => ?_
      · intro pr g' w po eq ⟨c1, c2, c3⟩
        have hw : w ∈ met := by rw [eq]; simp
        obtain ⟨w0, w1, _⟩ := m1 w hw
        have hgl' : (mkeys g').length ≤ n.toNat := by
          have := nodup_le c1 (ys := rng 0 n) fun v hv => rng_mem.mpr (c2 v hv)
          rw [rng_length] at this
          omega
        rw [mkeys_length] at hgl'
        refine po_mput (by omega) ⟨mkeys_nodup c1, fun v hv => ?_, fun v => ?_⟩
        · rw [mkeys_mput] at hv
          split at hv
          · exact c2 v hv
          · rcases List.mem_append.mp hv with hv | hv
            · exact c2 v hv
            · rw [List.mem_singleton] at hv
              rw [hv]; exact ⟨w0, w1⟩
        · rw [mget_mput, c3]
          by_cases q : v = w
          · rw [if_pos q, if_pos (by rw [q]; simp)]
          · rw [if_neg q]
            by_cases z : v ∈ pr
            · rw [if_pos z, if_pos (List.mem_append_left _ z)]
            · rw [if_neg z, if_neg]
              intro y
              rcases List.mem_append.mp y with y | y
              · exact z y
              · exact q (List.mem_singleton.mp y)
      · refine ⟨c1, c2, fun v v0 v1 => ?_⟩
        rw [c3, k3 v v0 v1, List.length_append, List.length_singleton]
        by_cases q : v ∈ met
        · have := m1 v q
          rw [if_pos q, if_pos (by omega), this.2.2]
        · rw [if_neg q]
          have hne : f v ≠ t := fun e => q (m2 v v0 v1 e)
          by_cases z : f v ≤ (pre.length : Int)
          · rw [if_pos z, if_pos (by omega)]
          · rw [if_neg z, if_neg (by omega)]
  · refine po_rng (by decide) (by decide) (by show -(2 ^ 62) ≤ n; omega) (by show n < 2 ^ 62; omega) ?_
    refine po_mapGE (g := fun b => (mget g b).getD (-1)) (by show (rng 0 n).length < 100000; rw [rng_length]; omega) (fun _ _ => rfl) ?_
    show _ = _
    refine map_rng_congr fun v v0 v1 => ?_
    rw [k3 v v0 v1]
    show ((if f v ≤ (((rng 1 n).length : Nat) : Int) then some (f v) else none).getD (-1) : Int) = if f v < n then f v else -1
    rw [rng_length]
    by_cases q : f v < n
    · rw [if_pos (by omega), if_pos q]; rfl
    · rw [if_neg (by omega), if_neg q]; rfl
/-! ### a fold that leaves, by what is gone through -/
theorem po_foldXP {β α ρ : Type} {f : β → α → R (Sum ρ (Bool × β))} {s : β} {xs : List α} {X : Exn → Prop} (I : List α → β → Prop) (P : ρ → Prop) (h0 : I [] s)
    (hf : ∀ pre s x post, xs = pre ++ x :: post → I pre s → Post (f s x) (fun r => (∃ z, r = .inl z ∧ P z) ∨ ∃ s', r = .inr (true, s') ∧ I (pre ++ [x]) s') X) : Post (foldX f s xs) (fun r => (∃ z, r = .inl z ∧ P z) ∨ ∃ s', r = .inr s' ∧ I xs s') X := by
  have key : ∀ (l pre : List α) (s : β), xs = pre ++ l → I pre s → Post (foldX f s l) (fun r => (∃ z, r = .inl z ∧ P z) ∨ ∃ s', r = .inr s' ∧ I xs s') X := by
    intro l
    induction l with
    | nil =>
      intro pre s e h
      rw [List.append_nil] at e
      rw [e]
      exact .inr ⟨s, rfl, h⟩
    | cons x l ih =>
      intro pre s e h
      refine po_bind (hf pre s x l e h) fun r hr => ?_
      rcases hr with ⟨z, rfl, hz⟩ | ⟨s', rfl, hs⟩
      · exact .inl ⟨z, rfl, hz⟩
      · exact ih (pre ++ [x]) s' (by rw [e, List.append_assoc]; rfl) hs
  exact key xs [] s rfl h0
def nrm (p : Int × Int) : Int × Int := (min2 p.1 p.2, max2 p.1 p.2)
/-- what is said of a number and a list of pairs -/
def badT (n : Int) (met : List (Int × Int)) (b : Int × Int) : Bool := decide (b.1 = b.2) || (decide (min2 b.1 b.2 < 0) || (decide (n ≤ max2 b.1 b.2) || inB (nrm b) met))
structure TsOk (n : Int) (ts : List (Int × Int)) : Prop where
  rg : ∀ p ∈ ts, 0 ≤ p.1 ∧ p.1 < n ∧ 0 ≤ p.2 ∧ p.2 < n ∧ p.1 ≠ p.2
theorem bad_f {n : Int} {met : List (Int × Int)} {b : Int × Int} (h : badT n met b = false) : 0 ≤ b.1 ∧ b.1 < n ∧ 0 ≤ b.2 ∧ b.2 < n ∧ b.1 ≠ b.2 := by
  unfold badT at h
  simp only [Bool.or_eq_false_iff, decide_eq_false_iff_not] at h
  obtain ⟨h1, h2, h3, _⟩ := h
  rcases mm_cases b.1 b.2 with ⟨e1, e2, _⟩ | ⟨e1, e2, _⟩ <;> rw [e1] at h2 <;> rw [e2] at h3 <;> omega
/-- the first pair that is no tie is found by both, or there is none -/
theorem walk_ties {n : Int} {ts : List (Int × Int)} (hl : ts.length ≤ 700) :
    (sorted_tiesX n ts = R.exc ⟨"NoWeb", 0⟩ ∧ ∃ k : Unit, True ∧ foldX (fun (g9 : (List (Int × Int))) (b9 : (Int × Int)) => do
        if ((decide (b9.1 = b9.2)) || ((decide ((min2 b9.1 b9.2) < (0 : Int))) || ((decide (n ≤ (max2 b9.1 b9.2))) || (inB ((min2 b9.1 b9.2), (max2 b9.1 b9.2)) g9)))) = true then do
          R.ok (.inl (Tl.tx ⟨("noweb" : Str), by decide +kernel⟩))
        else do
          let l23 ← app g9 ((min2 b9.1 b9.2), (max2 b9.1 b9.2))
          R.ok (.inr (true, l23))) ([] : (List (Int × Int))) ts = R.ok (.inl (Tl.tx ⟨("noweb" : Str), by decide +kernel⟩))) ∨
    (sorted_tiesX n ts = R.ok ⟨sortP (ts.map nrm)⟩ ∧ TsOk n ts ∧ foldX (fun (g9 : (List (Int × Int))) (b9 : (Int × Int)) => do
        if ((decide (b9.1 = b9.2)) || ((decide ((min2 b9.1 b9.2) < (0 : Int))) || ((decide (n ≤ (max2 b9.1 b9.2))) || (inB ((min2 b9.1 b9.2), (max2 b9.1 b9.2)) g9)))) = true then do
          R.ok (.inl (Tl.tx ⟨("noweb" : Str), by decide +kernel⟩))
        else do
          let l23 ← app g9 ((min2 b9.1 b9.2), (max2 b9.1 b9.2))
          R.ok (.inr (true, l23))) ([] : (List (Int × Int))) ts = R.ok (.inr (ts.map nrm))) := by
  have key : ∀ (post pre : List (Int × Int)), (pre ++ post).length ≤ 700 → TsOk n pre →
      (foldR (fun (g4 : (List (Int × Int))) (b4 : (Int × Int)) => do
      if ((decide ((min2 b4.1 b4.2) < (0 : Int))) || ((decide (n ≤ (max2 b4.1 b4.2))) || ((decide (b4.1 = b4.2)) || (inB ((min2 b4.1 b4.2), (max2 b4.1 b4.2)) g4)))) = true then do
        raiseR "NoWeb"
      else do
        let l18 ← app g4 ((min2 b4.1 b4.2), (max2 b4.1 b4.2))
        R.ok l18) (pre.map nrm) post = R.exc ⟨"NoWeb", 0⟩ ∧ foldX (fun (g9 : (List (Int × Int))) (b9 : (Int × Int)) => do
        if ((decide (b9.1 = b9.2)) || ((decide ((min2 b9.1 b9.2) < (0 : Int))) || ((decide (n ≤ (max2 b9.1 b9.2))) || (inB ((min2 b9.1 b9.2), (max2 b9.1 b9.2)) g9)))) = true then do
          R.ok (.inl (Tl.tx ⟨("noweb" : Str), by decide +kernel⟩))
        else do
          let l23 ← app g9 ((min2 b9.1 b9.2), (max2 b9.1 b9.2))
          R.ok (.inr (true, l23))) (pre.map nrm) post = R.ok (.inl (Tl.tx ⟨("noweb" : Str), by decide +kernel⟩))) ∨
      (foldR (fun (g4 : (List (Int × Int))) (b4 : (Int × Int)) => do
      if ((decide ((min2 b4.1 b4.2) < (0 : Int))) || ((decide (n ≤ (max2 b4.1 b4.2))) || ((decide (b4.1 = b4.2)) || (inB ((min2 b4.1 b4.2), (max2 b4.1 b4.2)) g4)))) = true then do
        raiseR "NoWeb"
      else do
        let l18 ← app g4 ((min2 b4.1 b4.2), (max2 b4.1 b4.2))
        R.ok l18) (pre.map nrm) post = R.ok ((pre ++ post).map nrm) ∧ TsOk n (pre ++ post) ∧ foldX (fun (g9 : (List (Int × Int))) (b9 : (Int × Int)) => do
        if ((decide (b9.1 = b9.2)) || ((decide ((min2 b9.1 b9.2) < (0 : Int))) || ((decide (n ≤ (max2 b9.1 b9.2))) || (inB ((min2 b9.1 b9.2), (max2 b9.1 b9.2)) g9)))) = true then do
          R.ok (.inl (Tl.tx ⟨("noweb" : Str), by decide +kernel⟩))
        else do
          let l23 ← app g9 ((min2 b9.1 b9.2), (max2 b9.1 b9.2))
          R.ok (.inr (true, l23))) (pre.map nrm) post = R.ok (.inr ((pre ++ post).map nrm))) := by
    intro post
    induction post with
    | nil =>
      intro pre _ ho
      refine .inr ⟨?_, ?_, ?_⟩
      · rw [List.append_nil]; rfl
      · rw [List.append_nil]; exact ho
      · rw [List.append_nil]; rfl
    | cons b post ih =>
      intro pre hl ho
      have hl2 : pre.length < 700 := by rw [List.length_append, List.length_cons] at hl; omega
      cases q : badT n (pre.map nrm) b with
      | true =>
        refine .inl ⟨?_, ?_⟩
        · have q2 : ((decide ((min2 b.1 b.2) < (0 : Int))) || ((decide (n ≤ (max2 b.1 b.2))) || ((decide (b.1 = b.2)) || (inB ((min2 b.1 b.2), (max2 b.1 b.2)) (pre.map nrm))))) = true := by
            unfold badT nrm at q
            simp only [Bool.or_eq_true] at q ⊢
            rcases q with q | q | q | q
            · exact .inr (.inr (.inl q))
            · exact .inl q
            · exact .inr (.inl q)
            · exact .inr (.inr (.inr q))
          show ((if _ then _ else _) >>= _) = _
          rw [if_pos q2]
          rfl
        · show ((if _ then _ else _) >>= _) = _
          rw [if_pos (show ((decide (b.1 = b.2)) || ((decide ((min2 b.1 b.2) < (0 : Int))) || ((decide (n ≤ (max2 b.1 b.2))) || (inB ((min2 b.1 b.2), (max2 b.1 b.2)) (pre.map nrm))))) = true from q)]
          rfl
      | false =>
        have hb := bad_f q
        have ho' : TsOk n (pre ++ [b]) := ⟨fun p hp => by
          rcases List.mem_append.mp hp with hp | hp
          · exact ho.rg p hp
          · rw [List.mem_singleton.mp hp]; exact hb⟩
        have e1 : ((decide ((min2 b.1 b.2) < (0 : Int))) || ((decide (n ≤ (max2 b.1 b.2))) || ((decide (b.1 = b.2)) || (inB ((min2 b.1 b.2), (max2 b.1 b.2)) (pre.map nrm))))) = false := by
          unfold badT nrm at q
          simp only [Bool.or_eq_false_iff] at q ⊢
          exact ⟨q.2.1, q.2.2.1, q.1, q.2.2.2⟩
        have e2 : app (pre.map nrm) ((min2 b.1 b.2), (max2 b.1 b.2)) = R.ok ((pre ++ [b]).map nrm) := by
          rw [Z.app_ok (by rw [List.length_map]; omega), List.map_append]
          rfl
        have ih' := ih (pre ++ [b]) (by rw [List.append_assoc]; exact hl) ho'
        rw [List.append_assoc] at ih'
        have s1 : ∀ r, foldR (fun (g4 : (List (Int × Int))) (b4 : (Int × Int)) => do
      if ((decide ((min2 b4.1 b4.2) < (0 : Int))) || ((decide (n ≤ (max2 b4.1 b4.2))) || ((decide (b4.1 = b4.2)) || (inB ((min2 b4.1 b4.2), (max2 b4.1 b4.2)) g4)))) = true then do
        raiseR "NoWeb"
      else do
        let l18 ← app g4 ((min2 b4.1 b4.2), (max2 b4.1 b4.2))
        R.ok l18) ((pre ++ [b]).map nrm) post = r → foldR (fun (g4 : (List (Int × Int))) (b4 : (Int × Int)) => do
      if ((decide ((min2 b4.1 b4.2) < (0 : Int))) || ((decide (n ≤ (max2 b4.1 b4.2))) || ((decide (b4.1 = b4.2)) || (inB ((min2 b4.1 b4.2), (max2 b4.1 b4.2)) g4)))) = true then do
        raiseR "NoWeb"
      else do
        let l18 ← app g4 ((min2 b4.1 b4.2), (max2 b4.1 b4.2))
        R.ok l18) (pre.map nrm) (b :: post) = r := fun r hr => by
          rw [← hr]
          show ((if _ then _ else _) >>= _) = _
          rw [e1, if_neg (by decide), e2]
          rfl
        have s2 : ∀ r, foldX (fun (g9 : (List (Int × Int))) (b9 : (Int × Int)) => do
        if ((decide (b9.1 = b9.2)) || ((decide ((min2 b9.1 b9.2) < (0 : Int))) || ((decide (n ≤ (max2 b9.1 b9.2))) || (inB ((min2 b9.1 b9.2), (max2 b9.1 b9.2)) g9)))) = true then do
          R.ok (.inl (Tl.tx ⟨("noweb" : Str), by decide +kernel⟩))
        else do
          let l23 ← app g9 ((min2 b9.1 b9.2), (max2 b9.1 b9.2))
          R.ok (.inr (true, l23))) ((pre ++ [b]).map nrm) post = r → foldX (fun (g9 : (List (Int × Int))) (b9 : (Int × Int)) => do
        if ((decide (b9.1 = b9.2)) || ((decide ((min2 b9.1 b9.2) < (0 : Int))) || ((decide (n ≤ (max2 b9.1 b9.2))) || (inB ((min2 b9.1 b9.2), (max2 b9.1 b9.2)) g9)))) = true then do
          R.ok (.inl (Tl.tx ⟨("noweb" : Str), by decide +kernel⟩))
        else do
          let l23 ← app g9 ((min2 b9.1 b9.2), (max2 b9.1 b9.2))
          R.ok (.inr (true, l23))) (pre.map nrm) (b :: post) = r := fun r hr => by
          rw [← hr]
          show ((if _ then _ else _) >>= _) = _
          rw [show ((decide (b.1 = b.2)) || ((decide ((min2 b.1 b.2) < (0 : Int))) || ((decide (n ≤ (max2 b.1 b.2))) || (inB ((min2 b.1 b.2), (max2 b.1 b.2)) (pre.map nrm))))) = false from q, if_neg (by decide), e2]
          rfl
        rcases ih' with ⟨i1, i2⟩ | ⟨i1, i2, i3⟩
        · exact .inl ⟨s1 _ i1, s2 _ i2⟩
        · exact .inr ⟨s1 _ i1, i2, s2 _ i3⟩
  rcases key ts [] hl ⟨fun _ z => nomatch z⟩ with ⟨h1, h2⟩ | ⟨h1, h2, h3⟩
  · refine .inl ⟨?_, (), trivial, h2⟩
    unfold sorted_tiesX
    show (foldR _ (([] : List (Int × Int)).map nrm) ts >>= _) = _
    rw [h1]
    rfl
  · refine .inr ⟨?_, h2, h3⟩
    unfold sorted_tiesX
    show (foldR _ (([] : List (Int × Int)).map nrm) ts >>= _) = _
    rw [h1]
    rfl
theorem adj_nrm {ts : List (Int × Int)} {a b : Int} : Adj (sortP (ts.map nrm)) a b ↔ Adj ts a b := by
  have m : ∀ p : Int × Int, p ∈ sortP (ts.map nrm) ↔ ∃ q ∈ ts, nrm q = p := fun p => by
    rw [(sortP_perm _).mem_iff, List.mem_map]
  unfold Adj
  rw [m, m]
  have go : ∀ q : Int × Int, (nrm q = (a, b) ∨ nrm q = (b, a)) ↔ (q = (a, b) ∨ q = (b, a)) := fun q => by
    obtain ⟨x, y⟩ := q
    unfold nrm
    rcases mm_cases x y with ⟨e1, e2, _⟩ | ⟨e1, e2, _⟩ <;> simp only [e1, e2, Prod.mk.injEq] <;> omega
  constructor
  · rintro (⟨q, hq, e⟩ | ⟨q, hq, e⟩)
    · rcases (go q).mp (.inl e) with rfl | rfl
      · exact .inl hq
      · exact .inr hq
    · rcases (go q).mp (.inr e) with rfl | rfl
      · exact .inl hq
      · exact .inr hq
  · rintro (h | h)
    · rcases (go (a, b)).mpr (.inl rfl) with e | e
      · exact .inl ⟨_, h, e⟩
      · exact .inr ⟨_, h, e⟩
    · rcases (go (b, a)).mpr (.inr rfl) with e | e
      · exact .inl ⟨_, h, e⟩
      · exact .inr ⟨_, h, e⟩
theorem sort_rg {n : Int} {ts : List (Int × Int)} (h : TsOk n ts) : ∀ q ∈ sortP (ts.map nrm), 0 ≤ q.1 ∧ q.1 < n ∧ 0 ≤ q.2 ∧ q.2 < n := fun q hq => by
  rw [(sortP_perm _).mem_iff] at hq
  obtain ⟨p, hp, rfl⟩ := List.mem_map.mp hq
  have := h.rg p hp
  unfold nrm
  rcases mm_cases p.1 p.2 with ⟨e1, e2, _⟩ | ⟨e1, e2, _⟩ <;> simp only [e1, e2] <;> omega
section
variable {κ : Type} [DecidableEq κ]
theorem fidx_mem {k : κ} : ∀ {ks : List κ}, k ∈ ks → ∃ j, fidx k ks = some j ∧ ks[j]? = some k
  | [], h => nomatch h
  | x :: xs, h => by
    by_cases e : x = k
    · exact ⟨0, by unfold fidx; rw [if_pos e], by rw [e]; rfl⟩
    · obtain ⟨j, h1, h2⟩ := fidx_mem (k := k) (ks := xs) ((List.mem_cons.mp h).resolve_left fun z => e z.symm)
      exact ⟨j + 1, by unfold fidx; rw [if_neg e, h1]; rfl, by simpa using h2⟩
end
/-- the first place to which one can not come, by turns -/
theorem first_apart {n : Int} {F : Int → Option Int} {f : Int → Int} (n1 : 1 ≤ n) (h : ∀ v, 0 ≤ v → v < n → ((F v).isSome = true ↔ f v < n)) (hnn : ∀ v, 0 ≤ v → v < n → 0 ≤ f v) :
    (foldR (fun (g15 : Unit) (b15 : Int) => do
        let t17 ← getI ((rng 0 n).map F) b15
        if t17.isNone = true then do
          raiseX "Apart" b15
        else do
          R.ok ()) () (rng 0 n) = R.ok () ∧ inB (-(1 : Int)) ((rng 0 n).map fun v => if f v < n then f v else -1) = false) ∨
    ∃ v, foldR (fun (g15 : Unit) (b15 : Int) => do
        let t17 ← getI ((rng 0 n).map F) b15
        if t17.isNone = true then do
          raiseX "Apart" b15
        else do
          R.ok ()) () (rng 0 n) = R.exc ⟨"Apart", v⟩ ∧ inB (-(1 : Int)) ((rng 0 n).map fun v => if f v < n then f v else -1) = true ∧ idxR ((rng 0 n).map fun v => if f v < n then f v else -1) (-1) = R.ok v := by
  have key : ∀ (post : List Int) (pre : List Int), rng 0 n = pre ++ post → (∀ v ∈ pre, f v < n) →
    (foldR (fun (g15 : Unit) (b15 : Int) => do
        let t17 ← getI ((rng 0 n).map F) b15
        if t17.isNone = true then do
          raiseX "Apart" b15
        else do
          R.ok ()) () post = R.ok () ∧ ∀ v ∈ pre ++ post, f v < n) ∨ ∃ (v : Int) (l r : List Int), foldR (fun (g15 : Unit) (b15 : Int) => do
        let t17 ← getI ((rng 0 n).map F) b15
        if t17.isNone = true then do
          raiseX "Apart" b15
        else do
          R.ok ()) () post = R.exc ⟨"Apart", v⟩ ∧ rng 0 n = l ++ v :: r ∧ (∀ u ∈ l, f u < n) ∧ ¬ f v < n := by
    intro post
    induction post with
    | nil =>
      intro pre _ hp
      exact .inl ⟨rfl, by rw [List.append_nil]; exact hp⟩
    | cons b post ih =>
      intro pre e hp
      obtain ⟨_, b0, b1⟩ := rng_split e
      have b1' : b < n := b1
      have eg : getI ((rng 0 n).map F) b = R.ok (F b) := getI_eq b0 (map_rng_get b0 b1')
      by_cases q : f b < n
      · have hs := (h b b0 b1').mpr q
        have hn : (F b).isNone = false := by
          cases z : F b with
          | none => rw [z] at hs; cases hs
          | some _ => rfl
        have st : ∀ r, foldR (fun (g15 : Unit) (b15 : Int) => do
        let t17 ← getI ((rng 0 n).map F) b15
        if t17.isNone = true then do
          raiseX "Apart" b15
        else do
          R.ok ()) () post = r → foldR (fun (g15 : Unit) (b15 : Int) => do
        let t17 ← getI ((rng 0 n).map F) b15
        if t17.isNone = true then do
          raiseX "Apart" b15
        else do
          R.ok ()) () (b :: post) = r := fun r hr => by
          rw [← hr]
          show ((getI ((rng 0 n).map F) b >>= _) >>= _) = _
          rw [eg, ok_bind, hn, if_neg (by decide)]
          rfl
        rcases ih (pre ++ [b]) (by rw [e, List.append_assoc]; rfl) (fun v hv => by
          rcases List.mem_append.mp hv with hv | hv
          · exact hp v hv
          · rw [List.mem_singleton.mp hv]; exact q) with ⟨i1, i2⟩ | ⟨v, l, r, i1, i2⟩
        · exact .inl ⟨st _ i1, by rw [List.append_assoc] at i2; exact i2⟩
        · exact .inr ⟨v, l, r, st _ i1, i2⟩
      · have hs : ¬ (F b).isSome = true := fun z => q ((h b b0 b1').mp z)
        have hn : (F b).isNone = true := by
          cases z : F b with
          | none => rfl
          | some _ => rw [z] at hs; exact absurd rfl hs
        refine .inr ⟨b, pre, post, ?_, e, hp, q⟩
        show ((getI ((rng 0 n).map F) b >>= _) >>= _) = _
        rw [eg, ok_bind, hn, if_pos rfl]
        rfl
  rcases key (rng 0 n) [] rfl (fun _ z => nomatch z) with ⟨h1, h2⟩ | ⟨v, l, r, h1, h2, h3, h4⟩
  · refine .inl ⟨h1, inB_f.mpr fun z => ?_⟩
    obtain ⟨v, hv, e⟩ := List.mem_map.mp z
    have e' : (if f v < n then f v else -1) = -1 := e
    obtain ⟨v0, v1⟩ := rng_mem.mp hv
    have := hnn v v0 v1
    rw [if_pos (h2 v hv)] at e'
    omega
  · have hv : v ∈ rng 0 n := by rw [h2]; simp
    obtain ⟨v0, v1⟩ := rng_mem.mp hv
    have hm : (-1 : Int) ∈ (rng 0 n).map fun v => if f v < n then f v else -1 := List.mem_map.mpr ⟨v, hv, if_neg h4⟩
    refine .inr ⟨v, h1, inB_t.mpr hm, ?_⟩
    obtain ⟨j, e1, e2⟩ := fidx_mem hm
    obtain ⟨s1, s2⟩ := fidx_spec e1
    rw [List.getElem?_map] at e2
    obtain ⟨u, eu, ev⟩ := Option.map_eq_some_iff.mp e2
    have ev' : (if f u < n then f u else -1) = -1 := ev
    have hu := List.mem_of_getElem? eu
    obtain ⟨u0, u1⟩ := rng_mem.mp hu
    have hul : ¬ f u < n := fun z => by
      rw [if_pos z] at ev'
      have := hnn u u0 u1
      omega
    have el := rng_pre h2
    have ej : u = (j : Int) := by
      have hjl := (List.getElem?_eq_some_iff.mp eu).1
      rw [rng_length] at hjl
      rw [rng_atE (by omega)] at eu
      cases eu
      omega
    have : ¬ j < v.toNat := fun q => by
      have : u ∈ l := by
        rw [h2, List.getElem?_append_left (by omega)] at eu
        exact List.mem_of_getElem? eu
      exact hul (h3 u this)
    have : ¬ v.toNat < j := fun q => by
      refine s2 v.toNat (-1) q ?_ rfl
      rw [map_rng_get v0 v1]
      show some (if f v < n then f v else -1) = _
      rw [if_neg h4]
    unfold idxR
    rw [e1]
    show R.ok ((j : Nat) : Int) = _
    congr 1
    omega
def hnd (e : Exn) : R Tl := (do
      let j4 ← (do
        let b5 ← isC names [] e
        if b5 = true then do
          R.ok true
        else do
          let b9 ← isC names [("NoWeb" : Str), ("Apart" : Str)] e
          R.ok (!b9) : R (Bool))
      if j4 = true then do
        R.ok (Tl.tx ⟨("other" : Str), by decide +kernel⟩)
      else do
        let b13 ← isC names [("Apart" : Str)] e
        let b14 ← isC names [("NoWeb" : Str)] e
        if (decide (b13 = b14)) = true then do
          R.ok (Tl.tx ⟨("other" : Str), by decide +kernel⟩)
        else do
          let b17 ← isC names [("NoWeb" : Str)] e
          if b17 = true then do
            R.ok (Tl.tx ⟨("noweb" : Str), by decide +kernel⟩)
          else do
            let b20 ← xarg "Apart" e
            R.ok (Tl.ap ⟨("apart" : Str), by decide +kernel⟩ b20) : R (Tl))
theorem isC_t {tn : List Str} {e : Exn} {b : Bool} (h : e.cls ∈ names) (hb : decide (e.cls ∈ tn) = b) : isC names tn e = R.ok b := by
  unfold isC
  rw [if_pos h, hb]
theorem nw_in : ("NoWeb" : Str) ∈ names := by decide +kernel
theorem ap_in : ("Apart" : Str) ∈ names := by decide +kernel
theorem hnd_nw : hnd ⟨"NoWeb", 0⟩ = R.ok (Tl.tx ⟨("noweb" : Str), by decide +kernel⟩) := by
  have i1 : isC names [] ⟨"NoWeb", 0⟩ = R.ok false := isC_t nw_in (by decide +kernel)
  have i2 : isC names [("NoWeb" : Str), ("Apart" : Str)] ⟨"NoWeb", 0⟩ = R.ok true := isC_t nw_in (by decide +kernel)
  have i3 : isC names [("Apart" : Str)] ⟨"NoWeb", 0⟩ = R.ok false := isC_t nw_in (by decide +kernel)
  have i4 : isC names [("NoWeb" : Str)] ⟨"NoWeb", 0⟩ = R.ok true := isC_t nw_in (by decide +kernel)
  unfold hnd
  rw [i1, ok_bind, if_neg (by decide), i2, ok_bind, ok_bind, if_neg (by decide), i3, ok_bind, i4, ok_bind, if_neg (by decide), ok_bind, if_pos rfl]
theorem hnd_ap {v : Int} : hnd ⟨"Apart", v⟩ = R.ok (Tl.ap ⟨("apart" : Str), by decide +kernel⟩ v) := by
  have i1 : isC names [] ⟨"Apart", v⟩ = R.ok false := isC_t ap_in (by rfl)
  have i2 : isC names [("NoWeb" : Str), ("Apart" : Str)] ⟨"Apart", v⟩ = R.ok true := isC_t ap_in (show decide (("Apart" : Str) ∈ [("NoWeb" : Str), ("Apart" : Str)]) = true by decide +kernel)
  have i3 : isC names [("Apart" : Str)] ⟨"Apart", v⟩ = R.ok true := isC_t ap_in (show decide (("Apart" : Str) ∈ [("Apart" : Str)]) = true by decide +kernel)
  have i4 : isC names [("NoWeb" : Str)] ⟨"Apart", v⟩ = R.ok false := isC_t ap_in (show decide (("Apart" : Str) ∈ [("NoWeb" : Str)]) = false by decide +kernel)
  have i5 : xarg "Apart" ⟨"Apart", v⟩ = R.ok v := by
    unfold xarg
    rw [if_pos rfl]
  unfold hnd
  rw [i1, ok_bind, if_neg (by decide), i2, ok_bind, ok_bind, if_neg (by decide), i3, ok_bind, i4, ok_bind, if_neg (by decide), ok_bind, if_neg (by decide), i5, ok_bind]
theorem told_ok {n : Int} {ts : List (Int × Int)} {w : Int × Tup (Int × Int)} (h : made_webX n ts = R.ok w) : law_told n ts = R.ok (Tl.wb w) := by
  unfold law_told
  rw [h]
  rfl
theorem tryX {α : Type} {names : List Str} {e : Exn} {f : Exn → R α} (h : e.cls ∈ names) : tryWith names (R.exc e) f = f e := if_pos h
theorem told_nw {n : Int} {ts : List (Int × Int)} (h : made_webX n ts = R.exc ⟨"NoWeb", 0⟩) : law_told n ts = R.ok (Tl.tx ⟨("noweb" : Str), by decide +kernel⟩) := by
  unfold law_told
  rw [h, exc_bind, tryX nw_in]
  show (hnd ⟨"NoWeb", 0⟩ >>= _) = _
  rw [hnd_nw, ok_bind]
theorem told_ap {n v : Int} {ts : List (Int × Int)} (h : made_webX n ts = R.exc ⟨"Apart", v⟩) : law_told n ts = R.ok (Tl.ap ⟨("apart" : Str), by decide +kernel⟩ v) := by
  unfold law_told
  rw [h, exc_bind, tryX ap_in]
  show (hnd ⟨"Apart", v⟩ >>= _) = _
  rw [hnd_ap, ok_bind]
theorem nx_ok {α : Type} (a : α) : nx (R.ok a) = R.ok a := rfl
theorem told_due {n : Int} {ts : List (Int × Int)} (hl : ts.length ≤ 700) : ∃ t, law_told n ts = R.ok t ∧ law_due n ts = R.ok t := by
  by_cases hn : 1 ≤ n ∧ n ≤ 60
  · obtain ⟨n1, n60⟩ := hn
    have c1 : (!((decide ((1 : Int) ≤ n)) && (decide (n ≤ (60 : Int))))) = false := by rw [decide_eq_true n1, decide_eq_true n60]; rfl
    have c2 : ((decide (n < (1 : Int))) || (decide ((60 : Int) < n))) = false := by
      rw [decide_eq_false (by omega), decide_eq_false (by omega)]; rfl
    rcases walk_ties (n := n) hl with ⟨h1, _, _, h2⟩ | ⟨h1, ho, h2⟩
    · refine ⟨_, told_nw ?_, ?_⟩
      · unfold made_webX
        rw [c1, if_neg (by decide), h1, exc_bind]
      · unfold law_due
        rw [c2, if_neg (by decide), h2, ok_bind]
    · have hr := sort_rg ho
      have hr2 : ∀ q ∈ ts, 0 ≤ q.1 ∧ q.1 < n ∧ 0 ≤ q.2 ∧ q.2 < n := fun q hq => by
        have := ho.rg q hq
        omega
      obtain ⟨f, d⟩ := pd_ex (p := 0) hr2 n1
      have d2 : PD n (sortP (ts.map nrm)) 0 f := ⟨d.zero, d.nn, fun a b h => d.lip a b (adj_nrm.mp h), fun v v0 v1 hne hlt => by
        obtain ⟨w, w0, w1, ha, e⟩ := d.desc v v0 v1 hne hlt
        exact ⟨w, w0, w1, adj_nrm.mpr ha, e⟩⟩
      have hsl : (sortP (ts.map nrm)).length = ts.length := by rw [(sortP_perm _).length_eq, List.length_map]
      have en : near_lists (n, ⟨sortP (ts.map nrm)⟩) = R.ok (nears n (sortP (ts.map nrm))) := near_lists_ok (by omega) (by omega) (by omega) hr
      obtain ⟨l, ef, F, line, rfl, b⟩ := po_ex (fars_by_bfs (n := n) (ts := sortP (ts.map nrm)) (p := 0) (by omega) hr (Int.le_refl 0) (by omega))
      have hb : ∀ v, 0 ≤ v → v < n → ((F v).isSome = true ↔ f v < n) := fun v v0 v1 => bfs_pd b d2 (Int.le_refl 0) (by omega) v v0 v1
      have el := law_fars_pd (f := f) n1 n60 hl hr2 d (Int.le_refl 0) (by omega)
      have er : rngI 0 n = R.ok (rng 0 n) := rngI_ok (by decide) (by decide) (by omega) (by omega)
      rcases first_apart n1 hb d.nn with ⟨f1, f2⟩ | ⟨v, f1, f2, f3⟩
      · refine ⟨Tl.wb (n, ⟨sortP (ts.map nrm)⟩), ?_, ?_⟩
        · refine told_ok ?_
          unfold made_webX
          rw [c1, if_neg (by decide), h1, ok_bind, en, nx_ok, ok_bind, ef, nx_ok, ok_bind, er, ok_bind, f1]
          rfl
        · unfold law_due
          rw [c2, if_neg (by decide), h2, ok_bind]
          dsimp only
          rw [el, ok_bind, f2, if_neg (by decide)]
      · refine ⟨Tl.ap ⟨("apart" : Str), by decide +kernel⟩ v, ?_, ?_⟩
        · refine told_ap ?_
          unfold made_webX
          rw [c1, if_neg (by decide), h1, ok_bind, en, nx_ok, ok_bind, ef, nx_ok, ok_bind, er, ok_bind, f1]
          rfl
        · unfold law_due
          rw [c2, if_neg (by decide), h2, ok_bind]
          dsimp only
          rw [el, ok_bind, f2, if_pos rfl, f3, ok_bind]
  · have hq : ¬ 1 ≤ n ∨ ¬ n ≤ 60 := by omega
    refine ⟨Tl.tx ⟨("noweb" : Str), by decide +kernel⟩, told_nw ?_, ?_⟩
    · unfold made_webX
      rw [if_pos]
      · rfl
      · rcases hq with q | q
        · rw [decide_eq_false q]; rfl
        · rw [decide_eq_false q, Bool.and_false]; rfl
    · unfold law_due
      rw [if_pos]
      rcases hq with q | q
      · rw [decide_eq_true (show n < 1 by omega)]; rfl
      · rw [decide_eq_true (show (60 : Int) < n by omega), Bool.or_true]
theorem big60 : ((10 : Int) ^ ((60 : Int) : Int).toNat).natAbs.log2 < 9000 := by decide +kernel
theorem big60p : (0 : Int) < (10 : Int) ^ ((60 : Int) : Int).toNat := by decide +kernel
theorem po_ins {α δ : Type} {xs : List α} {i : Int} {x : α} {k : List α → R δ} {P : δ → Prop} {E : Exn → Prop} (hl : xs.length < 50000) (h0 : 0 ≤ i) (h1 : i < 2 ^ 62) (hk : ∀ ys : List α, ys.length = xs.length + 1 → Post (k ys) P E) : Post (insR xs i x >>= k) P E := by
  unfold insR
  rw [if_pos ⟨by omega, h0, by omega⟩]
  refine hk _ ?_
  rw [List.length_append, List.length_append, List.length_take, List.length_drop]
  show _ + 1 + _ = _
  omega
theorem spoilt_ok {s : List Int} {n : Int} {us : List (Int × Int)} (h : PotOk s) (n1 : 1 ≤ n) (n60 : n ≤ 60) (hl : us.length ≤ 200) : Post (law_spoilt s n ⟨us⟩) (fun r => r.1.length ≤ 600 ∧ PotOk r.2) noX := by
  unfold law_spoilt
  refine po_bind (take_ok h (by decide) (by decide)) fun y7 ⟨a0, a1, p7⟩ => ?_
  refine po_rng (by decide) (by decide) (by omega) (by omega) ?_
  refine po_bind (po_foldP (fun pre g => PotOk g.1 ∧ g.2.length ≤ 200 + 3 * pre.length) ⟨p7, by show us.length ≤ _; omega⟩ ?_) ?_
  · rintro pre ⟨pt, fd⟩ b post e ⟨q1, q2⟩
    have q1' : PotOk pt := q1
    have q2' : fd.length ≤ 200 + 3 * pre.length := q2
    have hpl : pre.length ≤ 3 := by
      have := congrArg List.length e
      rw [rng_length] at this
      simp at this
      omega
    have hsn : (pre ++ [b]).length = pre.length + 1 := by rw [List.length_append]; rfl
    refine po_bind (take_ok q1' (by decide) (by decide)) fun y9 ⟨_, _, p9⟩ => po_bind (take_ok p9 (by omega) (by show (fd.length : Int) + 1 < _; omega)) fun y10 ⟨i0, i1, p10⟩ => ?_
    have i1' : y10.1 < (fd.length : Int) + 1 := i1
    refine po_bind (take_okW p10 big60p big60) fun y12 ⟨_, _, p12⟩ => po_bind (take_okW p12 big60p big60) fun y14 ⟨_, _, p14⟩ => po_bind (take_ok p14 (by decide) (by decide)) fun y18 ⟨k0, k1, p18⟩ => ?_
    refine po_get k0 (by show y18.1 < 4; exact k1) fun t19 _ _ => ?_
    refine po_bind (Q := fun g => PotOk g.1 ∧ g.2.length ≤ 201 + 3 * pre.length) (po_if (fun _ => po_bind (take_ok p18 (by decide) (by decide)) fun y28 ⟨m0, m1, p28⟩ => po_get m0 (by show y28.1 < 2; exact m1) fun t29 _ _ => po_ins (by show fd.length < _; omega) i0 (by omega) fun ys hy => ⟨p28, by show ys.length ≤ _; rw [hy]; show fd.length + 1 ≤ _; omega⟩) fun _ => ⟨p18, by show fd.length ≤ _; omega⟩) fun g21 ⟨r1, r2⟩ => ?_
    refine po_bind (Q := fun g => PotOk g.1 ∧ g.2.length ≤ 202 + 3 * pre.length) (po_if (fun _ => po_bind (take_ok r1 (by omega) (by omega)) fun y36 ⟨m0, m1, p36⟩ => po_ins (by omega) i0 (by omega) fun ys hy => ⟨p36, by show ys.length ≤ _; rw [hy]; omega⟩) fun _ => ⟨r1, by show g21.2.length ≤ _; omega⟩) fun g34 ⟨s1, s2⟩ => ?_
    refine po_bind (Q := fun g => PotOk g.1 ∧ g.2.length ≤ 203 + 3 * pre.length) (po_if (fun c => ?_) fun _ => ⟨s1, by show g34.2.length ≤ _; omega⟩) fun g40 ⟨u1, u2⟩ => ?_
    · have hne : 0 < g34.2.length := List.length_pos_iff.mpr fun z => by
        rw [z] at c
        simp at c
      refine po_bind (take_ok s1 (by omega) (by omega)) fun y49 ⟨m0, m1, p49⟩ => po_get m0 m1 fun t50 _ _ => po_bind (take_ok p49 (by decide) (by decide)) fun y56 ⟨w0, w1, p56⟩ => po_get w0 (by show y56.1 < 2; exact w1) fun t57 _ _ => po_ins (by omega) i0 (by omega) fun ys hy => ⟨p56, by show ys.length ≤ _; rw [hy]; omega⟩
    · refine po_if (fun c => ?_) fun _ => ⟨u1, by show g40.2.length ≤ _; rw [hsn]; omega⟩
      have hne : 0 < g40.2.length := List.length_pos_iff.mpr fun z => by
        rw [z] at c
        simp at c
      refine po_bind (take_ok u1 (by omega) (by omega)) fun y71 ⟨m0, m1, p71⟩ => po_popB m0 m1 (by omega) fun x hx => ⟨p71, ?_⟩
      show (g40.2.eraseIdx y71.1.toNat).length ≤ _
      rw [List.length_eraseIdx_of_lt (by omega), hsn]
      omega
  · rintro ⟨pt, fd⟩ ⟨q1, q2⟩
    have q2' : fd.length ≤ 200 + 3 * (rng 0 y7.1).length := q2
    rw [rng_length] at q2'
    exact ⟨by show fd.length ≤ _; omega, q1⟩
theorem law_true (ns : List Int) (h : ns.length ≤ 63) : law ⟨ns⟩ = R.ok true := by
  refine po_iff ?_
  unfold law
  refine po_bind (cells_ok (m := 8) h (by decide) (by decide)) fun y3 hy3 => ?_
  refine po_bind (po_foldX (fun _ => True) trivial fun s x _ hx => ?_) fun r ⟨s, e, _⟩ => ?_
  · obtain ⟨k0, k1, _⟩ := enum_mem hx
    refine po_bind (pot_ok k0 (by omega)) fun y7 h7 => po_bind (web_ok h7 (by decide) (by decide)) fun y9 ⟨hw, p9⟩ => ?_
    have hn1 := hw.n1
    have hn := hw.n60
    refine po_bind (spoilt_ok p9 hn1 hn ?_) fun y13 ⟨hl, p13⟩ => ?_
    · have := cut_take y9.1.2.l 197
      show (cutL y9.1.2.l none (some ((197 : Nat) : Int))).length ≤ 200
      rw [this, List.length_take]
      omega
    refine po_bind (Q := fun _ => True) (po_bind (take_ok p13 (by decide) (by decide)) fun y17 ⟨_, _, p17⟩ => po_if (fun _ => po_bind (take_okW p17 big60p big60) fun y20 ⟨_, _, p20⟩ => po_bind (take_okW p20 big60p big60) fun y22 ⟨_, _, p22⟩ => po_bind (take_ok p22 (by decide) (by decide)) fun y26 ⟨m0, m1, p26⟩ => po_get m0 (by show y26.1 < 4; exact m1) fun _ _ _ => trivial) fun _ => trivial) fun g15 _ => ?_
    obtain ⟨t, e1, e2⟩ := told_due (n := g15.1) (ts := y13.1) (by omega)
    rw [e1, ok_bind, e2, ok_bind]
    refine po_bind (Q := fun j => j = false) ?_ fun j hj => ?_
    · rw [decide_eq_true rfl, decide_eq_true rfl]
      exact po_if (fun c => absurd c (by decide)) fun _ => rfl
    · rw [hj]
      exact po_if (fun c => absurd c (by decide)) fun _ => ⟨(), rfl, trivial⟩
  · rw [e]
    rfl
end G
namespace G
open PySem L2 Z
open Rep (rep)
theorem dn_mk {K : Fg} {h : Heap} {mg : Str → Option Value} (X : K.In h) (G : h.Ns mainGlobals mg) {x y : Str} {st : Stmt} {ps : List Str} {f : Addr} {od an : Option Addr} {sl : Array (Option Value)} {oc kV dc pm cd ct : Value}
    (a : PySem.W.nsIn K mainGlobals x = some (some (.ref f))) (l : K.lookup f = some ⟨oc, od, .func (PySem.W.fnOf y y (defArgs st) (defBody st) (defScope st) .none kV dc pm an cd ct), sl⟩) (c : PySem.W.codeIn K cd y = true) (k : PySem.W.keepIn K (.ref f) = true)
    (b : ∀ (kV doc pm : Value) (an : Option Addr) (cdv ct : Value) (us : List Value), us.length = ps.length → bindArgs (PySem.W.fnOf y y (defArgs st) (defBody st) (defScope st) .none kV doc pm an cdv ct) ⟨us, []⟩ = pure (ps.zip us)) :
    Dn K mg x y st ps f (PySem.W.fnOf y y (defArgs st) (defBody st) (defScope st) .none kV dc pm an cd ct) := ⟨fun_mk l c k, PySem.W.mg_of X G a, (fun_mk l c k).binds b⟩
theorem all_mk {l : PySem.W.OpenLaw} {w : World} {K : PySem.W.Frag} {h : Heap} {mg : Str → Option Value} {fa : Addr} (X : K.In h) (G : h.Ns mainGlobals mg) (hfa : mg "law" = some (.ref fa))
    {f8 : Addr} {od8 an8 : Option Addr} {sl8 : Array (Option Value)} {oc8 kV8 dc8 pm8 cd8 ct8 : Value}
    {f9 : Addr} {od9 an9 : Option Addr} {sl9 : Array (Option Value)} {oc9 kV9 dc9 pm9 cd9 ct9 : Value}
    {f10 : Addr} {od10 an10 : Option Addr} {sl10 : Array (Option Value)} {oc10 kV10 dc10 pm10 cd10 ct10 : Value}
    {f11 : Addr} {od11 an11 : Option Addr} {sl11 : Array (Option Value)} {oc11 kV11 dc11 pm11 cd11 ct11 : Value}
    {f13 : Addr} {od13 an13 : Option Addr} {sl13 : Array (Option Value)} {oc13 kV13 dc13 pm13 cd13 ct13 : Value}
    {f14 : Addr} {od14 an14 : Option Addr} {sl14 : Array (Option Value)} {oc14 kV14 dc14 pm14 cd14 ct14 : Value}
    {f15 : Addr} {od15 an15 : Option Addr} {sl15 : Array (Option Value)} {oc15 kV15 dc15 pm15 cd15 ct15 : Value}
    {f16 : Addr} {od16 an16 : Option Addr} {sl16 : Array (Option Value)} {oc16 kV16 dc16 pm16 cd16 ct16 : Value}
    {f17 : Addr} {od17 an17 : Option Addr} {sl17 : Array (Option Value)} {oc17 kV17 dc17 pm17 cd17 ct17 : Value}
    {f18 : Addr} {od18 an18 : Option Addr} {sl18 : Array (Option Value)} {oc18 kV18 dc18 pm18 cd18 ct18 : Value}
    {f19 : Addr} {od19 an19 : Option Addr} {sl19 : Array (Option Value)} {oc19 kV19 dc19 pm19 cd19 ct19 : Value}
    {f20 : Addr} {od20 an20 : Option Addr} {sl20 : Array (Option Value)} {oc20 kV20 dc20 pm20 cd20 ct20 : Value}
    {f21 : Addr} {od21 an21 : Option Addr} {sl21 : Array (Option Value)} {oc21 kV21 dc21 pm21 cd21 ct21 : Value}
    {f22 : Addr} {od22 an22 : Option Addr} {sl22 : Array (Option Value)} {oc22 kV22 dc22 pm22 cd22 ct22 : Value}
    {f23 : Addr} {od23 an23 : Option Addr} {sl23 : Array (Option Value)} {oc23 kV23 dc23 pm23 cd23 ct23 : Value}
    {f24 : Addr} {od24 an24 : Option Addr} {sl24 : Array (Option Value)} {oc24 kV24 dc24 pm24 cd24 ct24 : Value}
    {f25 : Addr} {od25 an25 : Option Addr} {sl25 : Array (Option Value)} {oc25 kV25 dc25 pm25 cd25 ct25 : Value}
    {f6000 : Addr} {od6000 an6000 : Option Addr} {sl6000 : Array (Option Value)} {oc6000 kV6000 dc6000 pm6000 cd6000 ct6000 : Value}
    {g1 : Addr}
    {g2 : Addr}
    {g3 : Addr}
    {g4 : Addr}
    {g5 : Addr}
    {nm_Apart q_Apart : _} {N_Apart : Addr} {bs_Apart bm_Apart sub_Apart : List Value} {sn_Apart : List Str} {ab_Apart : Bool} {col_Apart : Option Bool} {dd_Apart : Option Addr} {k0_Apart k1_Apart k2_Apart k3_Apart k5_Apart : Option Value}
    {tk_MOST_PLACES : Tok}
    (a8 : PySem.W.nsIn K mainGlobals "near_lists" = some (some (.ref f8))) (l8 : K.lookup f8 = some ⟨oc8, od8, .func (PySem.W.fnOf "near_lists" "near_lists" (defArgs s_near_lists) (defBody s_near_lists) (defScope s_near_lists) .none kV8 dc8 pm8 an8 cd8 ct8), sl8⟩) (c8 : PySem.W.codeIn K cd8 "near_lists" = true) (k8 : PySem.W.keepIn K (.ref f8) = true)
    (a9 : PySem.W.nsIn K mainGlobals "fars_by" = some (some (.ref f9))) (l9 : K.lookup f9 = some ⟨oc9, od9, .func (PySem.W.fnOf "fars_by" "fars_by" (defArgs s_fars_by) (defBody s_fars_by) (defScope s_fars_by) .none kV9 dc9 pm9 an9 cd9 ct9), sl9⟩) (c9 : PySem.W.codeIn K cd9 "fars_by" = true) (k9 : PySem.W.keepIn K (.ref f9) = true)
    (a10 : PySem.W.nsIn K mainGlobals "sorted_ties" = some (some (.ref f10))) (l10 : K.lookup f10 = some ⟨oc10, od10, .func (PySem.W.fnOf "sorted_ties" "sorted_ties" (defArgs s_sorted_ties) (defBody s_sorted_ties) (defScope s_sorted_ties) .none kV10 dc10 pm10 an10 cd10 ct10), sl10⟩) (c10 : PySem.W.codeIn K cd10 "sorted_ties" = true) (k10 : PySem.W.keepIn K (.ref f10) = true)
    (a11 : PySem.W.nsIn K mainGlobals "made_web" = some (some (.ref f11))) (l11 : K.lookup f11 = some ⟨oc11, od11, .func (PySem.W.fnOf "made_web" "made_web" (defArgs s_made_web) (defBody s_made_web) (defScope s_made_web) .none kV11 dc11 pm11 an11 cd11 ct11), sl11⟩) (c11 : PySem.W.codeIn K cd11 "made_web" = true) (k11 : PySem.W.keepIn K (.ref f11) = true)
    (a13 : PySem.W.nsIn K mainGlobals "_law_pot" = some (some (.ref f13))) (l13 : K.lookup f13 = some ⟨oc13, od13, .func (PySem.W.fnOf "_law_pot" "_law_pot" (defArgs s_law_pot) (defBody s_law_pot) (defScope s_law_pot) .none kV13 dc13 pm13 an13 cd13 ct13), sl13⟩) (c13 : PySem.W.codeIn K cd13 "_law_pot" = true) (k13 : PySem.W.keepIn K (.ref f13) = true)
    (a14 : PySem.W.nsIn K mainGlobals "_law_take" = some (some (.ref f14))) (l14 : K.lookup f14 = some ⟨oc14, od14, .func (PySem.W.fnOf "_law_take" "_law_take" (defArgs s_law_take) (defBody s_law_take) (defScope s_law_take) .none kV14 dc14 pm14 an14 cd14 ct14), sl14⟩) (c14 : PySem.W.codeIn K cd14 "_law_take" = true) (k14 : PySem.W.keepIn K (.ref f14) = true)
    (a15 : PySem.W.nsIn K mainGlobals "_law_folded" = some (some (.ref f15))) (l15 : K.lookup f15 = some ⟨oc15, od15, .func (PySem.W.fnOf "_law_folded" "_law_folded" (defArgs s_law_folded) (defBody s_law_folded) (defScope s_law_folded) .none kV15 dc15 pm15 an15 cd15 ct15), sl15⟩) (c15 : PySem.W.codeIn K cd15 "_law_folded" = true) (k15 : PySem.W.keepIn K (.ref f15) = true)
    (a16 : PySem.W.nsIn K mainGlobals "_law_cells" = some (some (.ref f16))) (l16 : K.lookup f16 = some ⟨oc16, od16, .func (PySem.W.fnOf "_law_cells" "_law_cells" (defArgs s_law_cells) (defBody s_law_cells) (defScope s_law_cells) .none kV16 dc16 pm16 an16 cd16 ct16), sl16⟩) (c16 : PySem.W.codeIn K cd16 "_law_cells" = true) (k16 : PySem.W.keepIn K (.ref f16) = true)
    (a17 : PySem.W.nsIn K mainGlobals "_law_ties" = some (some (.ref f17))) (l17 : K.lookup f17 = some ⟨oc17, od17, .func (PySem.W.fnOf "_law_ties" "_law_ties" (defArgs s_law_ties) (defBody s_law_ties) (defScope s_law_ties) .none kV17 dc17 pm17 an17 cd17 ct17), sl17⟩) (c17 : PySem.W.codeIn K cd17 "_law_ties" = true) (k17 : PySem.W.keepIn K (.ref f17) = true)
    (a18 : PySem.W.nsIn K mainGlobals "_law_bunches" = some (some (.ref f18))) (l18 : K.lookup f18 = some ⟨oc18, od18, .func (PySem.W.fnOf "_law_bunches" "_law_bunches" (defArgs s_law_bunches) (defBody s_law_bunches) (defScope s_law_bunches) .none kV18 dc18 pm18 an18 cd18 ct18), sl18⟩) (c18 : PySem.W.codeIn K cd18 "_law_bunches" = true) (k18 : PySem.W.keepIn K (.ref f18) = true)
    (a19 : PySem.W.nsIn K mainGlobals "_law_order" = some (some (.ref f19))) (l19 : K.lookup f19 = some ⟨oc19, od19, .func (PySem.W.fnOf "_law_order" "_law_order" (defArgs s_law_order) (defBody s_law_order) (defScope s_law_order) .none kV19 dc19 pm19 an19 cd19 ct19), sl19⟩) (c19 : PySem.W.codeIn K cd19 "_law_order" = true) (k19 : PySem.W.keepIn K (.ref f19) = true)
    (a20 : PySem.W.nsIn K mainGlobals "_law_web" = some (some (.ref f20))) (l20 : K.lookup f20 = some ⟨oc20, od20, .func (PySem.W.fnOf "_law_web" "_law_web" (defArgs s_law_web) (defBody s_law_web) (defScope s_law_web) .none kV20 dc20 pm20 an20 cd20 ct20), sl20⟩) (c20 : PySem.W.codeIn K cd20 "_law_web" = true) (k20 : PySem.W.keepIn K (.ref f20) = true)
    (a21 : PySem.W.nsIn K mainGlobals "_law_fars" = some (some (.ref f21))) (l21 : K.lookup f21 = some ⟨oc21, od21, .func (PySem.W.fnOf "_law_fars" "_law_fars" (defArgs s_law_fars) (defBody s_law_fars) (defScope s_law_fars) .none kV21 dc21 pm21 an21 cd21 ct21), sl21⟩) (c21 : PySem.W.codeIn K cd21 "_law_fars" = true) (k21 : PySem.W.keepIn K (.ref f21) = true)
    (a22 : PySem.W.nsIn K mainGlobals "_law_spoilt" = some (some (.ref f22))) (l22 : K.lookup f22 = some ⟨oc22, od22, .func (PySem.W.fnOf "_law_spoilt" "_law_spoilt" (defArgs s_law_spoilt) (defBody s_law_spoilt) (defScope s_law_spoilt) .none kV22 dc22 pm22 an22 cd22 ct22), sl22⟩) (c22 : PySem.W.codeIn K cd22 "_law_spoilt" = true) (k22 : PySem.W.keepIn K (.ref f22) = true)
    (a23 : PySem.W.nsIn K mainGlobals "_law_due" = some (some (.ref f23))) (l23 : K.lookup f23 = some ⟨oc23, od23, .func (PySem.W.fnOf "_law_due" "_law_due" (defArgs s_law_due) (defBody s_law_due) (defScope s_law_due) .none kV23 dc23 pm23 an23 cd23 ct23), sl23⟩) (c23 : PySem.W.codeIn K cd23 "_law_due" = true) (k23 : PySem.W.keepIn K (.ref f23) = true)
    (a24 : PySem.W.nsIn K mainGlobals "_law_told" = some (some (.ref f24))) (l24 : K.lookup f24 = some ⟨oc24, od24, .func (PySem.W.fnOf "_law_told" "_law_told" (defArgs s_law_told) (defBody s_law_told) (defScope s_law_told) .none kV24 dc24 pm24 an24 cd24 ct24), sl24⟩) (c24 : PySem.W.codeIn K cd24 "_law_told" = true) (k24 : PySem.W.keepIn K (.ref f24) = true)
    (a25 : PySem.W.nsIn K mainGlobals "law" = some (some (.ref f25))) (l25 : K.lookup f25 = some ⟨oc25, od25, .func (PySem.W.fnOf "law" "law" (defArgs s_law) (defBody s_law) (defScope s_law) .none kV25 dc25 pm25 an25 cd25 ct25), sl25⟩) (c25 : PySem.W.codeIn K cd25 "law" = true) (k25 : PySem.W.keepIn K (.ref f25) = true)
    (a6000 : PySem.W.findIn K (.ref g5) "__init__" = some (some (.ref f6000))) (i6000 : PySem.W.isFn K (.ref f6000) = true) (l6000 : K.lookup f6000 = some ⟨oc6000, od6000, .func (PySem.W.fnOf "__init__" "Apart.__init__" (defArgs s_Apart_init) (defBody s_Apart_init) (defScope s_Apart_init) .none kV6000 dc6000 pm6000 an6000 cd6000 ct6000), sl6000⟩) (c6000 : PySem.W.codeIn K cd6000 "Apart.__init__" = true) (k6000 : PySem.W.keepIn K (.ref f6000) = true)
    (ns_HailError : PySem.W.nsIn K mainGlobals "HailError" = some (some (.ref g1)))
    (ns_NoWeb : PySem.W.nsIn K mainGlobals "NoWeb" = some (some (.ref g2)))
    (ns_NoPlace : PySem.W.nsIn K mainGlobals "NoPlace" = some (some (.ref g3)))
    (ns_NoThing : PySem.W.nsIn K mainGlobals "NoThing" = some (some (.ref g4)))
    (ns_Apart : PySem.W.nsIn K mainGlobals "Apart" = some (some (.ref g5)))
    (xc_NoWeb : PySem.W.excIn K g2 [.type "ValueError", .type "Exception", .type "BaseException", .type "object"] "ValueError.__new__" = true)
    (kp_NoWeb : PySem.W.keepIn K (.ref g2) = true)
    (b_NoWeb : PySem.W.subIn K (.ref g2) (.type "BaseException") = some true)
    (t_NoWeb : PySem.W.typeIn K (.ref g2) = some (.type "type"))
    (hg_NoWeb : PySem.W.findIn K (.ref g2) "__getattribute__" = some (some (.builtin "BaseException.__getattribute__")))
    (hk_NoWeb : PySem.W.findIn K (.ref g2) "__getattr__" = some none)
    (hd_NoWeb : PySem.W.hasDictIn K g2 = true)
    (ha_NoWeb : PySem.W.findIn K (.ref g2) "__class__" = some (some (.builtin "object.__class__")))
    (hm_NoWeb : PySem.W.mroIn K g2 (.type "object") = some true)
    (eh_NoWeb : PySem.W.subIn K (.ref g2) (.ref g1) = some true)
    (ks_NoWeb_Apart : PySem.W.subIn K (.ref g2) (.ref g5) = some false)
    (ne_NoWeb_Apart : (Value.ref g2 == Value.ref g5) = false)
    (ks_NoWeb_NoPlace : PySem.W.subIn K (.ref g2) (.ref g3) = some false)
    (ne_NoWeb_NoPlace : (Value.ref g2 == Value.ref g3) = false)
    (ks_NoWeb_NoThing : PySem.W.subIn K (.ref g2) (.ref g4) = some false)
    (ne_NoWeb_NoThing : (Value.ref g2 == Value.ref g4) = false)
    (ks_NoWeb_NoWeb : PySem.W.subIn K (.ref g2) (.ref g2) = some true)
    (ks_NoWeb_ValueError : PySem.W.subIn K (.ref g2) (.type "ValueError") = some true)
    (lo_Apart : K.lookup g5 = some (excClassObj nm_Apart q_Apart g5 N_Apart bs_Apart bm_Apart true sn_Apart sub_Apart ab_Apart col_Apart dd_Apart k0_Apart k1_Apart k2_Apart k3_Apart k5_Apart "ValueError.__new__"))
    (rv_Apart : PySem.HandSPX.refsVE bm_Apart = true)
    (sa_Apart : PySem.W.findIn K (.ref g5) "__setattr__" = some (some (.builtin "object.__setattr__")))
    (no_Apart : PySem.W.findIn K (.ref g5) "place" = some none)
    (kp_Apart : PySem.W.keepIn K (.ref g5) = true)
    (b_Apart : PySem.W.subIn K (.ref g5) (.type "BaseException") = some true)
    (t_Apart : PySem.W.typeIn K (.ref g5) = some (.type "type"))
    (hg_Apart : PySem.W.findIn K (.ref g5) "__getattribute__" = some (some (.builtin "BaseException.__getattribute__")))
    (hk_Apart : PySem.W.findIn K (.ref g5) "__getattr__" = some none)
    (hd_Apart : PySem.W.hasDictIn K g5 = true)
    (ha_Apart : PySem.W.findIn K (.ref g5) "__class__" = some (some (.builtin "object.__class__")))
    (hm_Apart : PySem.W.mroIn K g5 (.type "object") = some true)
    (eh_Apart : PySem.W.subIn K (.ref g5) (.ref g1) = some true)
    (ks_Apart_Apart : PySem.W.subIn K (.ref g5) (.ref g5) = some true)
    (ks_Apart_NoPlace : PySem.W.subIn K (.ref g5) (.ref g3) = some false)
    (ne_Apart_NoPlace : (Value.ref g5 == Value.ref g3) = false)
    (ks_Apart_NoThing : PySem.W.subIn K (.ref g5) (.ref g4) = some false)
    (ne_Apart_NoThing : (Value.ref g5 == Value.ref g4) = false)
    (ks_Apart_NoWeb : PySem.W.subIn K (.ref g5) (.ref g2) = some false)
    (ne_Apart_NoWeb : (Value.ref g5 == Value.ref g2) = false)
    (ks_Apart_ValueError : PySem.W.subIn K (.ref g5) (.type "ValueError") = some true)
    (rd_HailError : PySem.W.readsIn K g1 (.type "type") = true)
    (rg_HailError : PySem.W.specialIn K (.ref g1) "__getattribute__" = some (some (.builtin "type.__getattribute__")))
    (fv_HailError : PySem.W.findCls K (.ref g1) (.type "type") "__init__" = some (.val (.builtin "ValueError.__init__")))
    (ic_Apart : PySem.W.isClsIn K g5 = true)
    (tc_Apart : PySem.W.typeIn K (.ref g5) = some (.type "type"))
    (ic_NoPlace : PySem.W.isClsIn K g3 = true)
    (tc_NoPlace : PySem.W.typeIn K (.ref g3) = some (.type "type"))
    (ic_NoThing : PySem.W.isClsIn K g4 = true)
    (tc_NoThing : PySem.W.typeIn K (.ref g4) = some (.type "type"))
    (ic_NoWeb : PySem.W.isClsIn K g2 = true)
    (tc_NoWeb : PySem.W.typeIn K (.ref g2) = some (.type "type"))
    (hb_HailError : PySem.W.subIn K (.ref g1) (.type "BaseException") = some true)
    (hh_HailError : PySem.W.hasDictIn K g1 = true)
    (ht_HailError : PySem.W.typeIn K (.ref g1) = some (.type "type"))
    (hn_ : PySem.W.specialIn K (.builtin "object.__class__") "__get__" = some (some (.builtin "getset_descriptor.__get__")))
    (ht_ : PySem.W.takesIn K (.builtin "object.__class__") = some true)
    (kc_MOST_PLACES : PySem.W.nsIn K mainGlobals "MOST_PLACES" = some (some (.int 60 tk_MOST_PLACES)))
    (z_ValueError : PySem.W.nsIn K mainGlobals "ValueError" = some none)
    (z_abs : PySem.W.nsIn K mainGlobals "abs" = some none)
    (z_enumerate : PySem.W.nsIn K mainGlobals "enumerate" = some none)
    (z_int : PySem.W.nsIn K mainGlobals "int" = some none)
    (z_isinstance : PySem.W.nsIn K mainGlobals "isinstance" = some none)
    (z_len : PySem.W.nsIn K mainGlobals "len" = some none)
    (z_list : PySem.W.nsIn K mainGlobals "list" = some none)
    (z_max : PySem.W.nsIn K mainGlobals "max" = some none)
    (z_min : PySem.W.nsIn K mainGlobals "min" = some none)
    (z_range : PySem.W.nsIn K mainGlobals "range" = some none)
    (z_sorted : PySem.W.nsIn K mainGlobals "sorted" = some none)
    (z_tuple : PySem.W.nsIn K mainGlobals "tuple" = some none) :
    ∃ fd : FuncData, (∀ (s : Shared) (v : Value), BindsTo s fd ⟨[v], []⟩ [("script", v)]) ∧ ∀ base : Heap, K.In base → base.Ns mainGlobals mg → FnOk l.prog w K mg base CX0 5 fa fd ["script"] (sp_law K) := by
  have e := hfa.symm.trans (PySem.W.mg_of X G a25)
  cases e
  let A : Nat → Addr := fun i => match i with | 8 => f8 | 9 => f9 | 10 => f10 | 11 => f11 | 13 => f13 | 14 => f14 | 15 => f15 | 16 => f16 | 17 => f17 | 18 => f18 | 19 => f19 | 20 => f20 | 21 => f21 | 22 => f22 | 23 => f23 | 24 => f24 | 25 => fa | 6000 => f6000 | 1 => g1 | 2 => g2 | 3 => g3 | 4 => g4 | 5 => g5 | _ => fa
  let FD : Nat → FuncData := fun i => match i with | 8 => (PySem.W.fnOf "near_lists" "near_lists" (defArgs s_near_lists) (defBody s_near_lists) (defScope s_near_lists) .none kV8 dc8 pm8 an8 cd8 ct8) | 9 => (PySem.W.fnOf "fars_by" "fars_by" (defArgs s_fars_by) (defBody s_fars_by) (defScope s_fars_by) .none kV9 dc9 pm9 an9 cd9 ct9) | 10 => (PySem.W.fnOf "sorted_ties" "sorted_ties" (defArgs s_sorted_ties) (defBody s_sorted_ties) (defScope s_sorted_ties) .none kV10 dc10 pm10 an10 cd10 ct10) | 11 => (PySem.W.fnOf "made_web" "made_web" (defArgs s_made_web) (defBody s_made_web) (defScope s_made_web) .none kV11 dc11 pm11 an11 cd11 ct11) | 13 => (PySem.W.fnOf "_law_pot" "_law_pot" (defArgs s_law_pot) (defBody s_law_pot) (defScope s_law_pot) .none kV13 dc13 pm13 an13 cd13 ct13) | 14 => (PySem.W.fnOf "_law_take" "_law_take" (defArgs s_law_take) (defBody s_law_take) (defScope s_law_take) .none kV14 dc14 pm14 an14 cd14 ct14) | 15 => (PySem.W.fnOf "_law_folded" "_law_folded" (defArgs s_law_folded) (defBody s_law_folded) (defScope s_law_folded) .none kV15 dc15 pm15 an15 cd15 ct15) | 16 => (PySem.W.fnOf "_law_cells" "_law_cells" (defArgs s_law_cells) (defBody s_law_cells) (defScope s_law_cells) .none kV16 dc16 pm16 an16 cd16 ct16) | 17 => (PySem.W.fnOf "_law_ties" "_law_ties" (defArgs s_law_ties) (defBody s_law_ties) (defScope s_law_ties) .none kV17 dc17 pm17 an17 cd17 ct17) | 18 => (PySem.W.fnOf "_law_bunches" "_law_bunches" (defArgs s_law_bunches) (defBody s_law_bunches) (defScope s_law_bunches) .none kV18 dc18 pm18 an18 cd18 ct18) | 19 => (PySem.W.fnOf "_law_order" "_law_order" (defArgs s_law_order) (defBody s_law_order) (defScope s_law_order) .none kV19 dc19 pm19 an19 cd19 ct19) | 20 => (PySem.W.fnOf "_law_web" "_law_web" (defArgs s_law_web) (defBody s_law_web) (defScope s_law_web) .none kV20 dc20 pm20 an20 cd20 ct20) | 21 => (PySem.W.fnOf "_law_fars" "_law_fars" (defArgs s_law_fars) (defBody s_law_fars) (defScope s_law_fars) .none kV21 dc21 pm21 an21 cd21 ct21) | 22 => (PySem.W.fnOf "_law_spoilt" "_law_spoilt" (defArgs s_law_spoilt) (defBody s_law_spoilt) (defScope s_law_spoilt) .none kV22 dc22 pm22 an22 cd22 ct22) | 23 => (PySem.W.fnOf "_law_due" "_law_due" (defArgs s_law_due) (defBody s_law_due) (defScope s_law_due) .none kV23 dc23 pm23 an23 cd23 ct23) | 24 => (PySem.W.fnOf "_law_told" "_law_told" (defArgs s_law_told) (defBody s_law_told) (defScope s_law_told) .none kV24 dc24 pm24 an24 cd24 ct24) | 25 => (PySem.W.fnOf "law" "law" (defArgs s_law) (defBody s_law) (defScope s_law) .none kV25 dc25 pm25 an25 cd25 ct25) | 6000 => (PySem.W.fnOf "__init__" "Apart.__init__" (defArgs s_Apart_init) (defBody s_Apart_init) (defScope s_Apart_init) .none kV6000 dc6000 pm6000 an6000 cd6000 ct6000) | _ => (PySem.W.fnOf "law" "law" (defArgs s_law) (defBody s_law) (defScope s_law) .none kV25 dc25 pm25 an25 cd25 ct25)
  have T : Tx K mg A FD := {
    d8 := dn_mk (st := s_near_lists) (ps := ["web"]) X G a8 l8 c8 k8 fun _ _ _ _ _ _ us hl => match us, hl with | [_], _ => rfl
    d9 := dn_mk (st := s_fars_by) (ps := ["near", "place"]) X G a9 l9 c9 k9 fun _ _ _ _ _ _ us hl => match us, hl with | [_, _], _ => rfl
    d10 := dn_mk (st := s_sorted_ties) (ps := ["many", "ties"]) X G a10 l10 c10 k10 fun _ _ _ _ _ _ us hl => match us, hl with | [_, _], _ => rfl
    d11 := dn_mk (st := s_made_web) (ps := ["many", "ties"]) X G a11 l11 c11 k11 fun _ _ _ _ _ _ us hl => match us, hl with | [_, _], _ => rfl
    d13 := dn_mk (st := s_law_pot) (ps := ["cell", "k"]) X G a13 l13 c13 k13 fun _ _ _ _ _ _ us hl => match us, hl with | [_, _], _ => rfl
    d14 := dn_mk (st := s_law_take) (ps := ["pot", "many"]) X G a14 l14 c14 k14 fun _ _ _ _ _ _ us hl => match us, hl with | [_, _], _ => rfl
    d15 := dn_mk (st := s_law_folded) (ps := ["script", "many"]) X G a15 l15 c15 k15 fun _ _ _ _ _ _ us hl => match us, hl with | [_, _], _ => rfl
    d16 := dn_mk (st := s_law_cells) (ps := ["script", "most"]) X G a16 l16 c16 k16 fun _ _ _ _ _ _ us hl => match us, hl with | [_, _], _ => rfl
    d17 := dn_mk (st := s_law_ties) (ps := ["pot", "many"]) X G a17 l17 c17 k17 fun _ _ _ _ _ _ us hl => match us, hl with | [_, _], _ => rfl
    d18 := dn_mk (st := s_law_bunches) (ps := ["pot", "many"]) X G a18 l18 c18 k18 fun _ _ _ _ _ _ us hl => match us, hl with | [_, _], _ => rfl
    d19 := dn_mk (st := s_law_order) (ps := ["pot", "many"]) X G a19 l19 c19 k19 fun _ _ _ _ _ _ us hl => match us, hl with | [_, _], _ => rfl
    d20 := dn_mk (st := s_law_web) (ps := ["pot", "most"]) X G a20 l20 c20 k20 fun _ _ _ _ _ _ us hl => match us, hl with | [_, _], _ => rfl
    d21 := dn_mk (st := s_law_fars) (ps := ["web", "place"]) X G a21 l21 c21 k21 fun _ _ _ _ _ _ us hl => match us, hl with | [_, _], _ => rfl
    d22 := dn_mk (st := s_law_spoilt) (ps := ["pot", "many", "ties"]) X G a22 l22 c22 k22 fun _ _ _ _ _ _ us hl => match us, hl with | [_, _, _], _ => rfl
    d23 := dn_mk (st := s_law_due) (ps := ["many", "ties"]) X G a23 l23 c23 k23 fun _ _ _ _ _ _ us hl => match us, hl with | [_, _], _ => rfl
    d24 := dn_mk (st := s_law_told) (ps := ["many", "ties"]) X G a24 l24 c24 k24 fun _ _ _ _ _ _ us hl => match us, hl with | [_, _], _ => rfl
    d25 := dn_mk (st := s_law) (ps := ["script"]) X G a25 l25 c25 k25 fun _ _ _ _ _ _ us hl => match us, hl with | [_], _ => rfl
    d6000 := ⟨fun_mk (st := s_Apart_init) l6000 c6000 k6000, ⟨a6000, i6000, k6000⟩, (fun_mk (st := s_Apart_init) l6000 c6000 k6000).binds (ps := ["self", "place"]) fun _ _ _ _ _ _ us hl => match us, hl with | [_, _], _ => rfl⟩
    n_ValueError := PySem.W.mg_none_of X G z_ValueError
    n_abs := PySem.W.mg_none_of X G z_abs
    n_enumerate := PySem.W.mg_none_of X G z_enumerate
    n_int := PySem.W.mg_none_of X G z_int
    n_isinstance := PySem.W.mg_none_of X G z_isinstance
    n_len := PySem.W.mg_none_of X G z_len
    n_list := PySem.W.mg_none_of X G z_list
    n_max := PySem.W.mg_none_of X G z_max
    n_min := PySem.W.mg_none_of X G z_min
    n_range := PySem.W.mg_none_of X G z_range
    n_sorted := PySem.W.mg_none_of X G z_sorted
    n_tuple := PySem.W.mg_none_of X G z_tuple
    c_MOST_PLACES := ⟨_, PySem.W.mg_of X G kc_MOST_PLACES⟩
    x_Apart := ⟨ns_Apart, PySem.W.mg_of X G ns_Apart, kp_Apart, b_Apart, t_Apart, ⟨hg_Apart, hk_Apart, b_Apart, hd_Apart, ha_Apart, hn_, ht_, hm_Apart⟩⟩
    xi_Apart := ⟨⟨⟨nm_Apart, q_Apart, N_Apart, bs_Apart, bm_Apart, sn_Apart, sub_Apart, ab_Apart, col_Apart, dd_Apart, k0_Apart, k1_Apart, k2_Apart, k3_Apart, k5_Apart, lo_Apart, rv_Apart⟩, sa_Apart, b_Apart, t_Apart, kp_Apart⟩, a6000, eq_of_beq i6000, no_Apart, ⟨hg_Apart, hk_Apart, b_Apart, hd_Apart⟩⟩
    cr_HailError := ⟨rd_HailError, rg_HailError⟩
    vi_HailError := fv_HailError
    x_NoWeb := ⟨ns_NoWeb, PySem.W.mg_of X G ns_NoWeb, xc_NoWeb, kp_NoWeb, b_NoWeb, t_NoWeb, ⟨hg_NoWeb, hk_NoWeb, b_NoWeb, hd_NoWeb, ha_NoWeb, hn_, ht_, hm_NoWeb⟩⟩
    g_Apart := PySem.W.mg_of X G ns_Apart
    g_HailError := PySem.W.mg_of X G ns_HailError
    g_NoPlace := PySem.W.mg_of X G ns_NoPlace
    g_NoThing := PySem.W.mg_of X G ns_NoThing
    g_NoWeb := PySem.W.mg_of X G ns_NoWeb
    eh_NoWeb := PySem.W.exm_ref hb_HailError hh_HailError ht_HailError eh_NoWeb
    eh_Apart := PySem.W.exm_ref hb_HailError hh_HailError ht_HailError eh_Apart
    kt_NoWeb_Apart := kit_ref ic_Apart tc_Apart ks_NoWeb_Apart (.inr ne_NoWeb_Apart)
    kt_Apart_Apart := kit_ref ic_Apart tc_Apart ks_Apart_Apart (.inl rfl)
    kt_NoWeb_NoPlace := kit_ref ic_NoPlace tc_NoPlace ks_NoWeb_NoPlace (.inr ne_NoWeb_NoPlace)
    kt_Apart_NoPlace := kit_ref ic_NoPlace tc_NoPlace ks_Apart_NoPlace (.inr ne_Apart_NoPlace)
    kt_NoWeb_NoThing := kit_ref ic_NoThing tc_NoThing ks_NoWeb_NoThing (.inr ne_NoWeb_NoThing)
    kt_Apart_NoThing := kit_ref ic_NoThing tc_NoThing ks_Apart_NoThing (.inr ne_Apart_NoThing)
    kt_NoWeb_NoWeb := kit_ref ic_NoWeb tc_NoWeb ks_NoWeb_NoWeb (.inl rfl)
    kt_Apart_NoWeb := kit_ref ic_NoWeb tc_NoWeb ks_Apart_NoWeb (.inr ne_Apart_NoWeb)
    kt_NoWeb_ValueError := kit_ty (by decide +kernel) ks_NoWeb_ValueError
    kt_Apart_ValueError := kit_ty (by decide +kernel) ks_Apart_ValueError }
  exact ⟨(PySem.W.fnOf "law" "law" (defArgs s_law) (defBody s_law) (defScope s_law) .none kV25 dc25 pm25 an25 cd25 ct25), fun s v => .of_eq rfl, fun base _ _ => ok_law (A := A) (FD := FD) T⟩
theorem walk {l : PySem.W.OpenLaw} {q : Program} {loose : List Str} {XP : (Str → Option Value) → Heap → Prop} {YP : World → Heap → Prop} {d : DefRec} {K : Params → PySem.W.Frag} (hn : l.most = some 63) (hdf : d.params.defaults = [])
    (hY : ∀ (w : World) (h : Heap), YP w h → (K w.params).In h)
    (F : ∀ (w : World) (mg : Str → Option Value) (fa : Addr) (h : Heap), (K w.params).In h → h.Ns mainGlobals mg → mg d.name = some (.ref fa) →
      ∃ fd : FuncData, (∀ (s : Shared) (u : Value), BindsTo s fd ⟨[u], []⟩ [("script", u)]) ∧ ∀ base : Heap, (K w.params).In base → base.Ns mainGlobals mg → FnOk l.prog w (K w.params) mg base CX0 5 fa fd ["script"] (sp_law (K w.params))) :
    PySem.W.WalkO q loose XP YP l.row.toRowW d [] (fun f vs => PySem.call f vs) :=
  L2.walk_of (n := 63) (k := 5) (x := "script") (CX := fun _ => CX0) (sp := fun w => sp_law (K w.params)) hn (by decide) hdf ⟨rfl, by decide, by decide⟩ hY F
    (fun _ H a ns hl _ hS => ⟨H, [], .ref a, ⟨ns⟩, rfl, ⟨Same.refl _, (fun _ z => nomatch z), List.Pairwise.nil, (fun _ z => nomatch z)⟩, ⟨a, rfl, hS⟩, by rw [law_true ns hl]; exact fun v F2 H2 w s r => r⟩) fun _ _ _ _ _ z => z
end G
open PySem PySem.W PyProof.Rows
set_option maxRecDepth 100000 in
set_option maxHeartbeats 0 in
theorem PySem.Challenge.cw_farhail_k03_webs_refused_holds : PySem.Challenge.rw_farhail_k03_webs_refused.Holds := by
  w_on; o_law; k_head; (case hw => w_witness2)
  k_fill
  refine G.walk (l := PySem.Challenge.rw_farhail_k03_webs_refused) rfl rfl (fun w h Y => PySem.W.kIn_of Y) ?F
  case F =>
    intro w mg fa h KX Gn hmg
    refine' G.all_mk KX Gn hmg ?a8 ?l8 ?c8 ?k8 ?a9 ?l9 ?c9 ?k9 ?a10 ?l10 ?c10 ?k10 ?a11 ?l11 ?c11 ?k11 ?a13 ?l13 ?c13 ?k13 ?a14 ?l14 ?c14 ?k14 ?a15 ?l15 ?c15 ?k15 ?a16 ?l16 ?c16 ?k16 ?a17 ?l17 ?c17 ?k17 ?a18 ?l18 ?c18 ?k18 ?a19 ?l19 ?c19 ?k19 ?a20 ?l20 ?c20 ?k20 ?a21 ?l21 ?c21 ?k21 ?a22 ?l22 ?c22 ?k22 ?a23 ?l23 ?c23 ?k23 ?a24 ?l24 ?c24 ?k24 ?a25 ?l25 ?c25 ?k25 ?a6000 ?i6000 ?l6000 ?c6000 ?k6000 ?ns_HailError ?ns_NoWeb ?ns_NoPlace ?ns_NoThing ?ns_Apart ?xc_NoWeb ?kp_NoWeb ?b_NoWeb ?t_NoWeb ?hg_NoWeb ?hk_NoWeb ?hd_NoWeb ?ha_NoWeb ?hm_NoWeb ?eh_NoWeb ?ks_NoWeb_Apart ?ne_NoWeb_Apart ?ks_NoWeb_NoPlace ?ne_NoWeb_NoPlace ?ks_NoWeb_NoThing ?ne_NoWeb_NoThing ?ks_NoWeb_NoWeb ?ks_NoWeb_ValueError ?lo_Apart ?rv_Apart ?sa_Apart ?no_Apart ?kp_Apart ?b_Apart ?t_Apart ?hg_Apart ?hk_Apart ?hd_Apart ?ha_Apart ?hm_Apart ?eh_Apart ?ks_Apart_Apart ?ks_Apart_NoPlace ?ne_Apart_NoPlace ?ks_Apart_NoThing ?ne_Apart_NoThing ?ks_Apart_NoWeb ?ne_Apart_NoWeb ?ks_Apart_ValueError ?rd_HailError ?rg_HailError ?fv_HailError ?ic_Apart ?tc_Apart ?ic_NoPlace ?tc_NoPlace ?ic_NoThing ?tc_NoThing ?ic_NoWeb ?tc_NoWeb ?hb_HailError ?hh_HailError ?ht_HailError ?hn_ ?ht_ ?kc_MOST_PLACES ?z_ValueError ?z_abs ?z_enumerate ?z_int ?z_isinstance ?z_len ?z_list ?z_max ?z_min ?z_range ?z_sorted ?z_tuple
    (case a8 => k_is); (case l8 => k_is); (case c8 => k_is); (case k8 => k_is)
    (case a9 => k_is); (case l9 => k_is); (case c9 => k_is); (case k9 => k_is)
    (case a10 => k_is); (case l10 => k_is); (case c10 => k_is); (case k10 => k_is)
    (case a11 => k_is); (case l11 => k_is); (case c11 => k_is); (case k11 => k_is)
    (case a13 => k_is); (case l13 => k_is); (case c13 => k_is); (case k13 => k_is)
    (case a14 => k_is); (case l14 => k_is); (case c14 => k_is); (case k14 => k_is)
    (case a15 => k_is); (case l15 => k_is); (case c15 => k_is); (case k15 => k_is)
    (case a16 => k_is); (case l16 => k_is); (case c16 => k_is); (case k16 => k_is)
    (case a17 => k_is); (case l17 => k_is); (case c17 => k_is); (case k17 => k_is)
    (case a18 => k_is); (case l18 => k_is); (case c18 => k_is); (case k18 => k_is)
    (case a19 => k_is); (case l19 => k_is); (case c19 => k_is); (case k19 => k_is)
    (case a20 => k_is); (case l20 => k_is); (case c20 => k_is); (case k20 => k_is)
    (case a21 => k_is); (case l21 => k_is); (case c21 => k_is); (case k21 => k_is)
    (case a22 => k_is); (case l22 => k_is); (case c22 => k_is); (case k22 => k_is)
    (case a23 => k_is); (case l23 => k_is); (case c23 => k_is); (case k23 => k_is)
    (case a24 => k_is); (case l24 => k_is); (case c24 => k_is); (case k24 => k_is)
    (case a25 => k_is); (case l25 => k_is); (case c25 => k_is); (case k25 => k_is)
    (case ns_HailError => k_is)
    (case ns_NoWeb => k_is)
    (case ns_NoPlace => k_is)
    (case ns_NoThing => k_is)
    (case ns_Apart => k_is)
    (case a6000 => k_is); (case i6000 => k_is); (case l6000 => k_is); (case c6000 => k_is); (case k6000 => k_is)
    (case xc_NoWeb => k_exc)
    (case kp_NoWeb => k_is)
    (case b_NoWeb => k_is)
    (case t_NoWeb => k_is)
    (case hg_NoWeb => k_is)
    (case hk_NoWeb => k_is)
    (case hd_NoWeb => k_is)
    (case ha_NoWeb => k_is)
    (case hm_NoWeb => k_is)
    (case eh_NoWeb => first | rfl | k_is)
    (case ks_NoWeb_Apart => first | rfl | k_is)
    (case ne_NoWeb_Apart => first | rfl | decide +kernel)
    (case ks_NoWeb_NoPlace => first | rfl | k_is)
    (case ne_NoWeb_NoPlace => first | rfl | decide +kernel)
    (case ks_NoWeb_NoThing => first | rfl | k_is)
    (case ne_NoWeb_NoThing => first | rfl | decide +kernel)
    (case ks_NoWeb_NoWeb => first | rfl | k_is)
    (case ks_NoWeb_ValueError => first | rfl | k_is)
    (case lo_Apart => k_is)
    (case rv_Apart => first | rfl | decide)
    (case sa_Apart => k_is)
    (case no_Apart => k_is)
    (case kp_Apart => k_is)
    (case b_Apart => k_is)
    (case t_Apart => k_is)
    (case hg_Apart => k_is)
    (case hk_Apart => k_is)
    (case hd_Apart => k_is)
    (case ha_Apart => k_is)
    (case hm_Apart => k_is)
    (case eh_Apart => first | rfl | k_is)
    (case ks_Apart_Apart => first | rfl | k_is)
    (case ks_Apart_NoPlace => first | rfl | k_is)
    (case ne_Apart_NoPlace => first | rfl | decide +kernel)
    (case ks_Apart_NoThing => first | rfl | k_is)
    (case ne_Apart_NoThing => first | rfl | decide +kernel)
    (case ks_Apart_NoWeb => first | rfl | k_is)
    (case ne_Apart_NoWeb => first | rfl | decide +kernel)
    (case ks_Apart_ValueError => first | rfl | k_is)
    (case rd_HailError => k_is)
    (case rg_HailError => k_is)
    (case fv_HailError => k_is)
    (case ic_Apart => k_is)
    (case tc_Apart => k_is)
    (case ic_NoPlace => k_is)
    (case tc_NoPlace => k_is)
    (case ic_NoThing => k_is)
    (case tc_NoThing => k_is)
    (case ic_NoWeb => k_is)
    (case tc_NoWeb => k_is)
    (case hb_HailError => k_is)
    (case hh_HailError => k_is)
    (case ht_HailError => k_is)
    (case hn_ => k_is)
    (case ht_ => k_is)
    (case kc_MOST_PLACES => k_is)
    (case z_ValueError => k_is)
    (case z_abs => k_is)
    (case z_enumerate => k_is)
    (case z_int => k_is)
    (case z_isinstance => k_is)
    (case z_len => k_is)
    (case z_list => k_is)
    (case z_max => k_is)
    (case z_min => k_is)
    (case z_range => k_is)
    (case z_sorted => k_is)
    (case z_tuple => k_is)
#print axioms PySem.Challenge.cw_farhail_k03_webs_refused_holds
