import PyProof.Rows.All
import Wide.All
import OpenK.AllK
import Wide.FinOn
import HandS.ForMost
import HandS.Wide
import HandS.Walk
import HandS.Deep
import HandS.SortInts
import HandS.Flow
import HandS.IsInst
import PyProof.P3In
import HandS.TupSets
import HandS.Dict
import HandS.Conv
import HandS.SortRule
import KE.KIsAll
import HandS.Base
import HandS.Call
import HandS.Exc
import HandS.ExcOwn
import HandS.ExcIs
import HandS.ExcValue
import HandS.TryOnly
import HandS.WordsExc
import HandS.TupAny
import HandS.DictTup
import KE.KDictWalk
import KE.KExcIs
import HandS.List
import HandS.ExcInit
import HandS.ExcField
import HandS.ClsMeth
import HandS.Iter
import HandS.Text
import HandS.Steps
import PySem.Challenge.RW_farhail_k01_refusals_stand_alone
set_option Elab.async false
set_option linter.all false
set_option maxRecDepth 100000
set_option maxHeartbeats 4000000
/-! Z0: results with refusals, data as it stands in a heap, the heap in a frozen part and cells of one's own -/
namespace Z
open PySem L2

abbrev Fg := PySem.W.Frag

/-! ### results -/
structure Exn where
  cls : Str
  arg : Int
  deriving DecidableEq

inductive R (α : Type) where
  | ok (a : α)
  | exc (e : Exn)
  | bad

def R.bind {α β : Type} (m : R α) (f : α → R β) : R β :=
  match m with
  | .ok a => f a
  | .exc e => .exc e
  | .bad => .bad
instance : Monad R where
  pure := R.ok
  bind := R.bind
section
variable {α β γ : Type}
theorem ok_bind (a : α) (f : α → R β) : (R.ok a >>= f) = f a := rfl
theorem pure_bind' (a : α) (f : α → R β) : ((pure a : R α) >>= f) = f a := rfl
theorem exc_bind (e : Exn) (f : α → R β) : ((R.exc e : R α) >>= f) = R.exc e := rfl
theorem bad_bind (f : α → R β) : ((R.bad : R α) >>= f) = R.bad := rfl
theorem pure_ok (a : α) : (pure a : R α) = R.ok a := rfl
theorem bind_bind (m : R α) (f : α → R β) (g : β → R γ) : ((m >>= f) >>= g) = (m >>= fun a => f a >>= g) := by
  cases m <;> rfl
theorem bind_ok_iff {m : R α} {f : α → R β} {b : β} : (m >>= f) = R.ok b ↔ ∃ a, m = R.ok a ∧ f a = R.ok b := by
  cases m with
  | ok a => exact ⟨fun h => ⟨a, rfl, h⟩, fun ⟨_, h1, h2⟩ => by cases h1; exact h2⟩
  | exc e => exact ⟨fun h => (nomatch (show R.exc e = R.ok b from h)), fun ⟨_, h1, _⟩ => nomatch h1⟩
  | bad => exact ⟨fun h => (nomatch (show R.bad = R.ok b from h)), fun ⟨_, h1, _⟩ => nomatch h1⟩
def grd (b : Bool) : R Unit := if b = true then .ok () else .bad
theorem grd_t {b : Bool} (h : b = true) : grd b = R.ok () := by rw [h]; rfl
def ofO (o : Option α) : R α :=
  match o with
  | some a => .ok a
  | none => .bad
theorem ofO_some (a : α) : ofO (some a) = R.ok a := rfl
/-- the item at an index of any sign -/
def getI (xs : List α) (i : Int) : R α := ofO (atI xs i)
/-- the list with another item at an index -/
def setI (xs : List α) (i : Int) (x : α) : R (List α) :=
  match ixN xs.length i with
  | some j => .ok (xs.set j x)
  | none => .bad
/-- a list of at most a thousand items grows by one -/
def app (xs : List α) (x : α) : R (List α) := if xs.length < 100000 then .ok (xs ++ [x]) else .bad
def extend (xs ys : List α) : R (List α) := if xs.length + ys.length < 100000 then .ok (xs ++ ys) else .bad
@[irreducible] def mulI (i j : Int) : R Int := if (-(2 ^ 64) < i ∧ i < 2 ^ 64) ∨ (-(2 ^ 64) < j ∧ j < 2 ^ 64) then .ok (i * j) else .bad
@[irreducible] def modI (i j : Int) : R Int := if 0 < j then .ok (i % j) else .bad
@[irreducible] def divI (i j : Int) : R Int := if 0 < j ∧ j.natAbs.log2 < 9000 then .ok (i / j) else .bad
@[irreducible] def powI (i j : Int) : R Int := if 0 ≤ j ∧ j ≤ 1000000 ∧ i.natAbs < 2 ^ 64 then .ok (i ^ j.toNat) else .bad
/-- the ints from i on below j -/
def rng (i j : Int) : List Int := (List.range (j - i).toNat).map fun (k : Nat) => i + (k : Int)
@[irreducible] def rngI (i j : Int) : R (List Int) := if -(2 ^ 62) ≤ i ∧ i < 2 ^ 62 ∧ -(2 ^ 62) ≤ j ∧ j < 2 ^ 62 then .ok (rng i j) else .bad
/-- items for items -/
def mapR (f : α → R β) : List α → R (List β)
  | [] => .ok []
  | x :: xs => do
    let y ← f x
    let ys ← mapR f xs
    pure (y :: ys)
/-- a fold whose turn may leave -/
def foldR (f : β → α → R β) : β → List α → R β
  | s, [] => .ok s
  | s, x :: xs => f s x >>= fun s' => foldR f s' xs
/-- a fold whose turn may end the whole with a value (inl), or the loop alone (inr inl) -/
def foldX {ρ : Type} (f : β → α → R (Sum ρ (Bool × β))) : β → List α → R (Sum ρ β)
  | s, [] => .ok (.inr s)
  | s, x :: xs => f s x >>= fun r =>
    match r with
    | .inl z => .ok (.inl z)
    | .inr (true, s') => foldX f s' xs
    | .inr (false, s') => .ok (.inr s')
/-- what holds of a result -/
def Post (m : R α) (P : α → Prop) (E : Exn → Prop) : Prop :=
  match m with
  | .ok a => P a
  | .exc e => E e
  | .bad => False
variable {P P' : α → Prop} {Q : β → Prop} {E E' : Exn → Prop}
theorem Post.mono {m : R α} (h : Post m P E) (hP : ∀ a, P a → P' a) (hE : ∀ e, E e → E' e) : Post m P' E' := by
  cases m with
  | ok a => exact hP a h
  | exc e => exact hE e h
  | bad => exact h
theorem post_bind {m : R α} {f : α → R β} (h : Post (m >>= f) Q E) : Post m (fun a => Post (f a) Q E) E := by
  cases m <;> exact h
theorem post_ok {a : α} (h : Post (R.ok a) P E) : P a := h
theorem pb_ok {a : α} {f : α → R β} (h : Post (R.ok a >>= f) Q E) : Post (f a) Q E := h
theorem pb_pure {a : α} {f : α → R β} (h : Post ((pure a : R α) >>= f) Q E) : Post (f a) Q E := h
theorem pb_assoc {m : R α} {f : α → R β} {g : β → R γ} {Q : γ → Prop} (h : Post ((m >>= f) >>= g) Q E) : Post (m >>= fun a => f a >>= g) Q E := by
  rw [bind_bind] at h
  exact h
theorem pb_grd {b : Bool} {f : Unit → R β} (h : Post (grd b >>= f) Q E) : b = true ∧ Post (f ()) Q E := by
  cases b with
  | true => exact ⟨rfl, h⟩
  | false => exact (show False from h).elim
theorem pb_ofO {o : Option α} {f : α → R β} (h : Post (ofO o >>= f) Q E) : ∃ a, o = some a ∧ Post (f a) Q E := by
  cases o with
  | some a => exact ⟨a, rfl, h⟩
  | none => exact (show False from h).elim
theorem pb_get {xs : List α} {i : Int} {f : α → R β} (h : Post (getI xs i >>= f) Q E) : ∃ a, atI xs i = some a ∧ Post (f a) Q E := pb_ofO h
theorem pb_set {xs : List α} {i : Int} {x : α} {f : List α → R β} (h : Post (setI xs i x >>= f) Q E) : ∃ j, ixN xs.length i = some j ∧ Post (f (xs.set j x)) Q E := by
  unfold setI at h
  cases e : ixN xs.length i with
  | some j => rw [e] at h; exact ⟨j, rfl, h⟩
  | none => rw [e] at h; exact (show False from h).elim
theorem pb_if {c : Prop} [Decidable c] {a : α} {f : α → R β} (h : Post ((if c then R.ok a else R.bad) >>= f) Q E) : c ∧ Post (f a) Q E := by
  by_cases hc : c
  · rw [if_pos hc] at h
    exact ⟨hc, h⟩
  · rw [if_neg hc] at h
    exact (show False from h).elim
theorem line5 : 100000 ≤ sizeLine := by decide
theorem pb_app {xs : List α} {x : α} {f : List α → R β} (h : Post (app xs x >>= f) Q E) : xs.length < sizeLine ∧ Post (f (xs ++ [x])) Q E :=
  let ⟨a, b⟩ := pb_if h
  ⟨Nat.lt_of_lt_of_le a line5, b⟩
theorem pb_extend {xs ys : List α} {f : List α → R β} (h : Post (extend xs ys >>= f) Q E) : xs.length + ys.length ≤ sizeLine ∧ Post (f (xs ++ ys)) Q E :=
  let ⟨a, b⟩ := pb_if h
  ⟨Nat.le_of_lt (Nat.lt_of_lt_of_le a line5), b⟩
theorem pb_mul {i j : Int} {f : Int → R β} (h : Post (mulI i j >>= f) Q E) : CMul i j ∧ Post (f (i * j)) Q E := by
  unfold mulI at h
  exact let ⟨a, b⟩ := pb_if (c := (-(2 ^ 64) < i ∧ i < 2 ^ 64) ∨ (-(2 ^ 64) < j ∧ j < 2 ^ 64)) h
  ⟨a, b⟩
theorem pb_mod {i j : Int} {f : Int → R β} (h : Post (modI i j >>= f) Q E) : 0 < j ∧ Post (f (i % j)) Q E := by
  unfold modI at h
  exact pb_if h
theorem pb_div {i j : Int} {f : Int → R β} (h : Post (divI i j >>= f) Q E) : CDivW i j ∧ Post (f (i / j)) Q E := by
  unfold divI at h
  exact let ⟨a, b⟩ := pb_if (c := 0 < j ∧ j.natAbs.log2 < 9000) h
  ⟨a, b⟩
theorem pb_pow {i j : Int} {f : Int → R β} (h : Post (powI i j >>= f) Q E) : CPow i j ∧ Post (f (i ^ j.toNat)) Q E := by
  unfold powI at h
  exact let ⟨a, b⟩ := pb_if (c := 0 ≤ j ∧ j ≤ 1000000 ∧ i.natAbs < 2 ^ 64) h
  ⟨a, b⟩
theorem pb_rng {i j : Int} {f : List Int → R β} (h : Post (rngI i j >>= f) Q E) : (-(2 ^ 62) ≤ i ∧ i < 2 ^ 62 ∧ -(2 ^ 62) ≤ j ∧ j < 2 ^ 62) ∧ Post (f (rng i j)) Q E := by
  unfold rngI at h
  exact pb_if h
theorem post_ite {c : Bool} {m n : R α} {A B : Prop} (h : Post (if c = true then m else n) P E) (ht : c = true → Post m P E → A) (hf : c = false → Post n P E → B) : if c = true then A else B := by
  cases c with
  | true => exact ht rfl h
  | false => exact hf rfl h
theorem post_ite2 {c : Bool} {m n : R α} {A : Prop} (h : Post (if c = true then m else n) P E) (ht : c = true → Post m P E → A) (hf : c = false → Post n P E → A) : A := by
  cases c with
  | true => exact ht rfl h
  | false => exact hf rfl h
theorem pb_ite {c : Bool} {m n : R α} {f : α → R β} (h : Post ((if c = true then m else n) >>= f) Q E) : Post (if c = true then m >>= f else n >>= f) Q E := by
  cases c <;> exact h
theorem pb_foldR {f : γ → α → R γ} {s : γ} {x : α} {xs : List α} {g : γ → R β} (h : Post (foldR f s (x :: xs) >>= g) Q E) : Post (f s x >>= fun s' => foldR f s' xs >>= g) Q E := by
  have h' : Post ((f s x >>= fun s' => foldR f s' xs) >>= g) Q E := h
  rw [bind_bind] at h'
  exact h'
end

/-! ### lists of values and what they stand for -/
inductive A2 {α : Type} (r : V → α → Prop) : List V → List α → Prop
  | nil : A2 r [] []
  | cons {v : V} {x : α} {vs : List V} {xs : List α} : r v x → A2 r vs xs → A2 r (v :: vs) (x :: xs)
section
variable {α : Type} {r r' : V → α → Prop} {vs us : List V} {xs ys : List α} {v : V} {x : α}
theorem A2.length : ∀ {vs : List V} {xs : List α}, A2 r vs xs → vs.length = xs.length
  | _, _, .nil => rfl
  | _, _, .cons _ t => by rw [List.length_cons, List.length_cons, A2.length t]
theorem A2.imp (f : ∀ v x, r v x → r' v x) : ∀ {vs : List V} {xs : List α}, A2 r vs xs → A2 r' vs xs
  | _, _, .nil => .nil
  | _, _, .cons h t => .cons (f _ _ h) (A2.imp f t)
theorem A2.append : ∀ {vs us : List V} {xs ys : List α}, A2 r vs xs → A2 r us ys → A2 r (vs ++ us) (xs ++ ys)
  | _, _, _, _, .nil, h => h
  | _, _, _, _, .cons a t, h => .cons a (A2.append t h)
theorem A2.snoc (h : A2 r vs xs) (a : r v x) : A2 r (vs ++ [v]) (xs ++ [x]) := h.append (.cons a .nil)
theorem A2.get : ∀ {vs : List V} {xs : List α} {i : Nat} {x : α}, A2 r vs xs → xs[i]? = some x → ∃ v, vs[i]? = some v ∧ r v x
  | _, _, _, _, .nil, e => by simp at e
  | _, _, 0, _, .cons a _, e => by simp at e; subst e; exact ⟨_, rfl, a⟩
  | _, _, i + 1, x, .cons _ t, e => by
    obtain ⟨v, h1, h2⟩ := A2.get (i := i) (x := x) t (by simpa using e)
    exact ⟨v, by simpa using h1, h2⟩
theorem A2.getV : ∀ {vs : List V} {xs : List α} {i : Nat} {v : V}, A2 r vs xs → vs[i]? = some v → ∃ x, xs[i]? = some x ∧ r v x
  | _, _, _, _, .nil, e => by simp at e
  | _, _, 0, _, .cons a _, e => by simp at e; subst e; exact ⟨_, rfl, a⟩
  | _, _, i + 1, x, .cons _ t, e => by
    obtain ⟨v, h1, h2⟩ := A2.getV (i := i) (v := x) t (by simpa using e)
    exact ⟨v, by simpa using h1, h2⟩
theorem A2.at {i : Int} (h : A2 r vs xs) (e : atI xs i = some x) : ∃ v, atI vs i = some v ∧ r v x := by
  unfold atI at e ⊢
  rw [h.length]
  cases q : ixN xs.length i with
  | none => rw [q] at e; cases e
  | some j =>
    rw [q] at e
    exact h.get e
theorem A2.set (a : r v x) : ∀ {vs : List V} {xs : List α} (i : Nat), A2 r vs xs → A2 r (vs.set i v) (xs.set i x)
  | _, _, _, .nil => .nil
  | _, _, 0, .cons _ t => .cons a t
  | _, _, i + 1, .cons q t => .cons q (A2.set a i t)
theorem A2.take : ∀ {vs : List V} {xs : List α} (n : Nat), A2 r vs xs → A2 r (vs.take n) (xs.take n)
  | _, _, 0, _ => .nil
  | _, _, _ + 1, .nil => .nil
  | _, _, n + 1, .cons a t => .cons a (A2.take n t)
theorem A2.drop : ∀ {vs : List V} {xs : List α} (n : Nat), A2 r vs xs → A2 r (vs.drop n) (xs.drop n)
  | _, _, 0, h => h
  | _, _, _ + 1, .nil => .nil
  | _, _, n + 1, .cons _ t => A2.drop n t
theorem A2.reverse : ∀ {vs : List V} {xs : List α}, A2 r vs xs → A2 r vs.reverse xs.reverse
  | _, _, .nil => .nil
  | _, _, .cons a t => by
    rw [List.reverse_cons, List.reverse_cons]
    exact (A2.reverse t).snoc a
theorem A2.eraseIdx : ∀ {vs : List V} {xs : List α} (i : Nat), A2 r vs xs → A2 r (vs.eraseIdx i) (xs.eraseIdx i)
  | _, _, _, .nil => .nil
  | _, _, 0, .cons _ t => t
  | _, _, i + 1, .cons a t => .cons a (A2.eraseIdx i t)
theorem A2.dropLast : ∀ {vs : List V} {xs : List α}, A2 r vs xs → A2 r vs.dropLast xs.dropLast
  | _, _, .nil => .nil
  | _, _, .cons _ .nil => .nil
  | _, _, .cons a (.cons b t) => .cons a (A2.dropLast (.cons b t))
theorem A2.repl {n : Nat} (a : r v x) : A2 r (List.replicate n v) (List.replicate n x) := by
  induction n with
  | zero => exact .nil
  | succ n ih => exact .cons a ih
end

/-! ### data in a heap -/
theorem Same.seqT {K : Fg} {H H' : Hp} {a : Addr} {xs : List V} (e : Same H H') (h : SqT K H a xs) : SqT K H' a xs := by
  rcases h with (h | ⟨o, h⟩) | h
  · exact .inl (.inl (e _ _ h))
  · exact .inl (.inr ⟨o, e _ _ h⟩)
  · exact .inr h
class Rep (α : Type) where
  rep : Fg → Hp → V → α → Prop
  mono : ∀ {K : Fg} {H H' : Hp} {v : V} {x : α}, Same H H' → rep K H v x → rep K H' v x
open Rep (rep)
section
variable {α β : Type} [Rep α] [Rep β] {K : Fg} {H H' : Hp} {v : V}
theorem A2.mono {vs : List V} {xs : List α} (s : Same H H') (h : A2 (rep K H) vs xs) : A2 (rep K H') vs xs := h.imp fun _ _ => Rep.mono s
instance : Rep Int := ⟨fun _ _ v x => v = .int x, fun _ h => h⟩
instance : Rep Bool := ⟨fun _ _ v x => v = .bl x, fun _ h => h⟩
instance : Rep Unit := ⟨fun _ _ v _ => v = .non, fun _ h => h⟩
instance : Rep Str := ⟨fun _ _ v x => v = .str x, fun _ h => h⟩
instance repOpt : Rep (Option α) := ⟨fun K H v x => match x with
  | none => v = .non
  | some y => rep K H v y, fun {_ _ _ _ x} s h => by
    cases x with
    | none => exact h
    | some y => exact Rep.mono (α := α) s h⟩
instance repPair : Rep (α × β) := ⟨fun K H v x => ∃ a u w, v = .ref a ∧ H a = some (.tup [u, w]) ∧ rep K H u x.1 ∧ rep K H w x.2,
  fun s ⟨a, u, w, e, q, h1, h2⟩ => ⟨a, u, w, e, s _ _ q, Rep.mono s h1, Rep.mono s h2⟩⟩
instance repList : Rep (List α) := ⟨fun K H v xs => ∃ a vs, v = .ref a ∧ H a = some (.lst vs) ∧ A2 (rep K H) vs xs,
  fun s ⟨a, vs, e, q, h⟩ => ⟨a, vs, e, s _ _ q, h.mono s⟩⟩
/-- the script -/
structure Scr where
  l : List Int
  deriving DecidableEq
instance repScr : Rep Scr := ⟨fun K H v xs => ∃ a, v = .ref a ∧ SqL K H a (xs.l.map V.int), fun s ⟨a, e, q⟩ => ⟨a, e, s.seq q⟩⟩
/-- a tuple of any number of like things -/
structure Tup (α : Type) where
  l : List α
  deriving DecidableEq
instance repTup : Rep (Tup α) := ⟨fun K H v xs => ∃ a vs, v = .ref a ∧ H a = some (.tup vs) ∧ A2 (rep K H) vs xs.l,
  fun s ⟨a, vs, e, q, h⟩ => ⟨a, vs, e, s _ _ q, h.mono s⟩⟩
/-- a place, or a pair -/
inductive Thing where
  | pl (i : Int)
  | ti (a b : Int)
  deriving DecidableEq
instance repThing : Rep Thing := ⟨fun K H v x => match x with
  | .pl i => v = .int i
  | .ti a b => rep K H v (a, b), fun {_ _ _ _ x} s h => by
    cases x with
    | pl i => exact h
    | ti a b => exact Rep.mono (α := Int × Int) s h⟩
theorem A2.ints {vs : List V} {xs : List Int} (h : A2 (rep K H) vs xs) : vs = xs.map V.int := by
  induction h with
  | nil => rfl
  | cons a _ ih =>
    have a' : _ = V.int _ := a
    rw [a', ih]
    rfl
theorem A2.of_ints {xs : List Int} : A2 (rep K H) (xs.map V.int) xs := by
  induction xs with
  | nil => exact .nil
  | cons x xs ih => exact .cons rfl ih
theorem A2.bools {vs : List V} {xs : List Bool} (h : A2 (rep K H) vs xs) : vs = xs.map V.bl := by
  induction h with
  | nil => rfl
  | cons a _ ih =>
    have a' : _ = V.bl _ := a
    rw [a', ih]
    rfl
end

/-! ### the heap: F, frozen, is read alone; the cells os are one's own, not in F -/
structure W (F H : Hp) (os : List (Addr × HO)) : Prop where
  same : Same F H
  own : ∀ p ∈ os, H p.1 = some p.2 ∧ F p.1 = none
  nd : os.Pairwise fun p q => p.1 ≠ q.1
  nt : ∀ p ∈ os, ∀ vs, p.2 ≠ .tup vs
theorem same_new {H : Hp} {p : Addr} {o : HO} (h : H p = none) : Same H (upd H p o) := fun a u e => by
  rw [upd_ne (ne_of_none e h)]
  exact e
section
variable {F H : Hp} {os pre post : List (Addr × HO)} {a p : Addr} {o o' : HO}
theorem W.free (w : W F H os) (n : H p = none) : F p = none := w.same.free n
theorem W.get (w : W F H (pre ++ (a, o) :: post)) : H a = some o := (w.own (a, o) (List.mem_append_right _ List.mem_cons_self)).1
theorem W.no (w : W F H (pre ++ (a, o) :: post)) : F a = none := (w.own (a, o) (List.mem_append_right _ List.mem_cons_self)).2
theorem W.ne (w : W F H os) (n : H p = none) : ∀ q ∈ os, q.1 ≠ p := fun q hq e => by
  have h := (w.own q hq).1
  rw [e, n] at h
  cases h
/-- a new thing, never to be written -/
theorem W.frz (w : W F H os) (n : H p = none) : W (upd F p o) (upd H p o) os where
  same := fun b u e => by
    by_cases hb : b = p
    · subst hb
      rw [upd_same] at e ⊢
      exact e
    · rw [upd_ne hb] at e ⊢
      exact w.same b u e
  own := fun q hq => by
    have hne := w.ne n q hq
    rw [upd_ne hne, upd_ne hne]
    exact w.own q hq
  nd := w.nd
  nt := w.nt
theorem W.frzS (w : W F H os) (n : H p = none) : Same F (upd F p o) := same_new (w.free n)
/-- a new cell of one's own -/
theorem W.new (w : W F H os) (n : H p = none) (ho : ∀ vs, o ≠ .tup vs := by exact fun _ h => nomatch h) : W F (upd H p o) ((p, o) :: os) where
  same := w.same.trans (same_new n)
  own := fun q hq => by
    rcases List.mem_cons.mp hq with rfl | hq
    · exact ⟨upd_same, w.free n⟩
    · rw [upd_ne (w.ne n q hq)]
      exact w.own q hq
  nd := List.pairwise_cons.mpr ⟨fun q hq => fun e => w.ne n q hq e.symm, w.nd⟩
  nt := fun q hq => by
    rcases List.mem_cons.mp hq with rfl | hq
    · exact ho
    · exact w.nt q hq
/-- a cell of one's own is written -/
theorem W.set (w : W F H (pre ++ (a, o) :: post)) (ho : ∀ vs, o' ≠ .tup vs := by exact fun _ h => nomatch h) : W F (upd H a o') (pre ++ (a, o') :: post) where
  same := fun b u e => by
    have hn := w.no
    rw [upd_ne (ne_of_none e hn)]
    exact w.same b u e
  own := fun q hq => by
    have nd := w.nd
    rw [List.pairwise_append] at nd
    obtain ⟨_, n2, n3⟩ := nd
    rw [List.pairwise_cons] at n2
    rcases List.mem_append.mp hq with hq | hq
    · have hne : q.1 ≠ a := n3 q hq (a, o) List.mem_cons_self
      rw [upd_ne hne]
      exact w.own q (List.mem_append_left _ hq)
    · rcases List.mem_cons.mp hq with rfl | hq
      · exact ⟨upd_same, w.no⟩
      · have hne : q.1 ≠ a := fun e => n2.1 q hq e.symm
        rw [upd_ne hne]
        exact w.own q (List.mem_append_right _ (List.mem_cons_of_mem _ hq))
  nd := by
    have nd := w.nd
    rw [List.pairwise_append] at nd ⊢
    obtain ⟨n1, n2, n3⟩ := nd
    rw [List.pairwise_cons] at n2 ⊢
    refine ⟨n1, ⟨n2.1, n2.2⟩, fun x hx y hy => ?_⟩
    rcases List.mem_cons.mp hy with rfl | hy
    · exact n3 x hx (a, o) List.mem_cons_self
    · exact n3 x hx y (List.mem_cons_of_mem _ hy)
  nt := fun q hq => by
    rcases List.mem_append.mp hq with hq | hq
    · exact w.nt q (List.mem_append_left _ hq)
    · rcases List.mem_cons.mp hq with rfl | hq
      · exact ho
      · exact w.nt q (List.mem_append_right _ (List.mem_cons_of_mem _ hq))
/-- a cell is forgotten -/
theorem W.drop (w : W F H (pre ++ (a, o) :: post)) : W F H (pre ++ post) where
  same := w.same
  own := fun q hq => w.own q (by
    rcases List.mem_append.mp hq with h | h
    · exact List.mem_append_left _ h
    · exact List.mem_append_right _ (List.mem_cons_of_mem _ h))
  nd := by
    have nd := w.nd
    rw [List.pairwise_append] at nd ⊢
    obtain ⟨n1, n2, n3⟩ := nd
    rw [List.pairwise_cons] at n2
    exact ⟨n1, n2.2, fun x hx y hy => n3 x hx y (List.mem_cons_of_mem _ hy)⟩
  nt := fun q hq => w.nt q (by
    rcases List.mem_append.mp hq with h | h
    · exact List.mem_append_left _ h
    · exact List.mem_append_right _ (List.mem_cons_of_mem _ h))
/-- a cell of one's own is never written again -/
theorem W.freeze (w : W F H (pre ++ (a, o) :: post)) : W (upd F a o) H (pre ++ post) where
  same := fun b u e => by
    by_cases hb : b = a
    · subst hb
      rw [upd_same] at e
      rw [← e]
      exact w.get
    · rw [upd_ne hb] at e
      exact w.same b u e
  own := fun q hq => by
    have nd := w.nd
    rw [List.pairwise_append] at nd
    obtain ⟨n1, n2, n3⟩ := nd
    rw [List.pairwise_cons] at n2
    have hne : q.1 ≠ a := by
      rcases List.mem_append.mp hq with h | h
      · exact n3 q h (a, o) List.mem_cons_self
      · exact fun e => n2.1 q h e.symm
    have h := w.drop.own q hq
    rw [upd_ne hne]
    exact h
  nd := w.drop.nd
  nt := w.drop.nt
theorem W.freezeS (w : W F H (pre ++ (a, o) :: post)) : Same F (upd F a o) := same_new w.no
/-- a cell is told first -/
theorem W.front (w : W F H (pre ++ (a, o) :: post)) : W F H ((a, o) :: (pre ++ post)) where
  same := w.same
  own := fun x hx => w.own x (by
    rcases List.mem_cons.mp hx with rfl | h
    · exact List.mem_append_right _ List.mem_cons_self
    · rcases List.mem_append.mp h with h | h
      · exact List.mem_append_left _ h
      · exact List.mem_append_right _ (List.mem_cons_of_mem _ h))
  nd := by
    have nd := w.nd
    have nd' := w.drop.nd
    rw [List.pairwise_append] at nd
    obtain ⟨n1, n2, n3⟩ := nd
    rw [List.pairwise_cons] at n2
    refine List.pairwise_cons.mpr ⟨fun x hx => ?_, nd'⟩
    rcases List.mem_append.mp hx with h | h
    · exact fun e => n3 x h (a, o) List.mem_cons_self e.symm
    · exact n2.1 x h
  nt := fun x hx => w.nt x (by
    rcases List.mem_cons.mp hx with rfl | h
    · exact List.mem_append_right _ List.mem_cons_self
    · rcases List.mem_append.mp h with h | h
      · exact List.mem_append_left _ h
      · exact List.mem_append_right _ (List.mem_cons_of_mem _ h))
end

/-! ### what a call hands back -/
section
variable {α β : Type} [Rep α] [Rep β]
/-- a value of the frozen part -/
def Ret (K : Fg) (F : Hp) (os : List (Addr × HO)) (Q : VK) (y : α) : Prop := ∀ v F' H', W F' H' os → Same F F' → rep K F' v y → Q v H'
/-- a new list, the caller's own -/
def RetL (K : Fg) (F : Hp) (os : List (Addr × HO)) (Q : VK) (ys : List α) : Prop := ∀ p vs F' H', W F' H' ((p, .lst vs) :: os) → Same F F' → A2 (rep K F') vs ys → Q (.ref p) H'
/-- a value, and what the list at a holds now -/
def RetM (K : Fg) (F : Hp) (a : Addr) (os : List (Addr × HO)) (Q : VK) (y : α × List β) : Prop :=
  ∀ v vs F' H', W F' H' ((a, .lst vs) :: os) → Same F F' → rep K F' v y.1 → A2 (rep K F') vs y.2 → Q v H'
/-- a new list, the caller's own, and what the list at a holds now -/
def RetLM (K : Fg) (F : Hp) (a : Addr) (os : List (Addr × HO)) (Q : VK) (y : List α × List β) : Prop :=
  ∀ p us vs F' H', W F' H' ((p, .lst us) :: (a, .lst vs) :: os) → Same F F' → A2 (rep K F') us y.1 → A2 (rep K F') vs y.2 → Q (.ref p) H'
def noX : Exn → Prop := fun _ => False
end
end Z
/-! Z1: loops, comprehensions and joins against their mirrors; calls by typed data -/
namespace Z
open PySem L2
open Rep (rep)

/-! ### ways that join -/
section
variable {γ δ : Type} {m : R γ} {k : γ → R δ} {P : δ → Prop} {X : Exn → Prop}
theorem joinS {t u : TS} {D : Ends} {σ : St} {H : Hp} (hm : Post (m >>= k) P X) (J : γ → St → Hp → Prop)
    (h : ∀ (N : St → Hp → Prop) (P' : γ → Prop), (∀ g, P' g → ∀ σ' H', J g σ' H' → N σ' H') → Post m P' X → t { D with nx := N } σ H)
    (h2 : ∀ g σ' H', J g σ' H' → Post (k g) P X → u D σ' H') : tSeq t u D σ H :=
  h _ _ (fun g p σ' H' j => h2 g σ' H' j p) (post_bind hm)
theorem joinT {t : TT} {σ : St} {H : Hp} {Q : Bool → Hp → Prop} (hm : Post (m >>= k) P X) (J : γ → Bool → Hp → Prop)
    (h : ∀ (Q' : Bool → Hp → Prop) (P' : γ → Prop), (∀ g, P' g → ∀ c H', J g c H' → Q' c H') → Post m P' X → t σ H Q')
    (h2 : ∀ g c H', J g c H' → Post (k g) P X → Q c H') : t σ H Q :=
  h _ _ (fun g p c H' j => h2 g c H' j p) (post_bind hm)
theorem joinE {t : TE} {σ : St} {H : Hp} {Q : VK} (hm : Post (m >>= k) P X) (J : γ → V → Hp → Prop)
    (h : ∀ (Q' : VK) (P' : γ → Prop), (∀ g, P' g → ∀ c H', J g c H' → Q' c H') → Post m P' X → t σ H Q')
    (h2 : ∀ g c H', J g c H' → Post (k g) P X → Q c H') : t σ H Q :=
  h _ _ (fun g p c H' j => h2 g c H' j p) (post_bind hm)
/-- a test of a value that is told -/
theorem cutT {t : TT} {σ : St} {H : Hp} {Q : Bool → Hp → Prop} (J : Bool → Hp → Prop) (h : ∀ Q' : Bool → Hp → Prop, (∀ c H', J c H' → Q' c H') → t σ H Q') (h2 : ∀ c H', J c H' → Q c H') : t σ H Q := h _ h2
theorem cutE {t : TE} {σ : St} {H : Hp} {Q : VK} (J : V → Hp → Prop) (h : ∀ Q' : VK, (∀ c H', J c H' → Q' c H') → t σ H Q') (h2 : ∀ c H', J c H' → Q c H') : t σ H Q := h _ h2
theorem ifB {c : Bool} {A B : Prop} (h1 : c = true → A) (h2 : c = false → B) : if c = true then A else B := by
  cases c with
  | true => exact h1 rfl
  | false => exact h2 rfl
end

/-! ### what is walked, typed -/
structure TW (J : It) {β : Type} (items : List β) (G : Hp → Prop) (Y : β → Hp → V → Hp → Prop) : Prop where
  walk : Walk J items.length G (fun i H x H' => ∃ b, items[i]? = some b ∧ Y b H x H')
section
variable {K : Fg} {F : Hp} {a : Addr} {α β : Type} [Rep α] [Rep β] {vs us : List V} {xs : List α} {ys : List β}
theorem tw_list (h : A2 (rep K F) vs xs) : TW (Itl K a) xs (fun H => SqL K H a vs) (fun b H x H' => H' = H ∧ rep K F x b) := ⟨by
  rw [← h.length]
  exact walk_list.mono (fun _ g => g) fun i H x H' _ _ y => by
    obtain ⟨y1, y2⟩ := y
    obtain ⟨b, h1, h2⟩ := h.getV y2
    exact ⟨b, h1, y1, h2⟩⟩
theorem tw_tup (h : A2 (rep K F) vs xs) : TW (Itt K a) xs (fun H => SqT K H a vs) (fun b H x H' => H' = H ∧ rep K F x b) := ⟨by
  rw [← h.length]
  exact walk_tup.mono (fun _ g => g) fun i H x H' _ _ y => by
    obtain ⟨y1, y2⟩ := y
    obtain ⟨b, h1, h2⟩ := h.getV y2
    exact ⟨b, h1, y1, h2⟩⟩
theorem rng_length (i j : Int) : (rng i j).length = (j - i).toNat := by
  unfold rng
  rw [List.length_map, List.length_range]
theorem rng_get {i j : Int} {n : Nat} (h : n < (j - i).toNat) : (rng i j)[n]? = some (i + (n : Int)) := by
  unfold rng
  rw [List.getElem?_map, List.getElem?_range h]
  rfl
theorem tw_rng {i j : Int} : TW (Itr i (j - i).toNat) (rng i j) (fun _ => True) (fun b H x H' => H' = H ∧ x = .int b) := ⟨by
  rw [rng_length]
  exact walk_range.mono (fun _ g => g) fun n H x H' hn _ y => ⟨_, rng_get hn, y.1, y.2⟩⟩
theorem tw_rng0 {j : Int} : TW (Itr 0 j.toNat) (rng 0 j) (fun _ => True) (fun b H x H' => H' = H ∧ x = .int b) := by
  have h := tw_rng (i := 0) (j := j)
  rw [Int.sub_zero] at h
  exact h
/-- pairs of a place and the item there -/
def enum (xs : List α) : List (Int × α) := (rng 0 xs.length).zip xs
theorem enum_length (xs : List α) : (enum xs).length = xs.length := by
  unfold enum
  rw [List.length_zip, rng_length]
  omega
theorem enum_get {xs : List α} {i : Nat} {x : α} (h : xs[i]? = some x) : (enum xs)[i]? = some ((i : Int), x) := by
  have hl := (List.getElem?_eq_some_iff.mp h).1
  unfold enum
  rw [List.getElem?_zip_eq_some]
  refine ⟨?_, h⟩
  rw [rng_get (by omega)]
  simp
theorem tw_enum (h : A2 (rep K F) vs xs) : TW (Ite K a) (enum xs) (fun H => SqL K H a vs) (fun b H v H' => ∃ T x, v = .ref T ∧ H T = none ∧ H' = upd H T (.tup [.int b.1, x]) ∧ rep K F x b.2) := ⟨by
  rw [enum_length, ← h.length]
  exact walk_enum.mono (fun _ g => g) fun i H x H' _ _ y => by
    obtain ⟨T, u, w, e1, e2, e3, e4, e5⟩ := y
    obtain ⟨b, h1, h2⟩ := h.getV e5
    cases e4
    exact ⟨((i : Int), b), enum_get h1, T, w, e1, e2, e3, h2⟩⟩
theorem tw_zip {b : Addr} (h : A2 (rep K F) vs xs) (h' : A2 (rep K F) us ys) : TW (Itz K a b) (xs.zip ys) (fun H => SqL K H a vs ∧ SqL K H b us) (fun p H v H' => ∃ T x y, v = .ref T ∧ H T = none ∧ H' = upd H T (.tup [x, y]) ∧ rep K F x p.1 ∧ rep K F y p.2) := ⟨by
  rw [List.length_zip, ← h.length, ← h'.length]
  exact (walk_zip rfl).mono (fun _ g => g) fun i H x H' _ _ y => by
    obtain ⟨T, u, w, e1, e2, e3, e4, e5⟩ := y
    obtain ⟨c, h1, h2⟩ := h.getV e4
    obtain ⟨d, h3, h4⟩ := h'.getV e5
    refine ⟨(c, d), ?_, T, u, w, e1, e2, e3, h2, h4⟩
    rw [List.getElem?_zip_eq_some]
    exact ⟨h1, h3⟩⟩
end

/-! ### for -/
section
variable {J : It} {β γ δ ρ : Type} {items : List β} {G : Hp → Prop} {Y : β → Hp → V → Hp → Prop} {g : TG} {tb : TS} {D : Ends} {σ : St} {H : Hp} {P : δ → Prop} {X : Exn → Prop}
theorem drop_cons {l : List β} {i : Nat} {b : β} (h : l[i]? = some b) : l.drop i = b :: l.drop (i + 1) := by
  obtain ⟨hl, e⟩ := List.getElem?_eq_some_iff.mp h
  rw [List.drop_eq_getElem_cons hl, e]
theorem forS (tw : TW J items G Y) {body : γ → β → R γ} {s0 : γ} {k : γ → R δ} (hm : Post (foldR body s0 items >>= k) P X) (I : γ → St → Hp → Prop) (h0 : I s0 σ H) (hG : ∀ c σ H, I c σ H → G H)
    (hs : ∀ (b : β) (c : γ) (x : V) (σ : St) (H H' : Hp) (N : St → Hp → Prop) (P' : γ → Prop), I c σ H → Y b H x H' → (∀ c', P' c' → ∀ σ' H', I c' σ' H' → N σ' H') → Post (body c b) P' X → g x σ H' fun σ2 H2 => tb { D with nx := N, ct := N, bk := D.nx } σ2 H2)
    (hd : ∀ c σ H, I c σ H → Post (k c) P X → D.nx σ H) :
    ∃ W : Nat → Nat → St → Hp → Prop, (∃ m, W 0 m σ H) ∧ ∀ i m σ H, W i m σ H →
      (J.stop i H ∧ D.nx σ H) ∨ (J.go i H ∧ ∃ N : St → Hp → Prop, (∀ σ' H', N σ' H' → ∃ m', m' < m ∧ W (i + 1) m' σ' H') ∧ ∀ x H', J.yld i H x H' → g x σ H' fun σ2 H2 => tb { D with nx := N, ct := N, bk := D.nx } σ2 H2) := by
  refine for_it tw.walk (fun i σ H => ∃ c, I c σ H ∧ Post (foldR body c (items.drop i) >>= k) P X) ⟨s0, h0, hm⟩ (fun i σ H _ ⟨c, h, _⟩ => hG c σ H h) ?_ ?_
  · rintro i x σ H H' hi ⟨c, h, hm⟩ ⟨b, hb, y⟩
    rw [drop_cons hb] at hm
    exact hs b c x σ H H' _ _ h y (fun c' p' σ' H' h' => ⟨c', h', p'⟩) (post_bind (pb_foldR hm))
  · rintro σ H ⟨c, h, hm⟩
    rw [List.drop_length] at hm
    exact hd c σ H h hm
/-- a for that may end the whole, or itself -/
theorem forX (tw : TW J items G Y) {body : γ → β → R (Sum ρ (Bool × γ))} {s0 : γ} {k : Sum ρ γ → R δ} (hm : Post (foldX body s0 items >>= k) P X) (I : γ → St → Hp → Prop) (h0 : I s0 σ H) (hG : ∀ c σ H, I c σ H → G H)
    (hs : ∀ (b : β) (c : γ) (x : V) (σ : St) (H H' : Hp) (N B : St → Hp → Prop) (P' : Sum ρ (Bool × γ) → Prop), I c σ H → Y b H x H' → (∀ c', P' (.inr (true, c')) → ∀ σ' H', I c' σ' H' → N σ' H') → (∀ c', P' (.inr (false, c')) → ∀ σ' H', I c' σ' H' → B σ' H') →
      (∀ z, P' (.inl z) → Post (k (.inl z)) P X) → Post (body c b) P' X → g x σ H' fun σ2 H2 => tb { D with nx := N, ct := N, bk := B } σ2 H2)
    (hd : ∀ c σ H, I c σ H → Post (k (.inr c)) P X → D.nx σ H) :
    ∃ W : Nat → Nat → St → Hp → Prop, (∃ m, W 0 m σ H) ∧ ∀ i m σ H, W i m σ H →
      (J.stop i H ∧ D.nx σ H) ∨ (J.go i H ∧ ∃ N : St → Hp → Prop, (∀ σ' H', N σ' H' → ∃ m', m' < m ∧ W (i + 1) m' σ' H') ∧ ∀ x H', J.yld i H x H' → g x σ H' fun σ2 H2 => tb { D with nx := N, ct := N, bk := D.nx } σ2 H2) := by
  refine for_it tw.walk (fun i σ H => ∃ c, I c σ H ∧ Post (foldX body c (items.drop i) >>= k) P X) ⟨s0, h0, hm⟩ (fun i σ H _ ⟨c, h, _⟩ => hG c σ H h) ?_ ?_
  · rintro i x σ H H' hi ⟨c, h, hm⟩ ⟨b, hb, y⟩
    rw [drop_cons hb] at hm
    have hm' : Post ((body c b >>= fun r => match r with
      | .inl z => (R.ok (.inl z) : R (Sum ρ γ))
      | .inr (true, s') => foldX body s' (items.drop (i + 1))
      | .inr (false, s') => R.ok (.inr s')) >>= k) P X := hm
    rw [bind_bind] at hm'
    exact hs b c x σ H H' _ _ _ h y (fun c' p' σ' H' h' => ⟨c', h', p'⟩) (fun c' p' σ' H' h' => hd c' σ' H' h' p') (fun z p' => p') (post_bind hm')
  · rintro σ H ⟨c, h, hm⟩
    rw [List.drop_length] at hm
    exact hd c σ H h hm
end
/-! ### comprehensions -/
/-- items for items, of a list that is not too long -/
def mapG {α β : Type} (f : α → R β) (xs : List α) : R (List β) := grd (decide (xs.length < 100000)) >>= fun _ => mapR f xs
/-- items for some items -/
def filR {α β : Type} (f : α → R (Option β)) : List α → R (List β)
  | [] => .ok []
  | x :: xs => f x >>= fun o => filR f xs >>= fun ys => match o with
    | some y => .ok (y :: ys)
    | none => .ok ys
def filG {α β : Type} (f : α → R (Option β)) (xs : List α) : R (List β) := grd (decide (xs.length < 100000)) >>= fun _ => filR f xs
/-- items for items, by a state that turns -/
def mapSt {α β γ : Type} (f : γ → α → R (β × γ)) : γ → List α → R (List β × γ)
  | s, [] => .ok ([], s)
  | s, x :: xs => f s x >>= fun p => mapSt f p.2 xs >>= fun q => .ok (p.1 :: q.1, q.2)
def mapStG {α β γ : Type} (f : γ → α → R (β × γ)) (s : γ) (xs : List α) : R (List β × γ) := grd (decide (xs.length < 100000)) >>= fun _ => mapSt f s xs
/-- items for some items, by a state that turns -/
def filSt {α β γ : Type} (f : γ → α → R (Option β × γ)) : γ → List α → R (List β × γ)
  | s, [] => .ok ([], s)
  | s, x :: xs => f s x >>= fun p => filSt f p.2 xs >>= fun q => match p.1 with
    | some y => .ok (y :: q.1, q.2)
    | none => .ok q
def filStG {α β γ : Type} (f : γ → α → R (Option β × γ)) (s : γ) (xs : List α) : R (List β × γ) := grd (decide (xs.length < 100000)) >>= fun _ => filSt f s xs
section
variable {J : It} {β γ δ ε : Type} {items : List β} {G : Hp → Prop} {Y : β → Hp → V → Hp → Prop} {g : TG} {tt : TT} {te : TE} {P : ε → Prop} {X : Exn → Prop} {K : Fg} {vs : List Nat} {σ : St} {F H1 : Hp} {os : List (Addr × HO)} {D : Addr} {Qd : Hp → Prop}
/-- what is asked of a comprehension's list D behind its walk J: by the readings' own words -/
abbrev LcAsk (J : It) (g : TG) (tt : TT) (te : TE) (vs : List Nat) (σ : St) (H1 : Hp) (D : Addr) (Qd : Hp → Prop) : Prop :=
  ∃ W : Nat → Nat → Hp → Prop, (∃ m, W 0 m (upd H1 D (.lst []))) ∧ ∀ i m H, W i m H →
      (J.stop i H ∧ Qd H) ∨ (J.go i H ∧ ∃ Nx : Hp → Prop, (∀ H', Nx H' → ∃ m', m' < m ∧ W (i + 1) m' H') ∧ ∀ x H', J.yld i H x H' → g x (wipe σ vs) H' fun σ2 H2 => wipe σ2 vs = wipe σ vs ∧ tt σ2 H2 fun b H3 =>
        if b = true then te σ2 H3 fun y H4 => ∃ acc, H4 D = some (.lst acc) ∧ acc.length < sizeLine ∧ Nx (upd H4 D (.lst (acc ++ [y]))) else Nx H3)
/-- the state and the items told of a comprehension: os by the state -/
theorem lcFil [Rep δ] (tw : TW J items G Y) {f : γ → β → R (Option δ × γ)} {s0 : γ} {k : List δ × γ → R ε} (hm : Post (filStG f s0 items >>= k) P X) (O : γ → Hp → List (Addr × HO) → Prop) (w : W F H1 os) (o0 : O s0 F os) (nD : H1 D = none)
    (hG : ∀ c F' H' os' acc, Same F F' → W F' H' ((D, .lst acc) :: os') → O c F' os' → G H')
    (hs : ∀ (b : β) (c : γ) (x : V) (F' H' H'' : Hp) (os' : List (Addr × HO)) (acc : List V) (N : V → Hp → Prop) (N0 : Hp → Prop) (P' : Option δ × γ → Prop), Same F F' → W F' H' ((D, .lst acc) :: os') → O c F' os' → Y b H' x H'' →
      (∀ d c', P' (some d, c') → ∀ y F'' H'' os'', W F'' H'' ((D, .lst acc) :: os'') → Same F' F'' → O c' F'' os'' → rep K F'' y d → N y H'') →
      (∀ c', P' (none, c') → ∀ F'' H'' os'', W F'' H'' ((D, .lst acc) :: os'') → Same F' F'' → O c' F'' os'' → N0 H'') → Post (f c b) P' X →
      g x (wipe σ vs) H'' fun σ2 H2 => wipe σ2 vs = wipe σ vs ∧ tt σ2 H2 fun b H3 => if b = true then te σ2 H3 N else N0 H3)
    (hd : ∀ c us F' H' os' ys, Same F F' → W F' H' ((D, .lst us) :: os') → O c F' os' → A2 (rep K F') us ys → Post (k (ys, c)) P X → Qd H') : LcAsk J g tt te vs σ H1 D Qd := by
  obtain ⟨hlen, hm⟩ := pb_grd (pb_assoc hm)
  have hlen : items.length < sizeLine := Nat.lt_of_lt_of_le (of_decide_eq_true hlen) line5
  refine lc_it tw.walk (fun i H => ∃ c F' os' us ys, i ≤ items.length ∧ Same F F' ∧ W F' H ((D, .lst us) :: os') ∧ O c F' os' ∧ A2 (rep K F') us ys ∧ ys.length ≤ i ∧ Post (filSt f c (items.drop i) >>= fun q => k (ys ++ q.1, q.2)) P X) ?_ ?_ ?_ ?_
  · exact ⟨s0, F, os, [], [], Nat.zero_le _, Same.refl _, w.new nD, o0, .nil, Nat.le_refl _, hm⟩
  · rintro i H _ ⟨c, F', os', us, ys, _, s, w', o, _⟩
    exact hG c F' H os' us s w' o
  · rintro i x H H' hi ⟨c, F', os', us, ys, _, s, w', o, h, hl, hm⟩ ⟨b, hb, y⟩
    rw [drop_cons hb] at hm
    have hm' : Post ((f c b >>= fun p => filSt f p.2 (items.drop (i + 1)) >>= fun q => match p.1 with
      | some y => (R.ok (y :: q.1, q.2) : R (List δ × γ))
      | none => R.ok q) >>= fun q => k (ys ++ q.1, q.2)) P X := hm
    rw [bind_bind] at hm'
    have hm2 := post_bind hm'
    have hul : us.length = ys.length := h.length
    refine hs b c x F' H H' os' us (fun y H4 => ∃ acc, H4 D = some (.lst acc) ∧ acc.length < sizeLine ∧ _) _ _ s w' o y ?_ ?_ hm2
    · intro d c' p2 y F'' H'' os'' w2 s2 o2 r2
      refine ⟨us, w2.get (pre := []), by omega, c', F'', os'', us ++ [y], ys ++ [d], hi, s.trans s2, w2.set (pre := []), o2, (h.mono s2).snoc r2, by rw [List.length_append, List.length_singleton]; omega, ?_⟩
      have p3 : Post ((filSt f c' (items.drop (i + 1)) >>= fun q => (R.ok (d :: q.1, q.2) : R (List δ × γ))) >>= fun q => k (ys ++ q.1, q.2)) P X := p2
      rw [bind_bind] at p3
      have e : (fun q : List δ × γ => (R.ok (d :: q.1, q.2) : R (List δ × γ)) >>= fun q => k (ys ++ q.1, q.2)) = fun q => k (ys ++ [d] ++ q.1, q.2) := by
        funext q
        show k (ys ++ (d :: q.1), q.2) = k (ys ++ [d] ++ q.1, q.2)
        rw [List.append_assoc]
        rfl
      rw [e] at p3
      exact p3
    · intro c' p2 F'' H'' os'' w2 s2 o2
      refine ⟨c', F'', os'', us, ys, hi, s.trans s2, w2, o2, h.mono s2, by omega, ?_⟩
      have p3 : Post ((filSt f c' (items.drop (i + 1)) >>= fun q => (R.ok q : R (List δ × γ))) >>= fun q => k (ys ++ q.1, q.2)) P X := p2
      rw [bind_bind] at p3
      exact p3
  · rintro H ⟨c, F', os', us, ys, _, s, w', o, h, _, hm⟩
    rw [List.drop_length] at hm
    have hm' : Post (k (ys ++ [], c)) P X := hm
    rw [List.append_nil] at hm'
    exact hd c us F' H os' ys s w' o h hm'
/-- without a test -/
theorem lcMap [Rep δ] (tw : TW J items G Y) {f : γ → β → R (δ × γ)} {s0 : γ} {k : List δ × γ → R ε} (hm : Post (mapStG f s0 items >>= k) P X) (O : γ → Hp → List (Addr × HO) → Prop) (w : W F H1 os) (o0 : O s0 F os) (nD : H1 D = none)
    (hG : ∀ c F' H' os' acc, Same F F' → W F' H' ((D, .lst acc) :: os') → O c F' os' → G H')
    (hs : ∀ (b : β) (c : γ) (x : V) (F' H' H'' : Hp) (os' : List (Addr × HO)) (acc : List V) (N : V → Hp → Prop) (P' : δ × γ → Prop), Same F F' → W F' H' ((D, .lst acc) :: os') → O c F' os' → Y b H' x H'' →
      (∀ d c', P' (d, c') → ∀ y F'' H'' os'', W F'' H'' ((D, .lst acc) :: os'') → Same F' F'' → O c' F'' os'' → rep K F'' y d → N y H'') → Post (f c b) P' X →
      g x (wipe σ vs) H'' fun σ2 H2 => wipe σ2 vs = wipe σ vs ∧ te σ2 H2 N)
    (hd : ∀ c us F' H' os' ys, Same F F' → W F' H' ((D, .lst us) :: os') → O c F' os' → A2 (rep K F') us ys → Post (k (ys, c)) P X → Qd H') : LcAsk J g tYes te vs σ H1 D Qd := by
  have e : ∀ (s : γ) (l : List β), filSt (fun c b => f c b >>= fun p => R.ok (some p.1, p.2)) s l = mapSt f s l := by
    intro s l
    induction l generalizing s with
    | nil => rfl
    | cons b l ih =>
      show ((f s b >>= fun p => R.ok (some p.1, p.2)) >>= fun p => filSt (fun c b => f c b >>= fun p => R.ok (some p.1, p.2)) p.2 l >>= fun q => match p.1 with
        | some y => (R.ok (y :: q.1, q.2) : R (List δ × γ))
        | none => R.ok q) = (f s b >>= fun p => mapSt f p.2 l >>= fun q => .ok (p.1 :: q.1, q.2))
      rw [bind_bind]
      refine congrArg (f s b >>= ·) ?_
      funext p
      show (filSt (fun c b => f c b >>= fun p => R.ok (some p.1, p.2)) p.2 l >>= fun q => (R.ok (p.1 :: q.1, q.2) : R (List δ × γ))) = _
      rw [ih]
  have hm' : Post (filStG (fun c b => f c b >>= fun p => R.ok (some p.1, p.2)) s0 items >>= k) P X := by
    unfold filStG
    simp only [e]
    exact hm
  refine lcFil tw hm' O w o0 nD hG (fun b c x F' H' H'' os' acc N N0 P' s w' o y hN hN0 hp => ?_) hd
  exact hs b c x F' H' H'' os' acc N _ s w' o y (fun d c' p2 y F'' H'' os'' w2 s2 o2 r2 => hN d c' p2 y F'' H'' os'' w2 s2 o2 r2) (post_bind hp)
/-- without a state -/
theorem lcM [Rep δ] (tw : TW J items G Y) {f : β → R δ} {k : List δ → R ε} (hm : Post (mapG f items >>= k) P X) (w : W F H1 os) (nD : H1 D = none)
    (hG : ∀ F' H' acc, Same F F' → W F' H' ((D, .lst acc) :: os) → G H')
    (hs : ∀ (b : β) (x : V) (F' H' H'' : Hp) (acc : List V) (N : V → Hp → Prop) (P' : δ → Prop), Same F F' → W F' H' ((D, .lst acc) :: os) → Y b H' x H'' →
      (∀ d, P' d → ∀ y F'' H'', W F'' H'' ((D, .lst acc) :: os) → Same F' F'' → rep K F'' y d → N y H'') → Post (f b) P' X →
      g x (wipe σ vs) H'' fun σ2 H2 => wipe σ2 vs = wipe σ vs ∧ te σ2 H2 N)
    (hd : ∀ us F' H' ys, Same F F' → W F' H' ((D, .lst us) :: os) → A2 (rep K F') us ys → Post (k ys) P X → Qd H') : LcAsk J g tYes te vs σ H1 D Qd := by
  have e : ∀ (l : List β), (mapSt (fun (_ : Unit) b => f b >>= fun d => R.ok (d, ())) () l >>= fun q => R.ok q.1) = mapR f l := by
    intro l
    induction l with
    | nil => rfl
    | cons b l ih =>
      show (((f b >>= fun d => R.ok (d, ())) >>= fun p => mapSt (fun (_ : Unit) b => f b >>= fun d => R.ok (d, ())) p.2 l >>= fun q => (R.ok (p.1 :: q.1, q.2) : R (List δ × Unit))) >>= fun q => R.ok q.1) = (f b >>= fun y => mapR f l >>= fun ys => R.ok (y :: ys))
      rw [bind_bind, bind_bind]
      refine congrArg (f b >>= ·) ?_
      funext d
      show ((mapSt (fun (_ : Unit) b => f b >>= fun d => R.ok (d, ())) () l >>= fun q => (R.ok (d :: q.1, q.2) : R (List δ × Unit))) >>= fun q => R.ok q.1) = _
      rw [bind_bind, ← ih, bind_bind]
      rfl
  have hm' : Post (mapStG (fun (_ : Unit) b => f b >>= fun d => R.ok (d, ())) () items >>= fun q => k q.1) P X := by
    have e2 : (mapStG (fun (_ : Unit) b => f b >>= fun d => R.ok (d, ())) () items >>= fun q => R.ok q.1) = mapG f items := by
      unfold mapStG mapG
      rw [bind_bind]
      simp only [e]
    have h2 : Post ((mapStG (fun (_ : Unit) b => f b >>= fun d => R.ok (d, ())) () items >>= fun q => R.ok q.1) >>= k) P X := by
      rw [e2]
      exact hm
    rw [bind_bind] at h2
    exact h2
  refine lcMap tw hm' (fun _ _ os' => os = os') w rfl nD (fun c F' H' os' acc s w' o => by subst o; exact hG F' H' acc s w') (fun b c x F' H' H'' os' acc N P' s w' o y hN hp => ?_) (fun c us F' H' os' ys s w' o h hm => by subst o; exact hd us F' H' ys s w' h hm)
  subst o
  exact hs b x F' H' H'' acc N _ s w' y (fun d p2 y F'' H'' w2 s2 r2 => hN d () p2 y F'' H'' _ w2 s2 rfl r2) (post_bind hp)
/-- .. with a test -/
theorem lcF [Rep δ] (tw : TW J items G Y) {f : β → R (Option δ)} {k : List δ → R ε} (hm : Post (filG f items >>= k) P X) (w : W F H1 os) (nD : H1 D = none)
    (hG : ∀ F' H' acc, Same F F' → W F' H' ((D, .lst acc) :: os) → G H')
    (hs : ∀ (b : β) (x : V) (F' H' H'' : Hp) (acc : List V) (N : V → Hp → Prop) (N0 : Hp → Prop) (P' : Option δ → Prop), Same F F' → W F' H' ((D, .lst acc) :: os) → Y b H' x H'' →
      (∀ d, P' (some d) → ∀ y F'' H'', W F'' H'' ((D, .lst acc) :: os) → Same F' F'' → rep K F'' y d → N y H'') →
      (P' none → ∀ F'' H'', W F'' H'' ((D, .lst acc) :: os) → Same F' F'' → N0 H'') → Post (f b) P' X →
      g x (wipe σ vs) H'' fun σ2 H2 => wipe σ2 vs = wipe σ vs ∧ tt σ2 H2 fun b H3 => if b = true then te σ2 H3 N else N0 H3)
    (hd : ∀ us F' H' ys, Same F F' → W F' H' ((D, .lst us) :: os) → A2 (rep K F') us ys → Post (k ys) P X → Qd H') : LcAsk J g tt te vs σ H1 D Qd := by
  have e : ∀ (l : List β), (filSt (fun (_ : Unit) b => f b >>= fun d => R.ok (d, ())) () l >>= fun q => R.ok q.1) = filR f l := by
    intro l
    induction l with
    | nil => rfl
    | cons b l ih =>
      show (((f b >>= fun d => R.ok (d, ())) >>= fun p => filSt (fun (_ : Unit) b => f b >>= fun d => R.ok (d, ())) p.2 l >>= fun q => match p.1 with
        | some y => (R.ok (y :: q.1, q.2) : R (List δ × Unit))
        | none => R.ok q) >>= fun q => R.ok q.1) = (f b >>= fun o => filR f l >>= fun ys => match o with
        | some y => .ok (y :: ys)
        | none => .ok ys)
      rw [bind_bind, bind_bind]
      refine congrArg (f b >>= ·) ?_
      funext d
      show ((filSt (fun (_ : Unit) b => f b >>= fun d => R.ok (d, ())) () l >>= fun q => match d with
        | some y => (R.ok (y :: q.1, q.2) : R (List δ × Unit))
        | none => R.ok q) >>= fun q => R.ok q.1) = _
      rw [bind_bind, ← ih, bind_bind]
      cases d <;> rfl
  have hm' : Post (filStG (fun (_ : Unit) b => f b >>= fun d => R.ok (d, ())) () items >>= fun q => k q.1) P X := by
    have e2 : (filStG (fun (_ : Unit) b => f b >>= fun d => R.ok (d, ())) () items >>= fun q => R.ok q.1) = filG f items := by
      unfold filStG filG
      rw [bind_bind]
      simp only [e]
    have h2 : Post ((filStG (fun (_ : Unit) b => f b >>= fun d => R.ok (d, ())) () items >>= fun q => R.ok q.1) >>= k) P X := by
      rw [e2]
      exact hm
    rw [bind_bind] at h2
    exact h2
  refine lcFil tw hm' (fun _ _ os' => os = os') w rfl nD (fun c F' H' os' acc s w' o => by subst o; exact hG F' H' acc s w') (fun b c x F' H' H'' os' acc N N0 P' s w' o y hN hN0 hp => ?_) (fun c us F' H' os' ys s w' o h hm => by subst o; exact hd us F' H' ys s w' h hm)
  subst o
  exact hs b x F' H' H'' acc N N0 _ s w' y (fun d p2 y F'' H'' w2 s2 r2 => hN d () p2 y F'' H'' _ w2 s2 rfl r2) (fun p2 F'' H'' w2 s2 => hN0 () p2 F'' H'' _ w2 s2 rfl) (post_bind hp)
end
end Z
namespace Z
open PySem L2
open Rep (rep)
/-! ### short words for a walk -/
section
variable {F F1 F2 H H1 : Hp} {os os' pre post : List (Addr × HO)} {a p : Addr} {o o' : HO} {K : Fg}
theorem W.frzE (w : W F H os) (n : H p = none) : ∃ F', Same F F' ∧ W F' (upd H p o) os ∧ F' p = some o := ⟨_, w.frzS n, w.frz n, upd_same⟩
theorem W.freezeE (w : W F H (pre ++ (a, o) :: post)) : ∃ F', Same F F' ∧ W F' H (pre ++ post) ∧ F' a = some o := ⟨_, w.freezeS, w.freeze, upd_same⟩
/-- a cell that was lent to a call as frozen comes back -/
theorem W.unfreeze (w : W F1 H os) (s : Same F F1) (n : F a = none) (k : F1 a = some o) (ho : ∀ vs, o ≠ .tup vs := by exact fun _ h => nomatch h) : ∃ F', Same F F' ∧ W F' H ((a, o) :: os) := by
  refine ⟨fun b => if b = a then none else F1 b, fun b u e => ?_, fun b u e => ?_, fun q hq => ?_, ?_, fun q hq => ?_⟩
  · have hb : b ≠ a := ne_of_none e n
    show (if b = a then none else F1 b) = some u
    rw [if_neg hb]
    exact s b u e
  · by_cases hb : b = a
    · have e' : (if b = a then none else F1 b) = some u := e
      rw [if_pos hb] at e'
      cases e'
    · have e' : (if b = a then none else F1 b) = some u := e
      rw [if_neg hb] at e'
      exact w.same b u e'
  · rcases List.mem_cons.mp hq with rfl | hq
    · exact ⟨w.same _ _ k, if_pos rfl⟩
    · have h := w.own q hq
      have hb : q.1 ≠ a := fun e => by
        rw [e, k] at h
        cases h.2
      exact ⟨h.1, by show (if q.1 = a then none else F1 q.1) = none; rw [if_neg hb]; exact h.2⟩
  · refine List.pairwise_cons.mpr ⟨fun q hq e => ?_, w.nd⟩
    have h := (w.own q hq).2
    have e' : a = q.1 := e
    rw [← e', k] at h
    cases h
  · rcases List.mem_cons.mp hq with rfl | hq
    · exact ho
    · exact w.nt q hq
theorem rep_own {α : Type} [Rep α] {vs : List V} {xs : List α} (w : W F H (pre ++ (a, .lst vs) :: post)) (h : A2 (rep K F) vs xs) : rep K H (.ref a) xs := ⟨a, vs, rfl, w.get, h.mono w.same⟩
theorem rep_lst {α : Type} [Rep α] {vs : List V} {xs : List α} (q : F a = some (.lst vs)) (h : A2 (rep K F) vs xs) : rep K F (.ref a) xs := ⟨a, vs, rfl, q, h⟩
theorem rep_tup {α : Type} [Rep α] {vs : List V} {xs : List α} (q : F a = some (.tup vs)) (h : A2 (rep K F) vs xs) : rep K F (.ref a) (Tup.mk xs) := ⟨a, vs, rfl, q, h⟩
theorem rep_pair {α β : Type} [Rep α] [Rep β] {u v : V} {x : α} {y : β} (q : F a = some (.tup [u, v])) (h1 : rep K F u x) (h2 : rep K F v y) : rep K F (.ref a) (x, y) := ⟨a, u, v, rfl, q, h1, h2⟩
theorem ints_q {vs : List V} {xs : List Int} (q : SqL K H a vs) (h : A2 (rep K F) vs xs) : SqL K H a (xs.map V.int) := h.ints ▸ q
theorem Room.units65 {k : Nat} {A : Around} (r : Room k A) : A.units + 65 < cLine := by
  have := r.un
  omega
theorem sl_cut {α : Type} {r : V → α → Prop} {vs : List V} {xs : List α} (h : A2 r vs xs) (lo hi : Option Int) : A2 r (cutV vs lo hi) (((xs.drop (HT.sIx xs.length 0 lo)).take (HT.sIx xs.length xs.length hi - HT.sIx xs.length 0 lo))) := by
  unfold cutV
  rw [h.length]
  exact (h.drop _).take _
/-- xs[lo:hi] -/
def cutL {α : Type} (xs : List α) (lo hi : Option Int) : List α := (xs.drop (HT.sIx xs.length 0 lo)).take (HT.sIx xs.length xs.length hi - HT.sIx xs.length 0 lo)
end
end Z
namespace Z
open PySem L2
open Rep (rep)
/-- a while by its fuel -/
def whileR {γ : Type} (c : γ → R Bool) (b : γ → R γ) : Nat → γ → R γ
  | 0, _ => .bad
  | n + 1, s => c s >>= fun t => if t = true then b s >>= fun s' => whileR c b n s' else .ok s
section
variable {γ δ : Type} {P : δ → Prop} {X : Exn → Prop} {tc : TT} {tb : TS} {D : Ends} {σ : St} {H : Hp}
theorem whileS {c : γ → R Bool} {b : γ → R γ} {n : Nat} {s0 : γ} {k : γ → R δ} (hm : Post (whileR c b n s0 >>= k) P X) (I : γ → St → Hp → Prop) (h0 : I s0 σ H)
    (hc : ∀ (g : γ) (σ : St) (H : Hp) (Q' : Bool → Hp → Prop) (P' : Bool → Prop), I g σ H → (∀ t, P' t → ∀ H', I g σ H' → Q' t H') → Post (c g) P' X → tc σ H Q')
    (hs : ∀ (g : γ) (σ : St) (H : Hp) (N : St → Hp → Prop) (P' : γ → Prop), I g σ H → (∀ g', P' g' → ∀ σ' H', I g' σ' H' → N σ' H') → Post (b g) P' X → tb { D with nx := N, ct := N, bk := D.nx } σ H)
    (hd : ∀ g σ H, I g σ H → Post (k g) P X → D.nx σ H) : tWhile tc tb D σ H := by
  refine ⟨fun m σ H => ∃ g, I g σ H ∧ Post (whileR c b m g >>= k) P X, ⟨n, s0, h0, hm⟩, ?_⟩
  rintro m σ H ⟨g, h, hm⟩
  cases m with
  | zero => exact (show False from hm).elim
  | succ m =>
    have hm' : Post ((c g >>= fun t => if t = true then b g >>= fun s' => whileR c b m s' else .ok g) >>= k) P X := hm
    rw [bind_bind] at hm'
    refine hc g σ H _ _ h (fun t p H' h' => ?_) (post_bind hm')
    cases t with
    | false => exact iteF (hd g σ H' h' p)
    | true =>
      refine iteT ?_
      have p' : Post ((b g >>= fun s' => whileR c b m s') >>= k) P X := p
      rw [bind_bind] at p'
      exact ⟨fun σ' H' => ∃ g', I g' σ' H' ∧ Post (whileR c b m g' >>= k) P X, fun σ' H' ⟨g', h1, h2⟩ => ⟨m, Nat.lt_succ_self m, g', h1, h2⟩, hs g σ H' _ _ h' (fun g' p2 σ' H' h2 => ⟨g', h2, p2⟩) (post_bind p')⟩
end
section
variable {α β : Type} {Q : β → Prop} {E : Exn → Prop}
theorem pn_set {xs : List α} {i : Int} {x : α} {f : List α → R β} (h : Post (setI xs i x >>= f) Q E) : ∃ j ys, ixN xs.length i = some j ∧ ys = xs.set j x ∧ Post (f ys) Q E :=
  let ⟨j, a, b⟩ := pb_set h
  ⟨j, _, a, rfl, b⟩
theorem pn_app {xs : List α} {x : α} {f : List α → R β} (h : Post (app xs x >>= f) Q E) : ∃ ys, xs.length < sizeLine ∧ ys = xs ++ [x] ∧ Post (f ys) Q E :=
  let ⟨a, b⟩ := pb_app h
  ⟨_, a, rfl, b⟩
theorem pn_extend {xs ys : List α} {f : List α → R β} (h : Post (extend xs ys >>= f) Q E) : ∃ zs, xs.length + ys.length ≤ sizeLine ∧ zs = xs ++ ys ∧ Post (f zs) Q E :=
  let ⟨a, b⟩ := pb_extend h
  ⟨_, a, rfl, b⟩
theorem A2.lt {r : V → α → Prop} {vs : List V} {xs : List α} {n : Nat} (h : A2 r vs xs) (z : xs.length < n) : vs.length < n := by rw [h.length]; exact z
theorem A2.ix {r : V → α → Prop} {vs : List V} {xs : List α} {i : Int} {j : Nat} (h : A2 r vs xs) (z : ixN xs.length i = some j) : ixN vs.length i = some j := by rw [h.length]; exact z
theorem A2.le2 {γ : Type} {r : V → α → Prop} {r' : V → γ → Prop} {vs us : List V} {xs : List α} {ys : List γ} {n : Nat} (h : A2 r vs xs) (h' : A2 r' us ys) (z : xs.length + ys.length ≤ n) : vs.length + us.length ≤ n := by rw [h.length, h'.length]; exact z
/-- the last item, and the rest -/
def popI (xs : List α) : R (α × List α) := match xs.getLast? with
  | some x => .ok (x, xs.dropLast)
  | none => .bad
def popAt (xs : List α) (i : Int) : R (α × List α) := match ixN xs.length i with
  | some j => match xs[j]? with
    | some x => .ok (x, xs.eraseIdx j)
    | none => .bad
  | none => .bad
theorem pn_popAt {xs : List α} {i : Int} {f : α × List α → R β} (h : Post (popAt xs i >>= f) Q E) : ∃ j x ys, ixN xs.length i = some j ∧ xs[j]? = some x ∧ ys = xs.eraseIdx j ∧ Post (f (x, ys)) Q E := by
  unfold popAt at h
  cases e : ixN xs.length i with
  | none => rw [e] at h; exact (show False from h).elim
  | some j =>
    rw [e] at h
    cases e2 : xs[j]? with
    | none =>
      have h' : Post ((match xs[j]? with
        | some x => (R.ok (x, xs.eraseIdx j) : R (α × List α))
        | none => .bad) >>= f) Q E := h
      rw [e2] at h'
      exact (show False from h').elim
    | some x =>
      have h' : Post ((match xs[j]? with
        | some x => (R.ok (x, xs.eraseIdx j) : R (α × List α))
        | none => .bad) >>= f) Q E := h
      rw [e2] at h'
      exact ⟨j, x, _, rfl, e2, rfl, h'⟩
end
section
variable {K : Fg} {F : Hp}
theorem rep_i {i : Int} : rep K F (.int i) i := rfl
theorem rep_b {i : Bool} : rep K F (.bl i) i := rfl
theorem rep_s {i : Str} : rep K F (.str i) i := rfl
theorem rep_n : rep K F .non () := rfl
end
end Z
namespace Z
open PySem L2
section
variable {X : Cx} {D : Ends} {σ : L2.St} {H : Hp}
def tC1 (v : V) : TE := fun _ H Q => True ∧ Q v H
theorem pe_int1 {i j pos} : PE X (.Constant (.int i) j pos) (tC1 (.int i)) := ⟨fun pins s σ H Q I h => pe_int.run pins s σ H Q I h.2⟩
theorem pe_bl1 {i j pos} : PE X (.Constant (.bool i) j pos) (tC1 (.bl i)) := ⟨fun pins s σ H Q I h => pe_bl.run pins s σ H Q I h.2⟩
theorem pe_str1 {i j pos} : PE X (.Constant (.str i) j pos) (tC1 (.str i)) := ⟨fun pins s σ H Q I h => pe_str.run pins s σ H Q I h.2⟩
theorem pe_non1 {j pos} : PE X (.Constant .none j pos) (tC1 .non) := ⟨fun pins s σ H Q I h => pe_non.run pins s σ H Q I h.2⟩
theorem stepN {i : Nat} {v : V} {Q : L2.St → Hp → Prop} (h : Q (σ.set i (some v)) H) : gName i v σ H Q := h
theorem stepX (h : D.nx σ H) : tNext D σ H := h
theorem stepSeq {t u : TS} (h : t { D with nx := u D } σ H) : tSeq t u D σ H := h
theorem stepIf {c : TT} {a b : TS} (h : c σ H fun t H1 => if t = true then a D σ H1 else b D σ H1) : tIfS c a b D σ H := h
theorem stepRet {te : TE} (h : te σ H D.rt) : tRet te D σ H := h
theorem stepAsg {te : TE} {g : TG} (h : te σ H fun x H1 => g x σ H1 D.nx) : tAsg te g D σ H := h
theorem stepDrop {te : TE} (h : te σ H fun _ H1 => D.nx σ H1) : tDrop te D σ H := h
end
end Z
namespace Z
open PySem L2
open Rep (rep)
section
variable {α : Type} [Rep α] {K : Fg} {F : Hp} {v : V} {x : α}
theorem rep_none : rep K F .non (none : Option α) := rfl
theorem rep_some (h : rep K F v x) : rep K F v (some x) := h
theorem rep_pl {i : Int} : rep K F (.int i) (Thing.pl i) := rfl
theorem rep_ti {a b : Int} (h : rep K F v (a, b)) : rep K F v (Thing.ti a b) := h
end
end Z
/-! Z2: rules by typed data -/
namespace Z
open PySem L2 PySem.Spec PyProof.Rows
open Rep (rep)

/-! ### data that is compared -/
class Dat (α : Type) extends Rep α where
  toD : α → PyData
  dmax : Nat
  dp : ∀ {K : Fg} {H : Hp} {v : V} {x : α}, rep K H v x → Dp K H v (toD x)
  lay : ∀ x : α, (toD x).canLay0 = true
  dep : ∀ x : α, (toD x).depth ≤ dmax
  eqv : ∀ x y : α, PyData.eqv (toD x) (toD y) = true ↔ x = y
section
variable {α β : Type} {K : Fg} {H : Hp}
instance : Dat Int where
  toD := .int
  dmax := 0
  dp := fun h => by
    have h' : _ = V.int _ := h
    subst h'
    exact .int _
  lay := fun x => by simp only [PyData.canLay0]
  dep := fun x => by simp only [PyData.depth, Nat.le_refl]
  eqv := fun x y => by simp [PyData.eqv]
instance : Dat Bool where
  toD := .bool
  dmax := 0
  dp := fun h => by
    have h' : _ = V.bl _ := h
    subst h'
    exact .bl _
  lay := fun x => by simp only [PyData.canLay0]
  dep := fun x => by simp only [PyData.depth, Nat.le_refl]
  eqv := fun x y => by simp [PyData.eqv]
instance datOptInt : Dat (Option Int) where
  toD := fun x => match x with
    | none => .none
    | some i => .int i
  dmax := 0
  dp := fun {K H v x} h => by
    cases x with
    | none =>
      have h' : v = V.non := h
      subst h'
      exact .non
    | some i =>
      have h' : v = V.int i := h
      subst h'
      exact .int _
  lay := fun x => by cases x <;> simp only [PyData.canLay0]
  dep := fun x => by cases x <;> simp only [PyData.depth, Nat.le_refl]
  eqv := fun x y => by cases x <;> cases y <;> simp [PyData.eqv]
instance datPair [Dat α] [Dat β] : Dat (α × β) where
  toD := fun x => .tuple [Dat.toD x.1, Dat.toD x.2]
  dmax := max (Dat.dmax α) (Dat.dmax β) + 1
  dp := fun {K H v x} h => by
    obtain ⟨a, u, w, rfl, q, h1, h2⟩ := h
    exact .tup (SqT.of q) (.cons (Dat.dp h1) (.cons (Dat.dp h2) .nil))
  lay := fun x => by simp only [PyData.canLay0, PyData.canLayAll0, Dat.lay, Bool.and_true]
  dep := fun x => by
    have h1 := Dat.dep x.1
    have h2 := Dat.dep x.2
    simp only [PyData.depth, PyData.depthAll]
    omega
  eqv := fun x y => by
    obtain ⟨x1, x2⟩ := x
    obtain ⟨y1, y2⟩ := y
    simp only [PyData.eqv, PyData.eqvAll, Bool.and_true, Bool.and_eq_true, Dat.eqv, Prod.mk.injEq]
theorem dp_all [Dat α] : ∀ {vs : List V} {xs : List α}, A2 (rep K H) vs xs → DpAll K H vs (xs.map Dat.toD)
  | _, _, .nil => .nil
  | _, _, .cons h t => .cons (Dat.dp h) (dp_all t)
theorem lay_all [Dat α] : ∀ xs : List α, PyData.canLayAll0 (xs.map Dat.toD) = true
  | [] => by simp only [List.map_nil, PyData.canLayAll0]
  | x :: xs => by simp only [List.map_cons, PyData.canLayAll0, Dat.lay, lay_all xs, Bool.and_true]
theorem dep_all [Dat α] : ∀ xs : List α, PyData.depthAll (xs.map Dat.toD) ≤ Dat.dmax α
  | [] => by simp only [List.map_nil, PyData.depthAll, Nat.zero_le]
  | x :: xs => by
    have h1 := dep_all xs
    have h2 := Dat.dep x
    simp only [List.map_cons, PyData.depthAll]
    omega
theorem eqv_all [Dat α] : ∀ xs ys : List α, PyData.eqvAll (xs.map Dat.toD) (ys.map Dat.toD) = true ↔ xs = ys
  | [], [] => by simp [PyData.eqvAll]
  | x :: xs, [] => by simp [PyData.eqvAll]
  | [], y :: ys => by simp [PyData.eqvAll]
  | x :: xs, y :: ys => by simp only [List.map_cons, PyData.eqvAll, Bool.and_eq_true, Dat.eqv, eqv_all xs ys, List.cons.injEq]
instance datList [Dat α] : Dat (List α) where
  toD := fun xs => .list (xs.map Dat.toD)
  dmax := Dat.dmax α + 1
  dp := fun {K H v x} h => by
    obtain ⟨a, vs, rfl, q, h⟩ := h
    exact .lst (SqL.of q) (dp_all h)
  lay := fun x => by
    simp only [PyData.canLay0]
    exact lay_all x
  dep := fun x => by
    have h := dep_all x
    simp only [PyData.depth]
    omega
  eqv := fun x y => by
    simp only [PyData.eqv]
    exact eqv_all x y
instance datTup [Dat α] : Dat (Tup α) where
  toD := fun xs => .tuple (xs.l.map Dat.toD)
  dmax := Dat.dmax α + 1
  dp := fun {K H v x} h => by
    obtain ⟨a, vs, rfl, q, h⟩ := h
    exact .tup (SqT.of q) (dp_all h)
  lay := fun x => by
    simp only [PyData.canLay0]
    exact lay_all x.l
  dep := fun x => by
    have h := dep_all x.l
    simp only [PyData.depth]
    omega
  eqv := fun x y => by
    obtain ⟨x⟩ := x
    obtain ⟨y⟩ := y
    simp only [PyData.eqv, Tup.mk.injEq]
    exact eqv_all x y
instance datThing : Dat Thing where
  toD := fun x => match x with
    | .pl i => .int i
    | .ti a b => .tuple [.int a, .int b]
  dmax := 1
  dp := fun {K H v x} h => by
    cases x with
    | pl i =>
      have h' : v = V.int i := h
      subst h'
      exact .int _
    | ti a b =>
      obtain ⟨p, u, w, rfl, q, h1, h2⟩ := (show rep K H v (a, b) from h)
      have h1' : u = V.int a := h1
      have h2' : w = V.int b := h2
      subst h1' h2'
      exact .tup (SqT.of q) (.cons (.int _) (.cons (.int _) .nil))
  lay := fun x => by cases x <;> simp [PyData.canLay0, PyData.canLayAll0]
  dep := fun x => by cases x <;> simp [PyData.depth, PyData.depthAll]
  eqv := fun x y => by cases x <;> cases y <;> simp [PyData.eqv, PyData.eqvAll]
instance datScr : Dat Scr where
  toD := fun xs => .list (xs.l.map PyData.int)
  dmax := 1
  dp := fun {K H v x} h => by
    obtain ⟨a, rfl, q⟩ := h
    have e : ∀ l : List Int, DpAll K H (l.map V.int) (l.map PyData.int) := fun l => by
      induction l with
      | nil => exact .nil
      | cons x l ih => exact .cons (.int _) ih
    exact .lst q (e x.l)
  lay := fun x => by
    simp only [PyData.canLay0]
    exact lay_all (α := Int) x.l
  dep := fun x => by
    have h := dep_all (α := Int) x.l
    have h' : PyData.depthAll (x.l.map PyData.int) ≤ 0 := h
    simp only [PyData.depth]
    omega
  eqv := fun x y => by
    obtain ⟨x⟩ := x
    obtain ⟨y⟩ := y
    simp only [PyData.eqv, Scr.mk.injEq]
    exact eqv_all (α := Int) x y
theorem shapedD [Dat α] (hd : Dat.dmax α ≤ 60) (x : α) : SeqAt.shaped (Dat.toD x) = true := by
  have h := Dat.dep x
  show ((Dat.toD x).canLay0 && decide ((Dat.toD x).depth ≤ 64)) = true
  rw [Bool.and_eq_true]
  exact ⟨Dat.lay x, decide_eq_true (by omega)⟩
theorem eqvD [Dat α] [DecidableEq α] (x y : α) : PyData.eqv (Dat.toD x) (Dat.toD y) = decide (x = y) := by
  by_cases h : x = y
  · rw [decide_eq_true h]
    exact (Dat.eqv x y).mpr h
  · rw [decide_eq_false h]
    exact Bool.eq_false_iff.mpr fun e => h ((Dat.eqv x y).mp e)
theorem anyD [Dat α] [DecidableEq α] (x : α) : ∀ ys : List α, ((ys.map Dat.toD).any fun z => PyData.eqv z (Dat.toD x)) = decide (x ∈ ys)
  | [] => by simp
  | y :: ys => by
    rw [List.map_cons, List.any_cons, anyD x ys, eqvD]
    by_cases h : y = x
    · subst h; simp
    · have h' : ¬ x = y := fun e => h e.symm
      simp [h, h']
end

section
variable {X : Cx} {α β : Type} {K : Fg}
/-- ==, != of data -/
theorem op_eqDt (hK : X.K = K) (α : Type) [Dat α] [DecidableEq α] (hd : Dat.dmax α ≤ 60) (hu : X.A.units + 64 < cLine) : OpR X (compareOp .Eq) (fun x y H Q => ∃ a b : α, rep K H x a ∧ rep K H y b ∧ Q (.bl (decide (a = b))) H) := by
  subst hK
  intro pins s σ H x y v u Q I rx ry ⟨a, b, h1, h2, q⟩
  exact op_eqD hu pins s σ H x y v u Q I rx ry ⟨Dat.toD a, Dat.toD b, Dat.dp h1, Dat.dp h2, shapedD hd a, shapedD hd b, by rw [eqvD]; exact q⟩
theorem op_neDt (hK : X.K = K) (α : Type) [Dat α] [DecidableEq α] (hd : Dat.dmax α ≤ 60) (hu : X.A.units + 64 < cLine) : OpR X (compareOp .NotEq) (fun x y H Q => ∃ a b : α, rep K H x a ∧ rep K H y b ∧ Q (.bl (!decide (a = b))) H) := by
  subst hK
  intro pins s σ H x y v u Q I rx ry ⟨a, b, h1, h2, q⟩
  exact op_neD hu pins s σ H x y v u Q I rx ry ⟨Dat.toD a, Dat.toD b, Dat.dp h1, Dat.dp h2, shapedD hd a, shapedD hd b, by rw [eqvD]; exact q⟩
/-- in, not in a list, a tuple of data -/
theorem op_inL (hK : X.K = K) (α : Type) [Dat α] [DecidableEq α] (hd : Dat.dmax α ≤ 50) (hu : X.A.units + 65 < cLine) : OpR X (compareOp .In) (fun x y H Q => ∃ (a : α) (b : List α), rep K H x a ∧ rep K H y b ∧ Q (.bl (decide (a ∈ b))) H) := by
  subst hK
  intro pins s σ H x y v u Q I rx ry ⟨a, b, h1, h2, q⟩
  exact op_inD hu pins s σ H x y v u Q I rx ry ⟨Dat.toD a, b.map Dat.toD, Dat.dp h1, Dat.dp h2, shapedD (by omega) a, shapedD (α := List α) (by show Dat.dmax α + 1 ≤ 60; omega) b, by rw [anyD]; exact q⟩
theorem op_notInL (hK : X.K = K) (α : Type) [Dat α] [DecidableEq α] (hd : Dat.dmax α ≤ 50) (hu : X.A.units + 65 < cLine) : OpR X (compareOp .NotIn) (fun x y H Q => ∃ (a : α) (b : List α), rep K H x a ∧ rep K H y b ∧ Q (.bl (!decide (a ∈ b))) H) := by
  subst hK
  intro pins s σ H x y v u Q I rx ry ⟨a, b, h1, h2, q⟩
  exact op_notInD hu pins s σ H x y v u Q I rx ry ⟨Dat.toD a, b.map Dat.toD, Dat.dp h1, Dat.dp h2, shapedD (by omega) a, shapedD (α := List α) (by show Dat.dmax α + 1 ≤ 60; omega) b, by rw [anyD]; exact q⟩
theorem op_inT (hK : X.K = K) (α : Type) [Dat α] [DecidableEq α] (hd : Dat.dmax α ≤ 50) (hu : X.A.units + 65 < cLine) : OpR X (compareOp .In) (fun x y H Q => ∃ (a : α) (b : Tup α), rep K H x a ∧ rep K H y b ∧ Q (.bl (decide (a ∈ b.l))) H) := by
  subst hK
  intro pins s σ H x y v u Q I rx ry ⟨a, b, h1, h2, q⟩
  have sd := shapedD (by omega : Dat.dmax α ≤ 60) a
  have se : SeqAt.shaped (.tuple (b.l.map Dat.toD)) = true := shapedD (α := Tup α) (by show Dat.dmax α + 1 ≤ 60; omega) b
  obtain ⟨as, r1⟩ := Dp.reads I (Dat.toD a) x v (Dat.dp h1) rx
  obtain ⟨bs, r2⟩ := Dp.reads I (.tuple (b.l.map Dat.toD)) y u (Dat.dp h2) ry
  refine SeqAt.in_tuple_reads r2 r1 (SeqAt.canLay_of_shaped se) (SeqAt.canLay_of_shaped sd) (room_in_shaped sd hu) ?_
  rw [anyD]
  exact ⟨.bl _, H, I, rfl, q⟩
theorem op_notInT (hK : X.K = K) (α : Type) [Dat α] [DecidableEq α] (hd : Dat.dmax α ≤ 50) (hu : X.A.units + 65 < cLine) : OpR X (compareOp .NotIn) (fun x y H Q => ∃ (a : α) (b : Tup α), rep K H x a ∧ rep K H y b ∧ Q (.bl (!decide (a ∈ b.l))) H) := by
  subst hK
  intro pins s σ H x y v u Q I rx ry ⟨a, b, h1, h2, q⟩
  have sd := shapedD (by omega : Dat.dmax α ≤ 60) a
  have se : SeqAt.shaped (.tuple (b.l.map Dat.toD)) = true := shapedD (α := Tup α) (by show Dat.dmax α + 1 ≤ 60; omega) b
  obtain ⟨as, r1⟩ := Dp.reads I (Dat.toD a) x v (Dat.dp h1) rx
  obtain ⟨bs, r2⟩ := Dp.reads I (.tuple (b.l.map Dat.toD)) y u (Dat.dp h2) ry
  refine SeqAt.notIn_tuple_reads r2 r1 (SeqAt.canLay_of_shaped se) (SeqAt.canLay_of_shaped sd) (room_in_shaped sd hu) ?_
  rw [anyD]
  exact ⟨.bl _, H, I, rfl, q⟩
/-- == of texts -/
theorem decS (x y : Str) : decide (V.str x = V.str y) = decide (x = y) := by
  by_cases h : x = y
  · subst h; simp
  · rw [decide_eq_false h, decide_eq_false (fun e => h (V.str.inj e))]
theorem op_eqS : OpR X (compareOp .Eq) (fun x y H Q => ∃ a b : Str, x = .str a ∧ y = .str b ∧ Q (.bl (decide (a = b))) H) := by
  intro pins s σ H x y v u Q I rx ry ⟨a, b, h1, h2, q⟩
  subst h1 h2
  exact op_eq pins s σ H _ _ v u Q I rx ry ⟨rfl, by rw [decS]; exact q⟩
theorem op_neS : OpR X (compareOp .NotEq) (fun x y H Q => ∃ a b : Str, x = .str a ∧ y = .str b ∧ Q (.bl (!decide (a = b))) H) := by
  intro pins s σ H x y v u Q I rx ry ⟨a, b, h1, h2, q⟩
  subst h1 h2
  exact op_ne pins s σ H _ _ v u Q I rx ry ⟨rfl, by rw [decS]; exact q⟩
/-- == of truths -/
theorem decB (x y : Bool) : decide (V.bl x = V.bl y) = decide (x = y) := by
  cases x <;> cases y <;> rfl
theorem op_eqB : OpR X (compareOp .Eq) (fun x y H Q => ∃ a b : Bool, x = .bl a ∧ y = .bl b ∧ Q (.bl (decide (a = b))) H) := by
  intro pins s σ H x y v u Q I rx ry ⟨a, b, h1, h2, q⟩
  subst h1 h2
  exact op_eq pins s σ H _ _ v u Q I rx ry ⟨rfl, by rw [decB]; exact q⟩
theorem op_neB : OpR X (compareOp .NotEq) (fun x y H Q => ∃ a b : Bool, x = .bl a ∧ y = .bl b ∧ Q (.bl (!decide (a = b))) H) := by
  intro pins s σ H x y v u Q I rx ry ⟨a, b, h1, h2, q⟩
  subst h1 h2
  exact op_ne pins s σ H _ _ v u Q I rx ry ⟨rfl, by rw [decB]; exact q⟩

/-! ### built-ins -/
theorem call_lenN (hK : X.K = K) : CallR X (.builtin "len") (fun xs H Q => ∃ (p : Addr) (ys : List V) (n : Nat), xs = [.ref p] ∧ (SqL K H p ys ∨ SqT K H p ys) ∧ ys.length = n ∧ Q (.int (n : Int)) H) := by
  subst hK
  intro pins s σ H xs us Q I r ⟨p, ys, n, e, h, hn, q⟩
  subst hn
  exact call_len_seq pins s σ H xs us Q I r ⟨p, ys, e, h, q⟩
def absI (i : Int) : Int := if i < 0 then -i else i
def max2 (i j : Int) : Int := if j > i then j else i
def min2 (i j : Int) : Int := if j < i then j else i
/-- the greatest, the least of a list -/
def maxL (xs : List Int) : R Int := ofO xs.max?
def minL (xs : List Int) : R Int := ofO xs.min?
theorem pb_max {δ : Type} {xs : List Int} {f : Int → R δ} {P : δ → Prop} {E : Exn → Prop} (h : Post (maxL xs >>= f) P E) : ∃ m, xs.max? = some m ∧ Post (f m) P E := pb_ofO h
theorem pb_min {δ : Type} {xs : List Int} {f : Int → R δ} {P : δ → Prop} {E : Exn → Prop} (h : Post (minL xs >>= f) P E) : ∃ m, xs.min? = some m ∧ Post (f m) P E := pb_ofO h
theorem cr_maxI (hK : X.K = K) (hc : X.calm = true) : CallR X (.builtin "max") (fun vs H Q => ∃ (a : Addr) (ns : List Int) (m : Int), vs = [V.ref a] ∧ SqL K H a (ns.map V.int) ∧ ns.max? = some m ∧ Q (.int m) H) := by
  subst hK
  intro pins s σ H xs us Q I r ⟨a, ns, m, e, h, hm, q⟩
  obtain ⟨h1, h2⟩ := List.max?_eq_some_iff.mp hm
  refine cr_max hc pins s σ H xs us Q I r ⟨a, ns, e, h, ?_, fun k h3 h4 => ?_⟩
  · exact List.length_pos_of_mem h1
  · have e1 : k = m := Int.le_antisymm (h2 k h3) (h4 m h1)
    subst e1
    exact q
theorem cr_minI (hK : X.K = K) (hc : X.calm = true) : CallR X (.builtin "min") (fun vs H Q => ∃ (a : Addr) (ns : List Int) (m : Int), vs = [V.ref a] ∧ SqL K H a (ns.map V.int) ∧ ns.min? = some m ∧ Q (.int m) H) := by
  subst hK
  intro pins s σ H xs us Q I r ⟨a, ns, m, e, h, hm, q⟩
  obtain ⟨h1, h2⟩ := List.min?_eq_some_iff.mp hm
  refine cr_min hc pins s σ H xs us Q I r ⟨a, ns, e, h, ?_, fun k h3 h4 => ?_⟩
  · exact List.length_pos_of_mem h1
  · have e1 : k = m := Int.le_antisymm (h4 m h1) (h2 k h3)
    subst e1
    exact q
/-- the ints in order -/
def sortI (xs : List Int) : List Int := xs.mergeSort fun a b => decide (a ≤ b)
theorem sortI_perm (xs : List Int) : (sortI xs).Perm xs := List.mergeSort_perm xs _
theorem sortI_sorted (xs : List Int) : (sortI xs).Pairwise (· ≤ ·) := by
  have h := List.pairwise_mergeSort (le := fun a b : Int => decide (a ≤ b)) (fun a b c h1 h2 => by simp only [decide_eq_true_eq] at *; omega) (fun a b => by simp only [Bool.or_eq_true, decide_eq_true_eq]; omega) xs
  exact h.imp fun h => by simpa using h
theorem sort_uniq {xs ys : List Int} (h : xs.Perm ys) (hx : xs.Pairwise (· ≤ ·)) (hy : ys.Pairwise (· ≤ ·)) : xs = ys := by
  induction xs generalizing ys with
  | nil => exact (List.nil_perm.mp h).symm
  | cons x xs ih =>
    cases ys with
    | nil => exact absurd h.symm (by simp)
    | cons y ys =>
      rw [List.pairwise_cons] at hx hy
      have e : x = y := by
        have h1 : x ∈ y :: ys := h.mem_iff.mp List.mem_cons_self
        have h2 : y ∈ x :: xs := h.mem_iff.mpr List.mem_cons_self
        rcases List.mem_cons.mp h1 with h1 | h1
        · exact h1
        · rcases List.mem_cons.mp h2 with h2 | h2
          · exact h2.symm
          · have := hx.1 y h2
            have := hy.1 x h1
            omega
      subst e
      rw [ih (List.perm_cons x |>.mp h) hx.2 hy.2]
theorem sortI_eq {xs ys : List Int} (h : ys.Perm xs) (hy : ys.Pairwise (· ≤ ·)) : ys = sortI xs := sort_uniq (h.trans (sortI_perm xs).symm) hy (sortI_sorted xs)
theorem cr_sortI (hK : X.K = K) : CallR X (.builtin "sorted") (fun vs H Q => ∃ (a : Addr) (ns : List Int), vs = [V.ref a] ∧ SqL K H a (ns.map V.int) ∧ ∀ p, H p = none → Q (.ref p) (upd H p (.lst ((sortI ns).map V.int)))) := by
  subst hK
  intro pins s σ H xs us Q I r ⟨a, ns, e, h, q⟩
  refine cr_sortedI pins s σ H xs us Q I r ⟨a, ns, e, h, fun ns' p h1 h2 hp => ?_⟩
  rw [sortI_eq h1 h2]
  exact q p hp
theorem ix_listK (hK : X.K = K) : IxR X (rIxL K) := hK ▸ ix_list
theorem ix_tupK (hK : X.K = K) : IxR X (rIxT K) := hK ▸ ix_tup
theorem sl_listK (hK : X.K = K) : SlR X (rSlL K) := hK ▸ sl_list
theorem cr_sumK (hK : X.K = K) (hc : X.calm = true) : CallR X (.builtin "sum") (rSum K) := hK ▸ cr_sum hc
theorem call_list_ofK (hK : X.K = K) : CallR X (.type "list") (fun xs H Q => ∃ p ys, xs = [.ref p] ∧ (SqL K H p ys ∨ SqT K H p ys) ∧ ∀ l, H l = none → Q (.ref l) (upd H l (.lst ys))) := hK ▸ call_list_of
theorem call_tuple_ofK (hK : X.K = K) : CallR X (.type "tuple") (fun xs H Q => ∃ p ys, xs = [.ref p] ∧ ((SqL K H p ys ∧ ∀ l, H l = none → Q (.ref l) (upd H l (.tup ys))) ∨ (SqT K H p ys ∧ Q (.ref p) H))) := hK ▸ call_tuple_of
theorem pi_listK {tg l : Expr} {tl : TE} (hK : X.K = K) (hl : PE X l tl) : PI X tg l (iList K tl) := hK ▸ pi_list hl
theorem pi_tupK {tg l : Expr} {tl : TE} (hK : X.K = K) (hl : PE X l tl) : PI X tg l (iTup K tl) := hK ▸ pi_tup hl
theorem pi_k {tg l : Expr} {wi : Fg → TI} (hK : X.K = K) (h : PI X tg l (wi X.K)) : PI X tg l (wi K) := hK ▸ h
theorem pe_k {e : Expr} {t : Fg → TE} (hK : X.K = K) (h : PE X e (t X.K)) : PE X e (t K) := hK ▸ h
theorem pg_k {tg : Expr} {t : Fg → TG} (hK : X.K = K) (h : PG X tg (t X.K)) : PG X tg (t K) := hK ▸ h
end
end Z
/-! Z3: sets of tuples by their number, isinstance -/
namespace Z
open PySem L2 PySem.Spec PyProof.Rows
open Rep (rep)
/-- each once -/
def nub {α : Type} [DecidableEq α] : List α → List α
  | [] => []
  | x :: xs => if x ∈ xs then nub xs else x :: nub xs
section
variable {α : Type} [DecidableEq α]
theorem nub_mem {y : α} : ∀ {xs : List α}, y ∈ nub xs ↔ y ∈ xs
  | [] => Iff.rfl
  | x :: xs => by
    unfold nub
    by_cases h : x ∈ xs
    · rw [if_pos h, nub_mem]
      exact ⟨List.mem_cons_of_mem _, fun q => (List.mem_cons.mp q).elim (fun e => e ▸ h) id⟩
    · rw [if_neg h, List.mem_cons, List.mem_cons, nub_mem]
theorem nub_nodup : ∀ (xs : List α), (nub xs).Nodup
  | [] => List.nodup_nil
  | x :: xs => by
    unfold nub
    by_cases h : x ∈ xs
    · rw [if_pos h]
      exact nub_nodup xs
    · rw [if_neg h]
      exact List.nodup_cons.mpr ⟨fun q => h (nub_mem.mp q), nub_nodup xs⟩
theorem nub_le : ∀ (xs : List α), (nub xs).length ≤ xs.length
  | [] => Nat.le_refl _
  | x :: xs => by
    unfold nub
    have := nub_le xs
    by_cases h : x ∈ xs
    · rw [if_pos h, List.length_cons]
      omega
    · rw [if_neg h, List.length_cons, List.length_cons]
      omega
theorem nub_len : ∀ {xs : List α}, (nub xs).length = xs.length ↔ xs.Nodup
  | [] => by simp [nub]
  | x :: xs => by
    unfold nub
    by_cases h : x ∈ xs
    · rw [if_pos h, List.length_cons]
      have := nub_le xs
      constructor
      · intro e
        omega
      · intro e
        exact absurd h (List.nodup_cons.mp e).1
    · rw [if_neg h, List.length_cons, List.length_cons, List.nodup_cons]
      constructor
      · intro e
        exact ⟨h, nub_len.mp (by omega)⟩
      · intro e
        rw [nub_len.mpr e.2]
theorem nodup_le : ∀ {xs ys : List α}, xs.Nodup → (∀ y ∈ xs, y ∈ ys) → xs.length ≤ ys.length
  | [], _, _, _ => Nat.zero_le _
  | x :: xs, ys, h, hs => by
    obtain ⟨h1, h2⟩ := List.nodup_cons.mp h
    have hx : x ∈ ys := hs x List.mem_cons_self
    have := nodup_le (xs := xs) (ys := ys.erase x) h2 fun y hy => (List.mem_erase_of_ne (show y ≠ x from fun e => by subst e; exact h1 hy)).mpr (hs y (List.mem_cons_of_mem _ hy))
    rw [List.length_erase_of_mem hx] at this
    have := List.length_pos_of_mem hx
    rw [List.length_cons]
    omega
theorem nodup_len {xs ys : List α} (h1 : xs.Nodup) (h2 : ys.Nodup) (h : ∀ y, y ∈ xs ↔ y ∈ ys) : xs.length = ys.length := by
  refine Nat.le_antisymm ?_ ?_
  · exact nodup_le h1 fun y hy => (h y).mp hy
  · exact nodup_le h2 fun y hy => (h y).mpr hy
end
section
variable {X : Cx} {K : Fg} {P : Program} {w : World} {F H : Hp}
/-- tuples of ints by their places -/
theorem tups_ks : ∀ {vs : List V} {xs : List (Tup Int)}, A2 (rep K H) vs xs → ∃ ks : List (Addr × List Int), vs = ks.map (fun p => V.ref p.1) ∧ ks.map (·.2) = xs.map (·.l) ∧ ∀ p ∈ ks, H p.1 = some (.tup (p.2.map V.int))
  | _, _, .nil => ⟨[], rfl, rfl, fun _ h => nomatch h⟩
  | _, _, .cons (x := x) h t => by
    obtain ⟨ks, h1, h2, h3⟩ := tups_ks t
    obtain ⟨a, us, rfl, q, hu⟩ := h
    refine ⟨(a, x.l) :: ks, by rw [h1]; rfl, by rw [List.map_cons, List.map_cons, h2], fun p hp => ?_⟩
    rcases List.mem_cons.mp hp with rfl | hp
    · rw [← hu.ints]
      exact q
    · exact h3 p hp
theorem setT0_len {pins : List (Addr × Obj)} {σ : L2.St} {s : Shared} {a : Addr} {L : List (Addr × List Int)} {Q : VK} (I : Inv X pins σ H s) (R : SetT0 X.prog X.w s.heap a L) (q : (L.map (·.2)).Nodup → Q (.int (L.length : Nat)) H) :
    wpAny (model X.prog X.w) X.A (call (.builtin "len") [.ref a]) (EP X pins σ Q) X.xe s := by
  obtain ⟨es, ep, t, ⟨o, ho, hex, hd⟩, hr, ht, hn, _, _, _, hf⟩ := R.ex
  have hsz : es.size = L.length := by
    have h := congrArg List.length hr
    unfold rowsOf at h
    rw [Array.length_toList, List.length_map] at h
    exact h
  have hps : t.place.size = L.length := by
    have := ht.sz
    rw [List.length_map] at this
    exact this
  have hroom := R.ex
  obtain ⟨_, _, t', ⟨o', ho', _, hd'⟩, _, _, _, _, _, hm, _⟩ := hroom
  rw [ho] at ho'
  cases ho'
  rw [hd] at hd'
  cases hd'
  have hfit : t.fits es.size = true := by
    unfold SetTable.fits SetTable.fill
    rw [ht.dm, hps, hsz]
    simp
    omega
  exact call_len_set ho hex hd hfit (by rw [hsz]; omega) ⟨.int (L.length : Nat), H, I.tok _, ⟨_, by rw [hsz]⟩, q hn⟩
/-- set(xs) of tuples, then len of it -/
theorem cr_setT (hK : X.K = K) (hP : X.prog = P) (hw : X.w = w) (hc : X.calm = true) (hu : X.A.units + 64 < cLine) : CallR X (.type "set") (fun xs H Q => ∃ (ys : List (Tup Int)) (v : V), xs = [v] ∧ rep K H v ys ∧ ys.length < 64 ∧
    ∀ a L, H a = none → ((L.map (·.2)).Nodup → L.length = (nub ys).length) → Q (.ref a) (upd H a (SetTO P w a L))) := by
  subst hK hP hw
  intro pins s σ H xs us Q I r ⟨ys, v, e, hr, hl, q⟩
  obtain ⟨a, vs, rfl, hq, h⟩ := hr
  obtain ⟨ks, h1, h2, h3⟩ := tups_ks h
  subst h1
  have hks : ks.length = ys.length := by
    have := congrArg List.length h2
    simpa using this
  refine cr_setOfT hc hu pins s σ H xs us Q I r ⟨a, ks, e, SqL.of hq, fun p hp => SqT.of (h3 p hp), by omega, fun b L hb hsub hall => q b L hb fun hn => ?_⟩
  have key : (L.map (·.2)).length = ((nub ys).map (·.l)).length := by
    refine nodup_len hn ?_ fun y => ?_
    · have inj : ∀ x y : Tup Int, x.l = y.l → x = y := fun x y e => by cases x; cases y; simp at e; rw [e]
      refine List.Pairwise.map (R := (· ≠ ·)) _ (fun x y hxy e => hxy (inj x y e)) (nub_nodup ys)
    · constructor
      · intro hy
        obtain ⟨p, hp, rfl⟩ := List.mem_map.mp hy
        have h4 : p.2 ∈ ks.map (·.2) := List.mem_map.mpr ⟨p, hsub p hp, rfl⟩
        rw [h2] at h4
        obtain ⟨z, hz, e⟩ := List.mem_map.mp h4
        exact List.mem_map.mpr ⟨z, nub_mem.mpr hz, e⟩
      · intro hy
        obtain ⟨z, hz, rfl⟩ := List.mem_map.mp hy
        have h4 : z.l ∈ ks.map (·.2) := by
          rw [h2]
          exact List.mem_map.mpr ⟨z, nub_mem.mp hz, rfl⟩
        obtain ⟨p, hp, e⟩ := List.mem_map.mp h4
        rw [← e]
        exact hall p hp
  rw [List.length_map, List.length_map] at key
  exact key
theorem call_lenT (hP : X.prog = P) (hw : X.w = w) : CallR X (.builtin "len") (fun xs H Q => ∃ (a : Addr) (L : List (Addr × List Int)) (n : Nat), xs = [.ref a] ∧ H a = some (SetTO P w a L) ∧ ((L.map (·.2)).Nodup → L.length = n) ∧ Q (.int (n : Nat)) H) := by
  subst hP hw
  intro pins s σ H xs us Q I r ⟨a, L, n, e, ha, hn, q⟩
  subst e
  rw [Vals.ref1 r]
  have R : SetT0 X.prog X.w s.heap a L := (show ObjOk X.prog X.w H s.heap a (SetTO X.prog X.w a L) from I.hok a _ ha).1
  exact setT0_len I R fun nd => by rw [hn nd]; exact q
/-- isinstance of a plain value and a built-in class -/
theorem call_isB (hK : X.K = K) : CallR X (.builtin "isinstance") (fun xs H Q => ∃ (x : V) (a b : String) (r : Bool), xs = [x, .ty b] ∧ TyOf K H x (.type a) ∧ kitB a b = some r ∧ Q (.bl r) H) := by
  subst hK
  intro pins s σ H xs us Q I r ⟨x, a, b, c, e, h1, h2, q⟩
  exact call_isi pins s σ H xs us Q I r ⟨x, .ty b, .type a, .type b, c, e, .ty b, .base h1, kit_ty h2, q⟩
end
end Z
namespace Z
open PySem L2 PySem.Spec PyProof.Rows
open Rep (rep)
section
variable {α : Type}
/-- the first place of an item -/
def fidx [DecidableEq α] (y : α) : List α → Option Nat
  | [] => none
  | x :: xs => if x = y then some 0 else (fidx y xs).map (· + 1)
def idxR [DecidableEq α] (xs : List α) (y : α) : R Int := ofO ((fidx y xs).map fun j => ((j : Nat) : Int))
theorem fidx_spec [DecidableEq α] {y : α} : ∀ {xs : List α} {j : Nat}, fidx y xs = some j → xs[j]? = some y ∧ ∀ m z, m < j → xs[m]? = some z → z ≠ y
  | [], j, h => nomatch h
  | x :: xs, j, h => by
    unfold fidx at h
    by_cases e : x = y
    · rw [if_pos e] at h
      cases h
      subst e
      exact ⟨rfl, fun m z hm => absurd hm (Nat.not_lt_zero _)⟩
    · rw [if_neg e] at h
      cases q : fidx y xs with
      | none => rw [q] at h; cases h
      | some k =>
        rw [q] at h
        cases h
        obtain ⟨h1, h2⟩ := fidx_spec q
        refine ⟨by simpa using h1, fun m z hm hz => ?_⟩
        cases m with
        | zero =>
          simp at hz
          subst hz
          exact e
        | succ m => exact h2 m z (Nat.lt_of_succ_lt_succ hm) (by simpa using hz)
variable {δ : Type} {P : δ → Prop} {E : Exn → Prop}
theorem pb_idx [DecidableEq α] {xs : List α} {y : α} {f : Int → R δ} (h : Post (idxR xs y >>= f) P E) : ∃ j : Nat, fidx y xs = some j ∧ Post (f (j : Int)) P E := by
  unfold idxR at h
  cases q : fidx y xs with
  | none => rw [q] at h; exact (show False from h).elim
  | some j => rw [q] at h; exact ⟨j, rfl, h⟩
end
section
variable {X : Cx} {K : Fg} {F H : Hp}
theorem A2.strs {vs : List V} {xs : List Str} (h : A2 (rep K H) vs xs) : vs = xs.map V.str := by
  induction h with
  | nil => rfl
  | cons a _ ih =>
    have a' : _ = V.str _ := a
    rw [a', ih]
    rfl
theorem bools_q {a : Addr} {vs : List V} {xs : List Bool} (q : SqL K H a vs) (h : A2 (rep K F) vs xs) : SqL K H a (xs.map V.bl) := h.bools ▸ q
theorem strs_q {a : Addr} {vs : List V} {xs : List Str} (q : SqL K H a vs) (h : A2 (rep K F) vs xs) : SqL K H a (xs.map V.str) := h.strs ▸ q
theorem mt_indexS (hK : X.K = K) : MtR X "list.index" (fun x xs H Q => ∃ (a : Addr) (ys : List Str) (y : Str) (j : Nat), x = V.ref a ∧ xs = [.str y] ∧ SqL K H a (ys.map V.str) ∧ fidx y ys = some j ∧ Q (.int (j : Int)) H) := by
  subst hK
  intro pins s σ H x xs v us Q I rx rxs ⟨a, ys, y, j, e1, e2, hs, hj, q⟩
  obtain ⟨h1, h2⟩ := fidx_spec hj
  refine mt_index pins s σ H x xs v us Q I rx rxs ⟨a, _, .str y, j, .str y, e1, e2, hs, rfl, ?_, ?_, ?_, fun m z hm hz => ?_, q⟩
  · rw [List.all_eq_true]
    intro z hz
    obtain ⟨t, _, rfl⟩ := List.mem_map.mp hz
    rfl
  · rw [List.getElem?_map, h1]
    rfl
  · show (y == y) = true
    simp
  · rw [List.getElem?_map] at hz
    cases e : ys[m]? with
    | none => rw [e] at hz; cases hz
    | some t =>
      rw [e] at hz
      cases hz
      have := h2 m t hm e
      show (t == y) = false
      simpa using this
theorem mt_indexI (hK : X.K = K) : MtR X "list.index" (fun x xs H Q => ∃ (a : Addr) (ys : List Int) (y : Int) (j : Nat), x = V.ref a ∧ xs = [.int y] ∧ SqL K H a (ys.map V.int) ∧ fidx y ys = some j ∧ Q (.int (j : Int)) H) := by
  subst hK
  intro pins s σ H x xs v us Q I rx rxs ⟨a, ys, y, j, e1, e2, hs, hj, q⟩
  obtain ⟨h1, h2⟩ := fidx_spec hj
  refine mt_index pins s σ H x xs v us Q I rx rxs ⟨a, _, .int y, j, .int y, e1, e2, hs, rfl, ?_, ?_, ?_, fun m z hm hz => ?_, q⟩
  · rw [List.all_eq_true]
    intro z hz
    obtain ⟨t, _, rfl⟩ := List.mem_map.mp hz
    rfl
  · rw [List.getElem?_map, h1]
    rfl
  · show (y == y) = true
    simp
  · rw [List.getElem?_map] at hz
    cases e : ys[m]? with
    | none => rw [e] at hz; cases hz
    | some t =>
      rw [e] at hz
      cases hz
      have := h2 m t hm e
      show (t == y) = false
      simpa using this
theorem cr_allK (hK : X.K = K) (hc : X.calm = true) : CallR X (.builtin "all") (rAll K) := hK ▸ cr_all hc
theorem cr_anyK (hK : X.K = K) (hc : X.calm = true) : CallR X (.builtin "any") (rAny K) := hK ▸ cr_any hc
end
end Z
namespace HT
open PySem PySem.Spec PyProof.Rows
section
variable {prog : Program} {w : World} {A : Around} {E : Value → Shared → Prop} {s : Shared}
/-- t[::-1] of a tuple of two -/
theorem zrev_two {t sl : Addr} {x y vs : Value} {Q : Value → Shared → Prop} (ht : IsTup s.heap t #[x, y]) (hs : s.heap.IsSliceOf sl .none .none vs) (pl : IsPart .none none) (ps : IsPart vs (some (-1)))
    (h : Q (.ref s.heap.objs.size) { s with heap := s.heap.push { cls := .type "tuple", data := .seq #[y, x] } }) : wpAny (model prog w) A (getItem (.ref t) (.ref sl)) Q E s := by
  have htake : sizeOk (.seq #[y, x]) := by
    show 2 ≤ sizeLine
    decide
  obtain ⟨os, hos, hcs, hds⟩ := id hs
  have hTs : s.TypeIs (.ref sl) "slice" := ⟨os, hos, hcs⟩
  unfold getItem
  try with_reducible refine wpAny_holding ?_
  first | refine wpAny_bind (wpAny_pure ?_) | skip
  refine wpAny_bind (wpAny_sequenceKey ht.typeIs (by decide) ?_)
  refine wpAny_bind (wpAny_callSpecial?_slot (name := Str.ofString "__getitem__") ht.typeIs PyProof.Rows.slot_tuple_getitem
    (wpAny_call_entry PyProof.Rows.slot_tuple_getitem ht.typeIs entry_tuple_getitem ?_ (args_tuple_getitem _ _)))
  show wpAny _ _ (Builtin.Tuple.tupleItemsOf (.ref t) >>= _) _ _ s
  refine wpAny_bind (tupleItemsOf_ ht ?_)
  refine wpAny_bind (wpAny_typeOf hTs ?_)
  rw [if_pos (by decide)]
  have key : ∀ {A' : Around} {E' : Value → Shared → Prop} {R : Int × Int × Nat → Shared → Prop}, R ((1 : Int), -1, 2) s → wpAny (model prog w) A' (Builtin.Slice.sliceApplied (.ref sl) (pure (2 : Int))) R E' s := by
    intro A' E' R hR
    unfold Builtin.Slice.sliceApplied Builtin.Slice.sliceFields
    refine wpAny_bind (wpAny_bind (wpAny_field hos hds (x := .none) rfl (wpAny_bind (wpAny_field hos hds (x := .none) rfl (wpAny_bind (wpAny_field hos hds (x := vs) rfl (wpAny_pure ?_)))))))
    refine wpAny_bind (slicePart_ ps ?_)
    show wpAny _ _ (if ((-1 : Int) == 0) = true then _ else _) _ _ s
    rw [if_neg (by decide)]
    refine wpAny_bind (slicePart_ pl (wpAny_bind (slicePart_ pl (wpAny_bind (wpAny_pure ?_)))))
    show wpAny _ _ (match Builtin.Slice.sliceAdjust none none (-1) (2 : Int) with | (lo, hi) => pure (lo, (-1 : Int), Builtin.Slice.slicePlaces lo hi (-1))) _ _ s
    exact wpAny_pure hR
  refine wpAny_bind (key ?_)
  show wpAny _ _ (if ((1 : Int) == 0 && (-1 : Int) == 1 && (2 : Nat) == 2) = true then _ else _) _ _ s
  rw [if_neg (by decide)]
  first
    | exact wpAny_bind (m := Builtin.Tuple.tupleExact _) (wpAny_newObj_type (wpAny_pure ⟨_, rfl, wpAny_pure h⟩) htake)
    | exact wpAny_bind (m := Builtin.Tuple.tupleExact _) (wpAny_newObj_type (wpAny_bind (wpAny_pure (wpAny_pure ⟨_, rfl, wpAny_pure h⟩))) htake)
    | exact wpAny_bind (wpAny_bind (m := Builtin.Tuple.tupleExact _) (wpAny_newObj_type (wpAny_pure (wpAny_pure ⟨_, rfl, wpAny_pure h⟩)) htake))
    | exact wpAny_bind (wpAny_bind (m := Builtin.Tuple.tupleExact _) (wpAny_newObj_type (wpAny_pure ⟨_, rfl, wpAny_pure h⟩) htake))
end
end HT
namespace Z
open PySem L2 PySem.Spec PyProof.Rows
open Rep (rep)
section
variable {X : Cx} {K : Fg} {F H : Hp}
def tRev2 (te : TE) : TE := fun σ H Q => te σ H fun x H1 => ∃ a u w, x = .ref a ∧ H1 a = some (.tup [u, w]) ∧ ∀ p, H1 p = none → Q (.ref p) (upd H1 p (.tup [w, u]))
theorem pe_rev2 {e : Expr} {te : TE} {k : Nat} {p1 p2 p3 pos : Pos} (he : PE X e te) : PE X (.Subscript e (.Slice none none (some (.UnaryOp .USub (.Constant (.int 1) k p1) p2)) p3) pos) (tRev2 te) := by
  refine ⟨fun pins s σ H Q I h => ?_⟩
  refine Subscript_ (thn (he.run pins s σ H _ I h) fun v s1 ⟨x, H1, I1, r1, q1⟩ => ?_)
  obtain ⟨a, c, d, ex, hx, q⟩ := q1
  subst ex
  cases r1
  have hst : PO X (some (.UnaryOp .USub (.Constant (.int 1) k p1) p2)) (tPart (tUn (rU fun i => .int (-i)) (tC (.int 1)))) := po_some (pe_un un_neg pe_int)
  refine wpAny_Slice (thn (po_none.run pins s1 σ H1 (fun o H2 => o = none ∧ H2 = H1) I1 ⟨rfl, rfl⟩) fun vl s2 ⟨l, H2, I2, pl, el, e2⟩ => ?_)
  subst el e2
  refine thn (po_none.run pins s2 σ H2 (fun o H3 => o = none ∧ H3 = H2) I2 ⟨rfl, rfl⟩) fun vu s3 ⟨u, H3, I3, pu, eu, e3⟩ => ?_
  subst eu e3
  refine thn (hst.run pins s3 σ H3 (fun o H4 => o = some (-1) ∧ H4 = H3) I3 ⟨1, rfl, -1, rfl, rfl, rfl⟩) fun vs s4 ⟨o, H4, I4, ps, eo, e4⟩ => ?_
  subst eo e4
  have I5 : Inv X pins σ H4 { s4 with heap := s4.heap.push { cls := .type "slice", data := .fields #[vl, vu, vs] } } := I4.kept (t' := s4.toks) fun b ob q => Heap.get?_push_of_some _ q
  obtain ⟨its, r, ht, hz⟩ := I5.tuple (SqT.of hx)
  cases r with
  | cons r1 r' =>
    rename_i uu us
    cases r' with
    | cons r2 r'' =>
      rename_i ww ws
      cases r''
      cases pl
      cases pu
      show wpAny (model X.prog X.w) X.A (subscriptTail e (.Slice none none (some (.UnaryOp .USub (.Constant (.int 1) k p1) p2)) p3) (.ref a) (.ref s4.heap.objs.size)) (EP X pins σ Q) X.xe { s4 with heap := s4.heap.push { cls := .type "slice", data := .fields #[.none, .none, vs] } }
      refine tail_any (ops := [.ref a, .ref s4.heap.objs.size]) ht.typeIs (PyProof.Rows.slot_tuple_getitem.lookup) ?_ (by with_unfolding_all rfl)
      refine HT.zrev_two ht (Heap.IsSliceOf.new _ .none .none vs) .none ps ?_
      exact ⟨.ref _, _, I5.laid (t' := s4.toks) (o := .tup [d, c]) (fun b ob q => Heap.get?_push_of_some _ q) (Nat.le_refl _) ⟨by show 2 ≤ sizeLine; decide, [ww, uu], .cons r2 (.cons r1 .nil), IsTup.new _ _⟩, rfl, q _ (I5.hok.fresh (Nat.le_refl _))⟩
/-- two things turned about -/
def rev2 {α : Type} (xs : List α) : R (List α) := match xs with
  | [x, y] => .ok [y, x]
  | _ => .bad
theorem pb_rev2 {α δ : Type} {xs : List α} {f : List α → R δ} {P : δ → Prop} {E : Exn → Prop} (h : Post (rev2 xs >>= f) P E) : ∃ x y, xs = [x, y] ∧ Post (f [y, x]) P E := by
  cases xs with
  | nil => exact (show False from h).elim
  | cons x xs =>
    cases xs with
    | nil => exact (show False from h).elim
    | cons y xs =>
      cases xs with
      | nil => exact ⟨x, y, rfl, h⟩
      | cons z xs => exact (show False from h).elim
theorem A2.two {α : Type} {r : V → α → Prop} {vs : List V} {x y : α} (h : A2 r vs [x, y]) : ∃ u w, vs = [u, w] ∧ r u x ∧ r w y := by
  cases h with
  | cons a t =>
    cases t with
    | cons b t =>
      cases t
      exact ⟨_, _, rfl, a, b⟩
/-- xs * k -/
def repL {α : Type} (xs : List α) (k : Int) : List α := (List.replicate k.toNat xs).flatten
@[irreducible] def repR {α : Type} (xs : List α) (k : Int) : R (List α) := if -(2 ^ 62) ≤ k ∧ k < 2 ^ 62 ∧ xs.length * k.toNat < 100000 then .ok (repL xs k) else .bad
theorem pb_rep {α δ : Type} {xs : List α} {k : Int} {f : List α → R δ} {P : δ → Prop} {E : Exn → Prop} (h : Post (repR xs k >>= f) P E) : ∃ ys, (-(2 ^ 63) ≤ k ∧ k < 2 ^ 63 ∧ xs.length * k.toNat ≤ sizeLine) ∧ ys = repL xs k ∧ Post (f ys) P E := by
  unfold repR at h
  obtain ⟨⟨a, b, c⟩, d⟩ := pb_if h
  exact ⟨_, ⟨by omega, by omega, Nat.le_of_lt (Nat.lt_of_lt_of_le c line5)⟩, rfl, d⟩
theorem A2.flat {α : Type} {r : V → α → Prop} {vs : List V} {xs : List α} (h : A2 r vs xs) (n : Nat) : A2 r (List.replicate n vs).flatten (List.replicate n xs).flatten := by
  induction n with
  | zero => exact .nil
  | succ n ih =>
    rw [List.replicate_succ, List.replicate_succ, List.flatten_cons, List.flatten_cons]
    exact h.append ih
/-! ### None -/
class NonN (α : Type) extends Rep α where
  no : ∀ {K : Fg} {H : Hp} {v : V} {x : α}, rep K H v x → v ≠ .non
instance : NonN Int := ⟨fun h e => by have h' : _ = V.int _ := h; rw [h'] at e; cases e⟩
instance : NonN Bool := ⟨fun h e => by have h' : _ = V.bl _ := h; rw [h'] at e; cases e⟩
instance {α β : Type} [Rep α] [Rep β] : NonN (α × β) := ⟨fun {K H v x} h q => by
  obtain ⟨a, u, w, e, _⟩ := h
  rw [e] at q
  cases q⟩
instance {α : Type} [Rep α] : NonN (List α) := ⟨fun {K H v x} h q => by
  obtain ⟨a, u, e, _⟩ := h
  rw [e] at q
  cases q⟩
instance {α : Type} [Rep α] : NonN (Tup α) := ⟨fun {K H v x} h q => by
  obtain ⟨a, u, e, _⟩ := h
  rw [e] at q
  cases q⟩
theorem isN_eq {α : Type} [NonN α] {v : V} {o : Option α} (h : rep K F v o) : decide (v = .non) = o.isNone := by
  cases o with
  | none =>
    have h' : v = V.non := h
    rw [h']
    rfl
  | some x => exact decide_eq_false (NonN.no (α := α) h)
theorem op_isN2 : OpR X (compareOp .Is) (fun x y H Q => y = V.non ∧ ∃ b, decide (x = .non) = b ∧ Q (.bl b) H) := by
  intro pins s σ H x y v u Q I rx ry ⟨e, b, hb, q⟩
  exact op_isN pins s σ H x y v u Q I rx ry ⟨e, by rw [hb]; exact q⟩
theorem op_notN2 : OpR X (compareOp .IsNot) (fun x y H Q => y = V.non ∧ ∃ b, decide (x = .non) = b ∧ Q (.bl (!b)) H) := by
  intro pins s σ H x y v u Q I rx ry ⟨e, b, hb, q⟩
  exact op_notN pins s σ H x y v u Q I rx ry ⟨e, by rw [hb]; exact q⟩
instance datOptBool : Dat (Option Bool) where
  toD := fun x => match x with
    | none => .none
    | some i => .bool i
  dmax := 0
  dp := fun {K H v x} h => by
    cases x with
    | none =>
      have h' : v = V.non := h
      subst h'
      exact .non
    | some i =>
      have h' : v = V.bl i := h
      subst h'
      exact .bl _
  lay := fun x => by cases x <;> simp only [PyData.canLay0]
  dep := fun x => by cases x <;> simp only [PyData.depth, Nat.le_refl]
  eqv := fun x y => by cases x <;> cases y <;> simp [PyData.eqv]
end
end Z
/-! Z4: statements never reached, tuples into the frozen part, pairs sorted, dicts of scalars, list(range), pop -/
namespace Z
open PySem L2
open Rep (rep)
section
variable {X : Cx}
theorem ps_absurd {st : Stmt} : PS X st (fun _ _ _ => False) := ⟨fun _ _ _ _ _ _ h => h.elim⟩
theorem stepAnd {t u : TT} {σ : L2.St} {H : Hp} {Q : Bool → Hp → Prop} (h : t σ H fun c H1 => if c = true then u σ H1 Q else Q false H1) : tAnd t u σ H Q := h
theorem stepOr {t u : TT} {σ : L2.St} {H : Hp} {Q : Bool → Hp → Prop} (h : t σ H fun c H1 => if c = true then Q true H1 else u σ H1 Q) : tOr t u σ H Q := h
theorem stepNot {t : TT} {σ : L2.St} {H : Hp} {Q : Bool → Hp → Prop} (h : t σ H fun c H1 => Q (!c) H1) : tNot t σ H Q := h
/-- every tuple there is may be read -/
def tupF (F H : Hp) : Hp := fun b => match F b with
  | some u => some u
  | none => match H b with
    | some (.tup vs) => some (.tup vs)
    | _ => none
theorem tupF_some {F H : Hp} {b : Addr} {u : HO} (e : F b = some u) : tupF F H b = some u := by
  unfold tupF
  rw [e]
theorem tupF_none {F H : Hp} {b : Addr} {u : HO} (e : F b = none) (h : tupF F H b = some u) : H b = some u ∧ ∃ vs, u = .tup vs := by
  unfold tupF at h
  rw [e] at h
  dsimp only at h
  split at h
  · rename_i vs e'
    cases h
    exact ⟨e', _, rfl⟩
  · cases h
theorem tupF_tup {F H : Hp} {b : Addr} {vs : List V} (e : F b = none) (h : H b = some (.tup vs)) : tupF F H b = some (.tup vs) := by
  unfold tupF
  rw [e, h]
theorem W.tups {F H : Hp} {os : List (Addr × HO)} (w : W F H os) : ∃ F', Same F F' ∧ W F' H os ∧ ∀ b vs, H b = some (.tup vs) → F' b = some (.tup vs) := by
  refine ⟨tupF F H, fun b u e => tupF_some e, ⟨fun b u e => ?_, fun p hp => ?_, w.nd, w.nt⟩, fun b vs e => ?_⟩
  · cases q : F b with
    | some u' =>
      rw [tupF_some q] at e
      cases e
      exact w.same b _ q
    | none => exact (tupF_none q e).1
  · obtain ⟨h1, h2⟩ := w.own p hp
    refine ⟨h1, ?_⟩
    cases q : tupF F H p.1 with
    | none => rfl
    | some u =>
      obtain ⟨k, vs, rfl⟩ := tupF_none h2 q
      rw [h1] at k
      exact absurd (Option.some.inj k) (w.nt p hp vs)
  · cases q : F b with
    | some u' =>
      have := w.same b _ q
      rw [e] at this
      cases this
      exact tupF_some q
    | none => exact tupF_tup q e
/-! ### sorted, of pairs -/
def leP (p q : Int × Int) : Bool := decide (p.1 < q.1 ∨ (p.1 = q.1 ∧ p.2 ≤ q.2))
def sortP (xs : List (Int × Int)) : List (Int × Int) := xs.mergeSort leP
theorem sortP_perm (xs : List (Int × Int)) : (sortP xs).Perm xs := List.mergeSort_perm xs _
theorem sortP_sorted (xs : List (Int × Int)) : (sortP xs).Pairwise fun p q => leP p q = true := by
  refine List.pairwise_mergeSort (le := leP) (fun a b c h1 h2 => ?_) (fun a b => ?_) xs
  · unfold leP at *
    simp only [decide_eq_true_eq] at *
    omega
  · unfold leP
    simp only [Bool.or_eq_true, decide_eq_true_eq]
    omega
theorem sortP_uniq {xs ys : List (Int × Int)} (h : xs.Perm ys) (hx : xs.Pairwise fun p q => leP p q = true) (hy : ys.Pairwise fun p q => leP p q = true) : xs = ys := by
  induction xs generalizing ys with
  | nil => exact (List.nil_perm.mp h).symm
  | cons x xs ih =>
    cases ys with
    | nil => exact absurd h.length_eq (by simp)
    | cons y ys =>
      rw [List.pairwise_cons] at hx hy
      have e : x = y := by
        have h1 : y ∈ x :: xs := h.mem_iff.mpr List.mem_cons_self
        have h2 : x ∈ y :: ys := h.mem_iff.mp List.mem_cons_self
        rcases List.mem_cons.mp h1 with e | h1
        · exact e.symm
        · rcases List.mem_cons.mp h2 with e | h2
          · exact e
          · have a := hx.1 y h1
            have b := hy.1 x h2
            unfold leP at a b
            simp only [decide_eq_true_eq] at a b
            exact Prod.ext (by omega) (by omega)
      subst e
      rw [ih h.cons_inv hx.2 hy.2]
theorem sortP_eq {xs ys : List (Int × Int)} (h : ys.Perm xs) (hy : ys.Pairwise fun p q => leP p q = true) : ys = sortP xs := sortP_uniq (h.trans (sortP_perm xs).symm) hy (sortP_sorted xs)
/-- which pair stands at a reference -/
def keyP (H : Hp) (v : V) : Int × Int := match v with
  | .ref t => match H t with
    | some (.tup [.int i, .int j]) => (i, j)
    | _ => (0, 0)
  | _ => (0, 0)
theorem keyP_of {K : Fg} {F H : Hp} {v : V} {x : Int × Int} (s : Same F H) (r : rep K F v x) : ∃ t, v = .ref t ∧ F t = some (.tup [.int x.1, .int x.2]) ∧ keyP H v = x := by
  obtain ⟨t, u, z, rfl, q, r1, r2⟩ := r
  obtain rfl : u = V.int x.1 := r1
  obtain rfl : z = V.int x.2 := r2
  refine ⟨t, rfl, q, ?_⟩
  have h := s _ _ q
  unfold keyP
  dsimp only
  rw [h]
theorem keyP_all {K : Fg} {F H : Hp} {vs : List V} {xs : List (Int × Int)} (s : Same F H) (h : A2 (rep K F) vs xs) : xs = vs.map (keyP H) ∧ ∀ v ∈ vs, ∃ t, v = .ref t ∧ F t = some (.tup [.int (keyP H v).1, .int (keyP H v).2]) := by
  induction h with
  | nil => exact ⟨rfl, fun _ z => nomatch z⟩
  | cons a b ih =>
    obtain ⟨t, e, q, k⟩ := keyP_of s a
    refine ⟨by rw [List.map_cons, k, ← ih.1], fun v hv => ?_⟩
    rcases List.mem_cons.mp hv with rfl | hv
    · exact ⟨t, e, by rw [k]; exact q⟩
    · exact ih.2 v hv
theorem rep_keys {K : Fg} {F H : Hp} : ∀ {ys : List V}, (∀ v ∈ ys, ∃ t, v = V.ref t ∧ F t = some (.tup [.int (keyP H v).1, .int (keyP H v).2])) → A2 (rep K F) ys (ys.map (keyP H))
  | [], _ => .nil
  | v :: ys, h => by
    obtain ⟨t, e, q⟩ := h v List.mem_cons_self
    refine .cons ?_ (rep_keys fun y hy => h y (List.mem_cons_of_mem _ hy))
    subst e
    exact ⟨t, _, _, rfl, q, rfl, rfl⟩
theorem cr_sortP {K : Fg} (hK : X.K = K) : CallR X (.builtin "sorted") (fun vs H Q => ∃ (a : Addr) (us : List V) (F : Hp) (xs : List (Int × Int)), vs = [V.ref a] ∧ SqL K H a us ∧ Same F H ∧ A2 (rep K F) us xs ∧
    ∀ p ys, H p = none → A2 (rep K F) ys (sortP xs) → Q (.ref p) (upd H p (.lst ys))) := by
  subst hK
  intro pins s σ H vs us Q I r h
  obtain ⟨a, us', F, xs, rfl, hs, sF, hA, q⟩ := h
  obtain ⟨e1, e2⟩ := keyP_all sF hA
  refine cr_sortedPO pins s σ H _ us Q I r ⟨a, us', keyP H, rfl, hs, fun x hx => ?_, fun ys p h1 h2 hp => q p ys hp ?_⟩
  · obtain ⟨t, e, k⟩ := e2 x hx
    exact ⟨t, e, sF _ _ k⟩
  · have e : ys.map (keyP H) = sortP xs := by
      refine sortP_eq ?_ ?_
      · rw [e1]
        exact h2.perm.map _
      · rw [List.pairwise_map]
        refine h1.imp fun {x y} h => ?_
        have h := SrtO.lexB_no.mp h
        unfold leP
        rw [decide_eq_true_eq]
        omega
    rw [← e]
    exact rep_keys fun v hv => e2 v (h2.perm.mem_iff.mp hv)
end
/-! ### dicts of scalars -/
section
variable {κ β γ δ : Type} [DecidableEq κ]
def mput (m : List (κ × β)) (k : κ) (v : β) : List (κ × β) := if (m.any fun p => decide (p.1 = k)) = true then m.map (fun p => if p.1 = k then (p.1, v) else p) else m ++ [(k, v)]
def mhas (m : List (κ × β)) (k : κ) : Bool := m.any fun p => decide (p.1 = k)
def mget (m : List (κ × β)) (k : κ) : Option β := (m.find? fun p => decide (p.1 = k)).map (·.2)
def mputR (m : List (κ × β)) (k : κ) (v : β) : R (List (κ × β)) := if m.length < 100000 then .ok (mput m k v) else .bad
def mgetR (m : List (κ × β)) (k : κ) : R β := ofO (mget m k)
/-- as the dict stands -/
def encM (e : κ → γ) (ev : β → V) (m : List (κ × β)) : List (γ × V) := m.map fun p => (e p.1, ev p.2)
variable [DecidableEq γ] {e : κ → γ} {ev : β → V}
theorem any_enc (he : ∀ a b, e a = e b → a = b) (m : List (κ × β)) (k : κ) : ((encM e ev m).any fun p => decide (p.1 = e k)) = m.any fun p => decide (p.1 = k) := by
  unfold encM
  rw [List.any_map]
  congr 1
  funext p
  show decide (e p.1 = e k) = decide (p.1 = k)
  by_cases h : p.1 = k
  · rw [h]; simp
  · rw [decide_eq_false h, decide_eq_false fun z => h (he _ _ z)]
theorem put_enc (he : ∀ a b, e a = e b → a = b) (m : List (κ × β)) (k : κ) (v : β) : putK (encM e ev m) (e k) (ev v) = encM e ev (mput m k v) := by
  unfold putK mput
  rw [any_enc he]
  by_cases h : (m.any fun p => decide (p.1 = k)) = true
  · rw [if_pos h, if_pos h]
    unfold encM
    rw [List.map_map, List.map_map]
    refine List.map_congr_left fun p _ => ?_
    show (if e p.1 = e k then (e p.1, ev v) else (e p.1, ev p.2)) = (fun q : κ × β => (e q.1, ev q.2)) (if p.1 = k then (p.1, v) else p)
    by_cases h : p.1 = k
    · rw [if_pos h, if_pos (congrArg e h)]
    · rw [if_neg h, if_neg fun z => h (he _ _ z)]
  · rw [if_neg h, if_neg h]
    unfold encM
    rw [List.map_append]
    rfl
theorem val_enc (he : ∀ a b, e a = e b → a = b) (k : κ) : ∀ m : List (κ × β), valV (encM e ev m) (e k) = (mget m k).map ev
  | [] => rfl
  | p :: m => by
    show valV ((e p.1, ev p.2) :: encM e ev m) (e k) = _
    unfold mget
    by_cases h : p.1 = k
    · rw [valV_pos (congrArg e h), List.find?_cons_of_pos (by simpa using h)]
      rfl
    · rw [valV_neg (fun z => h (he _ _ z)), List.find?_cons_of_neg (by simpa using h), val_enc he k m]
      rfl
theorem has_enc (he : ∀ a b, e a = e b → a = b) (m : List (κ × β)) (k : κ) : (valV (encM e ev m) (e k)).isSome = mhas m k := by
  rw [← valV_any, any_enc he]
  rfl
theorem enc_length (m : List (κ × β)) : (encM e ev m).length = m.length := List.length_map _
end
abbrev kI : Int → Key := .inl
theorem kI_inj : ∀ a b, kI a = kI b → a = b := fun _ _ h => Sum.inl.inj h
def kP (p : Int × Int) : List Key := [.inl p.1, .inl p.2]
theorem kP_inj : ∀ a b, kP a = kP b → a = b := fun a b h => by
  unfold kP at h
  injection h with h1 h2
  injection h2 with h2 _
  exact Prod.ext (Sum.inl.inj h1) (Sum.inl.inj h2)
section
variable {β : Type} {ev : β → V} {H : Hp} {a b : Addr}
theorem dget_k {m : List (Int × β)} {k : Int} (e : H a = some (.dK (encM kI ev m))) : DGet H a (.int k) ((mget m k).map ev) := by
  rw [← val_enc kI_inj]
  exact DGet.k (k := kI k) e
theorem dget_p {m : List ((Int × Int) × β)} {k : Int × Int} (e : H a = some (.dT (encM kP ev m))) (eb : H b = some (.tup [.int k.1, .int k.2])) : DGet H a (.ref b) ((mget m k).map ev) := by
  rw [← val_enc kP_inj]
  exact DGet.t (k := kP k) e eb
theorem get_has {κ : Type} [DecidableEq κ] (m : List (κ × β)) (k : κ) (f : β → V) : ((mget m k).map f).isSome = mhas m k := by
  rw [Option.isSome_map]
  unfold mget mhas
  rw [Option.isSome_map, List.isSome_find?]
theorem dput_k {m : List (Int × β)} {k : Int} {v : β} (e : H a = some (.dK (encM kI ev m))) (hl : m.length < sizeLine) : DPut H a (.int k) (ev v) (upd H a (.dK (encM kI ev (mput m k v)))) := by
  rw [← put_enc kI_inj]
  exact DPut.k (k := kI k) e (by rw [enc_length]; exact hl)
theorem dput_p {m : List ((Int × Int) × β)} {k : Int × Int} {v : β} (e : H a = some (.dT (encM kP ev m))) (eb : H b = some (.tup [.int k.1, .int k.2])) (hl : m.length < sizeLine) : DPut H a (.ref b) (ev v) (upd H a (.dT (encM kP ev (mput m k v)))) := by
  rw [← put_enc kP_inj]
  exact DPut.t (k := kP k) e eb (by rw [enc_length]; exact hl)
end
/-- the keys of a dict, as tuples that may be read -/
theorem keys_rep {β : Type} {ev : β → V} {K : Fg} {F H : Hp} (hF : ∀ b vs, H b = some (.tup vs) → F b = some (.tup vs)) : ∀ {m : List ((Int × Int) × β)} {bs : List Addr}, IsKeys H (encM kP ev m) bs → A2 (rep K F) (bs.map V.ref) (m.map (·.1))
  | [], [], _ => .nil
  | [], _ :: _, h => nomatch h
  | _ :: _, [], h => nomatch h
  | p :: m, b :: bs, .cons h1 h2 => .cons ⟨b, _, _, rfl, hF _ _ h1, rfl, rfl⟩ (keys_rep hF h2)
theorem pn_mput {κ β δ : Type} [DecidableEq κ] {m : List (κ × β)} {k : κ} {v : β} {f : List (κ × β) → R δ} {P : δ → Prop} {E : Exn → Prop} (h : Post (mputR m k v >>= f) P E) : ∃ m', m.length < sizeLine ∧ m' = mput m k v ∧ Post (f m') P E := by
  unfold mputR at h
  by_cases hl : m.length < 100000
  · rw [if_pos hl] at h
    exact ⟨_, Nat.lt_of_lt_of_le hl line5, rfl, h⟩
  · rw [if_neg hl] at h
    exact (show False from h).elim
/-! ### list(range(n)) -/
@[irreducible] def listRng (i j : Int) : R (List Int) := if -(2 ^ 62) ≤ i ∧ i < 2 ^ 62 ∧ -(2 ^ 62) ≤ j ∧ j < 2 ^ 62 ∧ (j - i).toNat ≤ 100000 then .ok (rng i j) else .bad
theorem rgV_eq (i j : Int) : rgV i j = (rng i j).map V.int := by
  unfold rgV rng
  rw [List.map_map]
  rfl
theorem pb_lrng {δ : Type} {i j : Int} {f : List Int → R δ} {P : δ → Prop} {E : Exn → Prop} (h : Post (listRng i j >>= f) P E) : ∃ l, RgOk i j ∧ l = rng i j ∧ Post (f l) P E := by
  unfold listRng at h
  by_cases hl : -(2 ^ 62) ≤ i ∧ i < 2 ^ 62 ∧ -(2 ^ 62) ≤ j ∧ j < 2 ^ 62 ∧ (j - i).toNat ≤ 100000
  · rw [if_pos hl] at h
    obtain ⟨a, b, c, d, e⟩ := hl
    exact ⟨_, ⟨a, b, c, d, by omega⟩, rfl, h⟩
  · rw [if_neg hl] at h
    exact (show False from h).elim
/-! ### a list of perhaps nothing, where nothing is nothing -/
def allS {α : Type} : List (Option α) → R (List α)
  | [] => .ok []
  | none :: _ => .bad
  | some x :: xs => allS xs >>= fun ys => .ok (x :: ys)
theorem allS_iff {α : Type} : ∀ {xs : List (Option α)} {ys : List α}, allS xs = R.ok ys ↔ xs = ys.map some
  | [], ys => by
    constructor
    · intro h; cases h; rfl
    · intro h
      cases ys with
      | nil => rfl
      | cons => cases h
  | none :: xs, ys => by
    constructor
    · intro h; cases h
    · intro h
      cases ys <;> cases h
  | some x :: xs, ys => by
    constructor
    · intro h
      obtain ⟨zs, e, h⟩ := bind_ok_iff.mp h
      cases h
      rw [allS_iff.mp e]
      rfl
    · intro h
      cases ys with
      | nil => cases h
      | cons y ys =>
        rw [List.map_cons] at h
        injection h with h1 h2
        cases h1
        show (allS xs >>= fun ys => R.ok (x :: ys)) = _
        rw [allS_iff.mpr h2]
        rfl
theorem pb_allS {α δ : Type} {xs : List (Option α)} {f : List α → R δ} {P : δ → Prop} {E : Exn → Prop} (h : Post (allS xs >>= f) P E) : ∃ ys, xs = ys.map some ∧ Post (f ys) P E := by
  cases e : allS xs with
  | ok ys =>
    rw [e] at h
    exact ⟨ys, allS_iff.mp e, h⟩
  | exc x =>
    rw [e] at h
    exfalso
    clear h
    induction xs with
    | nil => cases e
    | cons x xs ih =>
      cases x with
      | none => cases e
      | some x =>
        have e' : (allS xs >>= fun ys => R.ok (x :: ys)) = R.exc _ := e
        cases e2 : allS xs with
        | ok y => rw [e2] at e'; cases e'
        | exc y => rw [e2] at e'; cases e'; exact ih e2
        | bad => rw [e2] at e'; cases e'
  | bad =>
    rw [e] at h
    exact (show False from h).elim
theorem A2.unsome {α : Type} [Rep α] {K : Fg} {F : Hp} : ∀ {vs : List V} {ys : List α}, A2 (rep K F) vs (ys.map some) → A2 (rep K F) vs ys
  | [], [], _ => .nil
  | _ :: _, [], h => nomatch h
  | [], _ :: _, h => nomatch h
  | _ :: _, _ :: _, .cons a b => .cons a (A2.unsome b)
/-! ### pop -/
@[irreducible] def popB {α : Type} (xs : List α) (i : Int) : R (α × List α) := if -(2 ^ 62) ≤ i ∧ i < 2 ^ 62 then popAt xs i else .bad
theorem pn_popB {α β : Type} {xs : List α} {i : Int} {f : α × List α → R β} {Q : β → Prop} {E : Exn → Prop} (h : Post (popB xs i >>= f) Q E) : ∃ j x ys, (-(2 ^ 63) ≤ i ∧ i < 2 ^ 63) ∧ ixN xs.length i = some j ∧ xs[j]? = some x ∧ ys = xs.eraseIdx j ∧ Post (f (x, ys)) Q E := by
  unfold popB at h
  by_cases hi : -(2 ^ 62) ≤ i ∧ i < 2 ^ 62
  · rw [if_pos hi] at h
    obtain ⟨j, x, ys, a, b, c, d⟩ := pn_popAt h
    exact ⟨j, x, ys, by omega, a, b, c, d⟩
  · rw [if_neg hi] at h
    exact (show False from h).elim
theorem pn_popI {α β : Type} {xs : List α} {f : α × List α → R β} {Q : β → Prop} {E : Exn → Prop} (h : Post (popI xs >>= f) Q E) : ∃ x ys, xs[xs.length - 1]? = some x ∧ ys = xs.dropLast ∧ Post (f (x, ys)) Q E := by
  unfold popI at h
  rw [List.getLast?_eq_getElem?] at h
  cases e : xs[xs.length - 1]? with
  | none =>
    rw [e] at h
    exact (show False from h).elim
  | some x =>
    rw [e] at h
    exact ⟨x, _, rfl, rfl, h⟩
theorem A2.lastV {α : Type} {r : V → α → Prop} {vs : List V} {xs : List α} {x : α} (h : A2 r vs xs) (e : xs[xs.length - 1]? = some x) : ∃ u, vs[vs.length - 1]? = some u ∧ r u x := by
  rw [h.length]
  exact h.get e
/-! ### in, of a dict of scalars -/
def tDInH (ty td : TE) : TE := fun σ H Q => ty σ H fun y H1 => td σ H1 fun x H2 => ∃ a o b, x = .ref a ∧ DGet H2 a y o ∧ o.isSome = b ∧ Q (.bl b) H2
def tDNotInH (ty td : TE) : TE := fun σ H Q => ty σ H fun y H1 => td σ H1 fun x H2 => ∃ a o b, x = .ref a ∧ DGet H2 a y o ∧ o.isSome = b ∧ Q (.bl (!b)) H2
section
variable {X : Cx} {o i : Expr} {td ty : TE}
theorem pc_dinH (hu : X.A.units + 1 < cLine) (hi : PE X i ty) (ho : PE X o td) : PC X .In i o (tDInH ty td) := by
  refine ⟨fun pins s σ H Q I h => ?_⟩
  refine thn (hi.run pins s σ H _ I h) fun iv s1 ⟨y, H1, I1, ry, q1⟩ => thn (ho.run pins s1 σ H1 _ I1 q1) fun u s2 ⟨x, H2, I2, rx, a, ov, b, ex, g, eb, q2⟩ => ?_
  subst ex
  subst eb
  obtain rfl : u = Value.ref a := rx
  exact d_in hu I2 g ry fun s3 I3 => ⟨.bl ov.isSome, H2, I3, rfl, q2⟩
theorem pc_dnotinH (hu : X.A.units + 1 < cLine) (hi : PE X i ty) (ho : PE X o td) : PC X .NotIn i o (tDNotInH ty td) := by
  refine ⟨fun pins s σ H Q I h => ?_⟩
  refine thn (hi.run pins s σ H _ I h) fun iv s1 ⟨y, H1, I1, ry, q1⟩ => thn (ho.run pins s1 σ H1 _ I1 q1) fun u s2 ⟨x, H2, I2, rx, a, ov, b, ex, g, eb, q2⟩ => ?_
  subst ex
  subst eb
  obtain rfl : u = Value.ref a := rx
  exact d_notIn hu I2 g ry fun s3 I3 => ⟨.bl (!ov.isSome), H2, I3, rfl, q2⟩
end
theorem Room.units1 {k : Nat} {A : Around} (r : Room k A) : A.units + 1 < cLine := by
  have := r.un
  omega
end Z
/-! ZX: an exception caught by its class, held behind the suite as a thing of its own -/
namespace L2
open PySem PySem.Spec PyProof.Rows
/-- a caught exception of the class cls at a -/
def ExH (cls : Value) (a : Addr) : HO := .ext fun h => ∃ (oe : Obj), h.get? a = some oe ∧ Zc cls none oe ∧ ∃ vs, oe.data = .fields vs
theorem exH_ok {P : Program} {w : World} {H : Hp} {h : Heap} {a : Addr} {cls : Value} {oe : Obj} (e : h.get? a = some oe) (z : Zc cls none oe) (d : ∃ vs, oe.data = .fields vs) : ObjOk P w H h a (ExH cls a) :=
  ⟨⟨oe, e, z, d⟩, ⟨oe, e⟩, fun _ _ ⟨o, q, r⟩ k => ⟨o, k o q, r⟩⟩
section
variable {X : Cx} {pins : List (Addr × Obj)} {σ : St} {H : Hp} {s : Shared}
/-- what is pinned, and new since the def began, may be tracked -/
theorem Inv.track {a : Addr} {oe : Obj} {cls : Value} (I : Inv X ((a, oe) :: pins) σ H s) (n0 : X.s_0.heap.get? a = none) (hz : Zc cls none oe) (hd : ∃ vs, oe.data = .fields vs) (hp : ∀ p ∈ X.pn ++ pins, p.1 ≠ a) : Inv X pins σ (upd H a (ExH cls a)) s := by
  obtain ⟨ha, na, nL, nF, _⟩ := I.pin (a, oe) (List.mem_append_right _ List.mem_cons_self)
  dsimp only at ha na nL nF
  have ne0 : ∀ b o, X.s_0.heap.get? b = some o → b ≠ a := fun b o e z => by
    rw [z, n0] at e
    cases e
  refine ⟨I.ok, I.os, I.bare, ⟨I.base.keep, I.base.slot, fun b o e n hq => ?_, I.base.there, fun b xs e => ?_, fun b o u e => ?_, fun b ps e => ?_⟩, I.loc, I.cell, ?_, fun x c e => ?_, fun p hp' => ?_, fun b u e => ?_, I.len⟩
  · rw [upd_ne (ne0 b o e)]
    exact I.base.free b o e n hq
  · have q := I.base.tups b xs e
    rw [upd_ne (ne_of_none q na)]
    exact q
  · have q := I.base.frzs b o u e
    rw [upd_ne (ne_of_none q na)]
    exact q
  · obtain ⟨m, q⟩ := I.base.tbls b ps e
    exact ⟨m, by rw [upd_ne (ne_of_none q na)]; exact q⟩
  · rw [upd_ne (Ne.symm nL)]
    exact I.free
  · have hne : c ≠ a := fun z => by
      obtain ⟨v, o, ho, hc⟩ := I.cell x c e
      rw [z, ha] at ho
      cases ho
      obtain ⟨vs, hd⟩ := hd
      rw [hd] at hc
      cases hc
    rw [upd_ne hne]
    exact I.freeC x c e
  · have hp2 : p ∈ X.pn ++ ((a, oe) :: pins) := by
      rcases List.mem_append.mp hp' with z | z
      · exact List.mem_append_left _ z
      · exact List.mem_append_right _ (List.mem_cons_of_mem _ z)
    obtain ⟨e, n, ne, nf, d⟩ := I.pin p hp2
    exact ⟨e, by rw [upd_ne (hp p hp')]; exact n, ne, nf, d⟩
  · by_cases hb : b = a
    · subst hb
      rw [upd_same] at e
      cases e
      exact exH_ok ha hz hd
    · rw [upd_ne hb] at e
      refine (I.hok b u e).stay (fun c v _ q => q) (fun c q => ?_) fun c xs q => ?_
      · rw [upd_ne (ne_of_none q na)]
        exact q
      · rw [upd_ne (ne_of_none q na)]
        exact q
theorem Inv.unsuiteK {a : Addr} {q : Addr × Obj} {pn' : List (Addr × Obj)} (I : Inv (X.suite a (q :: (X.pn ++ pins))) pn' σ H s) (ok : X.Ok) : Inv X (q :: pins) σ H s :=
  ⟨ok, I.os, I.bare, I.base, I.loc, I.cell, I.free, I.freeC, fun p hp => I.pin p (List.mem_append_left _ (by
    rcases List.mem_append.mp hp with z | z
    · exact List.mem_cons_of_mem _ (List.mem_append_left _ z)
    · rcases List.mem_cons.mp z with z | z
      · rw [z]; exact List.mem_cons_self
      · exact List.mem_cons_of_mem _ (List.mem_append_right _ z))), I.hok, I.len⟩
/-- what the clause 'except x as n' wishes, where the exception is held behind the suite: slot i is n's -/
def wHold (K : PySem.W.Frag) (c : Value) (i : Nat) (ts : Addr → Value → TS) (Wout : WX) (D : Ends) : WX := fun cls d σ H =>
  ∃ b, PySem.W.exmOne K cls c = some b ∧ (b = true → d = none ∧ ∀ a, H a = none → ts a cls { nx := fun σ' H' => H' a = none → D.nx (σ'.set i none) (upd H' a (ExH cls a)), rt := fun _ _ => False, bk := fun _ _ => False, ct := fun _ _ => False } (σ.set i (some (.ref a))) H) ∧
    (b = false → Wout cls d σ H)
variable {x n : Str} {c : Value} {i : Nat} {body suite : List Stmt} {b₀ : Stmt} {np pos pos' : Pos} {tb : WX → TS} {ts : Addr → Value → TS} {Wout : WX}
theorem ps_try_hold (hs : X.stack = X.env :: X.outer) (hf : X.env.frame = some X.env.locals) (hex : X.ex = []) (hN : X.N.Nodup) (hi : X.N[i]? = some n) (hln : X.env.kindOf n = some .local) (hc : Names X x c) (tk : Takes X Wout)
    (hb : ∀ (W : WX) (pn : List (Addr × Obj)) (xe : Value → Shared → Prop), Takes (X.tr pn xe) W → PassesOwn (model X.prog X.w) X.A X.env xe → PSs (X.tr pn xe) body (tb W))
    (hsu : ∀ (a : Addr) (oe : Obj) (cls : Value) (pn : List (Addr × Obj)), PSs (X.suite a ((a, oe) :: pn)) (b₀ :: suite) (ts a cls)) :
    PS X (.Try body [.ExceptHandler (some (.Name x np)) (some n) (b₀ :: suite) pos'] [] [] pos) (fun D σ H => tb (wHold X.K c i ts Wout D) D σ H) := by
  refine ⟨fun pins s σ H D I h => ?_⟩
  have ok := I.ok
  have hfr : X.A.frames = some (X.env :: X.outer) := by rw [ok.frames, hs]
  have hloc : Loc X.env.scope n := .inl hln
  refine wpAny_Try_except ?_
  refine wpAny_mono ((hb (wHold X.K c i ts Wout D) (X.pn ++ pins) (fun e s₁ => wpAny (model X.prog X.w) X.A (noteFrame e X.env) (fun _ s₂ => wpAny (model X.prog X.w) X.A (setFlight e none) (fun _ s₃ =>
    wpAny (model X.prog X.w) X.A (handleBy e X.env [.ExceptHandler (some (.Name x np)) (some n) (b₀ :: suite) pos']) (SP X pins D) X.xe s₃) X.xe s₂) X.xe s₁) (fun u s' xx => ?_) PassesOwn.looking).run [] s σ H D (I.toTry _) h) (fun f s1 hsp => ?_) (fun e s1 he => he)
  · -- the catch
    obtain ⟨a, B, sI, pins', σ', H', cls, d, rfl, J', nb, up, sky, na, os, ag, b, hb1, hyes, hno⟩ := xx
    have J : Inv X pins σ' H' sI := J'.ofTry ok
    have sky' : Sky B (X.env :: X.outer) a (Zc cls d) X.env.locals s'.heap := by rw [← hs]; exact sky
    show wpAny (model X.prog X.w) X.A (noteFrame (.ref a) X.env) _ _ _
    refine Sky.land Zc.steady hfr hf sky' fun h3 fl3 up3 => ?_
    have J3 : Inv X pins σ' H' { s' with heap := h3 } := J.landed nb fl3.1 (up.trans up3) os ag
    obtain ⟨oe3, vs3, he3, hz3, hd3⟩ := fl3.there
    have notFr : ∀ {h : Heap} {o : Obj} {vs : Array Value}, h.FunFrames B (X.env :: X.outer) → h.get? a = some o → o.data = .fields vs → a ∉ frs (X.env :: X.outer) := fun {h o vs} ff e dd hm => by
      obtain ⟨_, o', e', hnf⟩ := ff.mem hm
      rw [e] at e'; cases e'
      exact hnf _ dd
    have nfr := notFr fl3.2.2.1 he3 hd3
    have nL : a ≠ X.env.locals := fun z => nfr (List.mem_filterMap.mpr ⟨X.env, List.mem_cons_self, by rw [hf, z]⟩)
    have nF : a ∉ X.fs := fun hm => by
      obtain ⟨e, he, q⟩ := List.mem_filterMap.mp hm
      exact nfr (List.mem_filterMap.mpr ⟨e, List.mem_cons_of_mem _ he, q⟩)
    have nB : B.get? a = none := fl3.2.1
    have nI : sI.heap.get? a = none := by
      cases e : sI.heap.get? a with
      | none => rfl
      | some o =>
        have z := nb a o e (by rw [hs]; exact nfr)
        rw [nB] at z
        cases z
    have n0 : X.s_0.heap.get? a = none := by
      cases e : X.s_0.heap.get? a with
      | none => rfl
      | some o =>
        obtain ⟨o', z⟩ := J.base.there a o e (by rw [hex]; exact fun z => nomatch z)
        rw [nI] at z
        cases z
    have hpin : ∀ p ∈ X.pn ++ pins, p.1 ≠ a := fun p hp z => by
      have e := (J.pin p hp).1
      rw [z, nI] at e
      cases e
    have S3 := J3.suite he3 hd3 na nL nF
    refine wpAny_handleBy_cons (codeAny_handlers_test ?_) (by intro q; cases q)
    have LT : PySem.W.Looks (model X.prog X.w) h3 (typeOf (.ref a)) cls := fun A Q E s k q => wpAny_typeOf_ref (k _ _ he3) (by rw [hz3.1]; exact q)
    have LM := PySem.W.exm_one (M := model X.prog X.w) (J3.kIn) LT hb1
    have test : ∀ {Q : Value → Shared → Prop} {E : Value → Shared → Prop}, Q c { s' with heap := h3 } → wpAny (model X.prog X.w) (X.A.mark (some (.ref a))) (eval (.Name x np) X.env) Q E { s' with heap := h3 } := fun {Q E} q => by
      obtain ⟨hg, hdbg, hm | ⟨hm, hv, hnn⟩⟩ := hc
      · exact ld_glob (X := X.suite a ((a, oe3) :: (X.pn ++ pins))) S3 hg hm q hdbg
      · exact ld_blt (X := X.suite a ((a, oe3) :: (X.pn ++ pins))) S3 hg hm hv q hnn hdbg
    refine test (LM.here ?_)
    cases b with
    | true =>
      obtain ⟨rfl, hyes2⟩ := hyes rfl
      refine codeAny_handlers_suite_as ?_
      refine HandSPX.lands_againZ fl3 fun h4 fl4 up4 => ?_
      have J4 : Inv X pins σ' H' { s' with heap := h4 } := J.landed nb fl4.1 ((up.trans up3).trans up4) os ag
      obtain ⟨oe4, vs4, he4, hz4, hd4⟩ := fl4.there
      have S4 := J4.suite he4 hd4 na nL nF
      refine store_ok (X := X.suite a ((a, oe4) :: (X.pn ++ pins))) (v := .ref a) S4 hN hi hloc rfl (fun s5 S5 => ?_) (.inr hln)
      refine wpAny_mono ((hsu a oe4 cls (X.pn ++ pins)).run [] s5 _ H' _ S5 (hyes2 a na)) (fun f s6 hsp => ?_) (fun _ _ z => False.elim z)
      cases f with
      | next =>
        obtain ⟨σ6, H6, S6, q6⟩ := hsp
        refine gone_ok (S6.unsuiteK ok) hN hi hln fun s7 J7 => ?_
        have na6 : H6 a = none := (J7.pin (a, oe4) (List.mem_append_right _ List.mem_cons_self)).2.1
        exact ⟨_, _, J7.track n0 hz4 ⟨_, hd4⟩ hpin, q6 na6⟩
      | brk =>
        obtain ⟨σ6, H6, S6, q6⟩ := hsp
        exact q6.elim
      | cont =>
        obtain ⟨σ6, H6, S6, q6⟩ := hsp
        exact q6.elim
      | ret u =>
        obtain ⟨v6, σ6, H6, S6, r6, q6⟩ := hsp
        exact q6.elim
    | false =>
      show wpAny _ X.A (handleBy (.ref a) X.env []) _ _ _
      refine wpAny_handleBy_nil ?_
      obtain ⟨k1, k2, k3, oe, vs, T, oT, ts', he, hz, hd, h1, hr⟩ := id fl3
      unfold PySem.passOn
      refine wpAny_bind (wpAny_field he hd h1 ?_)
      rw [if_neg (show ¬ ((Value.ref T == Value.none) = true) from by simp)]
      have fin : wpAny (model X.prog X.w) X.A (setFlight (.ref a) X.env.frame) (fun _ s4 => wpAny (model X.prog X.w) X.A (throw (.ref a) : Sem Flow) (SP X pins D) X.xe s4) X.xe { s' with heap := h3 } := by
        rw [hf]
        refine HandSPX.setFlight_upZ fl3 fun h4 hh4 up4 => wpAny_throw (tk _ _ ?_)
        exact ⟨a, B, sI, pins, σ', H', cls, d, rfl, J, nb, (up.trans up3).trans up4, .inr (.inr (by rw [hs]; exact hh4)), na, os, ag, hno rfl⟩
      first
        | exact wpAny_bind (wpAny_pure (wpAny_bind fin))
        | exact wpAny_bind fin
  · cases f with
    | next =>
      obtain ⟨σ', H', J', q⟩ := hsp
      exact wpAny_execs_nil ⟨σ', H', J'.ofTry ok, q⟩
    | brk =>
      obtain ⟨σ', H', J', q⟩ := hsp
      exact ⟨σ', H', J'.ofTry ok, q⟩
    | cont =>
      obtain ⟨σ', H', J', q⟩ := hsp
      exact ⟨σ', H', J'.ofTry ok, q⟩
    | ret u =>
      obtain ⟨v, σ', H', J', r, q⟩ := hsp
      exact ⟨v, σ', H', J'.ofTry ok, r, q⟩
/-- isinstance(e, c) of a held exception e: c one class, or a tuple of classes -/
def rIsH (K : PySem.W.Frag) (D : Addr) : List V → Hp → VK → Prop := fun xs H Q => ∃ (a : Addr) (c : V) (b : Bool), xs = [.ref a, c] ∧ H a = some (ExH (.ref D) a) ∧
  ((∃ cv, (∀ u, RelV c u → u = cv) ∧ PySem.W.kitOne K (.ref D) cv = some b) ∨ (∃ p vs its, c = .ref p ∧ H p = some (.tup vs) ∧ (∀ us, Vals vs us → us = its) ∧ PySem.W.kitAny K (.ref D) its = some b)) ∧ Q (.bl b) H
theorem call_isH {D : Addr} (C : ExcC X.K D) : CallR X (.builtin "isinstance") (rIsH X.K D) := by
  intro pins s σ H xs us Q I r h
  obtain ⟨a, c, b, rfl, hH, hc, q⟩ := h
  cases r with
  | cons rx rr =>
    cases rr with
    | cons rt rr =>
      cases rr
      cases rx
      obtain ⟨⟨oe, hget, ⟨h1, h2⟩, vs, hv⟩, _, _⟩ := I.hok a _ hH
      have J : PySem.W.InstAt s.heap a oe D none := by
        obtain ⟨oc, od, oda, osl⟩ := oe
        dsimp only at h1 h2 hv
        subst h1 h2 hv
        exact ⟨hget, rfl, rfl, trivial⟩
      have fin : ∀ tk, EP X pins σ Q (.bool b) { s with toks := tk } := fun tk => ⟨.bl b, H, I.kept (t' := tk) fun _ _ z => z, rfl, q⟩
      rcases hc with ⟨cv, hcv, e⟩ | ⟨p, vs, its, rfl, hp, hu, e⟩
      · have ec := hcv _ rt
        subst ec
        exact PySem.W.kia_one (PySem.W.handS_kitx_exc C.hg C.hk C.hs C.hd C.ha C.hn C.ht C.hm) I.kIn J e (fun z => nomatch z) fin
      · cases rt
        obtain ⟨_, its', r', ob, ho, hob1, n, hob2⟩ := I.hok p _ hp
        have := hu _ r'
        subst this
        obtain ⟨oc, od, oda, osl⟩ := ob
        dsimp only at hob1 hob2
        subst hob1 hob2
        exact PySem.W.kia_tup (PySem.W.handS_kitx_exc C.hg C.hk C.hs C.hd C.ha C.hn C.ht C.hm) I.kIn J ho e (fun z => nomatch z) fin
/-- isinstance(e, c) of a handled exception, in its suite -/
def rIsEX (K : PySem.W.Frag) (cls : Value) (d : Option Addr) (a : Addr) : List V → Hp → VK → Prop := fun xs H Q => ∃ D, cls = .ref D ∧ d = none ∧ ExcC K D ∧ ∃ (c : V) (cv : Value) (b : Bool), xs = [.ref a, c] ∧ (∀ u, RelV c u → u = cv) ∧ PySem.W.kitOne K (.ref D) cv = some b ∧ Q (.bl b) H
theorem call_isEX {K : PySem.W.Frag} {a : Addr} {cls : Value} {d : Option Addr} {oe : Obj} {pn : List (Addr × Obj)} (hK : X.K = K) (hz : Zc cls d oe) (hf : ∃ vs, oe.data = .fields vs) : CallR (X.suite a ((a, oe) :: pn)) (.builtin "isinstance") (rIsEX K cls d a) := by
  subst hK
  intro pins s σ H xs us Q I r ⟨D, e1, e2, C, h⟩
  subst e1 e2
  exact call_isE C hz hf pins s σ H xs us Q I r h
theorem call_isH' : CallR X (.builtin "isinstance") (fun xs H Q => ∃ D, ExcC X.K D ∧ rIsH X.K D xs H Q) := fun pins s σ H xs us Q I r ⟨_, C, h⟩ => call_isH C pins s σ H xs us Q I r h
theorem call_isHK {K : PySem.W.Frag} (hK : X.K = K) : CallR X (.builtin "isinstance") (fun xs H Q => ∃ D, ExcC K D ∧ rIsH K D xs H Q) := by
  subst hK
  exact call_isH'
end
end L2
namespace Z
open PySem L2
open Rep (rep)
/-- the class that a name of the text names -/
def Nm (K : Fg) (x : Str) (C : Addr) : Prop := PySem.W.nsIn K mainGlobals x = some (some (.ref C))
theorem Nm.uniq {K : Fg} {x : Str} {C D : Addr} (a : Nm K x C) (b : Nm K x D) : C = D := by
  have h := a.symm.trans b
  injection h with h
  injection h with h
  injection h
instance repExn : Rep Exn := ⟨fun K F v e => ∃ a C, v = .ref a ∧ Nm K e.cls C ∧ F a = some (ExH (.ref C) a), fun s ⟨a, C, h, n, q⟩ => ⟨a, C, h, n, s _ _ q⟩⟩
/-- what a call that lets an error out leaves -/
def RetX (K : Fg) (F : Hp) (os : List (Addr × HO)) (E : XK) : Exn → Prop := fun e => ∀ C F' H', Nm K e.cls C → W F' H' os → Same F F' → E (.ref C) none H'
/-- all that the body lets out is caught -/
def tryR {α : Type} (names : List Str) (b : R α) : R (Option Exn) := match b with
  | .ok _ => .ok none
  | .exc e => if e.cls ∈ names then .ok (some e) else .bad
  | .bad => .bad
/-- .. with a suite -/
def tryWith {α : Type} (names : List Str) (b : R α) (h : Exn → R α) : R α := match b with
  | .ok x => .ok x
  | .exc e => if e.cls ∈ names then h e else .bad
  | .bad => .bad
theorem post_tryWith {α : Type} {names : List Str} {b : R α} {h : Exn → R α} {P : α → Prop} {X : Exn → Prop} (q : Post (tryWith names b h) P X) : Post b P (fun e => e.cls ∈ names ∧ Post (h e) P X) := by
  cases b with
  | ok a => exact q
  | exc e =>
    have q' : Post (if e.cls ∈ names then h e else R.bad) P X := q
    by_cases c : e.cls ∈ names
    · rw [if_pos c] at q'
      exact ⟨c, q'⟩
    · rw [if_neg c] at q'
      exact (show False from q').elim
  | bad => exact q
theorem post_try {α : Type} {names : List Str} {b : R α} {P : Option Exn → Prop} {X : Exn → Prop} (h : Post (tryR names b) P X) : Post b (fun _ => P none) (fun e => e.cls ∈ names ∧ P (some e)) := by
  cases b with
  | ok a => exact h
  | exc e =>
    have h' : Post (if e.cls ∈ names then R.ok (some e) else R.bad) P X := h
    by_cases c : e.cls ∈ names
    · rw [if_pos c] at h'
      exact ⟨c, h'⟩
    · rw [if_neg c] at h'
      exact (show False from h').elim
  | bad => exact h
/-- isinstance of a caught error: tn, the names under the classes asked -/
def isC (names tn : List Str) (e : Exn) : R Bool := if e.cls ∈ names then .ok (decide (e.cls ∈ tn)) else .bad
theorem pb_isC {δ : Type} {names tn : List Str} {e : Exn} {f : Bool → R δ} {P : δ → Prop} {X : Exn → Prop} (h : Post (isC names tn e >>= f) P X) : e.cls ∈ names ∧ Post (f (decide (e.cls ∈ tn))) P X := by
  unfold isC at h
  by_cases c : e.cls ∈ names
  · rw [if_pos c] at h
    exact ⟨c, h⟩
  · rw [if_neg c] at h
    exact (show False from h).elim
def raiseR {α : Type} (x : Str) : R α := .exc ⟨x, 0⟩
/-- a call that lets no error out -/
def nx {α : Type} (m : R α) : R α := match m with
  | .ok a => .ok a
  | .exc _ => .bad
  | .bad => .bad
theorem post_nx {α δ : Type} {m : R α} {k : α → R δ} {P : δ → Prop} {X : Exn → Prop} (h : Post (nx m >>= k) P X) : Post m (fun a => Post (k a) P X) noX := by
  cases m with
  | ok a => exact h
  | exc e => exact (show False from h).elim
  | bad => exact (show False from h).elim
theorem kit_ref {K : Fg} {x y : Addr} {b : Bool} (h1 : PySem.W.isClsIn K y = true) (h2 : PySem.W.typeIn K (.ref y) = some (.type "type")) (h3 : PySem.W.subIn K (.ref x) (.ref y) = some b) (h4 : b = true ∨ (Value.ref x == Value.ref y) = false) : PySem.W.kitOne K (.ref x) (.ref y) = some b := by
  have e : PySem.W.kitCls K (.ref x) (.ref y) = some b := by
    have h1' : (PySem.W.clsIn K y).isSome = true := h1
    have e2 : ((PySem.W.clsIn K y).isSome && PySem.W.typeIn K (.ref y) == some (.type "type")) = true := by rw [h1', h2] <;> rfl
    show (if ((PySem.W.clsIn K y).isSome && PySem.W.typeIn K (.ref y) == some (.type "type")) = true then PySem.W.subIn K (.ref x) (.ref y) else none) = some b
    rw [if_pos e2]
    exact h3
  unfold PySem.W.kitOne
  rcases h4 with rfl | h4
  · rw [e]
    split <;> rfl
  · rw [h4, if_neg (by decide)]
    exact e
theorem kit_ty {K : Fg} {x : Addr} {T : String} {b : Bool} (h1 : PySem.W.kitMeta T = true) (h3 : PySem.W.subIn K (.ref x) (.type T) = some b) : PySem.W.kitOne K (.ref x) (.type T) = some b := by
  have e : PySem.W.kitCls K (.ref x) (.type T) = some b := by
    show (if PySem.W.kitMeta T = true then PySem.W.subIn K (.ref x) (.type T) else none) = some b
    rw [if_pos h1]
    exact h3
  unfold PySem.W.kitOne
  have h4 : (Value.ref x == Value.type T) = false := rfl
  rw [h4, if_neg (by decide)]
  exact e
/-- what is known of an own error class -/
structure XC (K : Fg) (mg : Str → Option Value) (x : Str) (C : Addr) : Prop where
  ns : Nm K x C
  gm : mg x = some (.ref C)
  xc : PySem.W.excIn K C [.type "ValueError", .type "Exception", .type "BaseException", .type "object"] "ValueError.__new__" = true
  kp : PySem.W.keepIn K (.ref C) = true
  b : PySem.W.subIn K (.ref C) (.type "BaseException") = some true
  t : PySem.W.typeIn K (.ref C) = some (.type "type")
  ex : ExcC K C
end Z
/-! Z5: regions: lists of one's own by their number in a store -/
namespace Z
open PySem L2
open Rep (rep)
/-! ### two lists, item by item -/
inductive F2 {α β : Type} (r : α → β → Prop) : List α → List β → Prop
  | nil : F2 r [] []
  | cons {a : α} {b : β} {as : List α} {bs : List β} : r a b → F2 r as bs → F2 r (a :: as) (b :: bs)
section
variable {α β : Type} {r r' : α → β → Prop} {as : List α} {bs : List β}
theorem F2.length : ∀ {as : List α} {bs : List β}, F2 r as bs → as.length = bs.length
  | _, _, .nil => rfl
  | _, _, .cons _ t => by rw [List.length_cons, List.length_cons, F2.length t]
theorem F2.imp (f : ∀ a b, r a b → r' a b) : ∀ {as : List α} {bs : List β}, F2 r as bs → F2 r' as bs
  | _, _, .nil => .nil
  | _, _, .cons h t => .cons (f _ _ h) (F2.imp f t)
theorem F2.get : ∀ {as : List α} {bs : List β} {i : Nat} {b : β}, F2 r as bs → bs[i]? = some b → ∃ a, as[i]? = some a ∧ r a b
  | _, _, _, _, .nil, e => by simp at e
  | _, _, 0, _, .cons h _, e => by simp at e; subst e; exact ⟨_, rfl, h⟩
  | _, _, i + 1, b, .cons _ t, e => by
    obtain ⟨v, h1, h2⟩ := F2.get (i := i) (b := b) t (by simpa using e)
    exact ⟨v, by simpa using h1, h2⟩
theorem F2.set {a : α} {b : β} (h : r a b) : ∀ {as : List α} {bs : List β} (i : Nat), F2 r as bs → F2 r (as.set i a) (bs.set i b)
  | _, _, _, .nil => .nil
  | _, _, 0, .cons _ t => .cons h t
  | _, _, i + 1, .cons q t => .cons q (F2.set h i t)
theorem F2.append : ∀ {as as' : List α} {bs bs' : List β}, F2 r as bs → F2 r as' bs' → F2 r (as ++ as') (bs ++ bs')
  | _, _, _, _, .nil, h => h
  | _, _, _, _, .cons a t, h => .cons a (F2.append t h)
theorem F2.snoc {a : α} {b : β} (h : F2 r as bs) (q : r a b) : F2 r (as ++ [a]) (bs ++ [b]) := h.append (.cons q .nil)
end
/-! ### a store's lists: cells -/
def nz : List Addr → List (List V) → List (Addr × HO)
  | a :: as, vs :: vss => (a, .lst vs) :: nz as vss
  | _, _ => []
theorem nz_split : ∀ {as : List Addr} {vss : List (List V)} {j : Nat} {a : Addr} {vs : List V}, as[j]? = some a → vss[j]? = some vs →
    ∃ x y, nz as vss = x ++ (a, .lst vs) :: y ∧ ∀ us, nz as (vss.set j us) = x ++ (a, .lst us) :: y
  | [], _, j, _, _, h, _ => by simp at h
  | _ :: _, [], j, _, _, _, h => by simp at h
  | b :: as, ws :: vss, 0, a, vs, h1, h2 => by
    simp at h1 h2
    subst h1 h2
    exact ⟨[], nz as vss, rfl, fun _ => rfl⟩
  | b :: as, ws :: vss, j + 1, a, vs, h1, h2 => by
    obtain ⟨x, y, e1, e2⟩ := nz_split (as := as) (vss := vss) (j := j) (a := a) (vs := vs) (by simpa using h1) (by simpa using h2)
    exact ⟨(b, .lst ws) :: x, y, by show (b, HO.lst ws) :: nz as vss = _; rw [e1]; rfl, fun us => by show (b, HO.lst ws) :: nz as (vss.set j us) = _; rw [e2]; rfl⟩
theorem nz_snoc : ∀ {as : List Addr} {vss : List (List V)} {a : Addr} {vs : List V}, as.length = vss.length → nz (as ++ [a]) (vss ++ [vs]) = nz as vss ++ [(a, .lst vs)]
  | [], [], _, _, _ => rfl
  | [], _ :: _, _, _, h => by simp at h
  | _ :: _, [], _, _, h => by simp at h
  | b :: as, ws :: vss, a, vs, h => by
    show (b, HO.lst ws) :: nz (as ++ [a]) (vss ++ [vs]) = (b, HO.lst ws) :: (nz as vss ++ [(a, .lst vs)])
    rw [nz_snoc (by simpa using h)]
section
variable {F H : Hp} {os os' pre post : List (Addr × HO)} {a p : Addr} {o : HO} {as : List Addr} {vss : List (List V)} {j : Nat} {vs : List V}
theorem W.perm (h : os.Perm os') (w : W F H os) : W F H os' where
  same := w.same
  own := fun q hq => w.own q (h.mem_iff.mpr hq)
  nd := h.pairwise_iff (fun e q => e q.symm) |>.mp w.nd
  nt := fun q hq => w.nt q (h.mem_iff.mpr hq)
/-- the j-th list of a store -/
theorem W.nget (w : W F H (pre ++ (nz as vss ++ post))) (h1 : as[j]? = some a) (h2 : vss[j]? = some vs) : H a = some (.lst vs) := by
  obtain ⟨x, y, e, _⟩ := nz_split h1 h2
  rw [e] at w
  exact (w.own (a, .lst vs) (by simp)).1
theorem W.nset (w : W F H (pre ++ (nz as vss ++ post))) (us : List V) (h1 : as[j]? = some a) (h2 : vss[j]? = some vs) : W F (upd H a (.lst us)) (pre ++ (nz as (vss.set j us) ++ post)) := by
  obtain ⟨x, y, e, e2⟩ := nz_split h1 h2
  rw [e] at w
  rw [e2]
  have w' : W F H ((pre ++ x) ++ (a, .lst vs) :: (y ++ post)) := by
    have e3 : pre ++ (x ++ (a, HO.lst vs) :: y ++ post) = (pre ++ x) ++ (a, HO.lst vs) :: (y ++ post) := by simp
    rw [← e3]
    exact w
  have w2 := w'.set (o' := .lst us)
  have e3 : pre ++ (x ++ (a, HO.lst us) :: y ++ post) = (pre ++ x) ++ (a, HO.lst us) :: (y ++ post) := by simp
  rw [e3]
  exact w2
/-- a cell goes into a store -/
theorem W.nadd (w : W F H ((p, .lst vs) :: (pre ++ (nz as vss ++ post)))) (hl : as.length = vss.length) : W F H (pre ++ (nz (as ++ [p]) (vss ++ [vs]) ++ post)) := by
  rw [nz_snoc hl]
  refine w.perm ?_
  have e : pre ++ (nz as vss ++ [(p, HO.lst vs)] ++ post) = (pre ++ nz as vss) ++ (p, HO.lst vs) :: post := by simp
  have e2 : (p, HO.lst vs) :: (pre ++ (nz as vss ++ post)) = (p, HO.lst vs) :: ((pre ++ nz as vss) ++ post) := by simp
  rw [e, e2]
  exact List.perm_middle.symm
theorem W.dropL (w : W F H (pre ++ (os ++ post))) : W F H (pre ++ post) where
  same := w.same
  own := fun q hq => w.own q (by
    rcases List.mem_append.mp hq with h | h
    · exact List.mem_append_left _ h
    · exact List.mem_append_right _ (List.mem_append_right _ h))
  nd := by
    have nd := w.nd
    rw [List.pairwise_append] at nd ⊢
    obtain ⟨n1, n2, n3⟩ := nd
    rw [List.pairwise_append] at n2
    exact ⟨n1, n2.2.1, fun x hx y hy => n3 x hx y (List.mem_append_right _ hy)⟩
  nt := fun q hq => w.nt q (by
    rcases List.mem_append.mp hq with h | h
    · exact List.mem_append_left _ h
    · exact List.mem_append_right _ (List.mem_append_right _ h))
/-- the j-th list of a store, taken out as a cell; the others forgotten -/
theorem W.ntake (w : W F H (pre ++ (nz as vss ++ post))) (h1 : as[j]? = some a) (h2 : vss[j]? = some vs) : W F H ((a, .lst vs) :: (pre ++ post)) := by
  obtain ⟨x, y, e, _⟩ := nz_split h1 h2
  rw [e] at w
  have w' : W F H ((pre ++ x) ++ (a, .lst vs) :: (y ++ post)) := by
    have e3 : pre ++ (x ++ (a, HO.lst vs) :: y ++ post) = (pre ++ x) ++ (a, HO.lst vs) :: (y ++ post) := by simp
    rw [← e3]
    exact w
  have w2 := w'.front
  have e4 : (a, HO.lst vs) :: (pre ++ x ++ (y ++ post)) = ((a, HO.lst vs) :: pre) ++ ((x ++ y) ++ post) := by simp
  rw [e4] at w2
  exact w2.dropL
/-- a whole store is never written again -/
theorem W.nfreeze : ∀ {as : List Addr} {vss : List (List V)} {F : Hp}, W F H (pre ++ (nz as vss ++ post)) → ∃ F', Same F F' ∧ W F' H (pre ++ post) ∧ ∀ (j : Nat) (a : Addr) (vs : List V), as[j]? = some a → vss[j]? = some vs → F' a = some (.lst vs)
  | [], _, F, w => ⟨F, Same.refl _, w, fun j a vs h => by simp at h⟩
  | _ :: _, [], F, w => ⟨F, Same.refl _, w, fun j a vs _ h => by simp at h⟩
  | b :: as, ws :: vss, F, w => by
    have w' : W F H (pre ++ (b, .lst ws) :: (nz as vss ++ post)) := w
    obtain ⟨F1, s1, w1, q1⟩ := w'.freezeE
    obtain ⟨F2, s2, w2, q2⟩ := W.nfreeze (as := as) (vss := vss) w1
    refine ⟨F2, s1.trans s2, w2, fun j a vs h1 h2 => ?_⟩
    cases j with
    | zero =>
      simp at h1 h2
      subst h1 h2
      exact s2 _ _ q1
    | succ j => exact q2 j a vs (by simpa using h1) (by simpa using h2)
end
/-! ### what stands in a store -/
section
variable {α β δ : Type} [Rep α] [Rep β] {K : Fg} {F F' H : Hp} {as as' : List Addr} {vss : List (List V)} {st : List (List α)}
structure Sto (K : Fg) (F : Hp) (as : List Addr) (vss : List (List V)) (st : List (List α)) : Prop where
  len : as.length = vss.length
  all : F2 (A2 (rep K F)) vss st
theorem Sto.nil : Sto K F [] [] ([] : List (List α)) := ⟨rfl, .nil⟩
theorem Sto.mono (s : Same F F') (h : Sto K F as vss st) : Sto K F' as vss st := ⟨h.len, h.all.imp fun _ _ q => q.mono s⟩
theorem Sto.len2 (h : Sto K F as vss st) : as.length = st.length := h.len.trans h.all.length
theorem Sto.get {j : Nat} {xs : List α} (h : Sto K F as vss st) (e : st[j]? = some xs) : ∃ a vs, as[j]? = some a ∧ vss[j]? = some vs ∧ A2 (rep K F) vs xs := by
  obtain ⟨vs, h1, h2⟩ := h.all.get e
  have hj := (List.getElem?_eq_some_iff.mp e).1
  rw [← h.len2] at hj
  exact ⟨as[j], vs, List.getElem?_eq_getElem hj, h1, h2⟩
theorem Sto.set {j : Nat} {vs : List V} {xs : List α} (h : Sto K F as vss st) (q : A2 (rep K F) vs xs) : Sto K F as (vss.set j vs) (st.set j xs) := ⟨by rw [List.length_set]; exact h.len, h.all.set q j⟩
theorem Sto.snoc {p : Addr} {vs : List V} {xs : List α} (h : Sto K F as vss st) (q : A2 (rep K F) vs xs) : Sto K F (as ++ [p]) (vss ++ [vs]) (st ++ [xs]) := ⟨by simp [h.len], h.all.snoc q⟩
/-- a number in a store -/
abbrev Ix := Nat
def RX (as : List Addr) (v : V) (j : Ix) : Prop := ∃ a, v = .ref a ∧ as[j]? = some a
theorem RX.mono (h : as <+: as') {v : V} {j : Ix} (q : RX as v j) : RX as' v j := by
  obtain ⟨a, e, q⟩ := q
  obtain ⟨t, rfl⟩ := h
  refine ⟨a, e, ?_⟩
  rw [List.getElem?_append_left (List.getElem?_eq_some_iff.mp q).1]
  exact q
theorem RX.new (h : as.length = n) {p : Addr} : RX (as ++ [p]) (.ref p) n := ⟨p, rfl, by rw [List.getElem?_append_right (by omega), ← h]; simp⟩
theorem IQ.mono (h : as <+: as') {a : Addr} {j : Nat} (q : as[j]? = some a) : as'[j]? = some a := by
  obtain ⟨t, rfl⟩ := h
  rw [List.getElem?_append_left (List.getElem?_eq_some_iff.mp q).1]
  exact q
theorem IQ.new {n : Nat} (h : as.length = n) {p : Addr} : (as ++ [p])[n]? = some p := by
  rw [List.getElem?_append_right (by omega), ← h]
  simp
theorem pfx_trans {as2 : List Addr} (h : as <+: as') (h' : as' <+: as2) : as <+: as2 := h.trans h'
theorem Sto.getq {j : Nat} {xs : List α} {a : Addr} (h : Sto K F as vss st) (e : st[j]? = some xs) (q : as[j]? = some a) : ∃ vs, vss[j]? = some vs ∧ A2 (rep K F) vs xs := h.all.get e
theorem pfx_refl : as <+: as := List.prefix_refl _
theorem pfx_snoc {p : Addr} : as <+: as ++ [p] := List.prefix_append _ _
/-- the list of a number -/
def getS (st : List (List α)) (j : Ix) : R (List α) := ofO st[j]?
theorem pb_getS {st : List (List α)} {j : Ix} {f : List α → R δ} {P : δ → Prop} {E : Exn → Prop} (h : Post (getS st j >>= f) P E) : ∃ xs, st[j]? = some xs ∧ Post (f xs) P E := pb_ofO h
/-- .. another list in its place -/
def setS (st : List (List α)) (j : Ix) (ys : List α) : R (List (List α)) := .ok (st.set j ys)
theorem pn_setS {st : List (List α)} {j : Ix} {ys : List α} {f : List (List α) → R δ} {P : δ → Prop} {E : Exn → Prop} (h : Post (setS st j ys >>= f) P E) : ∃ st', st' = st.set j ys ∧ Post (f st') P E := ⟨_, rfl, h⟩
/-- .. a new one -/
def newS (st : List (List α)) (ys : List α) : R (Ix × List (List α)) := .ok (st.length, st ++ [ys])
theorem pn_newS {st : List (List α)} {ys : List α} {f : Ix × List (List α) → R δ} {P : δ → Prop} {E : Exn → Prop} (h : Post (newS st ys >>= f) P E) : ∃ j st', j = st.length ∧ st' = st ++ [ys] ∧ Post (f (j, st')) P E := ⟨_, _, rfl, rfl, h⟩
/-- lists by their numbers -/
def deref (st : List (List α)) (js : List Ix) : R (List (List α)) := mapR (getS st) js
theorem deref_rep {vs : List V} {js : List Ix} {xss : List (List α)} (h : Sto K F as vss st) (hf : ∀ (j : Nat) (a : Addr) (vs : List V), as[j]? = some a → vss[j]? = some vs → F' a = some (.lst vs)) (s : Same F F')
    (hv : A2 (RX as) vs js) (e : deref st js = R.ok xss) : A2 (rep K F') vs xss := by
  induction hv generalizing xss with
  | nil =>
    cases e
    exact .nil
  | cons a b ih =>
    obtain ⟨ad, rfl, h1⟩ := a
    obtain ⟨ys, e1, e⟩ := bind_ok_iff.mp e
    obtain ⟨yss, e2, e⟩ := bind_ok_iff.mp e
    cases e
    rename_i j js' _ _
    unfold getS at e1
    cases q : st[j]? with
    | none => rw [q] at e1; cases e1
    | some zs =>
      rw [q] at e1
      cases e1
      obtain ⟨a', ws, h2, h3, h4⟩ := h.get q
      rw [h1] at h2
      cases h2
      exact .cons ⟨ad, ws, rfl, hf _ _ _ h1 h3, h4.mono s⟩ (ih e2)
theorem pb_deref {js : List Ix} {f : List (List α) → R δ} {P : δ → Prop} {E : Exn → Prop} (h : Post (deref st js >>= f) P E) : ∃ xss, deref st js = R.ok xss ∧ Post (f xss) P E := by
  cases e : deref st js with
  | ok xss =>
    rw [e] at h
    exact ⟨xss, rfl, h⟩
  | exc x =>
    exfalso
    clear h
    unfold deref at e
    induction js with
    | nil => cases e
    | cons j js ih =>
      have e' : (getS st j >>= fun y => mapR (getS st) js >>= fun ys => R.ok (y :: ys)) = R.exc x := e
      unfold getS at e'
      cases q : st[j]? with
      | none => rw [q] at e'; cases e'
      | some z =>
        rw [q] at e'
        have e2 : (mapR (getS st) js >>= fun ys => R.ok (z :: ys)) = R.exc x := e'
        cases q2 : mapR (getS st) js with
        | ok y => rw [q2] at e2; cases e2
        | exc y => rw [q2] at e2; cases e2; exact ih q2
        | bad => rw [q2] at e2; cases e2
  | bad =>
    rw [e] at h
    exact (show False from h).elim
end
section
variable {F H : Hp} {os os' pre post x : List (Addr × HO)} {a p : Addr} {o : HO} {as : List Addr} {vss : List (List V)} {j : Nat} {vs : List V}
/-! the second store -/
theorem W.as2 : pre ++ (x ++ (os ++ post)) = (pre ++ x) ++ (os ++ post) := by simp
theorem W.nget2 (w : W F H (pre ++ (x ++ (nz as vss ++ post)))) (h1 : as[j]? = some a) (h2 : vss[j]? = some vs) : H a = some (.lst vs) := (W.as2 ▸ w : W F H ((pre ++ x) ++ (nz as vss ++ post))).nget h1 h2
theorem W.nset2 (w : W F H (pre ++ (x ++ (nz as vss ++ post)))) (us : List V) (h1 : as[j]? = some a) (h2 : vss[j]? = some vs) : W F (upd H a (.lst us)) (pre ++ (x ++ (nz as (vss.set j us) ++ post))) := by
  rw [W.as2] at w ⊢
  exact w.nset us h1 h2
theorem W.nadd2 (w : W F H ((p, .lst vs) :: (pre ++ (x ++ (nz as vss ++ post))))) (hl : as.length = vss.length) : W F H (pre ++ (x ++ (nz (as ++ [p]) (vss ++ [vs]) ++ post))) := by
  rw [W.as2] at w ⊢
  exact w.nadd hl
theorem W.dropL0 (w : W F H (nz as vss ++ post)) : W F H post := W.dropL (pre := []) (os := nz as vss) w
theorem W.dropL2 (w : W F H (pre ++ (x ++ (os ++ post)))) : W F H (pre ++ (x ++ post)) := by
  rw [W.as2] at w
  have h := w.dropL
  rw [List.append_assoc] at h
  exact h
theorem W.nfreeze2 (w : W F H (pre ++ (x ++ (nz as vss ++ post)))) : ∃ F', Same F F' ∧ W F' H (pre ++ (x ++ post)) ∧ ∀ (j : Nat) (a : Addr) (vs : List V), as[j]? = some a → vss[j]? = some vs → F' a = some (.lst vs) := by
  rw [W.as2] at w
  obtain ⟨F', s, w', h⟩ := w.nfreeze
  rw [List.append_assoc] at w'
  exact ⟨F', s, w', h⟩
theorem W.ntake2 (w : W F H (pre ++ (x ++ (nz as vss ++ post)))) (h1 : as[j]? = some a) (h2 : vss[j]? = some vs) : W F H ((a, .lst vs) :: (pre ++ (x ++ post))) := by
  rw [W.as2] at w
  have h := w.ntake h1 h2
  rw [List.append_assoc] at h
  exact h
end
section
variable {K : Fg} {F : Hp} {a : Addr} {β : Type} {vs : List V} {xs : List β} {r : V → β → Prop}
theorem tw_listR (h : A2 r vs xs) : TW (Itl K a) xs (fun H => SqL K H a vs) (fun b H x H' => H' = H ∧ r x b) := ⟨by
  rw [← h.length]
  exact walk_list.mono (fun _ g => g) fun i H x H' _ _ y => by
    obtain ⟨y1, y2⟩ := y
    obtain ⟨b, h1, h2⟩ := h.getV y2
    exact ⟨b, h1, y1, h2⟩⟩
end
section
variable {F H : Hp} {os pre post x : List (Addr × HO)} {q : Addr × HO} {as : List Addr} {vss : List (List V)}
/-- a store behind the cells -/
theorem W.nback (w : W F H (q :: (nz as vss ++ (pre ++ post)))) : W F H (q :: (pre ++ (nz as vss ++ post))) := by
  refine w.perm (List.Perm.cons _ ?_)
  rw [← List.append_assoc, ← List.append_assoc]
  exact List.perm_append_comm.append_right _
variable {α : Type} [Rep α] {K : Fg} {a : Addr} {us : List V} {js : List Ix} {st xss : List (List α)}
theorem rl_all (s : Same F H) (hf : ∀ (j : Nat) (a : Addr) (vs : List V), as[j]? = some a → vss[j]? = some vs → H a = some (.lst vs)) (h : Sto K F as vss st) (hv : A2 (RX as) us js) (e : deref st js = R.ok xss) : A2 (rep K H) us xss := deref_rep h hf s hv e
theorem W.rl (w : W F H (pre ++ (nz as vss ++ post))) (qa : H a = some (.lst us)) (h : Sto K F as vss st) (hv : A2 (RX as) us js) (e : deref st js = R.ok xss) : rep K H (.ref a) xss :=
  ⟨a, us, rfl, qa, rl_all w.same (fun _ _ _ h1 h2 => w.nget h1 h2) h hv e⟩
theorem W.rl2 (w : W F H (pre ++ (x ++ (nz as vss ++ post)))) (qa : H a = some (.lst us)) (h : Sto K F as vss st) (hv : A2 (RX as) us js) (e : deref st js = R.ok xss) : rep K H (.ref a) xss :=
  ⟨a, us, rfl, qa, rl_all w.same (fun _ _ _ h1 h2 => w.nget2 h1 h2) h hv e⟩
end
/-! ### comprehensions, what is made told by the state -/
section
variable {J : It} {β γ δ ε : Type} {items : List β} {G : Hp → Prop} {Y : β → Hp → V → Hp → Prop} {g : TG} {tt : TT} {te : TE} {P : ε → Prop} {X : Exn → Prop} {K : Fg} {vs : List Nat} {σ : St} {F H1 : Hp} {os : List (Addr × HO)} {D : Addr} {Qd : Hp → Prop}
theorem lcG (tw : TW J items G Y) {f : γ → β → R (Option δ × γ)} {s0 : γ} {k : List δ × γ → R ε} (hm : Post (filStG f s0 items >>= k) P X) (O : γ → Hp → List (Addr × HO) → List V → List δ → Prop) (w : W F H1 os) (o0 : O s0 F os [] []) (nD : H1 D = none)
    (hl : ∀ c F' os' us ys, O c F' os' us ys → us.length = ys.length)
    (hG : ∀ c F' H' os' acc ys, Same F F' → W F' H' ((D, .lst acc) :: os') → O c F' os' acc ys → G H')
    (hs : ∀ (b : β) (c : γ) (x : V) (F' H' H'' : Hp) (os' : List (Addr × HO)) (acc : List V) (ys : List δ) (N : V → Hp → Prop) (N0 : Hp → Prop) (P' : Option δ × γ → Prop), Same F F' → W F' H' ((D, .lst acc) :: os') → O c F' os' acc ys → Y b H' x H'' →
      (∀ d c', P' (some d, c') → ∀ y F'' H'' os'', W F'' H'' ((D, .lst acc) :: os'') → Same F' F'' → O c' F'' os'' (acc ++ [y]) (ys ++ [d]) → N y H'') →
      (∀ c', P' (none, c') → ∀ F'' H'' os'', W F'' H'' ((D, .lst acc) :: os'') → Same F' F'' → O c' F'' os'' acc ys → N0 H'') → Post (f c b) P' X →
      g x (wipe σ vs) H'' fun σ2 H2 => wipe σ2 vs = wipe σ vs ∧ tt σ2 H2 fun b H3 => if b = true then te σ2 H3 N else N0 H3)
    (hd : ∀ c us F' H' os' ys, Same F F' → W F' H' ((D, .lst us) :: os') → O c F' os' us ys → Post (k (ys, c)) P X → Qd H') : LcAsk J g tt te vs σ H1 D Qd := by
  obtain ⟨hlen, hm⟩ := pb_grd (pb_assoc hm)
  have hlen : items.length < sizeLine := Nat.lt_of_lt_of_le (of_decide_eq_true hlen) line5
  refine lc_it tw.walk (fun i H => ∃ c F' os' us ys, i ≤ items.length ∧ Same F F' ∧ W F' H ((D, .lst us) :: os') ∧ O c F' os' us ys ∧ ys.length ≤ i ∧ Post (filSt f c (items.drop i) >>= fun q => k (ys ++ q.1, q.2)) P X) ?_ ?_ ?_ ?_
  · exact ⟨s0, F, os, [], [], Nat.zero_le _, Same.refl _, w.new nD, o0, Nat.le_refl _, hm⟩
  · rintro i H _ ⟨c, F', os', us, ys, _, s, w', o, _⟩
    exact hG c F' H os' us ys s w' o
  · rintro i x H H' hi ⟨c, F', os', us, ys, _, s, w', o, hl2, hm⟩ ⟨b, hb, y⟩
    rw [drop_cons hb] at hm
    have hm' : Post ((f c b >>= fun p => filSt f p.2 (items.drop (i + 1)) >>= fun q => match p.1 with
      | some y => (R.ok (y :: q.1, q.2) : R (List δ × γ))
      | none => R.ok q) >>= fun q => k (ys ++ q.1, q.2)) P X := hm
    rw [bind_bind] at hm'
    have hm2 := post_bind hm'
    have hul : us.length = ys.length := hl _ _ _ _ _ o
    refine hs b c x F' H H' os' us ys (fun y H4 => ∃ acc, H4 D = some (.lst acc) ∧ acc.length < sizeLine ∧ _) _ _ s w' o y ?_ ?_ hm2
    · intro d c' p2 y F'' H'' os'' w2 s2 o2
      refine ⟨us, w2.get (pre := []), by omega, c', F'', os'', us ++ [y], ys ++ [d], hi, s.trans s2, w2.set (pre := []), o2, by rw [List.length_append, List.length_singleton]; omega, ?_⟩
      have p3 : Post ((filSt f c' (items.drop (i + 1)) >>= fun q => (R.ok (d :: q.1, q.2) : R (List δ × γ))) >>= fun q => k (ys ++ q.1, q.2)) P X := p2
      rw [bind_bind] at p3
      have e : (fun q : List δ × γ => (R.ok (d :: q.1, q.2) : R (List δ × γ)) >>= fun q => k (ys ++ q.1, q.2)) = fun q => k (ys ++ [d] ++ q.1, q.2) := by
        funext q
        show k (ys ++ (d :: q.1), q.2) = k (ys ++ [d] ++ q.1, q.2)
        rw [List.append_assoc]
        rfl
      rw [e] at p3
      exact p3
    · intro c' p2 F'' H'' os'' w2 s2 o2
      refine ⟨c', F'', os'', us, ys, hi, s.trans s2, w2, o2, by omega, ?_⟩
      have p3 : Post ((filSt f c' (items.drop (i + 1)) >>= fun q => (R.ok q : R (List δ × γ))) >>= fun q => k (ys ++ q.1, q.2)) P X := p2
      rw [bind_bind] at p3
      exact p3
  · rintro H ⟨c, F', os', us, ys, _, s, w', o, _, hm⟩
    rw [List.drop_length] at hm
    have hm' : Post (k (ys ++ [], c)) P X := hm
    rw [List.append_nil] at hm'
    exact hd c us F' H os' ys s w' o hm'
theorem lcGM (tw : TW J items G Y) {f : γ → β → R (δ × γ)} {s0 : γ} {k : List δ × γ → R ε} (hm : Post (mapStG f s0 items >>= k) P X) (O : γ → Hp → List (Addr × HO) → List V → List δ → Prop) (w : W F H1 os) (o0 : O s0 F os [] []) (nD : H1 D = none)
    (hl : ∀ c F' os' us ys, O c F' os' us ys → us.length = ys.length)
    (hG : ∀ c F' H' os' acc ys, Same F F' → W F' H' ((D, .lst acc) :: os') → O c F' os' acc ys → G H')
    (hs : ∀ (b : β) (c : γ) (x : V) (F' H' H'' : Hp) (os' : List (Addr × HO)) (acc : List V) (ys : List δ) (N : V → Hp → Prop) (P' : δ × γ → Prop), Same F F' → W F' H' ((D, .lst acc) :: os') → O c F' os' acc ys → Y b H' x H'' →
      (∀ d c', P' (d, c') → ∀ y F'' H'' os'', W F'' H'' ((D, .lst acc) :: os'') → Same F' F'' → O c' F'' os'' (acc ++ [y]) (ys ++ [d]) → N y H'') → Post (f c b) P' X →
      g x (wipe σ vs) H'' fun σ2 H2 => wipe σ2 vs = wipe σ vs ∧ te σ2 H2 N)
    (hd : ∀ c us F' H' os' ys, Same F F' → W F' H' ((D, .lst us) :: os') → O c F' os' us ys → Post (k (ys, c)) P X → Qd H') : LcAsk J g tYes te vs σ H1 D Qd := by
  have e : ∀ (s : γ) (l : List β), filSt (fun c b => f c b >>= fun p => R.ok (some p.1, p.2)) s l = mapSt f s l := by
    intro s l
    induction l generalizing s with
    | nil => rfl
    | cons b l ih =>
      show ((f s b >>= fun p => R.ok (some p.1, p.2)) >>= fun p => filSt (fun c b => f c b >>= fun p => R.ok (some p.1, p.2)) p.2 l >>= fun q => match p.1 with
        | some y => (R.ok (y :: q.1, q.2) : R (List δ × γ))
        | none => R.ok q) = (f s b >>= fun p => mapSt f p.2 l >>= fun q => .ok (p.1 :: q.1, q.2))
      rw [bind_bind]
      refine congrArg (f s b >>= ·) ?_
      funext p
      show (filSt (fun c b => f c b >>= fun p => R.ok (some p.1, p.2)) p.2 l >>= fun q => (R.ok (p.1 :: q.1, q.2) : R (List δ × γ))) = _
      rw [ih]
  have hm' : Post (filStG (fun c b => f c b >>= fun p => R.ok (some p.1, p.2)) s0 items >>= k) P X := by
    unfold filStG
    simp only [e]
    exact hm
  refine lcG tw hm' O w o0 nD hl hG (fun b c x F' H' H'' os' acc ys N N0 P' s w' o y hN hN0 hp => ?_) hd
  exact hs b c x F' H' H'' os' acc ys N _ s w' o y (fun d c' p2 y F'' H'' os'' w2 s2 o2 => hN d c' p2 y F'' H'' os'' w2 s2 o2) (post_bind hp)
end
end Z
/-! Z6: constants of the module, things, dicts as written and asked -/
namespace Z
open PySem L2
open Rep (rep)
section
variable {X : Cx}
theorem pe_globI {x : Str} {n : Int} {pos : Pos} (hg : Gl X x) (h : ∃ t, X.mg x = some (.int n t)) (hd : (x == ("__debug__" : Str)) = false := by decide) : PE X (.Name x pos) (tC (.int n)) := by
  obtain ⟨t, e⟩ := h
  exact pe_glob hg e ⟨_, rfl⟩ hd
theorem call_intB : CallR X (.type "int") (fun xs H Q => ∃ k, xs = [.bl k] ∧ Q (.int (if k = true then 1 else 0)) H) := by
  intro pins s σ H xs us Q I r ⟨k, e, q⟩
  exact call_int1 pins s σ H xs us Q I r (.inr ⟨k, e, q⟩)
end
theorem call_lenDR {X : Cx} : CallR X (.builtin "len") (fun xs H Q => ∃ (a : Addr) (kvs : List (Key × V)) (n : Nat), xs = [V.ref a] ∧ H a = some (.dK kvs) ∧ kvs.length = n ∧ Q (.int (n : Int)) H) := by
  intro pins s σ H xs us Q I r ⟨a, kvs, n, e, h, hn, q⟩
  subst hn
  exact call_lenD pins s σ H xs us Q I r ⟨a, kvs, e, h, q⟩
/-- a while's fuel, not to be reckoned with -/
@[irreducible] def fu (n : Nat) : Nat := n
theorem fu_eq (n : Nat) : fu n = n := by
  unfold fu
  rfl
/-- x in l -/
abbrev inB {α : Type} [DecidableEq α] (x : α) (l : List α) : Bool := decide (x ∈ l)
theorem inB_t {α : Type} [DecidableEq α] {x : α} {l : List α} : inB x l = true ↔ x ∈ l := decide_eq_true_iff
theorem inB_f {α : Type} [DecidableEq α] {x : α} {l : List α} : inB x l = false ↔ x ∉ l := decide_eq_false_iff_not
def b2i (b : Bool) : Int := if b = true then 1 else 0
/-! ### things -/
def Thing.isPl : Thing → Bool
  | .pl _ => true
  | .ti _ _ => false
def asPl : Thing → R Int
  | .pl i => .ok i
  | .ti _ _ => .bad
def asTi : Thing → R (Int × Int)
  | .pl _ => .bad
  | .ti a b => .ok (a, b)
def mkpl (xs : List Int) : List Thing := xs.map Thing.pl
def mkti (xs : List (Int × Int)) : List Thing := xs.map fun p => Thing.ti p.1 p.2
section
variable {δ : Type} {P : δ → Prop} {E : Exn → Prop} {K : Fg} {F H : Hp}
theorem pb_asPl {t : Thing} {f : Int → R δ} (h : Post (asPl t >>= f) P E) : ∃ i, t = .pl i ∧ Post (f i) P E := by
  cases t with
  | pl i => exact ⟨i, rfl, h⟩
  | ti a b => exact (show False from h).elim
theorem pb_asTi {t : Thing} {f : Int × Int → R δ} (h : Post (asTi t >>= f) P E) : ∃ q : Int × Int, t = .ti q.1 q.2 ∧ Post (f q) P E := by
  cases t with
  | pl i => exact (show False from h).elim
  | ti a b => exact ⟨(a, b), rfl, h⟩
theorem A2.pl : ∀ {vs : List V} {xs : List Int}, A2 (rep K F) vs xs → A2 (rep K F) vs (mkpl xs)
  | _, _, .nil => .nil
  | _, _, .cons h t => .cons h (A2.pl t)
theorem A2.ti : ∀ {vs : List V} {xs : List (Int × Int)}, A2 (rep K F) vs xs → A2 (rep K F) vs (mkti xs)
  | _, _, .nil => .nil
  | _, _, .cons h t => .cons h (A2.ti t)
theorem th_ty (s : Same F H) {v : V} {t : Thing} (r : rep K F v t) : ∃ a, TyOf K H v (.type a) ∧ (a = "int" ∧ t.isPl = true ∨ a = "tuple" ∧ t.isPl = false) := by
  cases t with
  | pl i =>
    have r' : v = V.int i := r
    subst r'
    exact ⟨_, .int i, .inl ⟨rfl, rfl⟩⟩
  | ti a b =>
    obtain ⟨c, u, w, rfl, q, _⟩ := (show rep K F v (a, b) from r)
    exact ⟨_, .tup (s _ _ q), .inr ⟨rfl, rfl⟩⟩
theorem th_int (s : Same F H) {v : V} {t : Thing} (r : rep K F v t) : ∃ a, TyOf K H v (.type a) ∧ kitB a "int" = some t.isPl := by
  obtain ⟨a, h, z⟩ := th_ty s r
  rcases z with ⟨rfl, e⟩ | ⟨rfl, e⟩
  · exact ⟨_, h, by rw [e]; decide +kernel⟩
  · exact ⟨_, h, by rw [e]; decide +kernel⟩
theorem th_tuple (s : Same F H) {v : V} {t : Thing} (r : rep K F v t) : ∃ a, TyOf K H v (.type a) ∧ kitB a "tuple" = some (!t.isPl) := by
  obtain ⟨a, h, z⟩ := th_ty s r
  rcases z with ⟨rfl, e⟩ | ⟨rfl, e⟩
  · exact ⟨_, h, by rw [e]; decide +kernel⟩
  · exact ⟨_, h, by rw [e]; decide +kernel⟩
theorem th_bool (s : Same F H) {v : V} {t : Thing} (r : rep K F v t) : ∃ a, TyOf K H v (.type a) ∧ kitB a "bool" = some false := by
  obtain ⟨a, h, z⟩ := th_ty s r
  rcases z with ⟨rfl, e⟩ | ⟨rfl, e⟩
  · exact ⟨_, h, by decide +kernel⟩
  · exact ⟨_, h, by decide +kernel⟩
end
/-! ### dicts of scalars: as written, asked -/
section
variable {κ β γ : Type} [DecidableEq κ]
/-- as a display makes it -/
def mmk (l : List (κ × β)) : List (κ × β) := l.foldl (fun m p => mput m p.1 p.2) []
theorem merge_enc {ev : β → V} (l m : List (Int × β)) : mergeK (encM kI ev m) (encM kI ev l) = encM kI ev (l.foldl (fun m p => mput m p.1 p.2) m) := by
  induction l generalizing m with
  | nil => rfl
  | cons p l ih =>
    show mergeK (putK (encM kI ev m) (kI p.1) (ev p.2)) (encM kI ev l) = _
    rw [put_enc kI_inj, ih]
    rfl
end
section
variable {β δ : Type} {ev : β → V} {H : Hp} {a b : Addr} {P : δ → Prop} {E : Exn → Prop}
theorem dgets_k {m : List (Int × β)} {k : Int} {t : β} (e : H a = some (.dK (encM kI ev m))) (q : mget m k = some t) : DGet H a (.int k) (some (ev t)) := by
  have h := dget_k (k := k) e
  rw [q] at h
  exact h
theorem dgets_p {m : List ((Int × Int) × β)} {k : Int × Int} {t : β} (e : H a = some (.dT (encM kP ev m))) (eb : H b = some (.tup [.int k.1, .int k.2])) (q : mget m k = some t) : DGet H a (.ref b) (some (ev t)) := by
  have h := dget_p (k := k) e eb
  rw [q] at h
  exact h
theorem pb_mget {κ : Type} [DecidableEq κ] {m : List (κ × β)} {k : κ} {f : β → R δ} (h : Post (mgetR m k >>= f) P E) : ∃ t, mget m k = some t ∧ Post (f t) P E := pb_ofO h
theorem getD_ev (f : β → V) (o : Option β) (d : β) : (o.map f).getD (f d) = f (o.getD d) := by cases o <;> rfl
theorem isD_k {kvs : List (Key × V)} (e : H a = some (.dK kvs)) : IsD H a := .inl ⟨kvs, .inl e⟩
theorem isD_t {kvs : List (List Key × V)} (e : H a = some (.dT kvs)) : IsD H a := .inr ⟨kvs, .inl e⟩
end
def tDGet2R (td ty tx : TE) : TE := fun σ H Q => td σ H fun x H1 => ∃ a, x = .ref a ∧ IsD H1 a ∧ ty σ H1 fun y H2 => tx σ H2 fun z H3 => ∃ o r, DGet H3 a y o ∧ o.getD z = r ∧ Q r H3
section
variable {X : Cx} {o e f : Expr} {apos cpos : Pos} {td ty tx : TE}
theorem pe_dget2R (hu : X.A.units + 1 < cLine) (ho : PE X o td) (he : PE X e ty) (hf : PE X f tx) (m : M2 X o "get" apos e f cpos) : PE X (.Call (.Attribute o "get" apos) [e, f] [] cpos) (tDGet2R td ty tx) := by
  refine ⟨fun pins s σ H Q I h => ?_⟩
  refine wpAny_Call_method m.base m.few m.line PySem.F.plainAttrs_dict PySem.F.slot_dict_get PySem.F.type_dict_get (thn (ho.run pins s σ H _ I h) fun u s1 ⟨x, H1, I1, rx, a, ex, d, q1⟩ => ?_)
  subst ex
  obtain rfl : u = Value.ref a := rx
  obtain ⟨t1, t2, _⟩ := isD_at I1 d
  refine ⟨t1, t2, ?_⟩
  rw [m.trees]
  refine Calls.callWith_builtin rfl (Calls.evalArgs_plain (Calls.spliced_cons (thn (he.run pins s1 σ H1 _ I1 q1) fun iv s2 ⟨y, H2, I2, ry, q2⟩ =>
    Calls.spliced_cons (thn (hf.run pins s2 σ H2 _ I2 q2) fun fv s3 ⟨z, H3, I3, rz, ov, r, g, er, q3⟩ => Calls.spliced_nil ?_))))
  subst er
  exact d_get2 hu I3 g ry rz fun w' s4 I4 rw' => ⟨_, H3, I4, rw', q3⟩
end
/-! ### tuples cut and joined -/
section
variable {X : Cx} {K : Fg}
theorem sl_tupU (hK : X.K = K) : SlR X (fun x lo hi H Q => ∃ (a : Addr) (xs : List V) (F : Hp) (os : List (Addr × HO)), x = .ref a ∧ W F H os ∧ F a = some (.tup xs) ∧ ∀ p F' H', Same F F' → W F' H' os → F' p = some (.tup (cutV xs lo hi)) → Q (.ref p) H') := by
  subst hK
  intro pins s σ H x v vl vu lo hi sl Q I rx hs pl pu ⟨a, xs, F, os, e, w, q, h⟩
  refine sl_tupA pins s σ H x v vl vu lo hi sl Q I rx hs pl pu ⟨a, xs, e, SqT.of (w.same _ _ q), fun c => ?_, fun _ p hp => ?_⟩
  · refine h a F H (Same.refl _) w ?_
    have ec : cutV xs lo hi = xs := by
      unfold cutV
      rw [c.1, c.2]
      simp
    rw [ec]
    exact q
  · obtain ⟨F', s', w', q'⟩ := w.frzE (o := .tup (cutV xs lo hi)) hp
    exact h p F' _ s' w' q'
theorem op_catU (hK : X.K = K) : OpR X (binaryOp .Add) (fun x y H Q => ∃ (a b : Addr) (xs ys : List V) (F : Hp) (os : List (Addr × HO)), x = .ref a ∧ y = .ref b ∧ W F H os ∧ F a = some (.tup xs) ∧ F b = some (.tup ys) ∧ xs.length + ys.length ≤ sizeLine ∧
    ∀ p F' H', Same F F' → W F' H' os → F' p = some (.tup (xs ++ ys)) → Q (.ref p) H') := by
  subst hK
  intro pins s σ H x y v u Q I rx ry ⟨a, b, xs, ys, F, os, e1, e2, w, qa, qb, hl, h⟩
  refine op_catA pins s σ H x y v u Q I rx ry ⟨a, b, xs, ys, e1, e2, SqT.of (w.same _ _ qa), SqT.of (w.same _ _ qb), hl, fun c => ?_, fun c d => ?_, fun _ _ p hp => ?_⟩
  · subst c
    exact h b F H (Same.refl _) w qb
  · subst d
    exact h a F H (Same.refl _) w (by rw [List.append_nil]; exact qa)
  · obtain ⟨F', s', w', q'⟩ := w.frzE (o := .tup (xs ++ ys)) hp
    exact h p F' _ s' w' q'
end
end Z
/-! Z7: dicts of tuple keys whose values are lists of a store; their values walked -/
namespace L2
open PySem PySem.Spec PyProof.Rows
/-- the values of the locked dict at d, of tuple keys -/
def ItdT (d : Addr) (o : Obj) (kvs : List (List Key × V)) : It :=
  ⟨fun i H => H d = some (.frz o (.dT kvs)) ∧ i < kvs.length, fun i H x H' => H' = H ∧ ∃ k, kvs[i]? = some (k, x), fun i H => H d = some (.frz o (.dT kvs)) ∧ kvs.length ≤ i⟩
section
variable {X : Cx} {pins : List (Addr × Obj)} {σ : St} {H : Hp} {s : Shared} {d : Addr} {o : Obj}
theorem Inv.frzTV {kvs : List (List Key × V)} (I : Inv X pins σ H s) (h : H d = some (.frz o (.dT kvs))) :
    (d == sysModules) = false ∧ s.heap.get? d = some o ∧ o.ExactDict ∧ ∃ (es : Array DictEntry) (ep : Nat), o.data = .dict es ep ∧ es.size = kvs.length ∧
      ∀ (i : Nat) (k : List Key) (v : V), kvs[i]? = some (k, v) → ∃ en : DictEntry, es[i]? = some en ∧ RelV v en.val := by
  obtain ⟨hd, z, hs, xs, pr, o', es, ep, ho, hx, hdt, he, _⟩ := I.hok d _ h
  rw [hd] at ho
  cases ho
  refine ⟨hs, hd, hx, es, ep, hdt, ?_, fun i k v e => ?_⟩
  · have l1 : es.size = xs.length := size_of_entries he
    have l2 : kvs.length = xs.length := Paired.length pr
    omega
  · obtain ⟨b, hb, e1, e2, e3⟩ := paired_get pr e
    have q := entry_at he i
    rw [hb] at q
    exact ⟨_, q, e3⟩
end
section
variable {P : Program} {w : World} {K : PySem.W.Frag} {tg : Expr} {d : Addr} {o : Obj} {es : Array DictEntry} {ep : Nat}
theorem turn_valsT {kvs : List (List Key × V)} (it : Addr) (hod : o.data = .dict es ep) : Turn P w K tg (ItdT d o kvs) [it] it (fun i h => h.IsValIter it d i kvs.length ep) where
  mem := by simp
  obj := fun i h st b hb => by
    have e : b = it := by simpa using hb
    subst e
    obtain ⟨oi, e, c, dd⟩ := st
    exact ⟨oi, e, fun v z => by rw [dd] at z; cases z⟩
  keep := fun i h h' st k => st.at fun oi e => k it (by simp) oi e
  item := by
    intro X hP hw hK hc i pins s σ H E I hf st hg
    subst hP hw hK
    obtain ⟨hd, hi⟩ := hg
    obtain ⟨f0, f1, f2, f3, f4, f5⟩ := hf it (by simp)
    obtain ⟨hs, hgd, hx, es', ep', hdt, hsz, ent⟩ := I.frzTV hd
    obtain ⟨rfl, rfl⟩ := dict_ep hod hdt
    obtain ⟨⟨k, v⟩, hkv⟩ : ∃ p, kvs[i]? = some p := ⟨kvs[i], List.getElem?_eq_getElem hi⟩
    obtain ⟨en, hen, ru⟩ := ent i k v hkv
    have hil : i < es'.size := by omega
    have een : es'[i] = en := by
      rw [Array.getElem?_eq_getElem hil] at hen
      exact Option.some.inj hen
    rw [← hsz] at st
    refine wpAny_pyNext_values_item_raw st ⟨o, hgd, hx, hdt⟩ hil fun h' st' sb => ?_
    have I1 : Inv X pins σ H { s with heap := h' } := I.turned (t' := s.toks) (fun b ob hb e => (sb.2 b hb).trans e) f0 f1 f3 f4 f5
    obtain ⟨oi, e, c, dd⟩ := id st'
    refine ⟨_, rfl, go_of (s := { s with heap := h' }) e c dd (by decide) ⟨v, H, I1, by rw [een]; exact ru, ⟨rfl, k, hkv⟩, ?_, fun b hb => (hf b hb).1⟩⟩
    show h'.IsValIter it d (i + 1) kvs.length _
    rw [← hsz]
    exact st'
  done := by
    intro X hP hw hK hc i pins s σ H E I hf st hg
    subst hP hw hK
    obtain ⟨hd, hi⟩ := hg
    obtain ⟨f0, f1, f2, f3, f4, f5⟩ := hf it (by simp)
    obtain ⟨hs, hgd, hx, es', ep', hdt, hsz, ent⟩ := I.frzTV hd
    obtain ⟨rfl, rfl⟩ := dict_ep hod hdt
    rw [← hsz] at st
    exact wpAny_pyNext_values_end_raw (I.ok.hd hc) st ⟨o, hgd, hx, hdt⟩ (by omega) fun h' eb => ⟨rfl, I.turned (t' := s.toks) (fun b ob hb e => eb b ob hb e) f0 f1 f3 f4 f5⟩
  self := fun A i s Q E st h => wpAny_pyIter_valiter st h
end
/-- d.values() of a dict that is locked from there on -/
def iValsT (td : TE) : TI := fun σ H R => td σ H fun x H1 => ∃ d kvs, x = .ref d ∧ H1 d = some (.dT kvs) ∧ ∀ od, R (ItdT d od kvs) (upd H1 d (.frz od (.dT kvs)))
section
variable {X : Cx} {tg e : Expr} {td : TE} {apos cpos : Pos}
theorem pi_valuesT (he : PE X e td) (hbase : attributeBase e "values" X.env (eval e X.env) = eval e X.env := by rfl) (hline : (apos.endLine == cpos.line) = true := by rfl) : PI X tg (.Call (.Attribute e "values" apos) [] [] cpos) (iValsT td) := by
  refine ⟨fun pins s σ H R I h => ?_⟩
  refine wpAny_Call_method (T := "dict") (id := "dict.values") hbase rfl hline F.plainAttrs_dict F.slot_dict_values F.type_dict_values (thn (he.run pins s σ H _ I h) fun u s1 ⟨x, H0, I0, rx, d, kvs, ex, hd0, q0⟩ => ?_)
  subst ex
  obtain rfl : u = Value.ref d := rx
  obtain ⟨od, I1⟩ := I0.lock hd0 (by exact True.intro)
  have q := q0 od
  have hd : upd H0 d (.frz od (.dT kvs)) d = some (.frz od (.dT kvs)) := upd_same
  obtain ⟨hs, hgd, hx, es, ep, hdt, hsz, ent⟩ := I1.frzTV hd
  have hm : s1.heap.DictRaw d es ep := ⟨od, hgd, hx, hdt⟩
  refine ⟨hm.typeIs, fun b hb => ?_, ?_⟩
  · cases hb
    exact ⟨od, hgd, hx.2.1⟩
  have I2 : Inv X pins σ (upd H0 d (.frz od (.dT kvs))) { s1 with heap := s1.heap.push { cls := .type "dict_values", data := .fields #[.ref d] } } := I1.kept (t' := s1.toks) fun b ob q => Heap.get?_push_of_some _ q
  have fin : wpAny (model X.prog X.w) X.A (pyIter (.ref s1.heap.objs.size)) (PIE X pins σ tg R) X.xe { s1 with heap := s1.heap.push { cls := .type "dict_values", data := .fields #[.ref d] } } := by
    refine wpAny_pyIter_values_raw (d := d) (es := es) (ep := ep) ⟨_, Heap.get?_push_size _ rfl, rfl, rfl⟩ (hm.at fun o q => Heap.get?_push_of_some _ q) (pi_one (tk := s1.toks) I2 _ (turn_valsT _ hdt) ⟨_, Heap.get?_push_size _ rfl, rfl, ?_⟩ q)
    rw [hsz] <;> rfl
  show wpAny _ _ (callWith cpos (.builtin "dict.values") [.ref d] [] []) _ X.xe s1
  exact method_meetsIn F.slot_dict_values F.entry_dict_values rfl (PySem.evalArgs_none ⟨rfl, hm.typeIs, F.args_dict_values_1 _, _, meets_dict_values_raw d hs, ⟨es, ep, hm⟩, fin⟩)
end
end L2
namespace Z
open PySem L2
open Rep (rep)
/-! ### dicts by what their values stand for -/
section
variable {κ β γ : Type} [DecidableEq κ] [DecidableEq γ] {e : κ → γ} {r r' : V → β → Prop}
inductive AD (e : κ → γ) (r : V → β → Prop) : List (γ × V) → List (κ × β) → Prop
  | nil : AD e r [] []
  | cons {k : κ} {v : V} {x : β} {kvs : List (γ × V)} {m : List (κ × β)} : r v x → AD e r kvs m → AD e r ((e k, v) :: kvs) ((k, x) :: m)
theorem AD.length : ∀ {kvs : List (γ × V)} {m : List (κ × β)}, AD e r kvs m → kvs.length = m.length
  | _, _, .nil => rfl
  | _, _, .cons _ t => by rw [List.length_cons, List.length_cons, AD.length t]
theorem AD.imp (f : ∀ v x, r v x → r' v x) : ∀ {kvs : List (γ × V)} {m : List (κ × β)}, AD e r kvs m → AD e r' kvs m
  | _, _, .nil => .nil
  | _, _, .cons h t => .cons (f _ _ h) (AD.imp f t)
theorem AD.no (he : ∀ a b, e a = e b → a = b) {k : κ} : ∀ {kvs : List (γ × V)} {m : List (κ × β)}, AD e r kvs m → (valV kvs (e k)).isSome = mhas m k
  | _, _, .nil => rfl
  | _, _, .cons (k := j) (v := v) (x := x) (kvs := kvs) (m := m) h t => by
    show _ = (decide (j = k) || mhas m k)
    by_cases q : j = k
    · rw [valV_pos (congrArg e q), decide_eq_true q]; rfl
    · rw [valV_neg (fun z => q (he _ _ z)), decide_eq_false q, AD.no he t]; rfl
theorem AD.get (he : ∀ a b, e a = e b → a = b) {k : κ} {y : β} : ∀ {kvs : List (γ × V)} {m : List (κ × β)}, AD e r kvs m → mget m k = some y → ∃ v, valV kvs (e k) = some v ∧ r v y
  | _, _, .nil, h => by cases h
  | _, _, .cons (k := j) (v := v) (x := x) (kvs := kvs) (m := m) h t, g => by
    unfold mget at g
    by_cases q : j = k
    · rw [List.find?_cons_of_pos (by simpa using q)] at g
      cases g
      exact ⟨v, valV_pos (congrArg e q), h⟩
    · rw [List.find?_cons_of_neg (by simpa using q)] at g
      obtain ⟨u, h1, h2⟩ := AD.get he (k := k) t g
      exact ⟨u, by rw [valV_neg (fun z => q (he _ _ z))]; exact h1, h2⟩
theorem AD.snoc {k : κ} {v : V} {x : β} (h : r v x) : ∀ {kvs : List (γ × V)} {m : List (κ × β)}, AD e r kvs m → AD e r (kvs ++ [(e k, v)]) (m ++ [(k, x)])
  | _, _, .nil => .cons h .nil
  | _, _, .cons a t => .cons a (AD.snoc h t)
theorem AD.upd (he : ∀ a b, e a = e b → a = b) {k : κ} {v : V} {x : β} (h : r v x) : ∀ {kvs : List (γ × V)} {m : List (κ × β)}, AD e r kvs m → AD e r (kvs.map fun p => if p.1 = e k then (p.1, v) else p) (m.map fun p => if p.1 = k then (p.1, x) else p)
  | _, _, .nil => .nil
  | _, _, .cons (k := j) (v := u) (x := y) (kvs := kvs) (m := m) a t => by
    rw [List.map_cons, List.map_cons]
    by_cases q : j = k
    · subst q
      rw [if_pos rfl, if_pos rfl]
      exact .cons h (AD.upd he h t)
    · rw [if_neg q, if_neg (fun z => q (he _ _ z))]
      exact .cons a (AD.upd he h t)
theorem AD.any (he : ∀ a b, e a = e b → a = b) {k : κ} : ∀ {kvs : List (γ × V)} {m : List (κ × β)}, AD e r kvs m → (kvs.any fun p => decide (p.1 = e k)) = m.any fun p => decide (p.1 = k)
  | _, _, .nil => rfl
  | _, _, .cons (k := j) (kvs := kvs) (m := m) a t => by
    rw [List.any_cons, List.any_cons, AD.any he t]
    congr 1
    by_cases q : j = k
    · rw [q]; simp
    · rw [decide_eq_false q, decide_eq_false (fun z => q (he _ _ z))]
theorem AD.put (he : ∀ a b, e a = e b → a = b) {k : κ} {v : V} {x : β} {kvs : List (γ × V)} {m : List (κ × β)} (t : AD e r kvs m) (h : r v x) : AD e r (putK kvs (e k) v) (mput m k x) := by
  unfold putK mput
  rw [t.any he]
  by_cases q : (m.any fun p => decide (p.1 = k)) = true
  · rw [if_pos q, if_pos q]
    exact t.upd he h
  · rw [if_neg q, if_neg q]
    exact t.snoc h
theorem AD.vals : ∀ {kvs : List (γ × V)} {m : List (κ × β)}, AD e r kvs m → ∀ {i : Nat} {k : γ} {v : V}, kvs[i]? = some (k, v) → ∃ x, (m.map (·.2))[i]? = some x ∧ r v x
  | _, _, .nil, i, k, v, h => by simp at h
  | _, _, .cons (k := j) (v := u) (x := x) a t, 0, k, v, h => by
    simp at h
    obtain ⟨_, rfl⟩ := h
    exact ⟨x, rfl, a⟩
  | _, _, .cons a t, i + 1, k, v, h => by
    obtain ⟨x, h1, h2⟩ := AD.vals t (i := i) (k := k) (v := v) (by simpa using h)
    exact ⟨x, by simpa using h1, h2⟩
end
/-- a tuple of ints as a key -/
def kT (t : Tup Int) : List Key := t.l.map Sum.inl
theorem kT_inj : ∀ a b, kT a = kT b → a = b := fun a b h => by
  have g : ∀ xs ys : List Int, (xs.map Sum.inl : List Key) = ys.map Sum.inl → xs = ys := by
    intro xs
    induction xs with
    | nil => intro ys e; cases ys <;> first | rfl | cases e
    | cons x xs ih =>
      intro ys e
      cases ys with
      | nil => cases e
      | cons y ys =>
        rw [List.map_cons, List.map_cons] at e
        injection e with e1 e2
        rw [Sum.inl.inj e1, ih ys e2]
  have : a.l = b.l := g _ _ h
  cases a
  cases b
  simp at this
  rw [this]
section
variable {K : Fg} {F H : Hp} {a b : Addr} {kvs : List (List Key × V)} {vs : List V} {t : Tup Int} {β : Type} {r : V → β → Prop} {m : List (Tup Int × β)}
theorem key_tup (s : Same F H) (q : F b = some (.tup vs)) (h : A2 (rep K F) vs t.l) : H b = some (.tup ((kT t).map kV)) := by
  have e : vs = (kT t).map kV := by
    rw [h.ints]
    unfold kT
    rw [List.map_map]
    rfl
  rw [← e]
  exact s _ _ q
theorem dgetA (e : H a = some (.dT kvs)) (eb : H b = some (.tup ((kT t).map kV))) : DGet H a (.ref b) (valV kvs (kT t)) := DGet.t e eb
theorem dgetsA {v : V} (e : H a = some (.dT kvs)) (eb : H b = some (.tup ((kT t).map kV))) (q : valV kvs (kT t) = some v) : DGet H a (.ref b) (some v) := by
  have h := dgetA (t := t) e eb
  rw [q] at h
  exact h
theorem dputA {v : V} (e : H a = some (.dT kvs)) (eb : H b = some (.tup ((kT t).map kV))) (h : AD kT r kvs m) (hl : m.length < sizeLine) : DPut H a (.ref b) v (upd H a (.dT (putK kvs (kT t) v))) := DPut.t e eb (by rw [h.length]; exact hl)
theorem tw_valsT {d : Addr} {o : Obj} (h : AD kT r kvs m) : TW (ItdT d o kvs) (m.map (·.2)) (fun H => H d = some (.frz o (.dT kvs))) (fun b H x H' => H' = H ∧ r x b) := ⟨by
  rw [List.length_map, ← h.length]
  refine ⟨fun _ _ hi q => ⟨q, hi⟩, fun _ q => ⟨q, Nat.le_refl _⟩, fun i H x H' _ _ y => ?_⟩
  obtain ⟨e, k, hk⟩ := y
  obtain ⟨b, h1, h2⟩ := h.vals hk
  exact ⟨b, h1, e, h2⟩⟩
end
section
variable {X : Cx} {K : Fg}
/-- l.index(x), of data -/
theorem mt_indexDt (hK : X.K = K) (α : Type) [Dat α] [DecidableEq α] (hd : Dat.dmax α ≤ 50) (hu : X.A.units + 65 < cLine) : MtR X "list.index" (fun x xs H Q => ∃ (a : Addr) (u : V) (ys : List α) (y : α) (j : Nat), x = V.ref a ∧ xs = [u] ∧ rep K H (V.ref a) ys ∧ rep K H u y ∧ fidx y ys = some j ∧ Q (.int (j : Int)) H) := by
  subst hK
  intro pins s σ H x xs v us Q I rx rxs ⟨a, u, ys, y, j, e1, e2, hs, hy, hj, q⟩
  obtain ⟨h1, h2⟩ := fidx_spec hj
  refine mt_indexD hu pins s σ H x xs v us Q I rx rxs ⟨a, u, Dat.toD y, ys.map Dat.toD, j, Dat.toD y, e1, e2, Dat.dp hs, Dat.dp hy, shapedD (α := List α) (by show Dat.dmax α + 1 ≤ 60; omega) ys, shapedD (by omega) y, ?_, ?_, fun m z hm hz => ?_, q⟩
  · rw [List.getElem?_map, h1]
    rfl
  · rw [eqvD]
    exact decide_eq_true rfl
  · rw [List.getElem?_map] at hz
    cases e : ys[m]? with
    | none => rw [e] at hz; cases hz
    | some t =>
      rw [e] at hz
      cases hz
      rw [eqvD]
      exact decide_eq_false (h2 m t hm e)
end
end Z
/-! ZI: own exception classes with one field, an int: made, raised, caught, read -/
namespace L2
open PySem PySem.Spec PyProof.Rows ClX
section
variable {X : Cx} {o e : Expr} {es : List Expr} {to te : TE} {ta : TA} {f x : Str} {p p1 p2 pos : Pos}
/-- C.__init__(self, ..), C an own class over ValueError that has no __init__ of its own -/
theorem pe_ueinit {pl : Sem Bool} {HC : Addr} {mc : Value} (hg : Gl X x) (hm : X.mg x = some (.ref HC)) (r : CRead X.K HC mc) (vV : PySem.W.findCls X.K (.ref HC) mc "__init__" = some (.val (.builtin "ValueError.__init__"))) (ha : PA X (e :: es) ta)
    (hdb : (x == ("__debug__" : Str)) = false := by decide)
    (hc : eval (.Call (.Attribute (.Name x p1) "__init__" p2) (e :: es) [] pos) X.env = (do
      let ov ← eval (.Name x p1) X.env
      standAt p2.atName
      let (f, first) ← holding [ov] (getMethod ov "__init__" pl)
      callWith pos f first (backTo pos (starEach (e :: es) X.env)) (backToKw pos (keywordEach [] X.env))) := by rfl)
    (he : starEach (e :: es) X.env = (false, eval e X.env) :: starEach es X.env := by rfl) (hpl : (backTo pos (starEach es X.env)).any (·.1) = false := by rfl) :
    PE X (.Call (.Attribute (.Name x p1) "__init__" p2) (e :: es) [] pos) (tVeI X.K ta) := by
  refine ⟨fun pins s σ H Q I h => ?_⟩
  refine PySem.W.methodCall_KW (ld_glob I hg hm ?_ hdb) hc
  refine PySem.W.method_cls I.kIn r.ga ?_
  refine PySem.W.cls_value I.kIn r.rd vV (by decide +kernel) ?_
  have I0 := I.tok (s.toks + 1)
  show wpAny _ _ (callWith pos (Value.builtin "ValueError.__init__") [] (backTo pos (starEach (e :: es) X.env)) []) _ _ _
  refine PyProof.Rows.callWith_method1 (thn (ha.run pos pins _ σ H _ (I.tok _) h) fun us s1 ⟨vs, H1, I1, r1, a, C, ws, ev, hl, T, ea, q⟩ => ?_) he hpl
  subst ev
  cases r1 with
  | @cons _ u0 _ ur ra rw' =>
    obtain rfl : u0 = Value.ref a := ra
    have hlen : ur.length ≤ sizeLine := by
      rw [← Paired.length rw', sizeLine_eq]
      omega
    exact oinit_ok T I1 ea hlen fun s' J => ⟨.non, H1, J, rfl, q⟩
end
end L2

namespace L2
open PySem PySem.Spec PyProof.Rows
section
variable {X : Cx}
/-- isinstance(e, c) of the exception that the suite holds, its dict none or a told one; c one class, or a tuple of classes -/
def rIsEY (K : PySem.W.Frag) (cls : Value) (d : Option Addr) (a : Addr) : List V → Hp → VK → Prop := fun xs H Q => ∃ D, cls = .ref D ∧ (d = none ∨ ∃ dd fs, d = some dd ∧ H dd = some (.xd fs)) ∧ ExcC K D ∧ ∃ (c : V) (b : Bool), xs = [.ref a, c] ∧
  ((∃ cv, (∀ u, RelV c u → u = cv) ∧ PySem.W.kitOne K (.ref D) cv = some b) ∨ (∃ p vs its, c = .ref p ∧ H p = some (.tup vs) ∧ (∀ us, Vals vs us → us = its) ∧ PySem.W.kitAny K (.ref D) its = some b)) ∧ Q (.bl b) H
theorem call_isEY {K : PySem.W.Frag} {a : Addr} {cls : Value} {d : Option Addr} {oe : Obj} {pn : List (Addr × Obj)} (hK : X.K = K) (hz : Zc cls d oe) (hf : ∃ vs, oe.data = .fields vs) : CallR (X.suite a ((a, oe) :: pn)) (.builtin "isinstance") (rIsEY K cls d a) := by
  subst hK
  intro pins s σ H xs us Q I r ⟨D, ecls, hd, C, c, b, exs, hc, q⟩
  subst exs
  subst ecls
  cases r with
  | cons rx rr =>
    cases rr with
    | cons rt rr =>
      cases rr
      cases rx
      obtain ⟨hget, _⟩ := I.pin (a, oe) (List.mem_append.mpr (.inl List.mem_cons_self))
      obtain ⟨vs, hv⟩ := hf
      obtain ⟨cdD, hcD, _⟩ := PySem.W.any_some C.hd
      have J : ∃ od, PySem.W.InstAt s.heap a oe D od := by
        obtain ⟨oc, od, oda, osl⟩ := oe
        obtain ⟨h1, h2⟩ := hz
        dsimp only at h1 h2 hv
        subst h1 h2 hv
        rcases hd with rfl | ⟨dd, fs, rfl, hx⟩
        · exact ⟨none, hget, rfl, rfl, trivial⟩
        · have hx' : ObjOk X.prog X.w H s.heap dd (.xd fs) := I.hok dd _ hx
          obtain ⟨mA, hns, _⟩ := hx'
          obtain ⟨od, ho, _⟩ := lookIn_ns hns
          exact ⟨some od, hget, rfl, rfl, ho⟩
      obtain ⟨od, J⟩ := J
      have Z := PySem.W.kitx_exc (x := a) (ox := oe) (od := od) (C := D) (K := X.K) (by rw [hcD]; rfl) C.hg C.hk C.hs C.ha C.hn C.ht C.hm
      have fin : ∀ tk, EP (X.suite a ((a, oe) :: pn)) pins σ Q (.bool b) { s with toks := tk } := fun tk => ⟨.bl b, H, I.kept (t' := tk) fun _ _ z => z, rfl, q⟩
      rcases hc with ⟨cv, hcv, e⟩ | ⟨p, ws, its, rfl, hp, hu, e⟩
      · have ec := hcv _ rt
        subst ec
        exact PySem.W.kia_one Z I.kIn J e (fun z => nomatch z) fin
      · cases rt
        obtain ⟨_, its', r', ob, ho, hob1, n, hob2⟩ := I.hok p _ hp
        have := hu _ r'
        subst this
        obtain ⟨oc, obd, oda, osl⟩ := ob
        dsimp only at hob1 hob2
        subst hob1 hob2
        exact PySem.W.kia_tup Z I.kIn J ho e (fun z => nomatch z) fin
end
section
variable {X : Cx} {CX : CXT} {k : Nat} {f C : Addr} {fd : FuncData} {ps : List Str} {sp : Sp} {E : St → XK} {x m : Str} {p pos apos : Pos} {e o : Expr} {es : List Expr} {ta : TE} {t : TA}
/-- C(..), whose __init__ may let an error out -/
def tMakeS (C : Addr) (sp : Sp) (E : St → XK) (t : TA) : TE := fun σ H Q => t σ H fun vs H1 => ∀ x dx, H1 x = none → H1 dx = none → dx ≠ x →
  sp (.ref x :: vs) (upd (upd H1 dx (.own x)) x (.ins C dx [])) (fun v H2 => v = .non ∧ Q (.ref x) H2) (E σ)
theorem run_makeS {pins : List (Addr × Obj)} {σ : St} {H : Hp} {s : Shared} {Q : VK} {us : List Value} {vs : List V} (M : Mk X.K C f) (F : FnOk X.prog X.w X.K X.mg X.base CX k f fd ps sp) (hr : Room (k + 1) X.A) (hb : Binds X.K fd ps [])
    (hx : PassesAt CX X σ (E σ)) (I : Inv X pins σ H s) (r : Vals vs us)
    (h : ∀ x dx, H x = none → H dx = none → dx ≠ x → sp (.ref x :: vs) (upd (upd H dx (.own x)) x (.ins C dx [])) (fun v H2 => v = .non ∧ Q (.ref x) H2) (E σ)) :
    wpAny (model X.prog X.w) X.A (call (.ref C) us) (EP X pins σ Q) X.xe s := by
  have hq := h (s.heap.objs.size + 1) s.heap.objs.size (I.hok.fresh (Nat.le_succ _)) (I.hok.fresh (Nat.le_refl _)) (Nat.ne_of_lt (Nat.lt_succ_self _))
  have I2 := Inv.made (C := C) I
  have r2 : Vals (V.ref (s.heap.objs.size + 1) :: vs) (Value.ref (s.heap.objs.size + 1) :: us) := .cons rfl r
  have hl : (Value.ref (s.heap.objs.size + 1) :: us).length = ps.length := by
    have e := r2.length
    rw [F.len _ _ _ _ hq] at e
    exact e.symm
  have b := hb _ (Value.ref (s.heap.objs.size + 1) :: us) I2.kIn (by rw [List.append_nil]; exact hl)
  rw [List.append_nil] at b
  refine wpAny_call (make_map (f := f) I.kIn M.makes M.init (beq_iff_eq.mp M.fn) (codeAny_mono (F.run _ X.stack _ _ ⟨Value.ref (s.heap.objs.size + 1) :: us, []⟩ (Value.ref (s.heap.objs.size + 1) :: us) _ _ (E σ) (hr.make C us [])
    (I2.env0.make C us []) b r2 hq) fun r s' hq' => ?_))
  cases r with
  | error e => exact hx pins _ _ e s' I2 hq'
  | ok fl =>
    cases fl with
    | ret u =>
      obtain ⟨v, H', I3, rv, ev, q3⟩ := I2.after hq'
      subst ev
      exact ⟨rv, ⟨V.ref (s.heap.objs.size + 1), H', I3, rfl, q3⟩⟩
    | next => exact False.elim hq'
    | brk => exact False.elim hq'
    | cont => exact False.elim hq'
theorem pe_makeS (M : Mk X.K C f) (F : FnOk X.prog X.w X.K X.mg X.base CX k f fd ps sp) (hr : Room (k + 1) X.A) (hg : Gl X x) (hm : X.mg x = some (.ref C)) (hb : Binds X.K fd ps []) (hx : ∀ σ, PassesAt CX X σ (E σ))
    (ha : PA X (e :: es) t) (hdb : (x == ("__debug__" : Str)) = false := by decide) (he : starEach (e :: es) X.env = (false, eval e X.env) :: starEach es X.env := by rfl) (hpl : (backTo pos (starEach es X.env)).any (·.1) = false := by rfl) :
    PE X (.Call (.Name x p) (e :: es) [] pos) (tMakeS C sp E t) := by
  refine ⟨fun pins s σ H Q I h => ?_⟩
  refine wpAny_Call_Name_kw (ld_glob I hg hm ?_ hdb)
  refine PySem.W.callWith_K (h₀ := X.base) I.ok.mod.kin M.kp (thn (ha.run pos pins s σ H _ I h) fun us s1 ⟨vs, H1, I1, r, q⟩ => ⟨I1.kIn, ?_⟩) he hpl
  exact run_makeS M F hr hb (hx σ) I1 r q
end
end L2
namespace Z
open PySem L2
open Rep (rep)
/-- an error's dict, by the fields of the classes -/
def XD (fld : Str → Option Str) (F : Hp) (e : Exn) (d : Option Addr) : Prop :=
  match fld e.cls with
  | none => d = none
  | some f => ∃ a, d = some a ∧ F a = some (.xd [(f, .int e.arg)])
section
variable {fld : Str → Option Str} {F F' H H' : Hp} {e : Exn} {d : Option Addr} {K : Fg}
theorem XD.mono (s : Same F F') (h : XD fld F e d) : XD fld F' e d := by
  unfold XD at h ⊢
  cases q : fld e.cls with
  | none => rw [q] at h; exact h
  | some f =>
    rw [q] at h
    obtain ⟨a, e1, e2⟩ := h
    exact ⟨a, e1, s _ _ e2⟩
theorem XD.dict (h : XD fld F e d) (s : Same F H) : d = none ∨ ∃ dd fs, d = some dd ∧ H dd = some (.xd fs) := by
  unfold XD at h
  cases q : fld e.cls with
  | none => rw [q] at h; exact .inl h
  | some f =>
    rw [q] at h
    obtain ⟨a, e1, e2⟩ := h
    exact .inr ⟨a, _, e1, s _ _ e2⟩
theorem XD.at {f : Str} (h : XD fld F e d) (q : fld e.cls = some f) : ∃ dd, d = some dd ∧ F dd = some (.xd [(f, .int e.arg)]) := by
  unfold XD at h
  rw [q] at h
  exact h
theorem XD.no (q : fld e.cls = none) : XD fld F e none := by
  unfold XD
  rw [q]
/-- what a call that lets an error out leaves -/
def RetXD (fld : Str → Option Str) (K : Fg) (F : Hp) (os : List (Addr × HO)) (E : XK) : Exn → Prop := fun e => ∀ C d F' H', Nm K e.cls C → W F' H' os → Same F F' → XD fld F' e d → E (.ref C) d H'
/-- an error of a class with a field -/
def raiseX {α : Type} (x : Str) (i : Int) : R α := .exc ⟨x, i⟩
theorem post_raiseX {α : Type} {x : Str} {i : Int} {P : α → Prop} {E : Exn → Prop} (h : Post (raiseX x i : R α) P E) : E ⟨x, i⟩ := h
/-- its field -/
def xarg (x : Str) (e : Exn) : R Int := if e.cls = x then .ok e.arg else .bad
theorem pb_xarg {δ : Type} {x : Str} {e : Exn} {f : Int → R δ} {P : δ → Prop} {E : Exn → Prop} (h : Post (xarg x e >>= f) P E) : e.cls = x ∧ Post (f e.arg) P E := by
  unfold xarg at h
  by_cases c : e.cls = x
  · rw [if_pos c] at h
    exact ⟨c, h⟩
  · rw [if_neg c] at h
    exact (show False from h).elim
/-- the __init__ of such a class: it asks its base's, then it keeps what it is given -/
def spXI (C : Addr) (f : Str) : Sp := fun vs H Q E => ∃ (a : Addr) (p : Int), vs = [.ref a, .int p] ∧ H a = some (exo a C none) ∧ ∀ dx, H dx = none → dx ≠ a → Q .non (upd (upd H dx (exd dx [(f, .int p)])) a (exo a C (some dx)))
/-- a class of the text that errors of one's own are made of -/
structure XI (K : Fg) (C fI : Addr) (f : Str) : Prop where
  ox : OexC K C
  ini : PySem.W.findIn K (.ref C) "__init__" = some (some (.ref fI))
  tI : PySem.W.typeIn K (.ref fI) = some (.type "function")
  no : PySem.W.findIn K (.ref C) f = some none
  xf : XfC K C
structure XCf (K : Fg) (mg : Str → Option Value) (x : Str) (C : Addr) : Prop where
  ns : Nm K x C
  gm : mg x = some (.ref C)
  kp : PySem.W.keepIn K (.ref C) = true
  b : PySem.W.subIn K (.ref C) (.type "BaseException") = some true
  t : PySem.W.typeIn K (.ref C) = some (.type "type")
  ex : ExcC K C
theorem raise_xd {os : List (Addr × HO)} {E : XK} {F0 : Hp} {C : Addr} {f : Str} {p : Int} (w : W F H os) (sF : Same F0 F) (hm : RetXD fld K F0 os E e) (nC : Nm K e.cls C) (hf : fld e.cls = some f) (hp : e.arg = p) (a : Addr) (na : H a = none) :
    spXI C f (.ref a :: ([.int p] ++ [])) (upd H a (exo a C none)) (fun v H2 => v = .non ∧ ∃ (d : Addr) (fs : List (Str × V)), H2 a = some (exo a C (some d)) ∧ H2 d = some (exd d fs) ∧ H d = none ∧ E (.ref C) (some d) (upd (del H2 a) d (.xd fs))) (fun _ _ _ => False) := by
  refine ⟨a, p, rfl, upd_same, fun dx nd ne => ⟨rfl, dx, [(f, .int p)], upd_same, ?_, ?_, ?_⟩⟩
  · rw [upd_ne ne, upd_same]
  · rw [upd_ne ne] at nd
    exact nd
  · rw [upd_ne ne] at nd
    have eH : upd (del (upd (upd (upd H a (exo a C none)) dx (exd dx [(f, .int p)])) a (exo a C (some dx))) a) dx (.xd [(f, .int p)]) = upd H dx (.xd [(f, .int p)]) := by
      funext b
      by_cases hb : b = dx
      · rw [hb, upd_same, upd_same]
      · rw [upd_ne hb, upd_ne hb]
        by_cases ha : b = a
        · rw [ha, del_same, na]
        · rw [del_ne ha, upd_ne ha, upd_ne hb, upd_ne ha]
    rw [eH]
    refine hm C (some dx) (upd F dx (.xd [(f, .int p)])) _ nC (w.frz nd) (sF.trans (w.frzS nd)) ?_
    unfold XD
    rw [hf]
    exact ⟨dx, rfl, by rw [upd_same, hp]⟩
end
end Z
/-! ZL: errors of own classes as values: made, held, asked for their class and their field -/
namespace L2
open PySem PySem.Spec PyProof.Rows ClX
/-- an error at a, of the class D; its one field, if it has one -/
def EvH (H : Hp) (a D : Addr) (fn : Option Str) (v : V) : Prop := match fn with
  | none => H a = some (ExH (.ref D) a)
  | some f => ∃ dd, H a = some (exo a D (some dd)) ∧ H dd = some (exd dd [(f, v)])
section
variable {X : Cx}
theorem evh_inst {pins : List (Addr × Obj)} {σ : St} {H : Hp} {s : Shared} {a D : Addr} {fn : Option Str} {v : V} (I : Inv X pins σ H s) (h : EvH H a D fn v) : ∃ oe od, PySem.W.InstAt s.heap a oe D od := by
  cases fn with
  | none =>
    obtain ⟨⟨oe, hget, ⟨h1, h2⟩, vs, hv⟩, _, _⟩ := I.hok a _ h
    obtain ⟨oc, od, oda, osl⟩ := oe
    dsimp only at h1 h2 hv
    subst h1 h2 hv
    exact ⟨_, none, hget, rfl, rfl, trivial⟩
  | some f =>
    obtain ⟨dd, h1, h2⟩ := h
    obtain ⟨t1, ho⟩ := exo_at I.hok h1
    obtain ⟨mA, hns, _⟩ := exd_at I.hok h2
    obtain ⟨od, hod, _⟩ := lookIn_ns hns
    exact ⟨_, some od, ho, rfl, rfl, hod⟩
/-- isinstance(e, c) of such an error, c one class -/
theorem call_isV {K : PySem.W.Frag} (hK : X.K = K) : CallR X (.builtin "isinstance") (fun xs H Q => ∃ (D a : Addr) (fn : Option Str) (v : V) (c : V) (cv : Value) (b : Bool), ExcC K D ∧ xs = [.ref a, c] ∧ EvH H a D fn v ∧ (∀ u, RelV c u → u = cv) ∧ PySem.W.kitOne K (.ref D) cv = some b ∧ Q (.bl b) H) := by
  subst hK
  intro pins s σ H xs us Q I r ⟨D, a, fn, v, c, cv, b, C, exs, hv, hcv, e, q⟩
  subst exs
  cases r with
  | cons rx rr =>
    cases rr with
    | cons rt rr =>
      cases rr
      cases rx
      obtain ⟨cdD, hcD, _⟩ := PySem.W.any_some C.hd
      obtain ⟨oe, od, J⟩ := evh_inst I hv
      have Z := PySem.W.kitx_exc (x := a) (ox := oe) (od := od) (C := D) (K := X.K) (by rw [hcD]; rfl) C.hg C.hk C.hs C.ha C.hn C.ht C.hm
      have fin : ∀ tk, EP X pins σ Q (.bool b) { s with toks := tk } := fun tk => ⟨.bl b, H, I.kept (t' := tk) fun _ _ z => z, rfl, q⟩
      have ec := hcv _ rt
      subst ec
      exact PySem.W.kia_one Z I.kIn J e (fun z => nomatch z) fin
/-- C(e), C an own class without an __init__ of its own -/
theorem pe_excV {C : Addr} {bmB : List Value} {B newId initId : String} {x : Str} {e : Expr} {ta : TE} {p pos : Pos} (F : ExcBaseFacts B newId initId bmB) (q : PySem.W.excIn X.K C bmB newId = true) (gC : X.mg x = some (.ref C)) (kC : PySem.W.keepIn X.K (.ref C) = true) (hg : Gl X x)
    (he : PE X e ta) (hs : starEach [e] X.env = (false, eval e X.env) :: starEach [] X.env := by rfl) (hdb : (x == ("__debug__" : Str)) = false := by decide) :
    PE X (.Call (.Name x p) [e] [] pos) (fun σ H Q => ta σ H fun _ H1 => ∀ a, H1 a = none → Q (.ref a) (upd H1 a (ExH (.ref C) a))) := by
  refine ⟨fun pins s σ H Q I h => ?_⟩
  refine wpAny_Call_Name_kw (ld_glob I hg gC ?_ hdb)
  refine PySem.W.callWith_K (h₀ := X.base) I.ok.mod.kin kC ?_ hs (by rfl)
  rw [hs]
  show wpAny _ _ (spliced ((false, eval e X.env) :: backTo pos (starEach [] X.env))) _ _ s
  refine Calls.spliced_cons (thn (he.run pins s σ H _ I h) fun u s1 ⟨v, H1, I1, r1, q1⟩ => ?_)
  refine Calls.spliced_nil ⟨I1.kIn, ?_⟩
  show wpAny _ _ (call (.ref C) [u]) _ _ _
  obtain ⟨bm, N, nm, qn, bs, hdct, sn, sub, ab, col, dd, k0, k1, k2, k3, k5, mN, hC, hN, hni, T⟩ := exc_obj I1.kIn q
  refine wpAny_call_exc_subT F T hC hN hni (fun h' a hm => ?_) (by show 1 ≤ sizeLine; rw [sizeLine_eq]; omega)
  have hn : H1 a = none := I1.hok.gone hm.new
  obtain ⟨t, ht, _, _⟩ := hm.there
  exact ⟨.ref a, upd H1 a (ExH (.ref C) a), I1.laidN hm.keeps hm.new hn (exH_ok ht ⟨rfl, rfl⟩ ⟨_, rfl⟩), rfl, q1 a hn⟩
/-- C(e, ..), C's own __init__ keeping sp, as a value -/
def tMkV (C : Addr) (sp : Sp) (ta : TA) : TE := fun σ H Q => ta σ H fun vs H1 => vs.length ≤ 1000 ∧ ∀ a, H1 a = none → sp (.ref a :: vs) (upd H1 a (exo a C none)) (fun v H2 => v = .non ∧ Q (.ref a) H2) (fun _ _ _ => False)
theorem pe_oexV {CX : CXT} {x : Str} {C fI : Addr} {k : Nat} {fd : FuncData} {ps : List Str} {sp : Sp} {e : Expr} {es : List Expr} {ta : TA} {p pos : Pos} (T : OexC X.K C) (iC : PySem.W.findIn X.K (.ref C) "__init__" = some (some (.ref fI))) (tI : PySem.W.typeIn X.K (.ref fI) = some (.type "function"))
    (F1 : FnOk X.prog X.w X.K X.mg X.base CX k fI fd ps sp) (hr : Room (k + 1) X.A) (hb : Binds X.K fd ps []) (hx : Passes CX X (fun _ _ _ => False)) (hg : Gl X x) (hm : X.mg x = some (.ref C)) (ha : PA X (e :: es) ta)
    (hdb : (x == ("__debug__" : Str)) = false := by decide) (he : starEach (e :: es) X.env = (false, eval e X.env) :: starEach es X.env := by rfl) (hpl : (backTo pos (starEach es X.env)).any (·.1) = false := by rfl) :
    PE X (.Call (.Name x p) (e :: es) [] pos) (tMkV C sp ta) := by
  refine ⟨fun pins s σ H Q I h => ?_⟩
  obtain ⟨nm, q, N, bs, bm, sn, sub, ab, col, dd, k0, k1, k2, k3, k5, hC, hbm⟩ := T.cls
  refine wpAny_Call_Name_kw (ld_glob I hg hm ?_ hdb)
  refine PySem.W.callWith_K (h₀ := X.base) I.ok.mod.kin T.kC (thn (ha.run pos pins s σ H _ I h) fun us s1 ⟨vs, H1, I1, r1, hz, q1⟩ => ⟨I1.kIn, ?_⟩) he hpl
  show wpAny _ _ (call (.ref C) us) _ _ _
  obtain ⟨hp, g, dr, tk, os⟩ := s1
  have hsz : hp.objs.size ≤ hp.objs.size + 1 := Nat.le_succ _
  have hn : H1 (hp.objs.size + 1) = none := I1.hok.fresh hsz
  have hq := q1 (hp.objs.size + 1) hn
  have kk : ∀ b o, hp.get? b = some o → ((hp.push (PySem.W.kdv_tup us)).push (PySem.HandSPX.excO C hp.objs.size)).get? b = some o := fun b o e => Heap.get?_push_of_some _ (Heap.get?_push_of_some _ e)
  have hget : ((hp.push (PySem.W.kdv_tup us)).push (PySem.HandSPX.excO C hp.objs.size)).get? (hp.objs.size + 1) = some (PySem.HandSPX.excO C hp.objs.size) := by heap_get
  have I2 : Inv X pins σ (upd H1 (hp.objs.size + 1) (exo (hp.objs.size + 1) C none)) ⟨(hp.push (PySem.W.kdv_tup us)).push (PySem.HandSPX.excO C hp.objs.size), g, dr, tk, os⟩ :=
    I1.laid (t' := tk) (a := hp.objs.size + 1) (o := exo (hp.objs.size + 1) C none) (h' := (hp.push (PySem.W.kdv_tup us)).push (PySem.HandSPX.excO C hp.objs.size)) kk hsz (exo_ok hget)
  have r2 : Vals (V.ref (hp.objs.size + 1) :: vs) (Value.ref (hp.objs.size + 1) :: us) := .cons rfl r1
  have hl : (Value.ref (hp.objs.size + 1) :: us).length = ps.length := by
    have e := r2.length
    rw [F1.len _ _ _ _ hq] at e
    exact e.symm
  have hus : us.length ≤ sizeLine := by
    rw [← Paired.length r1, sizeLine_eq]
    omega
  have b := hb _ (Value.ref (hp.objs.size + 1) :: us) I2.kIn (by rw [List.append_nil]; exact hl)
  rw [List.append_nil] at b
  refine wpAny_call (PySem.HandSPX.call_own F.excBase_ValueError (fun Y => PySem.HandSPX.refsVE_contains Y bm hbm) (I1.kIn _ _ hC) (PySem.W.looks_findIn I1.kIn iC) (fun self => PySem.W.bind_fn I1.kIn self tI) hus
    (codeAny_mono (F1.run _ X.stack _ _ ⟨Value.ref (hp.objs.size + 1) :: us, []⟩ (Value.ref (hp.objs.size + 1) :: us) _ _ (fun _ _ _ => False) (hr.make C us []) (I2.env0.make C us []) b r2 hq) fun r s' hq' => ?_))
  cases r with
  | error er => exact hx pins σ _ _ er s' I2 hq'
  | ok fl =>
    cases fl with
    | ret u =>
      obtain ⟨v, H', I3, rv, ev, q3⟩ := I2.after hq'
      subst ev
      exact ⟨rv, ⟨V.ref (hp.objs.size + 1), H', I3, rfl, q3⟩⟩
    | next => exact False.elim hq'
    | brk => exact False.elim hq'
    | cont => exact False.elim hq'
/-- e.f of such an error -/
def tXfV (C : Addr) (f : Str) (te : TE) : TE := fun σ H Q => te σ H fun x H1 => ∃ (a dd : Addr) (v : V), x = .ref a ∧ H1 a = some (exo a C (some dd)) ∧ H1 dd = some (exd dd [(f, v)]) ∧ Q v H1
theorem pe_xfV {C : Addr} {e : Expr} {te : TE} {pos : Pos} {n : Str} (T : XfC X.K C) (hno : PySem.W.findIn X.K (.ref C) n = some none) (he : PE X e te) (hb : attributeBase e n X.env (eval e X.env) = eval e X.env := by rfl) :
    PE X (.Attribute e n pos) (tXfV C n te) := by
  refine ⟨fun pins s σ H Q I h => ?_⟩
  refine attr_of hb (thn (he.run pins s σ H _ I h) fun u s1 hh => ?_)
  obtain ⟨x, H1, I1, rx, a, dd, v, ex, ea, ed, q⟩ := hh
  subst ex
  obtain rfl : u = Value.ref a := rx
  obtain ⟨t1, ho⟩ := exo_at I1.hok ea
  obtain ⟨mA, hns, hr⟩ := exd_at I1.hok ed
  obtain ⟨od, hod, hl⟩ := lookIn_ns hns
  obtain ⟨u, hu, ru⟩ := RelO.some_of (v := v) (o := mA n) (by
    have := hr n
    rw [lookup_put, if_pos rfl] at this
    exact this)
  have J : PySem.W.InstAt s1.heap a _ C (some od) := ⟨ho, rfl, rfl, hod⟩
  exact HandSPX.exc_get I1.kIn J T.ga T.gg T.exC (PySem.W.findObj_own T.hdC hno rfl (by rw [hl, hu])) (handed_of ru) ⟨v, H1, I1.tok _, ru, q⟩
end
end L2
namespace Z
open PySem L2
open Rep (rep)
/-- an error as a value: its class, its field's name, if it has one, what the field holds -/
structure Ev where
  cls : Str
  fn : Option Str
  arg : Int
  deriving DecidableEq
theorem evH_mono {F F' : Hp} {a D : Addr} {fn : Option Str} {v : V} (s : Same F F') (h : EvH F a D fn v) : EvH F' a D fn v := by
  cases fn with
  | none => exact s _ _ h
  | some f =>
    obtain ⟨dd, h1, h2⟩ := h
    exact ⟨dd, s _ _ h1, s _ _ h2⟩
instance repEv : Rep Ev := ⟨fun K F v x => ∃ a C, v = .ref a ∧ Nm K x.cls C ∧ EvH F a C x.fn (.int x.arg), fun s ⟨a, C, h, n, q⟩ => ⟨a, C, h, n, evH_mono s q⟩⟩
section
variable {K : Fg} {F H : Hp} {os : List (Addr × HO)} {v : V} {x : Ev} {a dx C : Addr} {f : Str} {p : Int} {o1 o2 : HO}
def isV (names tn : List Str) (e : Ev) : R Bool := if e.cls ∈ names then .ok (decide (e.cls ∈ tn)) else .bad
theorem pb_isV {δ : Type} {names tn : List Str} {e : Ev} {f : Bool → R δ} {P : δ → Prop} {X : Exn → Prop} (h : Post (isV names tn e >>= f) P X) : e.cls ∈ names ∧ Post (f (decide (e.cls ∈ tn))) P X := by
  unfold isV at h
  by_cases c : e.cls ∈ names
  · rw [if_pos c] at h
    exact ⟨c, h⟩
  · rw [if_neg c] at h
    exact (show False from h).elim
def argV (c f : Str) (e : Ev) : R Int := if e.cls = c ∧ e.fn = some f then .ok e.arg else .bad
theorem pb_argV {δ : Type} {c f : Str} {e : Ev} {k : Int → R δ} {P : δ → Prop} {X : Exn → Prop} (h : Post (argV c f e >>= k) P X) : (e.cls = c ∧ e.fn = some f) ∧ Post (k e.arg) P X := by
  unfold argV at h
  by_cases q : e.cls = c ∧ e.fn = some f
  · rw [if_pos q] at h
    exact ⟨q, h⟩
  · rw [if_neg q] at h
    exact (show False from h).elim
theorem ev_at {c : Str} {D : Addr} (r : rep K F v x) (q : x.cls = c ∧ x.fn = some f) (n : Nm K c D) : ∃ a dd, v = .ref a ∧ F a = some (exo a D (some dd)) ∧ F dd = some (exd dd [(f, .int x.arg)]) := by
  obtain ⟨a, C, e, nC, h⟩ := r
  obtain ⟨q1, q2⟩ := q
  rw [q1] at nC
  cases nC.uniq n
  rw [q2] at h
  obtain ⟨dd, h1, h2⟩ := h
  exact ⟨a, dd, e, h1, h2⟩
theorem ev_is (r : rep K F v x) (s : Same F H) : ∃ a C, v = .ref a ∧ Nm K x.cls C ∧ EvH H a C x.fn (.int x.arg) := by
  obtain ⟨a, C, e, n, h⟩ := r
  exact ⟨a, C, e, n, evH_mono s h⟩
theorem spXI_val {Q : VK} {E : XK} (na : H a = none) (h : ∀ dx, H dx = none → dx ≠ a → Q .non (upd (upd H dx (exd dx [(f, .int p)])) a (exo a C (some dx)))) :
    spXI C f (.ref a :: [.int p]) (upd H a (exo a C none)) Q E := by
  refine ⟨a, p, rfl, upd_same, fun dx nd ne => ?_⟩
  rw [upd_ne ne] at nd
  have eH : upd (upd (upd H a (exo a C none)) dx (exd dx [(f, .int p)])) a (exo a C (some dx)) = upd (upd H dx (exd dx [(f, .int p)])) a (exo a C (some dx)) := by
    funext b
    by_cases hb : b = a
    · rw [hb, upd_same, upd_same]
    · rw [upd_ne hb, upd_ne hb]
      by_cases hd : b = dx
      · rw [hd, upd_same, upd_same]
      · rw [upd_ne hd, upd_ne hd, upd_ne hb]
  rw [eH]
  exact h dx nd ne
theorem W.frz2 (w : W F H os) (nd : H dx = none) (na : H a = none) (ne : dx ≠ a) : ∃ F', Same F F' ∧ W F' (upd (upd H dx o1) a o2) os ∧ F' a = some o2 ∧ F' dx = some o1 := by
  have w1 := w.frz (o := o1) nd
  have na' : upd H dx o1 a = none := by rw [upd_ne (Ne.symm ne)]; exact na
  exact ⟨_, (w.frzS nd).trans (w1.frzS na'), w1.frz (o := o2) na', upd_same, by rw [upd_ne ne, upd_same]⟩
end
end Z
/-! ZT: texts: glued, numbers written and read, joined, split, sign by sign -/
namespace Z
open PySem L2 PySem.Spec PyProof.Rows
open Rep (rep)
/-- one text behind another -/
@[irreducible] def txAdd (a b : Str) : R Str := if a.length + b.length ≤ 1000000 then .ok (a ++ b) else .bad
@[irreducible] def txNum (i : Int) : R Str := if i.natAbs.log2 < 1920 then .ok (Str.ofString (toString i)) else .bad
@[irreducible] def txJoin (a : Str) (ys : List Str) : R Str := if (ys.map (·.length)).sum + ys.length * a.length ≤ 1000000 then .ok (Txt.join a ys) else .bad
@[irreducible] def txSplit (a b : Str) : R (List Str) := if b.length ≠ 0 ∧ a.length ≤ 1000000 ∧ (Txt.split a b).length ≤ 1000000 then .ok (Txt.split a b) else .bad
@[irreducible] def txLen (a : Str) : R Int := if a.length ≤ 1000000 then .ok (a.length : Int) else .bad
@[irreducible] def txAt (a : Str) (i : Int) : R Str := if a.length ≤ 1000000 then (ofO (atI a.cps.toList i) >>= fun c => .ok ⟨#[c]⟩) else .bad
/-- the signs of a text -/
def signs (a : Str) : List Str := a.cps.toList.map fun c => ⟨#[c]⟩
/-- whether one sign is in a text -/
@[irreducible] def txIn (x a : Str) : R Bool := match x.cps.toList with
  | [c] => .ok (decide (c ∈ a.cps.toList))
  | _ => .bad
@[irreducible] def txInt (a : Str) : R Int := if a.length ≤ 640 then ofO (intText? a) else .bad
section
variable {δ : Type} {P : δ → Prop} {E : Exn → Prop}
theorem pb_txAdd {a b : Str} {f : Str → R δ} (h : Post (txAdd a b >>= f) P E) : a.length + b.length ≤ sizeLine ∧ Post (f (a ++ b)) P E := by
  unfold txAdd at h
  obtain ⟨c, h⟩ := pb_if h
  exact ⟨by rw [sizeLine_eq]; omega, h⟩
theorem pb_txNum {i : Int} {f : Str → R δ} (h : Post (txNum i >>= f) P E) : i.natAbs.log2 < 1920 ∧ Post (f (Str.ofString (toString i))) P E := by
  unfold txNum at h
  exact pb_if h
theorem pb_txJoin {a : Str} {ys : List Str} {f : Str → R δ} (h : Post (txJoin a ys >>= f) P E) : (ys.map (·.length)).sum + ys.length * a.length ≤ 16777216 ∧ Post (f (Txt.join a ys)) P E := by
  unfold txJoin at h
  obtain ⟨c, h⟩ := pb_if h
  exact ⟨by omega, h⟩
theorem pb_txSplit {a b : Str} {f : List Str → R δ} (h : Post (txSplit a b >>= f) P E) : ((b.length == 0) = false ∧ a.length + 2 ≤ sizeLine) ∧ Post (f (Txt.split a b)) P E := by
  unfold txSplit at h
  obtain ⟨⟨c1, c2, c3⟩, h⟩ := pb_if h
  exact ⟨⟨by simpa using c1, by rw [sizeLine_eq]; omega⟩, h⟩
theorem pb_txLen {a : Str} {f : Int → R δ} (h : Post (txLen a >>= f) P E) : a.length ≤ sizeLine ∧ Post (f (a.length : Int)) P E := by
  unfold txLen at h
  obtain ⟨c, h⟩ := pb_if h
  exact ⟨by rw [sizeLine_eq]; omega, h⟩
theorem pb_txAt {a : Str} {i : Int} {f : Str → R δ} (h : Post (txAt a i >>= f) P E) : ∃ c, a.length ≤ sizeLine ∧ atI a.cps.toList i = some c ∧ Post (f ⟨#[c]⟩) P E := by
  unfold txAt at h
  obtain ⟨c, h⟩ : a.length ≤ 1000000 ∧ Post ((ofO (atI a.cps.toList i) >>= fun c => R.ok (⟨#[c]⟩ : Str)) >>= f) P E := by
    by_cases q : a.length ≤ 1000000
    · rw [if_pos q] at h
      exact ⟨q, h⟩
    · rw [if_neg q] at h
      exact (show False from h).elim
  obtain ⟨x, e, h⟩ := pb_ofO (pb_assoc h)
  exact ⟨x, by rw [sizeLine_eq]; omega, e, h⟩
theorem pb_txIn {x a : Str} {f : Bool → R δ} (h : Post (txIn x a >>= f) P E) : ∃ c, x = ⟨#[c]⟩ ∧ Post (f (decide (c ∈ a.cps.toList))) P E := by
  unfold txIn at h
  obtain ⟨⟨l⟩⟩ := x
  match l, h with
  | [], h => exact (show False from h).elim
  | [c], h => exact ⟨c, rfl, h⟩
  | c :: d :: l, h => exact (show False from h).elim
theorem pb_txInt {a : Str} {f : Int → R δ} (h : Post (txInt a >>= f) P E) : ∃ n, (intText? a = some n ∧ a.length ≤ 640) ∧ Post (f n) P E := by
  unfold txInt at h
  by_cases q : a.length ≤ 640
  · rw [if_pos q] at h
    obtain ⟨n, e, h⟩ := pb_ofO h
    exact ⟨n, ⟨e, q⟩, h⟩
  · rw [if_neg q] at h
    exact (show False from h).elim
end
section
variable {K : Fg} {F : Hp}
theorem A2.of_strs : ∀ {ys : List Str}, A2 (rep K F) (ys.map V.str) ys
  | [] => .nil
  | y :: ys => .cons rfl A2.of_strs
/-- sign by sign -/
theorem tw_str {a : Str} : TW (Its a) (signs a) (fun _ => True) (fun b H x H' => H' = H ∧ x = .str b) := ⟨by
  have e : (signs a).length = a.cps.size := by
    unfold signs
    rw [List.length_map, Array.length_toList]
  rw [e]
  refine ⟨fun _ _ hi _ => hi, fun _ _ => Nat.le_refl _, fun i H x H' _ _ y => ?_⟩
  obtain ⟨e1, c, hc, e2⟩ := y
  refine ⟨⟨#[c]⟩, ?_, e1, e2⟩
  unfold signs
  rw [List.getElem?_map, Array.getElem?_toList, hc]
  rfl⟩
end
/-! ### where nothing is refused -/
theorem txAdd_ok {a b : Str} (h : a.length + b.length ≤ 1000000) : txAdd a b = R.ok (a ++ b) := by
  unfold txAdd
  rw [if_pos h]
/-- a number's text -/
def numS (i : Int) : Str := Str.ofString (toString i)
theorem numS_tl {i : Int} (h0 : 0 ≤ i) : TL.tl (numS i) = TL.numL i.toNat := by
  have := TL.tl_num i.toNat
  rw [show ((i.toNat : Nat) : Int) = i by omega] at this
  exact this
theorem numS_len {i : Int} (h0 : 0 ≤ i) (h1 : i < 1000) : (numS i).length ≤ 3 := by
  rw [TL.len_tl, numS_tl h0]
  exact TL.numL_len (by decide) (by omega)
theorem txNum_ok {i : Int} (h0 : 0 ≤ i) (h1 : i < 1000) : txNum i = R.ok (numS i) := by
  unfold txNum
  have : i.natAbs.log2 < 1920 := by
    by_cases z : i.natAbs = 0
    · rw [z]
      decide
    · exact Nat.lt_trans ((Nat.log2_lt z).mpr (show i.natAbs < 2 ^ 10 by omega)) (by decide)
  rw [if_pos this]
  rfl
theorem joinL_len (S : List Nat) : ∀ ps : List (List Nat), (TL.joinL S ps).length ≤ (ps.map (·.length)).sum + ps.length * S.length
  | [] => Nat.zero_le _
  | [p] => by
    show p.length ≤ p.length + 0 + 1 * S.length
    omega
  | p :: q :: r => by
    have ih := joinL_len S (q :: r)
    show (p ++ (S ++ TL.joinL S (q :: r))).length ≤ (p.length + ((q :: r).map (·.length)).sum) + ((q :: r).length + 1) * S.length
    rw [List.length_append, List.length_append, Nat.add_mul]
    omega
theorem join_len (a : Str) (ys : List Str) : (Txt.join a ys).length ≤ (ys.map (·.length)).sum + ys.length * a.length := by
  have h := joinL_len (TL.tl a) (ys.map TL.tl)
  rw [TL.len_tl, TL.join_eq, TL.tl_join]
  rw [List.map_map, List.length_map, ← TL.len_tl a] at h
  have e : ys.map ((fun x : List Nat => x.length) ∘ TL.tl) = ys.map (·.length) := List.map_congr_left fun y _ => (TL.len_tl y).symm
  rw [e] at h
  exact h
theorem sum_le {α : Type} {f : α → Nat} {b : Nat} : ∀ {ys : List α}, (∀ y ∈ ys, f y ≤ b) → (ys.map f).sum ≤ ys.length * b
  | [], _ => Nat.zero_le _
  | y :: ys, h => by
    have h1 := h y List.mem_cons_self
    have h2 := sum_le (ys := ys) fun z hz => h z (List.mem_cons_of_mem _ hz)
    show f y + (ys.map f).sum ≤ (ys.length + 1) * b
    rw [Nat.add_mul]
    omega
theorem txJoin_ok {a : Str} {ys : List Str} {b : Nat} (hb : ∀ y ∈ ys, y.length ≤ b) (h : ys.length * b + ys.length * a.length ≤ 1000000) : txJoin a ys = R.ok (Txt.join a ys) := by
  unfold txJoin
  have := sum_le (f := fun y : Str => y.length) hb
  rw [if_pos (by omega)]
theorem txSplit_ok {y : Str} {s : Nat} (ey : TL.tl y = [s]) (hk : y.cps.all (· < 256) = true) {ps : List Str} {b : Nat} (hne : ps ≠ []) (hp : ∀ p ∈ ps, s ∉ TL.tl p) (hb : ∀ p ∈ ps, p.length ≤ b) (h : ps.length * b + ps.length ≤ 1000000) : txSplit (Txt.join y ps) y = R.ok ps := by
  have e := TL.split_join ey hk hne hp
  have hl := join_len y ps
  have hs := sum_le (f := fun y : Str => y.length) hb
  have hy : y.length = 1 := by rw [TL.len_tl, ey]; rfl
  rw [hy] at hl
  unfold txSplit
  rw [e, if_pos ⟨by omega, by omega, by omega⟩]
theorem txLen_ok {a : Str} (h : a.length ≤ 1000000) : txLen a = R.ok (a.length : Int) := by
  unfold txLen
  rw [if_pos h]
theorem txAt_ok {a : Str} {i : Int} {c : Nat} (h : a.length ≤ 1000000) (e : atI a.cps.toList i = some c) : txAt a i = R.ok ⟨#[c]⟩ := by
  unfold txAt
  rw [if_pos h, e]
  rfl
theorem txIn_ok (c : Nat) (a : Str) : txIn ⟨#[c]⟩ a = R.ok (decide (c ∈ a.cps.toList)) := by
  unfold txIn
  rfl
theorem txInt_ok {i : Int} (h0 : 0 ≤ i) (h1 : i < 1000) : txInt (numS i) = R.ok i := by
  unfold txInt
  have hl := numS_len h0 h1
  rw [if_pos (by omega)]
  have e := TL.int_num (n := i.toNat) (by rw [← numS_tl h0, ← TL.len_tl]; omega)
  rw [show ((i.toNat : Nat) : Int) = i by omega] at e
  show ofO (intText? (Str.ofString (toString i))) = _
  rw [e]
  rfl
theorem numL_lead (n : Nat) : ∀ l, TL.numL n = 48 :: l → n = 0 := by
  induction n using Nat.strongRecOn with
  | _ n ih =>
    intro l e
    by_cases h : n < 10
    · rw [TL.numL_lt h] at e
      injection e with e1 _
      omega
    · rw [TL.numL_step (by omega)] at e
      cases q : TL.numL (n / 10) with
      | nil => exact absurd q (TL.numL_ne _)
      | cons c r =>
        rw [q] at e
        injection e with e1 _
        rw [e1] at q
        have := ih (n / 10) (by omega) r q
        omega
end Z
/-! ZM: lemmas about mirrors -/
namespace Z
open PySem L2
section
variable {α β γ : Type}
theorem foldR_inv {f : β → α → R β} (I : β → Prop) : ∀ {xs : List α} {s : β}, I s → (∀ s x, I s → x ∈ xs → ∃ s', f s x = R.ok s' ∧ I s') → ∃ s', foldR f s xs = R.ok s' ∧ I s'
  | [], s, h, _ => ⟨s, rfl, h⟩
  | x :: xs, s, h, hf => by
    obtain ⟨s', e, h'⟩ := hf s x h List.mem_cons_self
    obtain ⟨s2, e2, h2⟩ := foldR_inv I (xs := xs) (s := s') h' fun s y hs hy => hf s y hs (List.mem_cons_of_mem _ hy)
    exact ⟨s2, by show (f s x >>= fun s' => foldR f s' xs) = _; rw [e]; exact e2, h2⟩
/-- with how many items are gone through -/
theorem foldR_invN {f : β → α → R β} (I : Nat → β → Prop) : ∀ {xs : List α} {n : Nat} {s : β}, I n s → (∀ n s x, I n s → x ∈ xs → ∃ s', f s x = R.ok s' ∧ I (n + 1) s') → ∃ s', foldR f s xs = R.ok s' ∧ I (n + xs.length) s'
  | [], n, s, h, _ => ⟨s, rfl, h⟩
  | x :: xs, n, s, h, hf => by
    obtain ⟨s', e, h'⟩ := hf n s x h List.mem_cons_self
    obtain ⟨s2, e2, h2⟩ := foldR_invN I (xs := xs) (n := n + 1) (s := s') h' fun n s y hs hy => hf n s y hs (List.mem_cons_of_mem _ hy)
    refine ⟨s2, by show (f s x >>= fun s' => foldR f s' xs) = _; rw [e]; exact e2, ?_⟩
    rw [List.length_cons, show n + (xs.length + 1) = n + 1 + xs.length by omega]
    exact h2
theorem foldX_inv {ρ : Type} {f : β → α → R (Sum ρ (Bool × β))} (I : β → Prop) : ∀ {xs : List α} {s : β}, I s → (∀ s x, I s → x ∈ xs → ∃ s', f s x = R.ok (.inr (true, s')) ∧ I s') → ∃ s', foldX f s xs = R.ok (.inr s') ∧ I s'
  | [], s, h, _ => ⟨s, rfl, h⟩
  | x :: xs, s, h, hf => by
    obtain ⟨s', e, h'⟩ := hf s x h List.mem_cons_self
    obtain ⟨s2, e2, h2⟩ := foldX_inv I (xs := xs) (s := s') h' fun s y hs hy => hf s y hs (List.mem_cons_of_mem _ hy)
    refine ⟨s2, ?_, h2⟩
    show (f s x >>= fun r => match r with
      | .inl z => R.ok (.inl z)
      | .inr (true, s') => foldX f s' xs
      | .inr (false, s') => R.ok (.inr s')) = _
    rw [e]
    exact e2
/-- a search that never ends the whole -/
theorem foldX_unit {ρ : Type} {f : Unit → α → R (Sum ρ (Bool × Unit))} {xs : List α} (hf : ∀ x ∈ xs, f () x = R.ok (.inr (true, ()))) : foldX f () xs = R.ok (.inr ()) := by
  obtain ⟨s, e, _⟩ := foldX_inv (fun _ => True) (f := f) (xs := xs) (s := ()) trivial fun s x _ hx => ⟨(), hf x hx, trivial⟩
  exact e
theorem mapR_ok {f : α → R β} {g : α → β} : ∀ {xs : List α}, (∀ x ∈ xs, f x = R.ok (g x)) → mapR f xs = R.ok (xs.map g)
  | [], _ => rfl
  | x :: xs, h => by
    show (f x >>= fun y => mapR f xs >>= fun ys => R.ok (y :: ys)) = _
    rw [h x List.mem_cons_self, mapR_ok fun y hy => h y (List.mem_cons_of_mem _ hy)]
    rfl
theorem mapG_ok {f : α → R β} {g : α → β} {xs : List α} (hl : xs.length < 100000) (h : ∀ x ∈ xs, f x = R.ok (g x)) : mapG f xs = R.ok (xs.map g) := by
  unfold mapG
  rw [grd_t (decide_eq_true hl)]
  exact mapR_ok h
theorem mapR_ex {f : α → R β} (p : β → Prop) : ∀ {xs : List α}, (∀ x ∈ xs, ∃ y, f x = R.ok y ∧ p y) → ∃ ys, mapR f xs = R.ok ys ∧ ys.length = xs.length ∧ ∀ y ∈ ys, p y
  | [], _ => ⟨[], rfl, rfl, fun _ h => nomatch h⟩
  | x :: xs, h => by
    obtain ⟨y, e, hy⟩ := h x List.mem_cons_self
    obtain ⟨ys, e2, hl, hp⟩ := mapR_ex p fun y hy => h y (List.mem_cons_of_mem _ hy)
    refine ⟨y :: ys, ?_, by rw [List.length_cons, List.length_cons, hl], fun z hz => ?_⟩
    · show (f x >>= fun y => mapR f xs >>= fun ys => R.ok (y :: ys)) = _
      rw [e, e2]
      rfl
    · rcases List.mem_cons.mp hz with rfl | hz
      · exact hy
      · exact hp z hz
theorem mapG_ex {f : α → R β} (p : β → Prop) {xs : List α} (hl : xs.length < 100000) (h : ∀ x ∈ xs, ∃ y, f x = R.ok y ∧ p y) : ∃ ys, mapG f xs = R.ok ys ∧ ys.length = xs.length ∧ ∀ y ∈ ys, p y := by
  unfold mapG
  rw [grd_t (decide_eq_true hl)]
  exact mapR_ex p h
theorem filR_ok {f : α → R (Option β)} {g : α → Option β} : ∀ {xs : List α}, (∀ x ∈ xs, f x = R.ok (g x)) → filR f xs = R.ok (xs.filterMap g)
  | [], _ => rfl
  | x :: xs, h => by
    show (f x >>= fun o => filR f xs >>= fun ys => match o with
      | some y => R.ok (y :: ys)
      | none => R.ok ys) = _
    rw [h x List.mem_cons_self, filR_ok fun y hy => h y (List.mem_cons_of_mem _ hy)]
    show (match g x with
      | some y => R.ok (y :: xs.filterMap g)
      | none => R.ok (xs.filterMap g)) = R.ok ((x :: xs).filterMap g)
    rw [List.filterMap_cons]
    cases g x <;> rfl
theorem filG_ok {f : α → R (Option β)} {g : α → Option β} {xs : List α} (hl : xs.length < 100000) (h : ∀ x ∈ xs, f x = R.ok (g x)) : filG f xs = R.ok (xs.filterMap g) := by
  unfold filG
  rw [grd_t (decide_eq_true hl)]
  exact filR_ok h
theorem getI_nat {xs : List α} {i : Int} (h0 : 0 ≤ i) (h1 : i < xs.length) : ∃ x, getI xs i = R.ok x ∧ x ∈ xs ∧ xs[i.toNat]? = some x := by
  have hj : i.toNat < xs.length := by omega
  refine ⟨xs[i.toNat], ?_, List.getElem_mem hj, List.getElem?_eq_getElem hj⟩
  unfold getI
  have e : atI xs i = some xs[i.toNat] := by
    have := atI_nat (xs := xs) (j := i.toNat) (v := xs[i.toNat]) (List.getElem?_eq_getElem hj)
    rw [Int.toNat_of_nonneg h0] at this
    exact this
  rw [e]
  rfl
theorem getI_eq {xs : List α} {i : Int} {x : α} (h0 : 0 ≤ i) (h : xs[i.toNat]? = some x) : getI xs i = R.ok x := by
  have h1 := (List.getElem?_eq_some_iff.mp h).1
  obtain ⟨y, e, _, e2⟩ := getI_nat (xs := xs) (i := i) h0 (by omega)
  rw [h] at e2
  cases e2
  exact e
theorem getI_last {xs : List α} (x : α) : getI (xs ++ [x]) (-1) = R.ok x := by
  unfold getI
  rw [atI_last]
  rfl
theorem setI_nat {xs : List α} {i : Int} {x : α} (h0 : 0 ≤ i) (h1 : i < xs.length) : setI xs i x = R.ok (xs.set i.toNat x) := by
  have e : ixN xs.length i = some i.toNat := by
    unfold ixN
    rw [if_pos h0, if_pos h1]
  unfold setI
  rw [e]
theorem app_ok {xs : List α} {x : α} (h : xs.length < 100000) : app xs x = R.ok (xs ++ [x]) := by
  unfold app
  rw [if_pos h]
theorem extend_ok {xs ys : List α} (h : xs.length + ys.length < 100000) : extend xs ys = R.ok (xs ++ ys) := by
  unfold extend
  rw [if_pos h]
theorem modI_ok {i j : Int} (h : 0 < j) : modI i j = R.ok (i % j) := by
  unfold modI
  rw [if_pos h]
theorem divI_okW {i j : Int} (h : 0 < j) (h2 : j.natAbs.log2 < 9000) : divI i j = R.ok (i / j) := by
  unfold divI
  rw [if_pos ⟨h, h2⟩]
theorem divI_ok {i j : Int} (h : 0 < j) (h2 : j < 1073741824) : divI i j = R.ok (i / j) := by
  refine divI_okW h (Nat.lt_of_lt_of_le ((Nat.log2_lt (by omega)).mpr (show j.natAbs < 2 ^ 30 by omega)) (by decide))
theorem mulI_ok {i j : Int} (h : (-(2 ^ 64) < i ∧ i < 2 ^ 64) ∨ (-(2 ^ 64) < j ∧ j < 2 ^ 64)) : mulI i j = R.ok (i * j) := by
  unfold mulI
  rw [if_pos h]
theorem rngI_ok {i j : Int} (h1 : -(2 ^ 62) ≤ i) (h2 : i < 2 ^ 62) (h3 : -(2 ^ 62) ≤ j) (h4 : j < 2 ^ 62) : rngI i j = R.ok (rng i j) := by
  unfold rngI
  rw [if_pos ⟨h1, h2, h3, h4⟩]
theorem rng_mem {i j k : Int} : k ∈ rng i j ↔ i ≤ k ∧ k < j := by
  unfold rng
  rw [List.mem_map]
  constructor
  · rintro ⟨n, hn, rfl⟩
    have := List.mem_range.mp hn
    omega
  · intro h
    exact ⟨(k - i).toNat, List.mem_range.mpr (by omega), by omega⟩
/-! ### what holds of a result, step by step -/
section
variable {P Q : α → Prop} {S : β → Prop} {X : Exn → Prop}
theorem po_bind {m : R α} {k : α → R β} (h : Post m Q X) (hk : ∀ a, Q a → Post (k a) S X) : Post (m >>= k) S X := by
  cases m with
  | ok a => exact hk a h
  | exc e => exact h
  | bad => exact h
theorem po_ok {a : α} (h : P a) : Post (R.ok a) P X := h
theorem po_eq {m : R α} {a : α} (h : m = R.ok a) (hp : P a) : Post m P X := by
  rw [h]
  exact hp
theorem po_if {c : Prop} [Decidable c] {m n : R α} (h1 : c → Post m P X) (h2 : ¬ c → Post n P X) : Post (if c then m else n) P X := by
  by_cases h : c
  · rw [if_pos h]
    exact h1 h
  · rw [if_neg h]
    exact h2 h
theorem po_ex {m : R α} (h : Post m P noX) : ∃ a, m = R.ok a ∧ P a := by
  cases m with
  | ok a => exact ⟨a, rfl, h⟩
  | exc e => exact (show False from h).elim
  | bad => exact (show False from h).elim
theorem po_iff {m : R α} {a : α} (h : Post m (· = a) noX) : m = R.ok a := by
  obtain ⟨b, e, rfl⟩ := po_ex h
  exact e
theorem po_grd {b : Bool} {k : Unit → R β} (h : b = true) (hk : Post (k ()) S X) : Post (grd b >>= k) S X := by
  rw [grd_t h]
  exact hk
theorem po_get {xs : List α} {i : Int} {k : α → R β} (h0 : 0 ≤ i) (h1 : i < xs.length) (hk : ∀ x, x ∈ xs → xs[i.toNat]? = some x → Post (k x) S X) : Post (getI xs i >>= k) S X := by
  obtain ⟨x, e, h2, h3⟩ := getI_nat h0 h1
  rw [e]
  exact hk x h2 h3
theorem po_getE {xs : List α} {i : Int} {x : α} {k : α → R β} (h : getI xs i = R.ok x) (hk : Post (k x) S X) : Post (getI xs i >>= k) S X := by
  rw [h]
  exact hk
theorem po_last {xs : List α} {k : α → R β} (h : xs ≠ []) (hk : ∀ x, x ∈ xs → Post (k x) S X) : Post (getI xs (-1) >>= k) S X := by
  obtain ⟨ys, y, rfl⟩ : ∃ ys y, xs = ys ++ [y] := ⟨xs.dropLast, xs.getLast h, (List.dropLast_concat_getLast h).symm⟩
  rw [getI_last]
  exact hk y (List.mem_append_right _ List.mem_cons_self)
theorem po_set {xs : List α} {i : Int} {x : α} {k : List α → R β} (h0 : 0 ≤ i) (h1 : i < xs.length) (hk : Post (k (xs.set i.toNat x)) S X) : Post (setI xs i x >>= k) S X := by
  rw [setI_nat h0 h1]
  exact hk
theorem po_app {xs : List α} {x : α} {k : List α → R β} (h : xs.length < 100000) (hk : Post (k (xs ++ [x])) S X) : Post (app xs x >>= k) S X := by
  rw [app_ok h]
  exact hk
theorem po_extend {xs ys : List α} {k : List α → R β} (h : xs.length + ys.length < 100000) (hk : Post (k (xs ++ ys)) S X) : Post (extend xs ys >>= k) S X := by
  rw [extend_ok h]
  exact hk
theorem po_mod {i j : Int} {k : Int → R β} (h : 0 < j) (hk : 0 ≤ i % j → i % j < j → Post (k (i % j)) S X) : Post (modI i j >>= k) S X := by
  rw [modI_ok h]
  exact hk (Int.emod_nonneg _ (by omega)) (Int.emod_lt_of_pos _ h)
theorem po_div {i j : Int} {k : Int → R β} (h : 0 < j) (h2 : j < 1073741824) (hk : Post (k (i / j)) S X) : Post (divI i j >>= k) S X := by
  rw [divI_ok h h2]
  exact hk
theorem po_divW {i j : Int} {k : Int → R β} (h : 0 < j) (h2 : j.natAbs.log2 < 9000) (hk : Post (k (i / j)) S X) : Post (divI i j >>= k) S X := by
  rw [divI_okW h h2]
  exact hk
theorem po_mul {i j : Int} {k : Int → R β} (h : (-(2 ^ 64) < i ∧ i < 2 ^ 64) ∨ (-(2 ^ 64) < j ∧ j < 2 ^ 64)) (hk : Post (k (i * j)) S X) : Post (mulI i j >>= k) S X := by
  rw [mulI_ok h]
  exact hk
theorem po_rng {i j : Int} {k : List Int → R β} (h1 : -(2 ^ 62) ≤ i) (h2 : i < 2 ^ 62) (h3 : -(2 ^ 62) ≤ j) (h4 : j < 2 ^ 62) (hk : Post (k (rng i j)) S X) : Post (rngI i j >>= k) S X := by
  rw [rngI_ok h1 h2 h3 h4]
  exact hk
theorem po_fold {f : β → α → R β} {s : β} {xs : List α} (I : β → Prop) (h0 : I s) (hf : ∀ s x, I s → x ∈ xs → Post (f s x) I X) : Post (foldR f s xs) I X := by
  induction xs generalizing s with
  | nil => exact h0
  | cons x xs ih =>
    show Post (f s x >>= fun s' => foldR f s' xs) I X
    exact po_bind (hf s x h0 List.mem_cons_self) fun s' h' => ih h' fun s y hs hy => hf s y hs (List.mem_cons_of_mem _ hy)
/-- .. with the number of turns gone -/
theorem po_foldN {f : β → α → R β} {s : β} {xs : List α} (I : Nat → β → Prop) (h0 : I 0 s) (hf : ∀ n s x, n < xs.length → I n s → xs[n]? = some x → Post (f s x) (I (n + 1)) X) : Post (foldR f s xs) (I xs.length) X := by
  have key : ∀ (l : List α) (n : Nat) (s : β), xs.drop n = l → n ≤ xs.length → I n s → Post (foldR f s l) (I xs.length) X := by
    intro l
    induction l with
    | nil =>
      intro n s e hn h
      have : xs.length ≤ n := by
        have := congrArg List.length e
        rw [List.length_drop, List.length_nil] at this
        omega
      rw [show xs.length = n by omega]
      exact h
    | cons x l ih =>
      intro n s e hn h
      have hlt : n < xs.length := by
        have := congrArg List.length e
        rw [List.length_drop, List.length_cons] at this
        omega
      have e1 : xs[n] :: xs.drop (n + 1) = x :: l := (List.drop_eq_getElem_cons hlt).symm.trans e
      injection e1 with e2 e3
      show Post (f s x >>= fun s' => foldR f s' l) _ X
      exact po_bind (hf n s x hlt h (by rw [List.getElem?_eq_getElem hlt, e2])) fun s' h' => ih (n + 1) s' e3 (by omega) h'
  exact key xs 0 s rfl (Nat.zero_le _) h0
theorem po_foldX {ρ : Type} {f : β → α → R (Sum ρ (Bool × β))} {s : β} {xs : List α} (I : β → Prop) (h0 : I s) (hf : ∀ s x, I s → x ∈ xs → Post (f s x) (fun r => ∃ s', r = .inr (true, s') ∧ I s') X) : Post (foldX f s xs) (fun r => ∃ s', r = .inr s' ∧ I s') X := by
  induction xs generalizing s with
  | nil => exact ⟨s, rfl, h0⟩
  | cons x xs ih =>
    refine po_bind (S := fun r => ∃ s', r = Sum.inr s' ∧ I s') (k := fun r => match r with
      | .inl z => (R.ok (.inl z) : R (Sum ρ β))
      | .inr (true, s') => foldX f s' xs
      | .inr (false, s') => R.ok (.inr s')) (hf s x h0 List.mem_cons_self) fun r hr => ?_
    obtain ⟨s', rfl, h'⟩ := hr
    exact ih h' fun s y hs hy => hf s y hs (List.mem_cons_of_mem _ hy)
theorem po_mapG {f : α → R β} {xs : List α} (p : β → Prop) (hl : xs.length < 100000) (hf : ∀ x ∈ xs, Post (f x) p X) : Post (mapG f xs) (fun ys => ys.length = xs.length ∧ ∀ y ∈ ys, p y) X := by
  unfold mapG
  rw [grd_t (decide_eq_true hl)]
  show Post (mapR f xs) _ X
  clear hl
  induction xs with
  | nil => exact ⟨rfl, fun _ h => nomatch h⟩
  | cons x xs ih =>
    show Post (f x >>= fun y => mapR f xs >>= fun ys => R.ok (y :: ys)) _ X
    refine po_bind (hf x List.mem_cons_self) fun y hy => po_bind (ih fun z hz => hf z (List.mem_cons_of_mem _ hz)) fun ys ⟨h1, h2⟩ => ?_
    refine ⟨by rw [List.length_cons, List.length_cons, h1], fun z hz => ?_⟩
    rcases List.mem_cons.mp hz with rfl | hz
    · exact hy
    · exact h2 z hz
end
theorem cut_head (xs : List α) : cutL xs none (some 1) = xs.take 1 := by
  unfold cutL
  have e : HT.sIx xs.length xs.length (some 1) = min 1 xs.length := HT.sIx_nat xs.length xs.length 1
  have e0 : HT.sIx xs.length 0 none = 0 := rfl
  rw [e, e0, List.drop_zero]
  cases xs with
  | nil => rfl
  | cons x xs => simp
theorem cut_last (xs : List α) : cutL xs (some (-1)) none = xs.drop (xs.length - 1) := by
  unfold cutL
  have e : HT.sIx xs.length 0 (some (-1)) = xs.length - 1 := by
    unfold HT.sIx
    simp only [show ((-1 : Int) < 0) = True from eq_true (by decide), if_true]
    omega
  have e0 : HT.sIx xs.length xs.length none = xs.length := rfl
  rw [e, e0]
  refine List.take_of_length_le ?_
  rw [List.length_drop]
  exact Nat.le_refl _
end
section
variable {α β γ : Type} {X : Exn → Prop}
theorem po_mapStN {f : γ → α → R (β × γ)} {s : γ} {xs : List α} (I : Nat → γ → Prop) (p : β → Prop) (hl : xs.length < 100000) (h0 : I 0 s) (hf : ∀ n s x, n < xs.length → I n s → xs[n]? = some x → Post (f s x) (fun r => p r.1 ∧ I (n + 1) r.2) X) :
    Post (mapStG f s xs) (fun r => r.1.length = xs.length ∧ (∀ y ∈ r.1, p y) ∧ I xs.length r.2) X := by
  unfold mapStG
  rw [grd_t (decide_eq_true hl), ok_bind]
  clear hl
  have key : ∀ (l : List α) (n : Nat) (s : γ), xs.drop n = l → n ≤ xs.length → I n s → Post (mapSt f s l) (fun r => r.1.length = l.length ∧ (∀ y ∈ r.1, p y) ∧ I xs.length r.2) X := by
    intro l
    induction l with
    | nil =>
      intro n s e hn h
      have : xs.length ≤ n := by
        have := congrArg List.length e
        rw [List.length_drop, List.length_nil] at this
        omega
      rw [show n = xs.length by omega] at h
      exact ⟨rfl, by intro y hy; exact absurd hy List.not_mem_nil, h⟩
    | cons x l ih =>
      intro n s e hn h
      have hlt : n < xs.length := by
        have := congrArg List.length e
        rw [List.length_drop, List.length_cons] at this
        omega
      have e1 : xs[n] :: xs.drop (n + 1) = x :: l := (List.drop_eq_getElem_cons hlt).symm.trans e
      injection e1 with e2 e3
      refine po_bind (hf n s x hlt h (by rw [List.getElem?_eq_getElem hlt, e2])) fun r ⟨h1, h2⟩ => po_bind (ih (n + 1) r.2 e3 (by omega) h2) fun q ⟨h3, h4, h5⟩ => ?_
      refine ⟨by rw [List.length_cons, List.length_cons, h3], fun y hy => ?_, h5⟩
      rcases List.mem_cons.mp hy with rfl | hy
      · exact h1
      · exact h4 y hy
  exact key xs 0 s rfl (Nat.zero_le _) h0
end
section
variable {α : Type}
theorem cut_take (xs : List α) (n : Nat) : cutL xs none (some (n : Int)) = xs.take n := by
  unfold cutL
  have e : HT.sIx xs.length xs.length (some (n : Int)) = min n xs.length := HT.sIx_nat xs.length xs.length n
  have e0 : HT.sIx xs.length 0 none = 0 := rfl
  rw [e, e0, List.drop_zero, Nat.sub_zero]
  by_cases h : n ≤ xs.length
  · rw [Nat.min_eq_left h]
  · rw [Nat.min_eq_right (by omega), List.take_of_length_le (Nat.le_refl _), List.take_of_length_le (by omega)]
theorem cut_mid (xs : List α) (m n : Nat) : cutL xs (some (m : Int)) (some (n : Int)) = (xs.drop m).take (n - m) := by
  unfold cutL
  have e : HT.sIx xs.length xs.length (some (n : Int)) = min n xs.length := HT.sIx_nat xs.length xs.length n
  have e0 : HT.sIx xs.length 0 (some (m : Int)) = min m xs.length := HT.sIx_nat xs.length 0 m
  rw [e, e0]
  by_cases h : m ≤ xs.length
  · rw [Nat.min_eq_left h]
    by_cases h2 : n ≤ xs.length
    · rw [Nat.min_eq_left h2]
    · rw [Nat.min_eq_right (by omega), List.take_of_length_le (by rw [List.length_drop]; exact Nat.le_refl _), List.take_of_length_le (by rw [List.length_drop]; omega)]
  · rw [List.drop_of_length_le (by omega), List.drop_of_length_le (by omega), List.take_nil, List.take_nil]
end
/-! ### dicts -/
section
variable {κ β : Type} [DecidableEq κ]
theorem mhas_iff {m : List (κ × β)} {k : κ} : mhas m k = true ↔ ∃ p ∈ m, p.1 = k := by
  unfold mhas
  rw [List.any_eq_true]
  constructor
  · rintro ⟨p, h, e⟩
    exact ⟨p, h, of_decide_eq_true e⟩
  · rintro ⟨p, h, e⟩
    exact ⟨p, h, decide_eq_true e⟩
theorem mput_new {m : List (κ × β)} {k : κ} {v : β} (h : mhas m k = false) : mput m k v = m ++ [(k, v)] := by
  unfold mput
  have h' : (m.any fun p => decide (p.1 = k)) = false := h
  rw [h', if_neg (by decide)]
theorem mput_old {m : List (κ × β)} {k : κ} {v : β} (h : mhas m k = true) : mput m k v = m.map (fun p => if p.1 = k then (p.1, v) else p) := by
  unfold mput
  have h' : (m.any fun p => decide (p.1 = k)) = true := h
  rw [h', if_pos rfl]
theorem mput_keys {m : List (κ × β)} {k j : κ} {v : β} : (∃ p ∈ mput m k v, p.1 = j) ↔ (j = k ∨ ∃ p ∈ m, p.1 = j) := by
  cases h : mhas m k with
  | false =>
    rw [mput_new h]
    constructor
    · rintro ⟨p, hp, rfl⟩
      rcases List.mem_append.mp hp with hp | hp
      · exact .inr ⟨p, hp, rfl⟩
      · rw [List.mem_singleton] at hp
        exact .inl (by rw [hp])
    · rintro (rfl | ⟨p, hp, rfl⟩)
      · exact ⟨(j, v), List.mem_append_right _ List.mem_cons_self, rfl⟩
      · exact ⟨p, List.mem_append_left _ hp, rfl⟩
  | true =>
    rw [mput_old h]
    have fst : ∀ p : κ × β, (if p.1 = k then (p.1, v) else p).1 = p.1 := fun p => by split <;> rfl
    constructor
    · rintro ⟨p, hp, rfl⟩
      obtain ⟨q, hq, rfl⟩ := List.mem_map.mp hp
      rw [fst]
      exact .inr ⟨q, hq, rfl⟩
    · rintro (rfl | ⟨p, hp, rfl⟩)
      · obtain ⟨p, hp, e⟩ := mhas_iff.mp h
        exact ⟨_, List.mem_map.mpr ⟨p, hp, rfl⟩, by rw [fst]; exact e⟩
      · exact ⟨_, List.mem_map.mpr ⟨p, hp, rfl⟩, fst p⟩
theorem mput_length {m : List (κ × β)} {k : κ} {v : β} : (mput m k v).length = m.length + if mhas m k = true then 0 else 1 := by
  cases h : mhas m k with
  | false =>
    rw [mput_new h, List.length_append]
    rfl
  | true =>
    rw [mput_old h, List.length_map]
    rfl
theorem po_mput {δ : Type} {m : List (κ × β)} {k : κ} {v : β} {f : List (κ × β) → R δ} {S : δ → Prop} {X : Exn → Prop} (h : m.length < 100000) (hk : Post (f (mput m k v)) S X) : Post (mputR m k v >>= f) S X := by
  unfold mputR
  rw [if_pos h]
  exact hk
end
end Z
/-! ZG: webs: joined, how far; no program in sight -/
namespace Z
open PySem L2
/-! ### more steps -/
section
variable {α β γ δ : Type} {P Q : α → Prop} {S : β → Prop} {X : Exn → Prop}
/-- a fold, by what is gone through -/
theorem po_foldP {f : β → α → R β} {s : β} {xs : List α} (I : List α → β → Prop) (h0 : I [] s) (hf : ∀ pre s x post, xs = pre ++ x :: post → I pre s → Post (f s x) (I (pre ++ [x])) X) : Post (foldR f s xs) (I xs) X := by
  have key : ∀ (l pre : List α) (s : β), xs = pre ++ l → I pre s → Post (foldR f s l) (I xs) X := by
    intro l
    induction l with
    | nil =>
      intro pre s e h
      rw [List.append_nil] at e
      rw [e]
      exact h
    | cons x l ih =>
      intro pre s e h
      show Post (f s x >>= fun s' => foldR f s' l) _ X
      exact po_bind (hf pre s x l e h) fun s' h' => ih (pre ++ [x]) s' (by rw [e, List.append_assoc]; rfl) h'
  exact key xs [] s rfl h0
/-- items for items with a state, by what is made -/
theorem po_mapStA {f : γ → α → R (β × γ)} {s : γ} {xs : List α} (I : List α → List β → γ → Prop) (hl : xs.length < 100000) (h0 : I [] [] s)
    (hf : ∀ pre acc s x post, xs = pre ++ x :: post → I pre acc s → Post (f s x) (fun r => I (pre ++ [x]) (acc ++ [r.1]) r.2) X) : Post (mapStG f s xs) (fun r => I xs r.1 r.2) X := by
  unfold mapStG
  rw [grd_t (decide_eq_true hl), ok_bind]
  have key : ∀ (l pre : List α) (acc : List β) (s : γ), xs = pre ++ l → I pre acc s → Post (mapSt f s l) (fun r => I xs (acc ++ r.1) r.2) X := by
    intro l
    induction l with
    | nil =>
      intro pre acc s e h
      rw [List.append_nil] at e
      show I xs (acc ++ []) s
      rw [List.append_nil, e]
      exact h
    | cons x l ih =>
      intro pre acc s e h
      refine po_bind (hf pre acc s x l e h) fun r hr => po_bind (ih (pre ++ [x]) (acc ++ [r.1]) r.2 (by rw [e, List.append_assoc]; rfl) hr) fun q hq => ?_
      show I xs (acc ++ (r.1 :: q.1)) q.2
      rw [List.append_assoc] at hq
      exact hq
  exact key xs [] [] s rfl h0
theorem po_mapGE {f : α → R β} {g : α → β} {xs : List α} {k : List β → R γ} {T : γ → Prop} (hl : xs.length < 100000) (h : ∀ x ∈ xs, f x = R.ok (g x)) (hk : Post (k (xs.map g)) T X) : Post (mapG f xs >>= k) T X := by
  rw [mapG_ok hl h]
  exact hk
theorem po_filGE {f : α → R (Option β)} {g : α → Option β} {xs : List α} {k : List β → R γ} {T : γ → Prop} (hl : xs.length < 100000) (h : ∀ x ∈ xs, f x = R.ok (g x)) (hk : Post (k (xs.filterMap g)) T X) : Post (filG f xs >>= k) T X := by
  rw [filG_ok hl h]
  exact hk
/-- a while: an invariant, a measure -/
theorem po_while {c : γ → R Bool} {b : γ → R γ} {T : γ → Prop} (I : γ → Prop) (μ : γ → Nat)
    (hs : ∀ s, I s → Post (c s) (fun t => (t = true → Post (b s) (fun s' => I s' ∧ μ s' < μ s) X) ∧ (t = false → T s)) X) : ∀ {n : Nat} {s : γ}, I s → μ s < n → Post (whileR c b n s) T X
  | 0, s, _, h => absurd h (Nat.not_lt_zero _)
  | n + 1, s, hi, h => by
    refine po_bind (hs s hi) fun t ⟨h1, h2⟩ => ?_
    cases t with
    | false => exact h2 rfl
    | true => exact po_bind (h1 rfl) fun s' ⟨a, d⟩ => po_while I μ hs a (by omega)
theorem po_getS {st : List (List α)} {j : Nat} {xs : List α} {k : List α → R γ} {T : γ → Prop} (h : st[j]? = some xs) (hk : Post (k xs) T X) : Post (getS st j >>= k) T X := by
  unfold getS
  rw [h]
  exact hk
theorem po_setS {st : List (List α)} {j : Nat} {xs : List α} {k : List (List α) → R γ} {T : γ → Prop} (hk : Post (k (st.set j xs)) T X) : Post (setS st j xs >>= k) T X := hk
theorem po_newS {st : List (List α)} {xs : List α} {k : Nat × List (List α) → R γ} {T : γ → Prop} (hk : Post (k (st.length, st ++ [xs])) T X) : Post (newS st xs >>= k) T X := hk
theorem po_listRng {i j : Int} {k : List Int → R γ} {T : γ → Prop} (h1 : -(2 ^ 62) ≤ i) (h2 : i < 2 ^ 62) (h3 : -(2 ^ 62) ≤ j) (h4 : j < 2 ^ 62) (h5 : (j - i).toNat ≤ 100000) (hk : Post (k (rng i j)) T X) : Post (listRng i j >>= k) T X := by
  unfold listRng
  rw [if_pos ⟨h1, h2, h3, h4, h5⟩]
  exact hk
theorem po_rep {xs : List α} {i : Int} {k : List α → R γ} {T : γ → Prop} (h1 : 0 ≤ i) (h2 : i < 1000) (h3 : xs.length < 100) (hk : Post (k (repL xs i)) T X) : Post (repR xs i >>= k) T X := by
  unfold repR
  have h4 : xs.length * i.toNat ≤ 100 * 1000 := Nat.mul_le_mul (by omega) (by omega)
  have h5 : xs.length * i.toNat < 100000 := by
    have h6 : xs.length * i.toNat ≤ 99 * 999 := Nat.mul_le_mul (by omega) (by omega)
    omega
  rw [if_pos ⟨by omega, by omega, h5⟩]
  exact hk
theorem po_ofO {o : Option α} {x : α} {k : α → R γ} {T : γ → Prop} (h : o = some x) (hk : Post (k x) T X) : Post (ofO o >>= k) T X := by
  rw [h]
  exact hk
theorem po_mgetE {κ : Type} [DecidableEq κ] {m : List (κ × α)} {j : κ} {x : α} {k : α → R γ} {T : γ → Prop} (h : mget m j = some x) (hk : Post (k x) T X) : Post (mgetR m j >>= k) T X := po_ofO h hk
theorem po_popB {xs : List α} {i : Int} {k : α × List α → R γ} {T : γ → Prop} (h0 : 0 ≤ i) (h1 : i < xs.length) (h2 : i < 2 ^ 62) (hk : ∀ x, xs[i.toNat]? = some x → Post (k (x, xs.eraseIdx i.toNat)) T X) : Post (popB xs i >>= k) T X := by
  have hj : i.toNat < xs.length := by omega
  have e : popB xs i = R.ok (xs[i.toNat], xs.eraseIdx i.toNat) := by
    unfold popB popAt
    rw [if_pos (by omega)]
    have ei : ixN xs.length i = some i.toNat := by
      unfold ixN
      rw [if_pos h0, if_pos h1]
    rw [ei]
    dsimp only
    rw [List.getElem?_eq_getElem hj]
  rw [e]
  exact hk _ (List.getElem?_eq_getElem hj)
end
theorem rng_len {n : Int} (h : 0 ≤ n) : ((rng 0 n).length : Int) = n := by
  rw [rng_length]
  omega
theorem rng_atE {i j : Int} {k : Nat} (h : k < (j - i).toNat) : (rng i j)[k]? = some (i + k) := rng_get h
theorem rng_nodup (i j : Int) : (rng i j).Nodup := by
  unfold rng
  refine List.Pairwise.map _ (fun a b h => ?_) List.nodup_range
  intro e
  exact h (by omega)
theorem rng_pre {i j x : Int} {pre post : List Int} (h : rng i j = pre ++ x :: post) : x = i + pre.length := by
  have h1 : (rng i j)[pre.length]? = some x := by rw [h]; simp
  have hl : pre.length < (rng i j).length := by rw [h]; simp
  rw [rng_length] at hl
  rw [rng_atE hl] at h1
  cases h1
  rfl
theorem rng_split {i j x : Int} {pre post : List Int} (h : rng i j = pre ++ x :: post) : pre = rng i x ∧ i ≤ x ∧ x < j := by
  have e := rng_pre h
  have hl : (rng i j).length = pre.length + (post.length + 1) := by rw [h]; simp
  rw [rng_length] at hl
  refine ⟨?_, by omega, by omega⟩
  apply List.ext_getElem?
  intro k
  by_cases hk : k < pre.length
  · have h1 : (rng i j)[k]? = pre[k]? := by rw [h, List.getElem?_append_left hk]
    rw [← h1, rng_atE (by omega), rng_atE (by omega)]
  · rw [List.getElem?_eq_none (by omega), List.getElem?_eq_none (by rw [rng_length]; omega)]
theorem rng_snoc {i j : Int} (h : i ≤ j) : rng i (j + 1) = rng i j ++ [j] := by
  apply List.ext_getElem?
  intro k
  by_cases hk : k < (j - i).toNat
  · rw [List.getElem?_append_left (by rw [rng_length]; exact hk), rng_atE hk, rng_atE (by omega)]
  · by_cases hk2 : k = (j - i).toNat
    · rw [List.getElem?_append_right (by rw [rng_length]; omega), rng_atE (by omega), rng_length, hk2]
      simp
      omega
    · rw [List.getElem?_eq_none (by rw [rng_length]; omega), List.getElem?_eq_none (by rw [List.length_append, rng_length]; simp; omega)]
/-! ### joined -/
def Adj (ts : List (Int × Int)) (a b : Int) : Prop := (a, b) ∈ ts ∨ (b, a) ∈ ts
theorem Adj.symm {ts : List (Int × Int)} {a b : Int} (h : Adj ts a b) : Adj ts b a := h.elim .inr .inl
/-- what holds of a place and goes along all ties holds of all places -/
def Conn (n : Int) (ts : List (Int × Int)) : Prop := ∀ S : Int → Prop, S 0 → (∀ p ∈ ts, S p.1 ↔ S p.2) → ∀ k, 0 ≤ k → k < n → S k
theorem Conn.any {n : Int} {ts : List (Int × Int)} (h : Conn n ts) {S : Int → Prop} {r : Int} (r0 : 0 ≤ r) (r1 : r < n) (hr : S r) (hc : ∀ p ∈ ts, S p.1 ↔ S p.2) : ∀ k, 0 ≤ k → k < n → S k := by
  by_cases h0 : S 0
  · exact h S h0 hc
  · exact absurd hr (h (fun k => ¬ S k) h0 (fun p hp => not_congr (hc p hp)) r r0 r1)
theorem Conn.mono {n : Int} {ts us : List (Int × Int)} (h : Conn n ts) (hs : ∀ p ∈ ts, p ∈ us) : Conn n us := fun S h0 hc => h S h0 fun p hp => hc p (hs p hp)
theorem conn_tree {n : Int} {ts : List (Int × Int)} (h : ∀ k, 1 ≤ k → k < n → ∃ j, 0 ≤ j ∧ j < k ∧ Adj ts j k) : Conn n ts := by
  intro S h0 hc
  have key : ∀ (m : Nat) (k : Int), k.toNat ≤ m → 0 ≤ k → k < n → S k := by
    intro m
    induction m with
    | zero =>
      intro k hk k0 _
      rw [show k = 0 by omega]
      exact h0
    | succ m ih =>
      intro k hk k0 k1
      by_cases hz : k = 0
      · rw [hz]; exact h0
      · obtain ⟨j, j0, jk, hj⟩ := h k (by omega) k1
        have hj' := ih j (by omega) j0 (by omega)
        rcases hj with hj | hj
        · exact (hc _ hj).mp hj'
        · exact (hc _ hj).mpr hj'
  exact fun k k0 k1 => key k.toNat k (Nat.le_refl _) k0 k1
/-! ### how far -/
structure IsDist (n : Int) (ts : List (Int × Int)) (p : Int) (f : Int → Int) : Prop where
  zero : f p = 0
  nn : ∀ v, 0 ≤ v → v < n → 0 ≤ f v
  lip : ∀ a b, Adj ts a b → f b ≤ f a + 1
  desc : ∀ v, 0 ≤ v → v < n → v ≠ p → ∃ w, 0 ≤ w ∧ w < n ∧ Adj ts w v ∧ f w + 1 = f v
theorem IsDist.le {n : Int} {ts : List (Int × Int)} {p : Int} {f g : Int → Int} (hf : IsDist n ts p f) (hg : IsDist n ts p g) : ∀ v, 0 ≤ v → v < n → f v ≤ g v := by
  have key : ∀ (m : Nat) (v : Int), (g v).toNat ≤ m → 0 ≤ v → v < n → f v ≤ g v := by
    intro m
    induction m with
    | zero =>
      intro v hm v0 v1
      by_cases hv : v = p
      · rw [hv, hf.zero, hg.zero]; exact Int.le_refl _
      · obtain ⟨w, w0, w1, _, e⟩ := hg.desc v v0 v1 hv
        have := hg.nn w w0 w1
        omega
    | succ m ih =>
      intro v hm v0 v1
      by_cases hv : v = p
      · rw [hv, hf.zero, hg.zero]; exact Int.le_refl _
      · obtain ⟨w, w0, w1, ha, e⟩ := hg.desc v v0 v1 hv
        have h1 := hg.nn w w0 w1
        have h2 := ih w (by omega) w0 w1
        have h3 := hf.lip w v ha
        omega
  exact fun v v0 v1 => key _ v (Nat.le_refl _) v0 v1
theorem IsDist.uniq {n : Int} {ts : List (Int × Int)} {p : Int} {f g : Int → Int} (hf : IsDist n ts p f) (hg : IsDist n ts p g) (v : Int) (v0 : 0 ≤ v) (v1 : v < n) : f v = g v :=
  Int.le_antisymm (hf.le hg v v0 v1) (hg.le hf v v0 v1)
theorem IsDist.level {n : Int} {ts : List (Int × Int)} {p : Int} {f : Int → Int} (hf : IsDist n ts p f) : ∀ (m : Nat) (v : Int), 0 ≤ v → v < n → (f v).toNat = m → ∀ k : Nat, k ≤ m → ∃ w, 0 ≤ w ∧ w < n ∧ f w = k := by
  intro m
  induction m with
  | zero =>
    intro v v0 v1 e k hk
    have := hf.nn v v0 v1
    exact ⟨v, v0, v1, by omega⟩
  | succ m ih =>
    intro v v0 v1 e k hk
    have hv := hf.nn v v0 v1
    by_cases hk2 : k = m + 1
    · exact ⟨v, v0, v1, by omega⟩
    · have hne : v ≠ p := by
        intro e2
        rw [e2, hf.zero] at e
        simp at e
      obtain ⟨w, w0, w1, _, e2⟩ := hf.desc v v0 v1 hne
      exact ih w w0 w1 (by omega) k (by omega)
/-- no place is as far as there are places -/
theorem IsDist.lt {n : Int} {ts : List (Int × Int)} {p : Int} {f : Int → Int} (hf : IsDist n ts p f) (v : Int) (v0 : 0 ≤ v) (v1 : v < n) : f v < n := by
  have hv := hf.nn v v0 v1
  have hl := hf.level _ v v0 v1 rfl
  have key : ∀ m : Nat, m ≤ (f v).toNat + 1 → ∃ ws : List Int, ws.length = m ∧ ws.Nodup ∧ (∀ w ∈ ws, w ∈ rng 0 n ∧ f w < m) := by
    intro m
    induction m with
    | zero => exact fun _ => ⟨[], rfl, List.nodup_nil, fun _ h => nomatch h⟩
    | succ m ih =>
      intro hm
      obtain ⟨ws, h1, h2, h3⟩ := ih (by omega)
      obtain ⟨w, w0, w1, e⟩ := hl m (by omega)
      refine ⟨w :: ws, by rw [List.length_cons, h1], List.nodup_cons.mpr ⟨fun h => ?_, h2⟩, fun u hu => ?_⟩
      · have := (h3 w h).2
        omega
      · rcases List.mem_cons.mp hu with rfl | hu
        · exact ⟨rng_mem.mpr ⟨w0, w1⟩, by omega⟩
        · have := h3 u hu
          exact ⟨this.1, by omega⟩
  obtain ⟨ws, h1, h2, h3⟩ := key _ (Nat.le_refl _)
  have := nodup_le h2 fun w hw => (h3 w hw).1
  rw [h1, rng_length] at this
  omega
/-- how far places are from one, in a web that hangs together -/
noncomputable def dst (n : Int) (ts : List (Int × Int)) (p : Int) : Int → Int := by
  classical
  exact if h : ∃ f, IsDist n ts p f then Classical.choose h else fun _ => 0
theorem dst_is {n : Int} {ts : List (Int × Int)} {p : Int} {f : Int → Int} (h : IsDist n ts p f) : IsDist n ts p (dst n ts p) := by
  have e : ∃ f, IsDist n ts p f := ⟨f, h⟩
  unfold dst
  rw [dif_pos e]
  exact Classical.choose_spec e
theorem dst_eq {n : Int} {ts : List (Int × Int)} {p : Int} {f : Int → Int} (h : IsDist n ts p f) (v : Int) (v0 : 0 ≤ v) (v1 : v < n) : f v = dst n ts p v := h.uniq (dst_is h) v v0 v1
/-! ### there is a distance -/
inductive Rch (ts : List (Int × Int)) (p : Int) : Nat → Int → Prop
  | here : Rch ts p 0 p
  | step {k : Nat} {a b : Int} : Rch ts p k a → Adj ts a b → Rch ts p (k + 1) b
theorem least {P : Nat → Prop} (h : ∃ k, P k) : ∃ k, P k ∧ ∀ j, j < k → ¬ P j := by
  obtain ⟨k, hk⟩ := h
  induction k using Nat.strongRecOn with
  | _ k ih =>
    by_cases q : ∃ j, j < k ∧ P j
    · obtain ⟨j, h1, h2⟩ := q
      exact ih j h1 h2
    · exact ⟨k, hk, fun j hj hp => q ⟨j, hj, hp⟩⟩
theorem conn_ex {n : Int} {ts : List (Int × Int)} {p : Int} (hr : ∀ q ∈ ts, 0 ≤ q.1 ∧ q.1 < n ∧ 0 ≤ q.2 ∧ q.2 < n) (hc : Conn n ts) (p0 : 0 ≤ p) (p1 : p < n) : IsDist n ts p (dst n ts p) := by
  classical
  have all : ∀ v, 0 ≤ v → v < n → ∃ k, Rch ts p k v := hc.any (S := fun v => ∃ k, Rch ts p k v) p0 p1 ⟨0, .here⟩ fun q hq => ⟨fun ⟨k, h⟩ => ⟨k + 1, h.step (.inl hq)⟩, fun ⟨k, h⟩ => ⟨k + 1, h.step (.inr hq)⟩⟩
  have adj : ∀ a b, Adj ts a b → (0 ≤ a ∧ a < n) ∧ (0 ≤ b ∧ b < n) := fun a b h => by
    rcases h with h | h
    · have := hr _ h
      exact ⟨⟨this.1, this.2.1⟩, ⟨this.2.2.1, this.2.2.2⟩⟩
    · have := hr _ h
      exact ⟨⟨this.2.2.1, this.2.2.2⟩, ⟨this.1, this.2.1⟩⟩
  have key : ∀ v, ∃ d : Int, 0 ≤ d ∧ (0 ≤ v → v < n → ∃ k : Nat, d = k ∧ Rch ts p k v ∧ ∀ j, j < k → ¬ Rch ts p j v) := fun v => by
    by_cases hv : 0 ≤ v ∧ v < n
    · obtain ⟨k, h1, h2⟩ := least (all v hv.1 hv.2)
      exact ⟨k, by omega, fun _ _ => ⟨k, rfl, h1, h2⟩⟩
    · exact ⟨0, Int.le_refl 0, fun a b => absurd ⟨a, b⟩ hv⟩
  have hf : ∃ f : Int → Int, ∀ v, 0 ≤ f v ∧ (0 ≤ v → v < n → ∃ k : Nat, f v = k ∧ Rch ts p k v ∧ ∀ j, j < k → ¬ Rch ts p j v) := ⟨fun v => Classical.choose (key v), fun v => Classical.choose_spec (key v)⟩
  obtain ⟨f, hf⟩ := hf
  have lip : ∀ a b, Adj ts a b → f b ≤ f a + 1 := fun a b h => by
    obtain ⟨⟨a0, a1⟩, ⟨b0, b1⟩⟩ := adj a b h
    obtain ⟨k, e1, h1, _⟩ := (hf a).2 a0 a1
    obtain ⟨j, e2, _, h2⟩ := (hf b).2 b0 b1
    have : ¬ k + 1 < j := fun q => h2 (k + 1) q (h1.step h)
    omega
  refine dst_is (f := f) ⟨?_, fun v _ _ => (hf v).1, lip, fun v v0 v1 hne => ?_⟩
  · obtain ⟨k, e, _, h2⟩ := (hf p).2 p0 p1
    have : ¬ 0 < k := fun q => h2 0 q .here
    omega
  · obtain ⟨k, e, h1, h2⟩ := (hf v).2 v0 v1
    cases h1 with
    | here => exact absurd rfl hne
    | step h3 h4 =>
      rename_i j w
      obtain ⟨⟨w0, w1⟩, _⟩ := adj _ _ h4
      refine ⟨w, w0, w1, h4, ?_⟩
      obtain ⟨i, e2, _, h5⟩ := (hf w).2 w0 w1
      have h6 : ¬ j < i := fun q => h5 j q h3
      have := lip w v h4
      omega
end Z
/-! ZN: dicts as lists of pairs -/
namespace Z
open PySem L2
section
variable {κ β γ : Type} [DecidableEq κ]
def mkeys (m : List (κ × β)) : List κ := m.map (·.1)
theorem mget_nil (j : κ) : mget ([] : List (κ × β)) j = none := rfl
theorem mget_cons (p : κ × β) (m : List (κ × β)) (j : κ) : mget (p :: m) j = if p.1 = j then some p.2 else mget m j := by
  unfold mget
  by_cases h : p.1 = j
  · rw [List.find?_cons_of_pos (by simpa using h), if_pos h]
    rfl
  · rw [List.find?_cons_of_neg (by simpa using h), if_neg h]
theorem mget_append (m m' : List (κ × β)) (j : κ) : mget (m ++ m') j = (mget m j).or (mget m' j) := by
  induction m with
  | nil => rfl
  | cons p m ih =>
    rw [List.cons_append, mget_cons, mget_cons, ih]
    by_cases h : p.1 = j
    · rw [if_pos h, if_pos h]; rfl
    · rw [if_neg h, if_neg h]
theorem mhas_mget (m : List (κ × β)) (j : κ) : mhas m j = (mget m j).isSome := by
  unfold mhas mget
  rw [Option.isSome_map, List.isSome_find?]
theorem mhas_keys {m : List (κ × β)} {j : κ} : mhas m j = true ↔ j ∈ mkeys m := by
  rw [mhas_iff]
  unfold mkeys
  rw [List.mem_map]
theorem mget_mput (m : List (κ × β)) (k : κ) (v : β) (j : κ) : mget (mput m k v) j = if j = k then some v else mget m j := by
  cases h : mhas m k with
  | false =>
    rw [mput_new h, mget_append, mget_cons, mget_nil]
    by_cases e : j = k
    · subst e
      rw [if_pos rfl, if_pos rfl]
      rw [mhas_mget] at h
      cases q : mget m j with
      | none => rfl
      | some x => rw [q] at h; cases h
    · rw [if_neg (fun q => e q.symm), if_neg e]
      cases mget m j <;> rfl
  | true =>
    rw [mput_old h]
    by_cases e : j = k
    · subst e
      rw [if_pos rfl]
      induction m with
      | nil => cases h
      | cons p m ih =>
        rw [List.map_cons, mget_cons]
        by_cases q : p.1 = j
        · rw [if_pos q, if_pos q]
        · rw [if_neg q, if_neg q]
          refine ih ?_
          rw [mhas_mget, mget_cons, if_neg q, ← mhas_mget] at h
          exact h
    · rw [if_neg e]
      clear h
      induction m with
      | nil => rfl
      | cons p m ih =>
        rw [List.map_cons, mget_cons, mget_cons, ih]
        by_cases q : p.1 = k
        · rw [if_pos q, if_neg (by rw [q]; exact fun z => e z.symm), if_neg (by rw [q]; exact fun z => e z.symm)]
        · rw [if_neg q]
theorem mkeys_mput (m : List (κ × β)) (k : κ) (v : β) : mkeys (mput m k v) = if k ∈ mkeys m then mkeys m else mkeys m ++ [k] := by
  cases h : mhas m k with
  | false =>
    rw [mput_new h, if_neg (fun q => by rw [mhas_keys.mpr q] at h; cases h)]
    unfold mkeys
    rw [List.map_append]
    rfl
  | true =>
    rw [mput_old h, if_pos (mhas_keys.mp h)]
    unfold mkeys
    rw [List.map_map]
    refine List.map_congr_left fun p _ => ?_
    show (if p.1 = k then (p.1, v) else p).1 = p.1
    split <;> rfl
theorem mkeys_nodup {m : List (κ × β)} {k : κ} {v : β} (h : (mkeys m).Nodup) : (mkeys (mput m k v)).Nodup := by
  rw [mkeys_mput]
  split
  · exact h
  · rename_i q
    rw [List.nodup_append]
    refine ⟨h, by simp, fun a ha c hc e => ?_⟩
    rw [List.mem_singleton] at hc
    rw [e, hc] at ha
    exact q ha
theorem mkeys_length (m : List (κ × β)) : (mkeys m).length = m.length := List.length_map _
theorem mget_keys {m : List (κ × β)} {j : κ} : j ∈ mkeys m ↔ ∃ v, mget m j = some v := by
  rw [← mhas_keys, mhas_mget, Option.isSome_iff_exists]
end
end Z
namespace G
open PySem L2 Z
open Rep (rep)
def top (i : Nat) : Stmt := PySem.Challenge.pw_farhail_k01_refusals_stand_alone.main.body.getD i (.Pass ⟨0, 0, 0, 0⟩)
abbrev s_law_at : Stmt := top 17
abbrev s_law_all : Stmt := top 18
abbrev s_law_kinds : Stmt := top 19
abbrev s_law : Stmt := top 20
abbrev s_Apart_init : Stmt := inClass (top 14) 0
abbrev s_NoText_init : Stmt := inClass (top 15) 0
abbrev names : List Str := ["NoWeb", "NoPlace", "NoThing", "NoLooks", "NoTree", "NotOne", "NoSuch", "NoCode", "TooMany", "NotHeard", "NoRow", "NoBack", "Apart", "NoText"]
def fld (x : Str) : Option Str := if x = ("NoText" : Str) then some ("row" : Str) else if x = ("Apart" : Str) then some ("place" : Str) else none
theorem fn_NoWeb : fld ("NoWeb" : Str) = none := by decide +kernel
theorem fn_NoPlace : fld ("NoPlace" : Str) = none := by decide +kernel
theorem fn_NoThing : fld ("NoThing" : Str) = none := by decide +kernel
theorem fn_NoLooks : fld ("NoLooks" : Str) = none := by decide +kernel
theorem fn_NoTree : fld ("NoTree" : Str) = none := by decide +kernel
theorem fn_NotOne : fld ("NotOne" : Str) = none := by decide +kernel
theorem fn_NoSuch : fld ("NoSuch" : Str) = none := by decide +kernel
theorem fn_NoCode : fld ("NoCode" : Str) = none := by decide +kernel
theorem fn_TooMany : fld ("TooMany" : Str) = none := by decide +kernel
theorem fn_NotHeard : fld ("NotHeard" : Str) = none := by decide +kernel
theorem fn_NoRow : fld ("NoRow" : Str) = none := by decide +kernel
theorem fn_NoBack : fld ("NoBack" : Str) = none := by decide +kernel
theorem fd_Apart : fld ("Apart" : Str) = some ("place" : Str) := by decide +kernel
theorem fd_NoText : fld ("NoText" : Str) = some ("row" : Str) := by decide +kernel
/-! ### the mirrors -/
/-! _law_at -/
def law_at (x_script : Scr) (x_k : Int) : R Int := do
  if (decide (x_k < (x_script.l.length : Int))) = true then do
    let t3 ← getI x_script.l x_k
    R.ok t3
  else do
    R.ok (0 : Int)
/-! _law_all -/
def law_all (x_text : Str) (x_number : Int) : R (List Ev) := do
  let l18 ← extend ([(⟨"NoWeb", none, 0⟩ : Ev), (⟨"NoPlace", none, 0⟩ : Ev), (⟨"NoThing", none, 0⟩ : Ev), (⟨"NoLooks", none, 0⟩ : Ev), (⟨"NoTree", none, 0⟩ : Ev), (⟨"NotOne", none, 0⟩ : Ev)] : (List Ev)) ([(⟨"NoSuch", none, 0⟩ : Ev), (⟨"NoCode", none, 0⟩ : Ev), (⟨"TooMany", none, 0⟩ : Ev), (⟨"NotHeard", none, 0⟩ : Ev), (⟨"NoRow", none, 0⟩ : Ev), (⟨"NoBack", none, 0⟩ : Ev)] : (List Ev))
  let l26 ← extend l18 ([(⟨"Apart", some "place", x_number⟩ : Ev), (⟨"NoText", some "row", x_number⟩ : Ev)] : (List Ev))
  R.ok l26
/-! _law_kinds -/
def law_kinds (x_one : Ev) : R (List Bool) := do
  let b2 ← isV names [("NoWeb" : Str)] x_one
  let b3 ← isV names [("NoPlace" : Str)] x_one
  let b4 ← isV names [("NoThing" : Str)] x_one
  let b5 ← isV names [("NoLooks" : Str)] x_one
  let b6 ← isV names [("NoTree" : Str)] x_one
  let b7 ← isV names [("NotOne" : Str)] x_one
  let b8 ← isV names [("NoSuch" : Str)] x_one
  let b9 ← isV names [("NoCode" : Str)] x_one
  let b10 ← isV names [("TooMany" : Str)] x_one
  let b11 ← isV names [("NotHeard" : Str)] x_one
  let b12 ← isV names [("NoRow" : Str)] x_one
  let b13 ← isV names [("NoBack" : Str)] x_one
  let b14 ← isV names [("Apart" : Str)] x_one
  let b15 ← isV names [("NoText" : Str)] x_one
  R.ok ([b2, b3, b4, b5, b6, b7, b8, b9, b10, b11, b12, b13, b14, b15] : (List Bool))
/-! law -/
def law (x_script : Scr) : R Bool := do
  let y2 ← law_at x_script (0 : Int)
  let t4 ← txNum ((absI y2) % (60 : Int))
  let t5 ← txAdd ("a text " : Str) t4
  let y6 ← law_all t5 ((absI y2) % (60 : Int))
  let r8 ← foldX (fun (g8 : Unit) (b8 : Int) => do
      let t9 ← getI y6 b8
      let y11 ← law_kinds t9
      let l13 ← filG (fun (b13 : Int) => do
          let t15 ← getI y11 b13
          if t15 = true then do
            R.ok (some b13)
          else
            R.ok none) (rng 0 (14 : Int))
      if (!decide (l13 = ([b8] : (List Int)))) = true then do
        R.ok (.inl false)
      else do
        let j23 ← (do
          let t24 ← getI y6 b8
          let b26 ← isV names [("NoWeb" : Str), ("NoPlace" : Str), ("NoThing" : Str), ("NoLooks" : Str), ("NoTree" : Str), ("NotOne" : Str), ("NoSuch" : Str), ("NoCode" : Str), ("TooMany" : Str), ("NotHeard" : Str), ("NoRow" : Str), ("NoBack" : Str), ("Apart" : Str), ("NoText" : Str)] t24
          if (!b26) = true then do
            R.ok true
          else do
            let t29 ← getI y6 b8
            let b31 ← isV names [("NoWeb" : Str), ("NoPlace" : Str), ("NoThing" : Str), ("NoLooks" : Str), ("NoTree" : Str), ("NotOne" : Str), ("NoSuch" : Str), ("NoCode" : Str), ("TooMany" : Str), ("NotHeard" : Str), ("NoRow" : Str), ("NoBack" : Str), ("Apart" : Str), ("NoText" : Str)] t29
            R.ok (!b31) : R (Bool))
        if j23 = true then do
          R.ok (.inl false)
        else do
          R.ok (.inr (true, ()))) () (rng 0 (14 : Int))
  match r8 with
  | .inl z => R.ok z
  | .inr g8 => do
    let j34 ← (do
      let t35 ← getI y6 (12 : Int)
      let b37 ← argV "Apart" "place" t35
      if (decide (b37 = ((absI y2) % (60 : Int)))) = true then do
        let t39 ← getI y6 (13 : Int)
        let b41 ← argV "NoText" "row" t39
        R.ok (decide (b41 = ((absI y2) % (60 : Int))))
      else do
        R.ok false : R (Bool))
    R.ok j34
/-! ### what the top has written -/
structure Dn (K : Fg) (mg : Str → Option Value) (x y : Str) (st : Stmt) (ps : List Str) (f : Addr) (fd : FuncData) : Prop where
  fn : Fun K y y st f fd
  mg : mg x = some (.ref f)
  b : Binds K fd ps []
structure Dm (K : Fg) (C : Addr) (x y : Str) (st : Stmt) (ps : List Str) (f : Addr) (fd : FuncData) : Prop where
  fn : Fun K x y st f fd
  mt : Meth K C x f
  b : Binds K fd ps []
structure Tx (K : Fg) (mg : Str → Option Value) (A : Nat → Addr) (FD : Nat → FuncData) : Prop where
  d17 : Dn K mg "_law_at" "_law_at" s_law_at ["script", "k"] (A 17) (FD 17)
  d18 : Dn K mg "_law_all" "_law_all" s_law_all ["text", "number"] (A 18) (FD 18)
  d19 : Dn K mg "_law_kinds" "_law_kinds" s_law_kinds ["one"] (A 19) (FD 19)
  d20 : Dn K mg "law" "law" s_law ["script"] (A 20) (FD 20)
  d15000 : Dm K (A 14) "__init__" "Apart.__init__" s_Apart_init ["self", "place"] (A 15000) (FD 15000)
  d16000 : Dm K (A 15) "__init__" "NoText.__init__" s_NoText_init ["self", "row"] (A 16000) (FD 16000)
  n_ValueError : mg "ValueError" = none
  n_abs : mg "abs" = none
  n_isinstance : mg "isinstance" = none
  n_len : mg "len" = none
  n_range : mg "range" = none
  n_str : mg "str" = none
  x_NoWeb : XC K mg "NoWeb" (A 2)
  x_NoPlace : XC K mg "NoPlace" (A 3)
  x_NoThing : XC K mg "NoThing" (A 4)
  x_NoLooks : XC K mg "NoLooks" (A 5)
  x_NoTree : XC K mg "NoTree" (A 6)
  x_NotOne : XC K mg "NotOne" (A 7)
  x_NoSuch : XC K mg "NoSuch" (A 8)
  x_NoCode : XC K mg "NoCode" (A 9)
  x_TooMany : XC K mg "TooMany" (A 10)
  x_NotHeard : XC K mg "NotHeard" (A 11)
  x_NoRow : XC K mg "NoRow" (A 12)
  x_NoBack : XC K mg "NoBack" (A 13)
  x_Apart : XCf K mg "Apart" (A 14)
  x_NoText : XCf K mg "NoText" (A 15)
  xi_Apart : XI K (A 14) (A 15000) "place"
  xi_NoText : XI K (A 15) (A 16000) "row"
  cr_HailError : ClX.CRead K (A 1) (.type "type")
  vi_HailError : PySem.W.findCls K (.ref (A 1)) (.type "type") "__init__" = some (.val (.builtin "ValueError.__init__"))
  g_Apart : mg "Apart" = some (.ref (A 14))
  g_HailError : mg "HailError" = some (.ref (A 1))
  g_NoBack : mg "NoBack" = some (.ref (A 13))
  g_NoCode : mg "NoCode" = some (.ref (A 9))
  g_NoLooks : mg "NoLooks" = some (.ref (A 5))
  g_NoPlace : mg "NoPlace" = some (.ref (A 3))
  g_NoRow : mg "NoRow" = some (.ref (A 12))
  g_NoSuch : mg "NoSuch" = some (.ref (A 8))
  g_NoText : mg "NoText" = some (.ref (A 15))
  g_NoThing : mg "NoThing" = some (.ref (A 4))
  g_NoTree : mg "NoTree" = some (.ref (A 6))
  g_NoWeb : mg "NoWeb" = some (.ref (A 2))
  g_NotHeard : mg "NotHeard" = some (.ref (A 11))
  g_NotOne : mg "NotOne" = some (.ref (A 7))
  g_TooMany : mg "TooMany" = some (.ref (A 10))
  kt_NoWeb_Apart : PySem.W.kitOne K (.ref (A 2)) (.ref (A 14)) = some false
  kt_NoPlace_Apart : PySem.W.kitOne K (.ref (A 3)) (.ref (A 14)) = some false
  kt_NoThing_Apart : PySem.W.kitOne K (.ref (A 4)) (.ref (A 14)) = some false
  kt_NoLooks_Apart : PySem.W.kitOne K (.ref (A 5)) (.ref (A 14)) = some false
  kt_NoTree_Apart : PySem.W.kitOne K (.ref (A 6)) (.ref (A 14)) = some false
  kt_NotOne_Apart : PySem.W.kitOne K (.ref (A 7)) (.ref (A 14)) = some false
  kt_NoSuch_Apart : PySem.W.kitOne K (.ref (A 8)) (.ref (A 14)) = some false
  kt_NoCode_Apart : PySem.W.kitOne K (.ref (A 9)) (.ref (A 14)) = some false
  kt_TooMany_Apart : PySem.W.kitOne K (.ref (A 10)) (.ref (A 14)) = some false
  kt_NotHeard_Apart : PySem.W.kitOne K (.ref (A 11)) (.ref (A 14)) = some false
  kt_NoRow_Apart : PySem.W.kitOne K (.ref (A 12)) (.ref (A 14)) = some false
  kt_NoBack_Apart : PySem.W.kitOne K (.ref (A 13)) (.ref (A 14)) = some false
  kt_Apart_Apart : PySem.W.kitOne K (.ref (A 14)) (.ref (A 14)) = some true
  kt_NoText_Apart : PySem.W.kitOne K (.ref (A 15)) (.ref (A 14)) = some false
  kt_NoWeb_HailError : PySem.W.kitOne K (.ref (A 2)) (.ref (A 1)) = some true
  kt_NoPlace_HailError : PySem.W.kitOne K (.ref (A 3)) (.ref (A 1)) = some true
  kt_NoThing_HailError : PySem.W.kitOne K (.ref (A 4)) (.ref (A 1)) = some true
  kt_NoLooks_HailError : PySem.W.kitOne K (.ref (A 5)) (.ref (A 1)) = some true
  kt_NoTree_HailError : PySem.W.kitOne K (.ref (A 6)) (.ref (A 1)) = some true
  kt_NotOne_HailError : PySem.W.kitOne K (.ref (A 7)) (.ref (A 1)) = some true
  kt_NoSuch_HailError : PySem.W.kitOne K (.ref (A 8)) (.ref (A 1)) = some true
  kt_NoCode_HailError : PySem.W.kitOne K (.ref (A 9)) (.ref (A 1)) = some true
  kt_TooMany_HailError : PySem.W.kitOne K (.ref (A 10)) (.ref (A 1)) = some true
  kt_NotHeard_HailError : PySem.W.kitOne K (.ref (A 11)) (.ref (A 1)) = some true
  kt_NoRow_HailError : PySem.W.kitOne K (.ref (A 12)) (.ref (A 1)) = some true
  kt_NoBack_HailError : PySem.W.kitOne K (.ref (A 13)) (.ref (A 1)) = some true
  kt_Apart_HailError : PySem.W.kitOne K (.ref (A 14)) (.ref (A 1)) = some true
  kt_NoText_HailError : PySem.W.kitOne K (.ref (A 15)) (.ref (A 1)) = some true
  kt_NoWeb_NoBack : PySem.W.kitOne K (.ref (A 2)) (.ref (A 13)) = some false
  kt_NoPlace_NoBack : PySem.W.kitOne K (.ref (A 3)) (.ref (A 13)) = some false
  kt_NoThing_NoBack : PySem.W.kitOne K (.ref (A 4)) (.ref (A 13)) = some false
  kt_NoLooks_NoBack : PySem.W.kitOne K (.ref (A 5)) (.ref (A 13)) = some false
  kt_NoTree_NoBack : PySem.W.kitOne K (.ref (A 6)) (.ref (A 13)) = some false
  kt_NotOne_NoBack : PySem.W.kitOne K (.ref (A 7)) (.ref (A 13)) = some false
  kt_NoSuch_NoBack : PySem.W.kitOne K (.ref (A 8)) (.ref (A 13)) = some false
  kt_NoCode_NoBack : PySem.W.kitOne K (.ref (A 9)) (.ref (A 13)) = some false
  kt_TooMany_NoBack : PySem.W.kitOne K (.ref (A 10)) (.ref (A 13)) = some false
  kt_NotHeard_NoBack : PySem.W.kitOne K (.ref (A 11)) (.ref (A 13)) = some false
  kt_NoRow_NoBack : PySem.W.kitOne K (.ref (A 12)) (.ref (A 13)) = some false
  kt_NoBack_NoBack : PySem.W.kitOne K (.ref (A 13)) (.ref (A 13)) = some true
  kt_Apart_NoBack : PySem.W.kitOne K (.ref (A 14)) (.ref (A 13)) = some false
  kt_NoText_NoBack : PySem.W.kitOne K (.ref (A 15)) (.ref (A 13)) = some false
  kt_NoWeb_NoCode : PySem.W.kitOne K (.ref (A 2)) (.ref (A 9)) = some false
  kt_NoPlace_NoCode : PySem.W.kitOne K (.ref (A 3)) (.ref (A 9)) = some false
  kt_NoThing_NoCode : PySem.W.kitOne K (.ref (A 4)) (.ref (A 9)) = some false
  kt_NoLooks_NoCode : PySem.W.kitOne K (.ref (A 5)) (.ref (A 9)) = some false
  kt_NoTree_NoCode : PySem.W.kitOne K (.ref (A 6)) (.ref (A 9)) = some false
  kt_NotOne_NoCode : PySem.W.kitOne K (.ref (A 7)) (.ref (A 9)) = some false
  kt_NoSuch_NoCode : PySem.W.kitOne K (.ref (A 8)) (.ref (A 9)) = some false
  kt_NoCode_NoCode : PySem.W.kitOne K (.ref (A 9)) (.ref (A 9)) = some true
  kt_TooMany_NoCode : PySem.W.kitOne K (.ref (A 10)) (.ref (A 9)) = some false
  kt_NotHeard_NoCode : PySem.W.kitOne K (.ref (A 11)) (.ref (A 9)) = some false
  kt_NoRow_NoCode : PySem.W.kitOne K (.ref (A 12)) (.ref (A 9)) = some false
  kt_NoBack_NoCode : PySem.W.kitOne K (.ref (A 13)) (.ref (A 9)) = some false
  kt_Apart_NoCode : PySem.W.kitOne K (.ref (A 14)) (.ref (A 9)) = some false
  kt_NoText_NoCode : PySem.W.kitOne K (.ref (A 15)) (.ref (A 9)) = some false
  kt_NoWeb_NoLooks : PySem.W.kitOne K (.ref (A 2)) (.ref (A 5)) = some false
  kt_NoPlace_NoLooks : PySem.W.kitOne K (.ref (A 3)) (.ref (A 5)) = some false
  kt_NoThing_NoLooks : PySem.W.kitOne K (.ref (A 4)) (.ref (A 5)) = some false
  kt_NoLooks_NoLooks : PySem.W.kitOne K (.ref (A 5)) (.ref (A 5)) = some true
  kt_NoTree_NoLooks : PySem.W.kitOne K (.ref (A 6)) (.ref (A 5)) = some false
  kt_NotOne_NoLooks : PySem.W.kitOne K (.ref (A 7)) (.ref (A 5)) = some false
  kt_NoSuch_NoLooks : PySem.W.kitOne K (.ref (A 8)) (.ref (A 5)) = some false
  kt_NoCode_NoLooks : PySem.W.kitOne K (.ref (A 9)) (.ref (A 5)) = some false
  kt_TooMany_NoLooks : PySem.W.kitOne K (.ref (A 10)) (.ref (A 5)) = some false
  kt_NotHeard_NoLooks : PySem.W.kitOne K (.ref (A 11)) (.ref (A 5)) = some false
  kt_NoRow_NoLooks : PySem.W.kitOne K (.ref (A 12)) (.ref (A 5)) = some false
  kt_NoBack_NoLooks : PySem.W.kitOne K (.ref (A 13)) (.ref (A 5)) = some false
  kt_Apart_NoLooks : PySem.W.kitOne K (.ref (A 14)) (.ref (A 5)) = some false
  kt_NoText_NoLooks : PySem.W.kitOne K (.ref (A 15)) (.ref (A 5)) = some false
  kt_NoWeb_NoPlace : PySem.W.kitOne K (.ref (A 2)) (.ref (A 3)) = some false
  kt_NoPlace_NoPlace : PySem.W.kitOne K (.ref (A 3)) (.ref (A 3)) = some true
  kt_NoThing_NoPlace : PySem.W.kitOne K (.ref (A 4)) (.ref (A 3)) = some false
  kt_NoLooks_NoPlace : PySem.W.kitOne K (.ref (A 5)) (.ref (A 3)) = some false
  kt_NoTree_NoPlace : PySem.W.kitOne K (.ref (A 6)) (.ref (A 3)) = some false
  kt_NotOne_NoPlace : PySem.W.kitOne K (.ref (A 7)) (.ref (A 3)) = some false
  kt_NoSuch_NoPlace : PySem.W.kitOne K (.ref (A 8)) (.ref (A 3)) = some false
  kt_NoCode_NoPlace : PySem.W.kitOne K (.ref (A 9)) (.ref (A 3)) = some false
  kt_TooMany_NoPlace : PySem.W.kitOne K (.ref (A 10)) (.ref (A 3)) = some false
  kt_NotHeard_NoPlace : PySem.W.kitOne K (.ref (A 11)) (.ref (A 3)) = some false
  kt_NoRow_NoPlace : PySem.W.kitOne K (.ref (A 12)) (.ref (A 3)) = some false
  kt_NoBack_NoPlace : PySem.W.kitOne K (.ref (A 13)) (.ref (A 3)) = some false
  kt_Apart_NoPlace : PySem.W.kitOne K (.ref (A 14)) (.ref (A 3)) = some false
  kt_NoText_NoPlace : PySem.W.kitOne K (.ref (A 15)) (.ref (A 3)) = some false
  kt_NoWeb_NoRow : PySem.W.kitOne K (.ref (A 2)) (.ref (A 12)) = some false
  kt_NoPlace_NoRow : PySem.W.kitOne K (.ref (A 3)) (.ref (A 12)) = some false
  kt_NoThing_NoRow : PySem.W.kitOne K (.ref (A 4)) (.ref (A 12)) = some false
  kt_NoLooks_NoRow : PySem.W.kitOne K (.ref (A 5)) (.ref (A 12)) = some false
  kt_NoTree_NoRow : PySem.W.kitOne K (.ref (A 6)) (.ref (A 12)) = some false
  kt_NotOne_NoRow : PySem.W.kitOne K (.ref (A 7)) (.ref (A 12)) = some false
  kt_NoSuch_NoRow : PySem.W.kitOne K (.ref (A 8)) (.ref (A 12)) = some false
  kt_NoCode_NoRow : PySem.W.kitOne K (.ref (A 9)) (.ref (A 12)) = some false
  kt_TooMany_NoRow : PySem.W.kitOne K (.ref (A 10)) (.ref (A 12)) = some false
  kt_NotHeard_NoRow : PySem.W.kitOne K (.ref (A 11)) (.ref (A 12)) = some false
  kt_NoRow_NoRow : PySem.W.kitOne K (.ref (A 12)) (.ref (A 12)) = some true
  kt_NoBack_NoRow : PySem.W.kitOne K (.ref (A 13)) (.ref (A 12)) = some false
  kt_Apart_NoRow : PySem.W.kitOne K (.ref (A 14)) (.ref (A 12)) = some false
  kt_NoText_NoRow : PySem.W.kitOne K (.ref (A 15)) (.ref (A 12)) = some false
  kt_NoWeb_NoSuch : PySem.W.kitOne K (.ref (A 2)) (.ref (A 8)) = some false
  kt_NoPlace_NoSuch : PySem.W.kitOne K (.ref (A 3)) (.ref (A 8)) = some false
  kt_NoThing_NoSuch : PySem.W.kitOne K (.ref (A 4)) (.ref (A 8)) = some false
  kt_NoLooks_NoSuch : PySem.W.kitOne K (.ref (A 5)) (.ref (A 8)) = some false
  kt_NoTree_NoSuch : PySem.W.kitOne K (.ref (A 6)) (.ref (A 8)) = some false
  kt_NotOne_NoSuch : PySem.W.kitOne K (.ref (A 7)) (.ref (A 8)) = some false
  kt_NoSuch_NoSuch : PySem.W.kitOne K (.ref (A 8)) (.ref (A 8)) = some true
  kt_NoCode_NoSuch : PySem.W.kitOne K (.ref (A 9)) (.ref (A 8)) = some false
  kt_TooMany_NoSuch : PySem.W.kitOne K (.ref (A 10)) (.ref (A 8)) = some false
  kt_NotHeard_NoSuch : PySem.W.kitOne K (.ref (A 11)) (.ref (A 8)) = some false
  kt_NoRow_NoSuch : PySem.W.kitOne K (.ref (A 12)) (.ref (A 8)) = some false
  kt_NoBack_NoSuch : PySem.W.kitOne K (.ref (A 13)) (.ref (A 8)) = some false
  kt_Apart_NoSuch : PySem.W.kitOne K (.ref (A 14)) (.ref (A 8)) = some false
  kt_NoText_NoSuch : PySem.W.kitOne K (.ref (A 15)) (.ref (A 8)) = some false
  kt_NoWeb_NoText : PySem.W.kitOne K (.ref (A 2)) (.ref (A 15)) = some false
  kt_NoPlace_NoText : PySem.W.kitOne K (.ref (A 3)) (.ref (A 15)) = some false
  kt_NoThing_NoText : PySem.W.kitOne K (.ref (A 4)) (.ref (A 15)) = some false
  kt_NoLooks_NoText : PySem.W.kitOne K (.ref (A 5)) (.ref (A 15)) = some false
  kt_NoTree_NoText : PySem.W.kitOne K (.ref (A 6)) (.ref (A 15)) = some false
  kt_NotOne_NoText : PySem.W.kitOne K (.ref (A 7)) (.ref (A 15)) = some false
  kt_NoSuch_NoText : PySem.W.kitOne K (.ref (A 8)) (.ref (A 15)) = some false
  kt_NoCode_NoText : PySem.W.kitOne K (.ref (A 9)) (.ref (A 15)) = some false
  kt_TooMany_NoText : PySem.W.kitOne K (.ref (A 10)) (.ref (A 15)) = some false
  kt_NotHeard_NoText : PySem.W.kitOne K (.ref (A 11)) (.ref (A 15)) = some false
  kt_NoRow_NoText : PySem.W.kitOne K (.ref (A 12)) (.ref (A 15)) = some false
  kt_NoBack_NoText : PySem.W.kitOne K (.ref (A 13)) (.ref (A 15)) = some false
  kt_Apart_NoText : PySem.W.kitOne K (.ref (A 14)) (.ref (A 15)) = some false
  kt_NoText_NoText : PySem.W.kitOne K (.ref (A 15)) (.ref (A 15)) = some true
  kt_NoWeb_NoThing : PySem.W.kitOne K (.ref (A 2)) (.ref (A 4)) = some false
  kt_NoPlace_NoThing : PySem.W.kitOne K (.ref (A 3)) (.ref (A 4)) = some false
  kt_NoThing_NoThing : PySem.W.kitOne K (.ref (A 4)) (.ref (A 4)) = some true
  kt_NoLooks_NoThing : PySem.W.kitOne K (.ref (A 5)) (.ref (A 4)) = some false
  kt_NoTree_NoThing : PySem.W.kitOne K (.ref (A 6)) (.ref (A 4)) = some false
  kt_NotOne_NoThing : PySem.W.kitOne K (.ref (A 7)) (.ref (A 4)) = some false
  kt_NoSuch_NoThing : PySem.W.kitOne K (.ref (A 8)) (.ref (A 4)) = some false
  kt_NoCode_NoThing : PySem.W.kitOne K (.ref (A 9)) (.ref (A 4)) = some false
  kt_TooMany_NoThing : PySem.W.kitOne K (.ref (A 10)) (.ref (A 4)) = some false
  kt_NotHeard_NoThing : PySem.W.kitOne K (.ref (A 11)) (.ref (A 4)) = some false
  kt_NoRow_NoThing : PySem.W.kitOne K (.ref (A 12)) (.ref (A 4)) = some false
  kt_NoBack_NoThing : PySem.W.kitOne K (.ref (A 13)) (.ref (A 4)) = some false
  kt_Apart_NoThing : PySem.W.kitOne K (.ref (A 14)) (.ref (A 4)) = some false
  kt_NoText_NoThing : PySem.W.kitOne K (.ref (A 15)) (.ref (A 4)) = some false
  kt_NoWeb_NoTree : PySem.W.kitOne K (.ref (A 2)) (.ref (A 6)) = some false
  kt_NoPlace_NoTree : PySem.W.kitOne K (.ref (A 3)) (.ref (A 6)) = some false
  kt_NoThing_NoTree : PySem.W.kitOne K (.ref (A 4)) (.ref (A 6)) = some false
  kt_NoLooks_NoTree : PySem.W.kitOne K (.ref (A 5)) (.ref (A 6)) = some false
  kt_NoTree_NoTree : PySem.W.kitOne K (.ref (A 6)) (.ref (A 6)) = some true
  kt_NotOne_NoTree : PySem.W.kitOne K (.ref (A 7)) (.ref (A 6)) = some false
  kt_NoSuch_NoTree : PySem.W.kitOne K (.ref (A 8)) (.ref (A 6)) = some false
  kt_NoCode_NoTree : PySem.W.kitOne K (.ref (A 9)) (.ref (A 6)) = some false
  kt_TooMany_NoTree : PySem.W.kitOne K (.ref (A 10)) (.ref (A 6)) = some false
  kt_NotHeard_NoTree : PySem.W.kitOne K (.ref (A 11)) (.ref (A 6)) = some false
  kt_NoRow_NoTree : PySem.W.kitOne K (.ref (A 12)) (.ref (A 6)) = some false
  kt_NoBack_NoTree : PySem.W.kitOne K (.ref (A 13)) (.ref (A 6)) = some false
  kt_Apart_NoTree : PySem.W.kitOne K (.ref (A 14)) (.ref (A 6)) = some false
  kt_NoText_NoTree : PySem.W.kitOne K (.ref (A 15)) (.ref (A 6)) = some false
  kt_NoWeb_NoWeb : PySem.W.kitOne K (.ref (A 2)) (.ref (A 2)) = some true
  kt_NoPlace_NoWeb : PySem.W.kitOne K (.ref (A 3)) (.ref (A 2)) = some false
  kt_NoThing_NoWeb : PySem.W.kitOne K (.ref (A 4)) (.ref (A 2)) = some false
  kt_NoLooks_NoWeb : PySem.W.kitOne K (.ref (A 5)) (.ref (A 2)) = some false
  kt_NoTree_NoWeb : PySem.W.kitOne K (.ref (A 6)) (.ref (A 2)) = some false
  kt_NotOne_NoWeb : PySem.W.kitOne K (.ref (A 7)) (.ref (A 2)) = some false
  kt_NoSuch_NoWeb : PySem.W.kitOne K (.ref (A 8)) (.ref (A 2)) = some false
  kt_NoCode_NoWeb : PySem.W.kitOne K (.ref (A 9)) (.ref (A 2)) = some false
  kt_TooMany_NoWeb : PySem.W.kitOne K (.ref (A 10)) (.ref (A 2)) = some false
  kt_NotHeard_NoWeb : PySem.W.kitOne K (.ref (A 11)) (.ref (A 2)) = some false
  kt_NoRow_NoWeb : PySem.W.kitOne K (.ref (A 12)) (.ref (A 2)) = some false
  kt_NoBack_NoWeb : PySem.W.kitOne K (.ref (A 13)) (.ref (A 2)) = some false
  kt_Apart_NoWeb : PySem.W.kitOne K (.ref (A 14)) (.ref (A 2)) = some false
  kt_NoText_NoWeb : PySem.W.kitOne K (.ref (A 15)) (.ref (A 2)) = some false
  kt_NoWeb_NotHeard : PySem.W.kitOne K (.ref (A 2)) (.ref (A 11)) = some false
  kt_NoPlace_NotHeard : PySem.W.kitOne K (.ref (A 3)) (.ref (A 11)) = some false
  kt_NoThing_NotHeard : PySem.W.kitOne K (.ref (A 4)) (.ref (A 11)) = some false
  kt_NoLooks_NotHeard : PySem.W.kitOne K (.ref (A 5)) (.ref (A 11)) = some false
  kt_NoTree_NotHeard : PySem.W.kitOne K (.ref (A 6)) (.ref (A 11)) = some false
  kt_NotOne_NotHeard : PySem.W.kitOne K (.ref (A 7)) (.ref (A 11)) = some false
  kt_NoSuch_NotHeard : PySem.W.kitOne K (.ref (A 8)) (.ref (A 11)) = some false
  kt_NoCode_NotHeard : PySem.W.kitOne K (.ref (A 9)) (.ref (A 11)) = some false
  kt_TooMany_NotHeard : PySem.W.kitOne K (.ref (A 10)) (.ref (A 11)) = some false
  kt_NotHeard_NotHeard : PySem.W.kitOne K (.ref (A 11)) (.ref (A 11)) = some true
  kt_NoRow_NotHeard : PySem.W.kitOne K (.ref (A 12)) (.ref (A 11)) = some false
  kt_NoBack_NotHeard : PySem.W.kitOne K (.ref (A 13)) (.ref (A 11)) = some false
  kt_Apart_NotHeard : PySem.W.kitOne K (.ref (A 14)) (.ref (A 11)) = some false
  kt_NoText_NotHeard : PySem.W.kitOne K (.ref (A 15)) (.ref (A 11)) = some false
  kt_NoWeb_NotOne : PySem.W.kitOne K (.ref (A 2)) (.ref (A 7)) = some false
  kt_NoPlace_NotOne : PySem.W.kitOne K (.ref (A 3)) (.ref (A 7)) = some false
  kt_NoThing_NotOne : PySem.W.kitOne K (.ref (A 4)) (.ref (A 7)) = some false
  kt_NoLooks_NotOne : PySem.W.kitOne K (.ref (A 5)) (.ref (A 7)) = some false
  kt_NoTree_NotOne : PySem.W.kitOne K (.ref (A 6)) (.ref (A 7)) = some false
  kt_NotOne_NotOne : PySem.W.kitOne K (.ref (A 7)) (.ref (A 7)) = some true
  kt_NoSuch_NotOne : PySem.W.kitOne K (.ref (A 8)) (.ref (A 7)) = some false
  kt_NoCode_NotOne : PySem.W.kitOne K (.ref (A 9)) (.ref (A 7)) = some false
  kt_TooMany_NotOne : PySem.W.kitOne K (.ref (A 10)) (.ref (A 7)) = some false
  kt_NotHeard_NotOne : PySem.W.kitOne K (.ref (A 11)) (.ref (A 7)) = some false
  kt_NoRow_NotOne : PySem.W.kitOne K (.ref (A 12)) (.ref (A 7)) = some false
  kt_NoBack_NotOne : PySem.W.kitOne K (.ref (A 13)) (.ref (A 7)) = some false
  kt_Apart_NotOne : PySem.W.kitOne K (.ref (A 14)) (.ref (A 7)) = some false
  kt_NoText_NotOne : PySem.W.kitOne K (.ref (A 15)) (.ref (A 7)) = some false
  kt_NoWeb_TooMany : PySem.W.kitOne K (.ref (A 2)) (.ref (A 10)) = some false
  kt_NoPlace_TooMany : PySem.W.kitOne K (.ref (A 3)) (.ref (A 10)) = some false
  kt_NoThing_TooMany : PySem.W.kitOne K (.ref (A 4)) (.ref (A 10)) = some false
  kt_NoLooks_TooMany : PySem.W.kitOne K (.ref (A 5)) (.ref (A 10)) = some false
  kt_NoTree_TooMany : PySem.W.kitOne K (.ref (A 6)) (.ref (A 10)) = some false
  kt_NotOne_TooMany : PySem.W.kitOne K (.ref (A 7)) (.ref (A 10)) = some false
  kt_NoSuch_TooMany : PySem.W.kitOne K (.ref (A 8)) (.ref (A 10)) = some false
  kt_NoCode_TooMany : PySem.W.kitOne K (.ref (A 9)) (.ref (A 10)) = some false
  kt_TooMany_TooMany : PySem.W.kitOne K (.ref (A 10)) (.ref (A 10)) = some true
  kt_NotHeard_TooMany : PySem.W.kitOne K (.ref (A 11)) (.ref (A 10)) = some false
  kt_NoRow_TooMany : PySem.W.kitOne K (.ref (A 12)) (.ref (A 10)) = some false
  kt_NoBack_TooMany : PySem.W.kitOne K (.ref (A 13)) (.ref (A 10)) = some false
  kt_Apart_TooMany : PySem.W.kitOne K (.ref (A 14)) (.ref (A 10)) = some false
  kt_NoText_TooMany : PySem.W.kitOne K (.ref (A 15)) (.ref (A 10)) = some false
  kt_NoWeb_ValueError : PySem.W.kitOne K (.ref (A 2)) (.type "ValueError") = some true
  kt_NoPlace_ValueError : PySem.W.kitOne K (.ref (A 3)) (.type "ValueError") = some true
  kt_NoThing_ValueError : PySem.W.kitOne K (.ref (A 4)) (.type "ValueError") = some true
  kt_NoLooks_ValueError : PySem.W.kitOne K (.ref (A 5)) (.type "ValueError") = some true
  kt_NoTree_ValueError : PySem.W.kitOne K (.ref (A 6)) (.type "ValueError") = some true
  kt_NotOne_ValueError : PySem.W.kitOne K (.ref (A 7)) (.type "ValueError") = some true
  kt_NoSuch_ValueError : PySem.W.kitOne K (.ref (A 8)) (.type "ValueError") = some true
  kt_NoCode_ValueError : PySem.W.kitOne K (.ref (A 9)) (.type "ValueError") = some true
  kt_TooMany_ValueError : PySem.W.kitOne K (.ref (A 10)) (.type "ValueError") = some true
  kt_NotHeard_ValueError : PySem.W.kitOne K (.ref (A 11)) (.type "ValueError") = some true
  kt_NoRow_ValueError : PySem.W.kitOne K (.ref (A 12)) (.type "ValueError") = some true
  kt_NoBack_ValueError : PySem.W.kitOne K (.ref (A 13)) (.type "ValueError") = some true
  kt_Apart_ValueError : PySem.W.kitOne K (.ref (A 14)) (.type "ValueError") = some true
  kt_NoText_ValueError : PySem.W.kitOne K (.ref (A 15)) (.type "ValueError") = some true
theorem Tx.exc {K : Fg} {mg : Str → Option Value} {A : Nat → Addr} {FD : Nat → FuncData} (T : Tx K mg A FD) {x : Str} {C : Addr} (h : x ∈ names) (n : Nm K x C) : ExcC K C := by
  simp only [names, List.mem_cons, List.mem_nil_iff, or_false] at h
  rcases h with rfl | rfl | rfl | rfl | rfl | rfl | rfl | rfl | rfl | rfl | rfl | rfl | rfl | rfl
  · obtain rfl := n.uniq T.x_NoWeb.ns; exact T.x_NoWeb.ex
  · obtain rfl := n.uniq T.x_NoPlace.ns; exact T.x_NoPlace.ex
  · obtain rfl := n.uniq T.x_NoThing.ns; exact T.x_NoThing.ex
  · obtain rfl := n.uniq T.x_NoLooks.ns; exact T.x_NoLooks.ex
  · obtain rfl := n.uniq T.x_NoTree.ns; exact T.x_NoTree.ex
  · obtain rfl := n.uniq T.x_NotOne.ns; exact T.x_NotOne.ex
  · obtain rfl := n.uniq T.x_NoSuch.ns; exact T.x_NoSuch.ex
  · obtain rfl := n.uniq T.x_NoCode.ns; exact T.x_NoCode.ex
  · obtain rfl := n.uniq T.x_TooMany.ns; exact T.x_TooMany.ex
  · obtain rfl := n.uniq T.x_NotHeard.ns; exact T.x_NotHeard.ex
  · obtain rfl := n.uniq T.x_NoRow.ns; exact T.x_NoRow.ex
  · obtain rfl := n.uniq T.x_NoBack.ns; exact T.x_NoBack.ex
  · obtain rfl := n.uniq T.x_Apart.ns; exact T.x_Apart.ex
  · obtain rfl := n.uniq T.x_NoText.ns; exact T.x_NoText.ex
theorem Tx.ki0 {K : Fg} {mg : Str → Option Value} {A : Nat → Addr} {FD : Nat → FuncData} (T : Tx K mg A FD) {x : Str} {C : Addr} (h : x ∈ names) (n : Nm K x C) : PySem.W.kitOne K (.ref C) (.ref (A 2)) = some (decide (x ∈ ([("NoWeb" : Str)] : List Str))) := by
  simp only [names, List.mem_cons, List.mem_nil_iff, or_false] at h
  rcases h with rfl | rfl | rfl | rfl | rfl | rfl | rfl | rfl | rfl | rfl | rfl | rfl | rfl | rfl
  · obtain rfl := n.uniq T.x_NoWeb.ns; exact T.kt_NoWeb_NoWeb.trans (by decide +kernel)
  · obtain rfl := n.uniq T.x_NoPlace.ns; exact T.kt_NoPlace_NoWeb.trans (by decide +kernel)
  · obtain rfl := n.uniq T.x_NoThing.ns; exact T.kt_NoThing_NoWeb.trans (by decide +kernel)
  · obtain rfl := n.uniq T.x_NoLooks.ns; exact T.kt_NoLooks_NoWeb.trans (by decide +kernel)
  · obtain rfl := n.uniq T.x_NoTree.ns; exact T.kt_NoTree_NoWeb.trans (by decide +kernel)
  · obtain rfl := n.uniq T.x_NotOne.ns; exact T.kt_NotOne_NoWeb.trans (by decide +kernel)
  · obtain rfl := n.uniq T.x_NoSuch.ns; exact T.kt_NoSuch_NoWeb.trans (by decide +kernel)
  · obtain rfl := n.uniq T.x_NoCode.ns; exact T.kt_NoCode_NoWeb.trans (by decide +kernel)
  · obtain rfl := n.uniq T.x_TooMany.ns; exact T.kt_TooMany_NoWeb.trans (by decide +kernel)
  · obtain rfl := n.uniq T.x_NotHeard.ns; exact T.kt_NotHeard_NoWeb.trans (by decide +kernel)
  · obtain rfl := n.uniq T.x_NoRow.ns; exact T.kt_NoRow_NoWeb.trans (by decide +kernel)
  · obtain rfl := n.uniq T.x_NoBack.ns; exact T.kt_NoBack_NoWeb.trans (by decide +kernel)
  · obtain rfl := n.uniq T.x_Apart.ns; exact T.kt_Apart_NoWeb.trans (by decide +kernel)
  · obtain rfl := n.uniq T.x_NoText.ns; exact T.kt_NoText_NoWeb.trans (by decide +kernel)
theorem Tx.ki1 {K : Fg} {mg : Str → Option Value} {A : Nat → Addr} {FD : Nat → FuncData} (T : Tx K mg A FD) {x : Str} {C : Addr} (h : x ∈ names) (n : Nm K x C) : PySem.W.kitOne K (.ref C) (.ref (A 3)) = some (decide (x ∈ ([("NoPlace" : Str)] : List Str))) := by
  simp only [names, List.mem_cons, List.mem_nil_iff, or_false] at h
  rcases h with rfl | rfl | rfl | rfl | rfl | rfl | rfl | rfl | rfl | rfl | rfl | rfl | rfl | rfl
  · obtain rfl := n.uniq T.x_NoWeb.ns; exact T.kt_NoWeb_NoPlace.trans (by decide +kernel)
  · obtain rfl := n.uniq T.x_NoPlace.ns; exact T.kt_NoPlace_NoPlace.trans (by decide +kernel)
  · obtain rfl := n.uniq T.x_NoThing.ns; exact T.kt_NoThing_NoPlace.trans (by decide +kernel)
  · obtain rfl := n.uniq T.x_NoLooks.ns; exact T.kt_NoLooks_NoPlace.trans (by decide +kernel)
  · obtain rfl := n.uniq T.x_NoTree.ns; exact T.kt_NoTree_NoPlace.trans (by decide +kernel)
  · obtain rfl := n.uniq T.x_NotOne.ns; exact T.kt_NotOne_NoPlace.trans (by decide +kernel)
  · obtain rfl := n.uniq T.x_NoSuch.ns; exact T.kt_NoSuch_NoPlace.trans (by decide +kernel)
  · obtain rfl := n.uniq T.x_NoCode.ns; exact T.kt_NoCode_NoPlace.trans (by decide +kernel)
  · obtain rfl := n.uniq T.x_TooMany.ns; exact T.kt_TooMany_NoPlace.trans (by decide +kernel)
  · obtain rfl := n.uniq T.x_NotHeard.ns; exact T.kt_NotHeard_NoPlace.trans (by decide +kernel)
  · obtain rfl := n.uniq T.x_NoRow.ns; exact T.kt_NoRow_NoPlace.trans (by decide +kernel)
  · obtain rfl := n.uniq T.x_NoBack.ns; exact T.kt_NoBack_NoPlace.trans (by decide +kernel)
  · obtain rfl := n.uniq T.x_Apart.ns; exact T.kt_Apart_NoPlace.trans (by decide +kernel)
  · obtain rfl := n.uniq T.x_NoText.ns; exact T.kt_NoText_NoPlace.trans (by decide +kernel)
theorem Tx.ki2 {K : Fg} {mg : Str → Option Value} {A : Nat → Addr} {FD : Nat → FuncData} (T : Tx K mg A FD) {x : Str} {C : Addr} (h : x ∈ names) (n : Nm K x C) : PySem.W.kitOne K (.ref C) (.ref (A 4)) = some (decide (x ∈ ([("NoThing" : Str)] : List Str))) := by
  simp only [names, List.mem_cons, List.mem_nil_iff, or_false] at h
  rcases h with rfl | rfl | rfl | rfl | rfl | rfl | rfl | rfl | rfl | rfl | rfl | rfl | rfl | rfl
  · obtain rfl := n.uniq T.x_NoWeb.ns; exact T.kt_NoWeb_NoThing.trans (by decide +kernel)
  · obtain rfl := n.uniq T.x_NoPlace.ns; exact T.kt_NoPlace_NoThing.trans (by decide +kernel)
  · obtain rfl := n.uniq T.x_NoThing.ns; exact T.kt_NoThing_NoThing.trans (by decide +kernel)
  · obtain rfl := n.uniq T.x_NoLooks.ns; exact T.kt_NoLooks_NoThing.trans (by decide +kernel)
  · obtain rfl := n.uniq T.x_NoTree.ns; exact T.kt_NoTree_NoThing.trans (by decide +kernel)
  · obtain rfl := n.uniq T.x_NotOne.ns; exact T.kt_NotOne_NoThing.trans (by decide +kernel)
  · obtain rfl := n.uniq T.x_NoSuch.ns; exact T.kt_NoSuch_NoThing.trans (by decide +kernel)
  · obtain rfl := n.uniq T.x_NoCode.ns; exact T.kt_NoCode_NoThing.trans (by decide +kernel)
  · obtain rfl := n.uniq T.x_TooMany.ns; exact T.kt_TooMany_NoThing.trans (by decide +kernel)
  · obtain rfl := n.uniq T.x_NotHeard.ns; exact T.kt_NotHeard_NoThing.trans (by decide +kernel)
  · obtain rfl := n.uniq T.x_NoRow.ns; exact T.kt_NoRow_NoThing.trans (by decide +kernel)
  · obtain rfl := n.uniq T.x_NoBack.ns; exact T.kt_NoBack_NoThing.trans (by decide +kernel)
  · obtain rfl := n.uniq T.x_Apart.ns; exact T.kt_Apart_NoThing.trans (by decide +kernel)
  · obtain rfl := n.uniq T.x_NoText.ns; exact T.kt_NoText_NoThing.trans (by decide +kernel)
theorem Tx.ki3 {K : Fg} {mg : Str → Option Value} {A : Nat → Addr} {FD : Nat → FuncData} (T : Tx K mg A FD) {x : Str} {C : Addr} (h : x ∈ names) (n : Nm K x C) : PySem.W.kitOne K (.ref C) (.ref (A 5)) = some (decide (x ∈ ([("NoLooks" : Str)] : List Str))) := by
  simp only [names, List.mem_cons, List.mem_nil_iff, or_false] at h
  rcases h with rfl | rfl | rfl | rfl | rfl | rfl | rfl | rfl | rfl | rfl | rfl | rfl | rfl | rfl
  · obtain rfl := n.uniq T.x_NoWeb.ns; exact T.kt_NoWeb_NoLooks.trans (by decide +kernel)
  · obtain rfl := n.uniq T.x_NoPlace.ns; exact T.kt_NoPlace_NoLooks.trans (by decide +kernel)
  · obtain rfl := n.uniq T.x_NoThing.ns; exact T.kt_NoThing_NoLooks.trans (by decide +kernel)
  · obtain rfl := n.uniq T.x_NoLooks.ns; exact T.kt_NoLooks_NoLooks.trans (by decide +kernel)
  · obtain rfl := n.uniq T.x_NoTree.ns; exact T.kt_NoTree_NoLooks.trans (by decide +kernel)
  · obtain rfl := n.uniq T.x_NotOne.ns; exact T.kt_NotOne_NoLooks.trans (by decide +kernel)
  · obtain rfl := n.uniq T.x_NoSuch.ns; exact T.kt_NoSuch_NoLooks.trans (by decide +kernel)
  · obtain rfl := n.uniq T.x_NoCode.ns; exact T.kt_NoCode_NoLooks.trans (by decide +kernel)
  · obtain rfl := n.uniq T.x_TooMany.ns; exact T.kt_TooMany_NoLooks.trans (by decide +kernel)
  · obtain rfl := n.uniq T.x_NotHeard.ns; exact T.kt_NotHeard_NoLooks.trans (by decide +kernel)
  · obtain rfl := n.uniq T.x_NoRow.ns; exact T.kt_NoRow_NoLooks.trans (by decide +kernel)
  · obtain rfl := n.uniq T.x_NoBack.ns; exact T.kt_NoBack_NoLooks.trans (by decide +kernel)
  · obtain rfl := n.uniq T.x_Apart.ns; exact T.kt_Apart_NoLooks.trans (by decide +kernel)
  · obtain rfl := n.uniq T.x_NoText.ns; exact T.kt_NoText_NoLooks.trans (by decide +kernel)
theorem Tx.ki4 {K : Fg} {mg : Str → Option Value} {A : Nat → Addr} {FD : Nat → FuncData} (T : Tx K mg A FD) {x : Str} {C : Addr} (h : x ∈ names) (n : Nm K x C) : PySem.W.kitOne K (.ref C) (.ref (A 6)) = some (decide (x ∈ ([("NoTree" : Str)] : List Str))) := by
  simp only [names, List.mem_cons, List.mem_nil_iff, or_false] at h
  rcases h with rfl | rfl | rfl | rfl | rfl | rfl | rfl | rfl | rfl | rfl | rfl | rfl | rfl | rfl
  · obtain rfl := n.uniq T.x_NoWeb.ns; exact T.kt_NoWeb_NoTree.trans (by decide +kernel)
  · obtain rfl := n.uniq T.x_NoPlace.ns; exact T.kt_NoPlace_NoTree.trans (by decide +kernel)
  · obtain rfl := n.uniq T.x_NoThing.ns; exact T.kt_NoThing_NoTree.trans (by decide +kernel)
  · obtain rfl := n.uniq T.x_NoLooks.ns; exact T.kt_NoLooks_NoTree.trans (by decide +kernel)
  · obtain rfl := n.uniq T.x_NoTree.ns; exact T.kt_NoTree_NoTree.trans (by decide +kernel)
  · obtain rfl := n.uniq T.x_NotOne.ns; exact T.kt_NotOne_NoTree.trans (by decide +kernel)
  · obtain rfl := n.uniq T.x_NoSuch.ns; exact T.kt_NoSuch_NoTree.trans (by decide +kernel)
  · obtain rfl := n.uniq T.x_NoCode.ns; exact T.kt_NoCode_NoTree.trans (by decide +kernel)
  · obtain rfl := n.uniq T.x_TooMany.ns; exact T.kt_TooMany_NoTree.trans (by decide +kernel)
  · obtain rfl := n.uniq T.x_NotHeard.ns; exact T.kt_NotHeard_NoTree.trans (by decide +kernel)
  · obtain rfl := n.uniq T.x_NoRow.ns; exact T.kt_NoRow_NoTree.trans (by decide +kernel)
  · obtain rfl := n.uniq T.x_NoBack.ns; exact T.kt_NoBack_NoTree.trans (by decide +kernel)
  · obtain rfl := n.uniq T.x_Apart.ns; exact T.kt_Apart_NoTree.trans (by decide +kernel)
  · obtain rfl := n.uniq T.x_NoText.ns; exact T.kt_NoText_NoTree.trans (by decide +kernel)
theorem Tx.ki5 {K : Fg} {mg : Str → Option Value} {A : Nat → Addr} {FD : Nat → FuncData} (T : Tx K mg A FD) {x : Str} {C : Addr} (h : x ∈ names) (n : Nm K x C) : PySem.W.kitOne K (.ref C) (.ref (A 7)) = some (decide (x ∈ ([("NotOne" : Str)] : List Str))) := by
  simp only [names, List.mem_cons, List.mem_nil_iff, or_false] at h
  rcases h with rfl | rfl | rfl | rfl | rfl | rfl | rfl | rfl | rfl | rfl | rfl | rfl | rfl | rfl
  · obtain rfl := n.uniq T.x_NoWeb.ns; exact T.kt_NoWeb_NotOne.trans (by decide +kernel)
  · obtain rfl := n.uniq T.x_NoPlace.ns; exact T.kt_NoPlace_NotOne.trans (by decide +kernel)
  · obtain rfl := n.uniq T.x_NoThing.ns; exact T.kt_NoThing_NotOne.trans (by decide +kernel)
  · obtain rfl := n.uniq T.x_NoLooks.ns; exact T.kt_NoLooks_NotOne.trans (by decide +kernel)
  · obtain rfl := n.uniq T.x_NoTree.ns; exact T.kt_NoTree_NotOne.trans (by decide +kernel)
  · obtain rfl := n.uniq T.x_NotOne.ns; exact T.kt_NotOne_NotOne.trans (by decide +kernel)
  · obtain rfl := n.uniq T.x_NoSuch.ns; exact T.kt_NoSuch_NotOne.trans (by decide +kernel)
  · obtain rfl := n.uniq T.x_NoCode.ns; exact T.kt_NoCode_NotOne.trans (by decide +kernel)
  · obtain rfl := n.uniq T.x_TooMany.ns; exact T.kt_TooMany_NotOne.trans (by decide +kernel)
  · obtain rfl := n.uniq T.x_NotHeard.ns; exact T.kt_NotHeard_NotOne.trans (by decide +kernel)
  · obtain rfl := n.uniq T.x_NoRow.ns; exact T.kt_NoRow_NotOne.trans (by decide +kernel)
  · obtain rfl := n.uniq T.x_NoBack.ns; exact T.kt_NoBack_NotOne.trans (by decide +kernel)
  · obtain rfl := n.uniq T.x_Apart.ns; exact T.kt_Apart_NotOne.trans (by decide +kernel)
  · obtain rfl := n.uniq T.x_NoText.ns; exact T.kt_NoText_NotOne.trans (by decide +kernel)
theorem Tx.ki6 {K : Fg} {mg : Str → Option Value} {A : Nat → Addr} {FD : Nat → FuncData} (T : Tx K mg A FD) {x : Str} {C : Addr} (h : x ∈ names) (n : Nm K x C) : PySem.W.kitOne K (.ref C) (.ref (A 8)) = some (decide (x ∈ ([("NoSuch" : Str)] : List Str))) := by
  simp only [names, List.mem_cons, List.mem_nil_iff, or_false] at h
  rcases h with rfl | rfl | rfl | rfl | rfl | rfl | rfl | rfl | rfl | rfl | rfl | rfl | rfl | rfl
  · obtain rfl := n.uniq T.x_NoWeb.ns; exact T.kt_NoWeb_NoSuch.trans (by decide +kernel)
  · obtain rfl := n.uniq T.x_NoPlace.ns; exact T.kt_NoPlace_NoSuch.trans (by decide +kernel)
  · obtain rfl := n.uniq T.x_NoThing.ns; exact T.kt_NoThing_NoSuch.trans (by decide +kernel)
  · obtain rfl := n.uniq T.x_NoLooks.ns; exact T.kt_NoLooks_NoSuch.trans (by decide +kernel)
  · obtain rfl := n.uniq T.x_NoTree.ns; exact T.kt_NoTree_NoSuch.trans (by decide +kernel)
  · obtain rfl := n.uniq T.x_NotOne.ns; exact T.kt_NotOne_NoSuch.trans (by decide +kernel)
  · obtain rfl := n.uniq T.x_NoSuch.ns; exact T.kt_NoSuch_NoSuch.trans (by decide +kernel)
  · obtain rfl := n.uniq T.x_NoCode.ns; exact T.kt_NoCode_NoSuch.trans (by decide +kernel)
  · obtain rfl := n.uniq T.x_TooMany.ns; exact T.kt_TooMany_NoSuch.trans (by decide +kernel)
  · obtain rfl := n.uniq T.x_NotHeard.ns; exact T.kt_NotHeard_NoSuch.trans (by decide +kernel)
  · obtain rfl := n.uniq T.x_NoRow.ns; exact T.kt_NoRow_NoSuch.trans (by decide +kernel)
  · obtain rfl := n.uniq T.x_NoBack.ns; exact T.kt_NoBack_NoSuch.trans (by decide +kernel)
  · obtain rfl := n.uniq T.x_Apart.ns; exact T.kt_Apart_NoSuch.trans (by decide +kernel)
  · obtain rfl := n.uniq T.x_NoText.ns; exact T.kt_NoText_NoSuch.trans (by decide +kernel)
theorem Tx.ki7 {K : Fg} {mg : Str → Option Value} {A : Nat → Addr} {FD : Nat → FuncData} (T : Tx K mg A FD) {x : Str} {C : Addr} (h : x ∈ names) (n : Nm K x C) : PySem.W.kitOne K (.ref C) (.ref (A 9)) = some (decide (x ∈ ([("NoCode" : Str)] : List Str))) := by
  simp only [names, List.mem_cons, List.mem_nil_iff, or_false] at h
  rcases h with rfl | rfl | rfl | rfl | rfl | rfl | rfl | rfl | rfl | rfl | rfl | rfl | rfl | rfl
  · obtain rfl := n.uniq T.x_NoWeb.ns; exact T.kt_NoWeb_NoCode.trans (by decide +kernel)
  · obtain rfl := n.uniq T.x_NoPlace.ns; exact T.kt_NoPlace_NoCode.trans (by decide +kernel)
  · obtain rfl := n.uniq T.x_NoThing.ns; exact T.kt_NoThing_NoCode.trans (by decide +kernel)
  · obtain rfl := n.uniq T.x_NoLooks.ns; exact T.kt_NoLooks_NoCode.trans (by decide +kernel)
  · obtain rfl := n.uniq T.x_NoTree.ns; exact T.kt_NoTree_NoCode.trans (by decide +kernel)
  · obtain rfl := n.uniq T.x_NotOne.ns; exact T.kt_NotOne_NoCode.trans (by decide +kernel)
  · obtain rfl := n.uniq T.x_NoSuch.ns; exact T.kt_NoSuch_NoCode.trans (by decide +kernel)
  · obtain rfl := n.uniq T.x_NoCode.ns; exact T.kt_NoCode_NoCode.trans (by decide +kernel)
  · obtain rfl := n.uniq T.x_TooMany.ns; exact T.kt_TooMany_NoCode.trans (by decide +kernel)
  · obtain rfl := n.uniq T.x_NotHeard.ns; exact T.kt_NotHeard_NoCode.trans (by decide +kernel)
  · obtain rfl := n.uniq T.x_NoRow.ns; exact T.kt_NoRow_NoCode.trans (by decide +kernel)
  · obtain rfl := n.uniq T.x_NoBack.ns; exact T.kt_NoBack_NoCode.trans (by decide +kernel)
  · obtain rfl := n.uniq T.x_Apart.ns; exact T.kt_Apart_NoCode.trans (by decide +kernel)
  · obtain rfl := n.uniq T.x_NoText.ns; exact T.kt_NoText_NoCode.trans (by decide +kernel)
theorem Tx.ki8 {K : Fg} {mg : Str → Option Value} {A : Nat → Addr} {FD : Nat → FuncData} (T : Tx K mg A FD) {x : Str} {C : Addr} (h : x ∈ names) (n : Nm K x C) : PySem.W.kitOne K (.ref C) (.ref (A 10)) = some (decide (x ∈ ([("TooMany" : Str)] : List Str))) := by
  simp only [names, List.mem_cons, List.mem_nil_iff, or_false] at h
  rcases h with rfl | rfl | rfl | rfl | rfl | rfl | rfl | rfl | rfl | rfl | rfl | rfl | rfl | rfl
  · obtain rfl := n.uniq T.x_NoWeb.ns; exact T.kt_NoWeb_TooMany.trans (by decide +kernel)
  · obtain rfl := n.uniq T.x_NoPlace.ns; exact T.kt_NoPlace_TooMany.trans (by decide +kernel)
  · obtain rfl := n.uniq T.x_NoThing.ns; exact T.kt_NoThing_TooMany.trans (by decide +kernel)
  · obtain rfl := n.uniq T.x_NoLooks.ns; exact T.kt_NoLooks_TooMany.trans (by decide +kernel)
  · obtain rfl := n.uniq T.x_NoTree.ns; exact T.kt_NoTree_TooMany.trans (by decide +kernel)
  · obtain rfl := n.uniq T.x_NotOne.ns; exact T.kt_NotOne_TooMany.trans (by decide +kernel)
  · obtain rfl := n.uniq T.x_NoSuch.ns; exact T.kt_NoSuch_TooMany.trans (by decide +kernel)
  · obtain rfl := n.uniq T.x_NoCode.ns; exact T.kt_NoCode_TooMany.trans (by decide +kernel)
  · obtain rfl := n.uniq T.x_TooMany.ns; exact T.kt_TooMany_TooMany.trans (by decide +kernel)
  · obtain rfl := n.uniq T.x_NotHeard.ns; exact T.kt_NotHeard_TooMany.trans (by decide +kernel)
  · obtain rfl := n.uniq T.x_NoRow.ns; exact T.kt_NoRow_TooMany.trans (by decide +kernel)
  · obtain rfl := n.uniq T.x_NoBack.ns; exact T.kt_NoBack_TooMany.trans (by decide +kernel)
  · obtain rfl := n.uniq T.x_Apart.ns; exact T.kt_Apart_TooMany.trans (by decide +kernel)
  · obtain rfl := n.uniq T.x_NoText.ns; exact T.kt_NoText_TooMany.trans (by decide +kernel)
theorem Tx.ki9 {K : Fg} {mg : Str → Option Value} {A : Nat → Addr} {FD : Nat → FuncData} (T : Tx K mg A FD) {x : Str} {C : Addr} (h : x ∈ names) (n : Nm K x C) : PySem.W.kitOne K (.ref C) (.ref (A 11)) = some (decide (x ∈ ([("NotHeard" : Str)] : List Str))) := by
  simp only [names, List.mem_cons, List.mem_nil_iff, or_false] at h
  rcases h with rfl | rfl | rfl | rfl | rfl | rfl | rfl | rfl | rfl | rfl | rfl | rfl | rfl | rfl
  · obtain rfl := n.uniq T.x_NoWeb.ns; exact T.kt_NoWeb_NotHeard.trans (by decide +kernel)
  · obtain rfl := n.uniq T.x_NoPlace.ns; exact T.kt_NoPlace_NotHeard.trans (by decide +kernel)
  · obtain rfl := n.uniq T.x_NoThing.ns; exact T.kt_NoThing_NotHeard.trans (by decide +kernel)
  · obtain rfl := n.uniq T.x_NoLooks.ns; exact T.kt_NoLooks_NotHeard.trans (by decide +kernel)
  · obtain rfl := n.uniq T.x_NoTree.ns; exact T.kt_NoTree_NotHeard.trans (by decide +kernel)
  · obtain rfl := n.uniq T.x_NotOne.ns; exact T.kt_NotOne_NotHeard.trans (by decide +kernel)
  · obtain rfl := n.uniq T.x_NoSuch.ns; exact T.kt_NoSuch_NotHeard.trans (by decide +kernel)
  · obtain rfl := n.uniq T.x_NoCode.ns; exact T.kt_NoCode_NotHeard.trans (by decide +kernel)
  · obtain rfl := n.uniq T.x_TooMany.ns; exact T.kt_TooMany_NotHeard.trans (by decide +kernel)
  · obtain rfl := n.uniq T.x_NotHeard.ns; exact T.kt_NotHeard_NotHeard.trans (by decide +kernel)
  · obtain rfl := n.uniq T.x_NoRow.ns; exact T.kt_NoRow_NotHeard.trans (by decide +kernel)
  · obtain rfl := n.uniq T.x_NoBack.ns; exact T.kt_NoBack_NotHeard.trans (by decide +kernel)
  · obtain rfl := n.uniq T.x_Apart.ns; exact T.kt_Apart_NotHeard.trans (by decide +kernel)
  · obtain rfl := n.uniq T.x_NoText.ns; exact T.kt_NoText_NotHeard.trans (by decide +kernel)
theorem Tx.ki10 {K : Fg} {mg : Str → Option Value} {A : Nat → Addr} {FD : Nat → FuncData} (T : Tx K mg A FD) {x : Str} {C : Addr} (h : x ∈ names) (n : Nm K x C) : PySem.W.kitOne K (.ref C) (.ref (A 12)) = some (decide (x ∈ ([("NoRow" : Str)] : List Str))) := by
  simp only [names, List.mem_cons, List.mem_nil_iff, or_false] at h
  rcases h with rfl | rfl | rfl | rfl | rfl | rfl | rfl | rfl | rfl | rfl | rfl | rfl | rfl | rfl
  · obtain rfl := n.uniq T.x_NoWeb.ns; exact T.kt_NoWeb_NoRow.trans (by decide +kernel)
  · obtain rfl := n.uniq T.x_NoPlace.ns; exact T.kt_NoPlace_NoRow.trans (by decide +kernel)
  · obtain rfl := n.uniq T.x_NoThing.ns; exact T.kt_NoThing_NoRow.trans (by decide +kernel)
  · obtain rfl := n.uniq T.x_NoLooks.ns; exact T.kt_NoLooks_NoRow.trans (by decide +kernel)
  · obtain rfl := n.uniq T.x_NoTree.ns; exact T.kt_NoTree_NoRow.trans (by decide +kernel)
  · obtain rfl := n.uniq T.x_NotOne.ns; exact T.kt_NotOne_NoRow.trans (by decide +kernel)
  · obtain rfl := n.uniq T.x_NoSuch.ns; exact T.kt_NoSuch_NoRow.trans (by decide +kernel)
  · obtain rfl := n.uniq T.x_NoCode.ns; exact T.kt_NoCode_NoRow.trans (by decide +kernel)
  · obtain rfl := n.uniq T.x_TooMany.ns; exact T.kt_TooMany_NoRow.trans (by decide +kernel)
  · obtain rfl := n.uniq T.x_NotHeard.ns; exact T.kt_NotHeard_NoRow.trans (by decide +kernel)
  · obtain rfl := n.uniq T.x_NoRow.ns; exact T.kt_NoRow_NoRow.trans (by decide +kernel)
  · obtain rfl := n.uniq T.x_NoBack.ns; exact T.kt_NoBack_NoRow.trans (by decide +kernel)
  · obtain rfl := n.uniq T.x_Apart.ns; exact T.kt_Apart_NoRow.trans (by decide +kernel)
  · obtain rfl := n.uniq T.x_NoText.ns; exact T.kt_NoText_NoRow.trans (by decide +kernel)
theorem Tx.ki11 {K : Fg} {mg : Str → Option Value} {A : Nat → Addr} {FD : Nat → FuncData} (T : Tx K mg A FD) {x : Str} {C : Addr} (h : x ∈ names) (n : Nm K x C) : PySem.W.kitOne K (.ref C) (.ref (A 13)) = some (decide (x ∈ ([("NoBack" : Str)] : List Str))) := by
  simp only [names, List.mem_cons, List.mem_nil_iff, or_false] at h
  rcases h with rfl | rfl | rfl | rfl | rfl | rfl | rfl | rfl | rfl | rfl | rfl | rfl | rfl | rfl
  · obtain rfl := n.uniq T.x_NoWeb.ns; exact T.kt_NoWeb_NoBack.trans (by decide +kernel)
  · obtain rfl := n.uniq T.x_NoPlace.ns; exact T.kt_NoPlace_NoBack.trans (by decide +kernel)
  · obtain rfl := n.uniq T.x_NoThing.ns; exact T.kt_NoThing_NoBack.trans (by decide +kernel)
  · obtain rfl := n.uniq T.x_NoLooks.ns; exact T.kt_NoLooks_NoBack.trans (by decide +kernel)
  · obtain rfl := n.uniq T.x_NoTree.ns; exact T.kt_NoTree_NoBack.trans (by decide +kernel)
  · obtain rfl := n.uniq T.x_NotOne.ns; exact T.kt_NotOne_NoBack.trans (by decide +kernel)
  · obtain rfl := n.uniq T.x_NoSuch.ns; exact T.kt_NoSuch_NoBack.trans (by decide +kernel)
  · obtain rfl := n.uniq T.x_NoCode.ns; exact T.kt_NoCode_NoBack.trans (by decide +kernel)
  · obtain rfl := n.uniq T.x_TooMany.ns; exact T.kt_TooMany_NoBack.trans (by decide +kernel)
  · obtain rfl := n.uniq T.x_NotHeard.ns; exact T.kt_NotHeard_NoBack.trans (by decide +kernel)
  · obtain rfl := n.uniq T.x_NoRow.ns; exact T.kt_NoRow_NoBack.trans (by decide +kernel)
  · obtain rfl := n.uniq T.x_NoBack.ns; exact T.kt_NoBack_NoBack.trans (by decide +kernel)
  · obtain rfl := n.uniq T.x_Apart.ns; exact T.kt_Apart_NoBack.trans (by decide +kernel)
  · obtain rfl := n.uniq T.x_NoText.ns; exact T.kt_NoText_NoBack.trans (by decide +kernel)
theorem Tx.ki12 {K : Fg} {mg : Str → Option Value} {A : Nat → Addr} {FD : Nat → FuncData} (T : Tx K mg A FD) {x : Str} {C : Addr} (h : x ∈ names) (n : Nm K x C) : PySem.W.kitOne K (.ref C) (.ref (A 14)) = some (decide (x ∈ ([("Apart" : Str)] : List Str))) := by
  simp only [names, List.mem_cons, List.mem_nil_iff, or_false] at h
  rcases h with rfl | rfl | rfl | rfl | rfl | rfl | rfl | rfl | rfl | rfl | rfl | rfl | rfl | rfl
  · obtain rfl := n.uniq T.x_NoWeb.ns; exact T.kt_NoWeb_Apart.trans (by decide +kernel)
  · obtain rfl := n.uniq T.x_NoPlace.ns; exact T.kt_NoPlace_Apart.trans (by decide +kernel)
  · obtain rfl := n.uniq T.x_NoThing.ns; exact T.kt_NoThing_Apart.trans (by decide +kernel)
  · obtain rfl := n.uniq T.x_NoLooks.ns; exact T.kt_NoLooks_Apart.trans (by decide +kernel)
  · obtain rfl := n.uniq T.x_NoTree.ns; exact T.kt_NoTree_Apart.trans (by decide +kernel)
  · obtain rfl := n.uniq T.x_NotOne.ns; exact T.kt_NotOne_Apart.trans (by decide +kernel)
  · obtain rfl := n.uniq T.x_NoSuch.ns; exact T.kt_NoSuch_Apart.trans (by decide +kernel)
  · obtain rfl := n.uniq T.x_NoCode.ns; exact T.kt_NoCode_Apart.trans (by decide +kernel)
  · obtain rfl := n.uniq T.x_TooMany.ns; exact T.kt_TooMany_Apart.trans (by decide +kernel)
  · obtain rfl := n.uniq T.x_NotHeard.ns; exact T.kt_NotHeard_Apart.trans (by decide +kernel)
  · obtain rfl := n.uniq T.x_NoRow.ns; exact T.kt_NoRow_Apart.trans (by decide +kernel)
  · obtain rfl := n.uniq T.x_NoBack.ns; exact T.kt_NoBack_Apart.trans (by decide +kernel)
  · obtain rfl := n.uniq T.x_Apart.ns; exact T.kt_Apart_Apart.trans (by decide +kernel)
  · obtain rfl := n.uniq T.x_NoText.ns; exact T.kt_NoText_Apart.trans (by decide +kernel)
theorem Tx.ki13 {K : Fg} {mg : Str → Option Value} {A : Nat → Addr} {FD : Nat → FuncData} (T : Tx K mg A FD) {x : Str} {C : Addr} (h : x ∈ names) (n : Nm K x C) : PySem.W.kitOne K (.ref C) (.ref (A 15)) = some (decide (x ∈ ([("NoText" : Str)] : List Str))) := by
  simp only [names, List.mem_cons, List.mem_nil_iff, or_false] at h
  rcases h with rfl | rfl | rfl | rfl | rfl | rfl | rfl | rfl | rfl | rfl | rfl | rfl | rfl | rfl
  · obtain rfl := n.uniq T.x_NoWeb.ns; exact T.kt_NoWeb_NoText.trans (by decide +kernel)
  · obtain rfl := n.uniq T.x_NoPlace.ns; exact T.kt_NoPlace_NoText.trans (by decide +kernel)
  · obtain rfl := n.uniq T.x_NoThing.ns; exact T.kt_NoThing_NoText.trans (by decide +kernel)
  · obtain rfl := n.uniq T.x_NoLooks.ns; exact T.kt_NoLooks_NoText.trans (by decide +kernel)
  · obtain rfl := n.uniq T.x_NoTree.ns; exact T.kt_NoTree_NoText.trans (by decide +kernel)
  · obtain rfl := n.uniq T.x_NotOne.ns; exact T.kt_NotOne_NoText.trans (by decide +kernel)
  · obtain rfl := n.uniq T.x_NoSuch.ns; exact T.kt_NoSuch_NoText.trans (by decide +kernel)
  · obtain rfl := n.uniq T.x_NoCode.ns; exact T.kt_NoCode_NoText.trans (by decide +kernel)
  · obtain rfl := n.uniq T.x_TooMany.ns; exact T.kt_TooMany_NoText.trans (by decide +kernel)
  · obtain rfl := n.uniq T.x_NotHeard.ns; exact T.kt_NotHeard_NoText.trans (by decide +kernel)
  · obtain rfl := n.uniq T.x_NoRow.ns; exact T.kt_NoRow_NoText.trans (by decide +kernel)
  · obtain rfl := n.uniq T.x_NoBack.ns; exact T.kt_NoBack_NoText.trans (by decide +kernel)
  · obtain rfl := n.uniq T.x_Apart.ns; exact T.kt_Apart_NoText.trans (by decide +kernel)
  · obtain rfl := n.uniq T.x_NoText.ns; exact T.kt_NoText_NoText.trans (by decide +kernel)
theorem Tx.ki14 {K : Fg} {mg : Str → Option Value} {A : Nat → Addr} {FD : Nat → FuncData} (T : Tx K mg A FD) {x : Str} {C : Addr} (h : x ∈ names) (n : Nm K x C) : PySem.W.kitOne K (.ref C) (.ref (A 1)) = some (decide (x ∈ ([("NoWeb" : Str), ("NoPlace" : Str), ("NoThing" : Str), ("NoLooks" : Str), ("NoTree" : Str), ("NotOne" : Str), ("NoSuch" : Str), ("NoCode" : Str), ("TooMany" : Str), ("NotHeard" : Str), ("NoRow" : Str), ("NoBack" : Str), ("Apart" : Str), ("NoText" : Str)] : List Str))) := by
  simp only [names, List.mem_cons, List.mem_nil_iff, or_false] at h
  rcases h with rfl | rfl | rfl | rfl | rfl | rfl | rfl | rfl | rfl | rfl | rfl | rfl | rfl | rfl
  · obtain rfl := n.uniq T.x_NoWeb.ns; exact T.kt_NoWeb_HailError.trans (by decide +kernel)
  · obtain rfl := n.uniq T.x_NoPlace.ns; exact T.kt_NoPlace_HailError.trans (by decide +kernel)
  · obtain rfl := n.uniq T.x_NoThing.ns; exact T.kt_NoThing_HailError.trans (by decide +kernel)
  · obtain rfl := n.uniq T.x_NoLooks.ns; exact T.kt_NoLooks_HailError.trans (by decide +kernel)
  · obtain rfl := n.uniq T.x_NoTree.ns; exact T.kt_NoTree_HailError.trans (by decide +kernel)
  · obtain rfl := n.uniq T.x_NotOne.ns; exact T.kt_NotOne_HailError.trans (by decide +kernel)
  · obtain rfl := n.uniq T.x_NoSuch.ns; exact T.kt_NoSuch_HailError.trans (by decide +kernel)
  · obtain rfl := n.uniq T.x_NoCode.ns; exact T.kt_NoCode_HailError.trans (by decide +kernel)
  · obtain rfl := n.uniq T.x_TooMany.ns; exact T.kt_TooMany_HailError.trans (by decide +kernel)
  · obtain rfl := n.uniq T.x_NotHeard.ns; exact T.kt_NotHeard_HailError.trans (by decide +kernel)
  · obtain rfl := n.uniq T.x_NoRow.ns; exact T.kt_NoRow_HailError.trans (by decide +kernel)
  · obtain rfl := n.uniq T.x_NoBack.ns; exact T.kt_NoBack_HailError.trans (by decide +kernel)
  · obtain rfl := n.uniq T.x_Apart.ns; exact T.kt_Apart_HailError.trans (by decide +kernel)
  · obtain rfl := n.uniq T.x_NoText.ns; exact T.kt_NoText_HailError.trans (by decide +kernel)
theorem Tx.ki15 {K : Fg} {mg : Str → Option Value} {A : Nat → Addr} {FD : Nat → FuncData} (T : Tx K mg A FD) {x : Str} {C : Addr} (h : x ∈ names) (n : Nm K x C) : PySem.W.kitOne K (.ref C) (.type "ValueError") = some (decide (x ∈ ([("NoWeb" : Str), ("NoPlace" : Str), ("NoThing" : Str), ("NoLooks" : Str), ("NoTree" : Str), ("NotOne" : Str), ("NoSuch" : Str), ("NoCode" : Str), ("TooMany" : Str), ("NotHeard" : Str), ("NoRow" : Str), ("NoBack" : Str), ("Apart" : Str), ("NoText" : Str)] : List Str))) := by
  simp only [names, List.mem_cons, List.mem_nil_iff, or_false] at h
  rcases h with rfl | rfl | rfl | rfl | rfl | rfl | rfl | rfl | rfl | rfl | rfl | rfl | rfl | rfl
  · obtain rfl := n.uniq T.x_NoWeb.ns; exact T.kt_NoWeb_ValueError.trans (by decide +kernel)
  · obtain rfl := n.uniq T.x_NoPlace.ns; exact T.kt_NoPlace_ValueError.trans (by decide +kernel)
  · obtain rfl := n.uniq T.x_NoThing.ns; exact T.kt_NoThing_ValueError.trans (by decide +kernel)
  · obtain rfl := n.uniq T.x_NoLooks.ns; exact T.kt_NoLooks_ValueError.trans (by decide +kernel)
  · obtain rfl := n.uniq T.x_NoTree.ns; exact T.kt_NoTree_ValueError.trans (by decide +kernel)
  · obtain rfl := n.uniq T.x_NotOne.ns; exact T.kt_NotOne_ValueError.trans (by decide +kernel)
  · obtain rfl := n.uniq T.x_NoSuch.ns; exact T.kt_NoSuch_ValueError.trans (by decide +kernel)
  · obtain rfl := n.uniq T.x_NoCode.ns; exact T.kt_NoCode_ValueError.trans (by decide +kernel)
  · obtain rfl := n.uniq T.x_TooMany.ns; exact T.kt_TooMany_ValueError.trans (by decide +kernel)
  · obtain rfl := n.uniq T.x_NotHeard.ns; exact T.kt_NotHeard_ValueError.trans (by decide +kernel)
  · obtain rfl := n.uniq T.x_NoRow.ns; exact T.kt_NoRow_ValueError.trans (by decide +kernel)
  · obtain rfl := n.uniq T.x_NoBack.ns; exact T.kt_NoBack_ValueError.trans (by decide +kernel)
  · obtain rfl := n.uniq T.x_Apart.ns; exact T.kt_Apart_ValueError.trans (by decide +kernel)
  · obtain rfl := n.uniq T.x_NoText.ns; exact T.kt_NoText_ValueError.trans (by decide +kernel)
section
variable {P : Program} {w : World} {K : PySem.W.Frag} {mg : Str → Option Value} {base : Heap} {A : Nat → Addr} {FD : Nat → FuncData}
theorem sc_Apart_init : FnScope ["self", "place"] ["self", "place"] (defScope s_Apart_init) := ⟨rfl, rfl, rfl, by decide +kernel, rfl, by decide +kernel, by decide +kernel⟩
theorem ok_Apart_init (T : Tx K mg A FD) : FnOk P w K mg base CX0 1 (A 15000) (FD 15000) ["self", "place"] (spXI (A 14) "place") := by
  refine T.d15000.fn.ok sc_Apart_init (fun vs H Q E h => ?_) (fun cdv Ar outer s H vs Q E hr h => ?_)
  · obtain ⟨a, p, rfl, _⟩ := h
    rfl
  · obtain ⟨a, p, rfl, ea, hq⟩ := h
    refine ⟨_, (pss_cons (ps_expr (pe_ueinit (pl := _) (by rfl) T.g_HailError T.cr_HailError T.vi_HailError (pa_cons (pv 0) (pa_cons pe_str pa_nil)))) (pss_one (ps_ost (pv 0) (pv 1)))), ?_⟩
    refine ⟨_, rfl, a, A 14, [.str "apart"], rfl, (by decide), T.xi_Apart.ox, ea, ?_⟩
    exact ⟨_, rfl, _, rfl, a, A 14, rfl, T.xi_Apart.ox, T.xi_Apart.no, .inl ⟨ea, fun dx nd ne => hq dx nd ne⟩⟩
theorem sc_NoText_init : FnScope ["self", "row"] ["self", "row"] (defScope s_NoText_init) := ⟨rfl, rfl, rfl, by decide +kernel, rfl, by decide +kernel, by decide +kernel⟩
theorem ok_NoText_init (T : Tx K mg A FD) : FnOk P w K mg base CX0 1 (A 16000) (FD 16000) ["self", "row"] (spXI (A 15) "row") := by
  refine T.d16000.fn.ok sc_NoText_init (fun vs H Q E h => ?_) (fun cdv Ar outer s H vs Q E hr h => ?_)
  · obtain ⟨a, p, rfl, _⟩ := h
    rfl
  · obtain ⟨a, p, rfl, ea, hq⟩ := h
    refine ⟨_, (pss_cons (ps_expr (pe_ueinit (pl := _) (by rfl) T.g_HailError T.cr_HailError T.vi_HailError (pa_cons (pv 0) (pa_cons pe_str pa_nil)))) (pss_one (ps_ost (pv 0) (pv 1)))), ?_⟩
    refine ⟨_, rfl, a, A 15, [.str "no text"], rfl, (by decide), T.xi_NoText.ox, ea, ?_⟩
    exact ⟨_, rfl, _, rfl, a, A 15, rfl, T.xi_NoText.ox, T.xi_NoText.no, .inl ⟨ea, fun dx nd ne => hq dx nd ne⟩⟩
def sp_law_at (K : Fg) : Sp := fun vs H Q E => ∃ (F : Hp) (os : List (Addr × HO)) (v_script : V) (x_script : Scr) (x_k : Int), vs = [v_script, .int x_k] ∧ W F H (os) ∧ rep K F v_script x_script ∧ Post (law_at x_script x_k) (Ret K F os Q) noX
theorem sc_law_at : FnScope ["script", "k"] ["script", "k"] (defScope s_law_at) := ⟨rfl, rfl, rfl, by decide +kernel, rfl, by decide +kernel, by decide +kernel⟩
theorem ok_law_at (T : Tx K mg A FD) : FnOk P w K mg base CX0 1 (A 17) (FD 17) ["script", "k"] (sp_law_at K) := by
  refine T.d17.fn.ok sc_law_at (fun vs H Q E h => ?_) (fun cdv Ar outer s H vs Q E hr h => ?_)
  · obtain ⟨F, os, v_script, x_script, x_k, rfl, _⟩ := h
    rfl
  · obtain ⟨F0, os, v_script, x_script, x_k, rfl, w0, r_script, hm⟩ := h
    have sF : Same F0 F0 := Same.refl _
    obtain ⟨a1, rfl, q1⟩ := r_script
    have h1 : A2 (rep K F0) (x_script.l.map V.int) x_script.l := A2.of_ints
    refine ⟨_, (pss_cons (ps_if (pt_cmp (pc_lt (pv 1) (pe_callB (call_lenN (K := K) rfl) (by rfl) T.n_len (by decide +kernel) (pa_cons (pv 0) pa_nil)))) (pss_one (ps_ret (pe_ix (ix_listK (K := K) rfl) (pv 0) (pv 1) (fun _ _ => rfl)))) pss_nil) (pss_one (ps_ret pe_int))), ?_⟩
    refine ⟨_, rfl, _, rfl, _, _, _, rfl, .inl (w0.same.seq q1), h1.length, _, _, rfl, rfl, _, rfl, ?_⟩
    refine post_ite hm (fun k2 hm => ?_) (fun k2 hm => ?_)
    · skip
      obtain ⟨t3, e3, hm⟩ := pb_get hm
      obtain ⟨u3, f3, r3⟩ := A2.at h1 e3
      obtain rfl : u3 = V.int t3 := r3
      exact ⟨_, rfl, _, rfl, _, _, _, _, rfl, rfl, w0.same.seq q1, f3, (post_ok hm) _ _ _ w0 sF rep_i⟩
    · skip
      exact (post_ok hm) _ _ _ w0 sF rep_i
def sp_law_all (K : Fg) : Sp := fun vs H Q E => ∃ (F : Hp) (os : List (Addr × HO)) (x_text : Str) (x_number : Int), vs = [.str x_text, .int x_number] ∧ W F H (os) ∧ Post (law_all x_text x_number) (Ret K F os Q) noX
theorem sc_law_all : FnScope ["text", "number", "found"] ["text", "number"] (defScope s_law_all) := ⟨rfl, rfl, rfl, by decide +kernel, rfl, by decide +kernel, by decide +kernel⟩
theorem ok_law_all (T : Tx K mg A FD) : FnOk P w K mg base CX0 3 (A 18) (FD 18) ["text", "number"] (sp_law_all K) := by
  refine T.d18.fn.ok sc_law_all (fun vs H Q E h => ?_) (fun cdv Ar outer s H vs Q E hr h => ?_)
  · obtain ⟨F, os, x_text, x_number, rfl, _⟩ := h
    rfl
  · obtain ⟨F0, os, x_text, x_number, rfl, w0, hm⟩ := h
    have sF : Same F0 F0 := Same.refl _
    refine ⟨_, (pss_cons (ps_set (i := 2) sc_law_all.nd rfl (Or.inl rfl) (pe_lst (pa_cons (pe_excV PySem.F.excBase_ValueError T.x_NoWeb.xc T.x_NoWeb.gm T.x_NoWeb.kp (by exact rfl) (pv 0)) (pa_cons (pe_excV PySem.F.excBase_ValueError T.x_NoPlace.xc T.x_NoPlace.gm T.x_NoPlace.kp (by exact rfl) (pv 0)) (pa_cons (pe_excV PySem.F.excBase_ValueError T.x_NoThing.xc T.x_NoThing.gm T.x_NoThing.kp (by exact rfl) (pv 0)) (pa_cons (pe_excV PySem.F.excBase_ValueError T.x_NoLooks.xc T.x_NoLooks.gm T.x_NoLooks.kp (by exact rfl) (pv 0)) (pa_cons (pe_excV PySem.F.excBase_ValueError T.x_NoTree.xc T.x_NoTree.gm T.x_NoTree.kp (by exact rfl) (pv 0)) (pa_cons (pe_excV PySem.F.excBase_ValueError T.x_NotOne.xc T.x_NotOne.gm T.x_NotOne.kp (by exact rfl) (pv 0)) pa_nil)))))))) (pss_cons (ps_set (i := 2) sc_law_all.nd rfl (Or.inl rfl) (pe_op op_cat (pv 2) (pe_lst (pa_cons (pe_excV PySem.F.excBase_ValueError T.x_NoSuch.xc T.x_NoSuch.gm T.x_NoSuch.kp (by exact rfl) (pv 0)) (pa_cons (pe_excV PySem.F.excBase_ValueError T.x_NoCode.xc T.x_NoCode.gm T.x_NoCode.kp (by exact rfl) (pv 0)) (pa_cons (pe_excV PySem.F.excBase_ValueError T.x_TooMany.xc T.x_TooMany.gm T.x_TooMany.kp (by exact rfl) (pv 0)) (pa_cons (pe_excV PySem.F.excBase_ValueError T.x_NotHeard.xc T.x_NotHeard.gm T.x_NotHeard.kp (by exact rfl) (pv 0)) (pa_cons (pe_excV PySem.F.excBase_ValueError T.x_NoRow.xc T.x_NoRow.gm T.x_NoRow.kp (by exact rfl) (pv 0)) (pa_cons (pe_excV PySem.F.excBase_ValueError T.x_NoBack.xc T.x_NoBack.gm T.x_NoBack.kp (by exact rfl) (pv 0)) pa_nil))))))))) (pss_one (ps_ret (pe_op op_cat (pv 2) (pe_lst (pa_cons (pe_oexV T.xi_Apart.ox T.xi_Apart.ini T.xi_Apart.tI (ok_Apart_init T) (hr.mono (by first | decide | omega)) T.d15000.b pass0 (by rfl) T.x_Apart.gm (pa_cons (pv 1) pa_nil)) (pa_cons (pe_oexV T.xi_NoText.ox T.xi_NoText.ini T.xi_NoText.tI (ok_NoText_init T) (hr.mono (by first | decide | omega)) T.d16000.b pass0 (by rfl) T.x_NoText.gm (pa_cons (pv 1) pa_nil)) pa_nil)))))))), ?_⟩
    refine ⟨_, rfl, fun a1 na1 => ?_⟩
    obtain ⟨F1, s1, w1, q1⟩ := w0.frzE (o := ExH (.ref (A 2)) a1) na1
    replace sF := sF.trans s1
    have r1 : rep K F1 (.ref a1) (⟨"NoWeb", none, 0⟩ : Ev) := ⟨_, _, rfl, T.x_NoWeb.ns, q1⟩
    refine ⟨_, rfl, fun a2 na2 => ?_⟩
    obtain ⟨F2, s2, w2, q2⟩ := w1.frzE (o := ExH (.ref (A 3)) a2) na2
    replace r1 := Rep.mono s2 r1
    replace sF := sF.trans s2
    have r2 : rep K F2 (.ref a2) (⟨"NoPlace", none, 0⟩ : Ev) := ⟨_, _, rfl, T.x_NoPlace.ns, q2⟩
    refine ⟨_, rfl, fun a3 na3 => ?_⟩
    obtain ⟨F3, s3, w3, q3⟩ := w2.frzE (o := ExH (.ref (A 4)) a3) na3
    replace r1 := Rep.mono s3 r1
    replace r2 := Rep.mono s3 r2
    replace sF := sF.trans s3
    have r3 : rep K F3 (.ref a3) (⟨"NoThing", none, 0⟩ : Ev) := ⟨_, _, rfl, T.x_NoThing.ns, q3⟩
    refine ⟨_, rfl, fun a4 na4 => ?_⟩
    obtain ⟨F4, s4, w4, q4⟩ := w3.frzE (o := ExH (.ref (A 5)) a4) na4
    replace r1 := Rep.mono s4 r1
    replace r2 := Rep.mono s4 r2
    replace r3 := Rep.mono s4 r3
    replace sF := sF.trans s4
    have r4 : rep K F4 (.ref a4) (⟨"NoLooks", none, 0⟩ : Ev) := ⟨_, _, rfl, T.x_NoLooks.ns, q4⟩
    refine ⟨_, rfl, fun a5 na5 => ?_⟩
    obtain ⟨F5, s5, w5, q5⟩ := w4.frzE (o := ExH (.ref (A 6)) a5) na5
    replace r1 := Rep.mono s5 r1
    replace r2 := Rep.mono s5 r2
    replace r3 := Rep.mono s5 r3
    replace r4 := Rep.mono s5 r4
    replace sF := sF.trans s5
    have r5 : rep K F5 (.ref a5) (⟨"NoTree", none, 0⟩ : Ev) := ⟨_, _, rfl, T.x_NoTree.ns, q5⟩
    refine ⟨_, rfl, fun a6 na6 => ?_⟩
    obtain ⟨F6, s6, w6, q6⟩ := w5.frzE (o := ExH (.ref (A 7)) a6) na6
    replace r1 := Rep.mono s6 r1
    replace r2 := Rep.mono s6 r2
    replace r3 := Rep.mono s6 r3
    replace r4 := Rep.mono s6 r4
    replace r5 := Rep.mono s6 r5
    replace sF := sF.trans s6
    have r6 : rep K F6 (.ref a6) (⟨"NotOne", none, 0⟩ : Ev) := ⟨_, _, rfl, T.x_NotOne.ns, q6⟩
    have h7 : A2 (rep K F6) [(.ref a1), (.ref a2), (.ref a3), (.ref a4), (.ref a5), (.ref a6)] ([(⟨"NoWeb", none, 0⟩ : Ev), (⟨"NoPlace", none, 0⟩ : Ev), (⟨"NoThing", none, 0⟩ : Ev), (⟨"NoLooks", none, 0⟩ : Ev), (⟨"NoTree", none, 0⟩ : Ev), (⟨"NotOne", none, 0⟩ : Ev)] : (List Ev)) := .cons r1 (.cons r2 (.cons r3 (.cons r4 (.cons r5 (.cons r6 (.nil))))))
    refine ⟨(by show 6 ≤ sizeLine; decide), fun p8 n8 => ?_⟩
    have w8 : W F6 _ ((p8, .lst [(.ref a1), (.ref a2), (.ref a3), (.ref a4), (.ref a5), (.ref a6)]) :: os) := w6.new n8
    obtain ⟨F9, s9, w9, q9⟩ : ∃ F', Same F6 F' ∧ W F' _ (os) ∧ F' p8 = some (.lst [(.ref a1), (.ref a2), (.ref a3), (.ref a4), (.ref a5), (.ref a6)]) := w8.freezeE (pre := [])
    replace r1 := Rep.mono s9 r1
    replace r2 := Rep.mono s9 r2
    replace r3 := Rep.mono s9 r3
    replace r4 := Rep.mono s9 r4
    replace r5 := Rep.mono s9 r5
    replace r6 := Rep.mono s9 r6
    replace h7 := A2.mono s9 h7
    replace sF := sF.trans s9
    refine ⟨_, rfl, _, rfl, fun a10 na10 => ?_⟩
    obtain ⟨F10, s10, w10, q10⟩ := w9.frzE (o := ExH (.ref (A 8)) a10) na10
    replace h7 := A2.mono s10 h7
    replace q9 := s10 _ _ q9
    replace sF := sF.trans s10
    have r10 : rep K F10 (.ref a10) (⟨"NoSuch", none, 0⟩ : Ev) := ⟨_, _, rfl, T.x_NoSuch.ns, q10⟩
    refine ⟨_, rfl, fun a11 na11 => ?_⟩
    obtain ⟨F11, s11, w11, q11⟩ := w10.frzE (o := ExH (.ref (A 9)) a11) na11
    replace h7 := A2.mono s11 h7
    replace q9 := s11 _ _ q9
    replace r10 := Rep.mono s11 r10
    replace sF := sF.trans s11
    have r11 : rep K F11 (.ref a11) (⟨"NoCode", none, 0⟩ : Ev) := ⟨_, _, rfl, T.x_NoCode.ns, q11⟩
    refine ⟨_, rfl, fun a12 na12 => ?_⟩
    obtain ⟨F12, s12, w12, q12⟩ := w11.frzE (o := ExH (.ref (A 10)) a12) na12
    replace h7 := A2.mono s12 h7
    replace q9 := s12 _ _ q9
    replace r10 := Rep.mono s12 r10
    replace r11 := Rep.mono s12 r11
    replace sF := sF.trans s12
    have r12 : rep K F12 (.ref a12) (⟨"TooMany", none, 0⟩ : Ev) := ⟨_, _, rfl, T.x_TooMany.ns, q12⟩
    refine ⟨_, rfl, fun a13 na13 => ?_⟩
    obtain ⟨F13, s13, w13, q13⟩ := w12.frzE (o := ExH (.ref (A 11)) a13) na13
    replace h7 := A2.mono s13 h7
    replace q9 := s13 _ _ q9
    replace r10 := Rep.mono s13 r10
    replace r11 := Rep.mono s13 r11
    replace r12 := Rep.mono s13 r12
    replace sF := sF.trans s13
    have r13 : rep K F13 (.ref a13) (⟨"NotHeard", none, 0⟩ : Ev) := ⟨_, _, rfl, T.x_NotHeard.ns, q13⟩
    refine ⟨_, rfl, fun a14 na14 => ?_⟩
    obtain ⟨F14, s14, w14, q14⟩ := w13.frzE (o := ExH (.ref (A 12)) a14) na14
    replace h7 := A2.mono s14 h7
    replace q9 := s14 _ _ q9
    replace r10 := Rep.mono s14 r10
    replace r11 := Rep.mono s14 r11
    replace r12 := Rep.mono s14 r12
    replace r13 := Rep.mono s14 r13
    replace sF := sF.trans s14
    have r14 : rep K F14 (.ref a14) (⟨"NoRow", none, 0⟩ : Ev) := ⟨_, _, rfl, T.x_NoRow.ns, q14⟩
    refine ⟨_, rfl, fun a15 na15 => ?_⟩
    obtain ⟨F15, s15, w15, q15⟩ := w14.frzE (o := ExH (.ref (A 13)) a15) na15
    replace h7 := A2.mono s15 h7
    replace q9 := s15 _ _ q9
    replace r10 := Rep.mono s15 r10
    replace r11 := Rep.mono s15 r11
    replace r12 := Rep.mono s15 r12
    replace r13 := Rep.mono s15 r13
    replace r14 := Rep.mono s15 r14
    replace sF := sF.trans s15
    have r15 : rep K F15 (.ref a15) (⟨"NoBack", none, 0⟩ : Ev) := ⟨_, _, rfl, T.x_NoBack.ns, q15⟩
    have h16 : A2 (rep K F15) [(.ref a10), (.ref a11), (.ref a12), (.ref a13), (.ref a14), (.ref a15)] ([(⟨"NoSuch", none, 0⟩ : Ev), (⟨"NoCode", none, 0⟩ : Ev), (⟨"TooMany", none, 0⟩ : Ev), (⟨"NotHeard", none, 0⟩ : Ev), (⟨"NoRow", none, 0⟩ : Ev), (⟨"NoBack", none, 0⟩ : Ev)] : (List Ev)) := .cons r10 (.cons r11 (.cons r12 (.cons r13 (.cons r14 (.cons r15 (.nil))))))
    refine ⟨(by show 6 ≤ sizeLine; decide), fun p17 n17 => ?_⟩
    have w17 : W F15 _ ((p17, .lst [(.ref a10), (.ref a11), (.ref a12), (.ref a13), (.ref a14), (.ref a15)]) :: os) := w15.new n17
    obtain ⟨l18, z18, e18, hm⟩ := pn_extend hm
    have h18 : A2 (rep K F15) ([(.ref a1), (.ref a2), (.ref a3), (.ref a4), (.ref a5), (.ref a6)] ++ [(.ref a10), (.ref a11), (.ref a12), (.ref a13), (.ref a14), (.ref a15)]) l18 := e18 ▸ A2.append h7 h16
    refine ⟨_, _, _, _, rfl, rfl, (w17.same _ _ q9), (w17.get (pre := [])), (A2.le2 h7 h16 z18), fun p19 n19 => ?_⟩
    have w19 : W F15 _ ((p19, .lst ([(.ref a1), (.ref a2), (.ref a3), (.ref a4), (.ref a5), (.ref a6)] ++ [(.ref a10), (.ref a11), (.ref a12), (.ref a13), (.ref a14), (.ref a15)])) :: (p17, .lst [(.ref a10), (.ref a11), (.ref a12), (.ref a13), (.ref a14), (.ref a15)]) :: os) := w17.new n19
    obtain ⟨F20, s20, w20, q20⟩ : ∃ F', Same F15 F' ∧ W F' _ ((p17, .lst [(.ref a10), (.ref a11), (.ref a12), (.ref a13), (.ref a14), (.ref a15)]) :: os) ∧ F' p19 = some (.lst ([(.ref a1), (.ref a2), (.ref a3), (.ref a4), (.ref a5), (.ref a6)] ++ [(.ref a10), (.ref a11), (.ref a12), (.ref a13), (.ref a14), (.ref a15)])) := w19.freezeE (pre := [])
    replace h7 := A2.mono s20 h7
    replace q9 := s20 _ _ q9
    replace r10 := Rep.mono s20 r10
    replace r11 := Rep.mono s20 r11
    replace r12 := Rep.mono s20 r12
    replace r13 := Rep.mono s20 r13
    replace r14 := Rep.mono s20 r14
    replace r15 := Rep.mono s20 r15
    replace h16 := A2.mono s20 h16
    replace h18 := A2.mono s20 h18
    replace sF := sF.trans s20
    have w21 : W F20 _ (os) := w20.drop (pre := [])
    refine ⟨_, rfl, _, rfl, (by show 1 ≤ 1000; decide), fun a22 na22 => spXI_val na22 fun dx22 nd22 ne22 => ⟨rfl, ?_⟩⟩
    obtain ⟨F22, s22, w22, q22, qd22⟩ := W.frz2 (o1 := exd dx22 [("place", .int x_number)]) (o2 := exo a22 (A 14) (some dx22)) w21 nd22 na22 ne22
    replace h18 := A2.mono s22 h18
    replace q20 := s22 _ _ q20
    replace sF := sF.trans s22
    have r22 : rep K F22 (.ref a22) (⟨"Apart", some "place", x_number⟩ : Ev) := ⟨_, _, rfl, T.x_Apart.ns, dx22, q22, qd22⟩
    refine ⟨_, rfl, (by show 1 ≤ 1000; decide), fun a23 na23 => spXI_val na23 fun dx23 nd23 ne23 => ⟨rfl, ?_⟩⟩
    obtain ⟨F23, s23, w23, q23, qd23⟩ := W.frz2 (o1 := exd dx23 [("row", .int x_number)]) (o2 := exo a23 (A 15) (some dx23)) w22 nd23 na23 ne23
    replace h18 := A2.mono s23 h18
    replace q20 := s23 _ _ q20
    replace r22 := Rep.mono s23 r22
    replace sF := sF.trans s23
    have r23 : rep K F23 (.ref a23) (⟨"NoText", some "row", x_number⟩ : Ev) := ⟨_, _, rfl, T.x_NoText.ns, dx23, q23, qd23⟩
    have h24 : A2 (rep K F23) [(.ref a22), (.ref a23)] ([(⟨"Apart", some "place", x_number⟩ : Ev), (⟨"NoText", some "row", x_number⟩ : Ev)] : (List Ev)) := .cons r22 (.cons r23 (.nil))
    refine ⟨(by show 2 ≤ sizeLine; decide), fun p25 n25 => ?_⟩
    have w25 : W F23 _ ((p25, .lst [(.ref a22), (.ref a23)]) :: os) := w23.new n25
    obtain ⟨l26, z26, e26, hm⟩ := pn_extend hm
    have h26 : A2 (rep K F23) (([(.ref a1), (.ref a2), (.ref a3), (.ref a4), (.ref a5), (.ref a6)] ++ [(.ref a10), (.ref a11), (.ref a12), (.ref a13), (.ref a14), (.ref a15)]) ++ [(.ref a22), (.ref a23)]) l26 := e26 ▸ A2.append h18 h24
    refine ⟨_, _, _, _, rfl, rfl, (w25.same _ _ q20), (w25.get (pre := [])), (A2.le2 h18 h24 z26), fun p27 n27 => ?_⟩
    have w27 : W F23 _ ((p27, .lst (([(.ref a1), (.ref a2), (.ref a3), (.ref a4), (.ref a5), (.ref a6)] ++ [(.ref a10), (.ref a11), (.ref a12), (.ref a13), (.ref a14), (.ref a15)]) ++ [(.ref a22), (.ref a23)])) :: (p25, .lst [(.ref a22), (.ref a23)]) :: os) := w25.new n27
    obtain ⟨F28, s28, w28, q28⟩ : ∃ F', Same F23 F' ∧ W F' _ ((p25, .lst [(.ref a22), (.ref a23)]) :: os) ∧ F' p27 = some (.lst (([(.ref a1), (.ref a2), (.ref a3), (.ref a4), (.ref a5), (.ref a6)] ++ [(.ref a10), (.ref a11), (.ref a12), (.ref a13), (.ref a14), (.ref a15)]) ++ [(.ref a22), (.ref a23)])) := w27.freezeE (pre := [])
    replace h18 := A2.mono s28 h18
    replace q20 := s28 _ _ q20
    replace r22 := Rep.mono s28 r22
    replace r23 := Rep.mono s28 r23
    replace h24 := A2.mono s28 h24
    replace h26 := A2.mono s28 h26
    replace sF := sF.trans s28
    have w29 : W F28 _ (os) := w28.drop (pre := [])
    exact (post_ok hm) _ _ _ w29 sF (rep_lst q28 h26)
def sp_law_kinds (K : Fg) : Sp := fun vs H Q E => ∃ (F : Hp) (os : List (Addr × HO)) (v_one : V) (x_one : Ev), vs = [v_one] ∧ W F H (os) ∧ rep K F v_one x_one ∧ Post (law_kinds x_one) (Ret K F os Q) noX
theorem sc_law_kinds : FnScope ["one"] ["one"] (defScope s_law_kinds) := ⟨rfl, rfl, rfl, by decide +kernel, rfl, by decide +kernel, by decide +kernel⟩
theorem ok_law_kinds (T : Tx K mg A FD) : FnOk P w K mg base CX0 1 (A 19) (FD 19) ["one"] (sp_law_kinds K) := by
  refine T.d19.fn.ok sc_law_kinds (fun vs H Q E h => ?_) (fun cdv Ar outer s H vs Q E hr h => ?_)
  · obtain ⟨F, os, v_one, x_one, rfl, _⟩ := h
    rfl
  · obtain ⟨F0, os, v_one, x_one, rfl, w0, r_one, hm⟩ := h
    have sF : Same F0 F0 := Same.refl _
    refine ⟨_, (pss_one (ps_ret (pe_lst (pa_cons (pe_callB (call_isV (K := K) rfl) (by rfl) T.n_isinstance (by decide +kernel) (pa_cons (pv 0) (pa_cons (pe_glob (v := .ref (A 2)) (by rfl) T.g_NoWeb rfl) pa_nil))) (pa_cons (pe_callB (call_isV (K := K) rfl) (by rfl) T.n_isinstance (by decide +kernel) (pa_cons (pv 0) (pa_cons (pe_glob (v := .ref (A 3)) (by rfl) T.g_NoPlace rfl) pa_nil))) (pa_cons (pe_callB (call_isV (K := K) rfl) (by rfl) T.n_isinstance (by decide +kernel) (pa_cons (pv 0) (pa_cons (pe_glob (v := .ref (A 4)) (by rfl) T.g_NoThing rfl) pa_nil))) (pa_cons (pe_callB (call_isV (K := K) rfl) (by rfl) T.n_isinstance (by decide +kernel) (pa_cons (pv 0) (pa_cons (pe_glob (v := .ref (A 5)) (by rfl) T.g_NoLooks rfl) pa_nil))) (pa_cons (pe_callB (call_isV (K := K) rfl) (by rfl) T.n_isinstance (by decide +kernel) (pa_cons (pv 0) (pa_cons (pe_glob (v := .ref (A 6)) (by rfl) T.g_NoTree rfl) pa_nil))) (pa_cons (pe_callB (call_isV (K := K) rfl) (by rfl) T.n_isinstance (by decide +kernel) (pa_cons (pv 0) (pa_cons (pe_glob (v := .ref (A 7)) (by rfl) T.g_NotOne rfl) pa_nil))) (pa_cons (pe_callB (call_isV (K := K) rfl) (by rfl) T.n_isinstance (by decide +kernel) (pa_cons (pv 0) (pa_cons (pe_glob (v := .ref (A 8)) (by rfl) T.g_NoSuch rfl) pa_nil))) (pa_cons (pe_callB (call_isV (K := K) rfl) (by rfl) T.n_isinstance (by decide +kernel) (pa_cons (pv 0) (pa_cons (pe_glob (v := .ref (A 9)) (by rfl) T.g_NoCode rfl) pa_nil))) (pa_cons (pe_callB (call_isV (K := K) rfl) (by rfl) T.n_isinstance (by decide +kernel) (pa_cons (pv 0) (pa_cons (pe_glob (v := .ref (A 10)) (by rfl) T.g_TooMany rfl) pa_nil))) (pa_cons (pe_callB (call_isV (K := K) rfl) (by rfl) T.n_isinstance (by decide +kernel) (pa_cons (pv 0) (pa_cons (pe_glob (v := .ref (A 11)) (by rfl) T.g_NotHeard rfl) pa_nil))) (pa_cons (pe_callB (call_isV (K := K) rfl) (by rfl) T.n_isinstance (by decide +kernel) (pa_cons (pv 0) (pa_cons (pe_glob (v := .ref (A 12)) (by rfl) T.g_NoRow rfl) pa_nil))) (pa_cons (pe_callB (call_isV (K := K) rfl) (by rfl) T.n_isinstance (by decide +kernel) (pa_cons (pv 0) (pa_cons (pe_glob (v := .ref (A 13)) (by rfl) T.g_NoBack rfl) pa_nil))) (pa_cons (pe_callB (call_isV (K := K) rfl) (by rfl) T.n_isinstance (by decide +kernel) (pa_cons (pv 0) (pa_cons (pe_glob (v := .ref (A 14)) (by rfl) T.g_Apart rfl) pa_nil))) (pa_cons (pe_callB (call_isV (K := K) rfl) (by rfl) T.n_isinstance (by decide +kernel) (pa_cons (pv 0) (pa_cons (pe_glob (v := .ref (A 15)) (by rfl) T.g_NoText rfl) pa_nil))) pa_nil))))))))))))))))), ?_⟩
    obtain ⟨m2, hm⟩ := pb_isV hm
    obtain ⟨a2, C2, k2, n2, q2⟩ := ev_is r_one w0.same
    obtain ⟨m3, hm⟩ := pb_isV hm
    obtain ⟨a3, C3, k3, n3, q3⟩ := ev_is r_one w0.same
    obtain ⟨m4, hm⟩ := pb_isV hm
    obtain ⟨a4, C4, k4, n4, q4⟩ := ev_is r_one w0.same
    obtain ⟨m5, hm⟩ := pb_isV hm
    obtain ⟨a5, C5, k5, n5, q5⟩ := ev_is r_one w0.same
    obtain ⟨m6, hm⟩ := pb_isV hm
    obtain ⟨a6, C6, k6, n6, q6⟩ := ev_is r_one w0.same
    obtain ⟨m7, hm⟩ := pb_isV hm
    obtain ⟨a7, C7, k7, n7, q7⟩ := ev_is r_one w0.same
    obtain ⟨m8, hm⟩ := pb_isV hm
    obtain ⟨a8, C8, k8, n8, q8⟩ := ev_is r_one w0.same
    obtain ⟨m9, hm⟩ := pb_isV hm
    obtain ⟨a9, C9, k9, n9, q9⟩ := ev_is r_one w0.same
    obtain ⟨m10, hm⟩ := pb_isV hm
    obtain ⟨a10, C10, k10, n10, q10⟩ := ev_is r_one w0.same
    obtain ⟨m11, hm⟩ := pb_isV hm
    obtain ⟨a11, C11, k11, n11, q11⟩ := ev_is r_one w0.same
    obtain ⟨m12, hm⟩ := pb_isV hm
    obtain ⟨a12, C12, k12, n12, q12⟩ := ev_is r_one w0.same
    obtain ⟨m13, hm⟩ := pb_isV hm
    obtain ⟨a13, C13, k13, n13, q13⟩ := ev_is r_one w0.same
    obtain ⟨m14, hm⟩ := pb_isV hm
    obtain ⟨a14, C14, k14, n14, q14⟩ := ev_is r_one w0.same
    obtain ⟨m15, hm⟩ := pb_isV hm
    obtain ⟨a15, C15, k15, n15, q15⟩ := ev_is r_one w0.same
    have h16 : A2 (rep K F0) [(.bl (decide (x_one.cls ∈ ([("NoWeb" : Str)] : List Str)))), (.bl (decide (x_one.cls ∈ ([("NoPlace" : Str)] : List Str)))), (.bl (decide (x_one.cls ∈ ([("NoThing" : Str)] : List Str)))), (.bl (decide (x_one.cls ∈ ([("NoLooks" : Str)] : List Str)))), (.bl (decide (x_one.cls ∈ ([("NoTree" : Str)] : List Str)))), (.bl (decide (x_one.cls ∈ ([("NotOne" : Str)] : List Str)))), (.bl (decide (x_one.cls ∈ ([("NoSuch" : Str)] : List Str)))), (.bl (decide (x_one.cls ∈ ([("NoCode" : Str)] : List Str)))), (.bl (decide (x_one.cls ∈ ([("TooMany" : Str)] : List Str)))), (.bl (decide (x_one.cls ∈ ([("NotHeard" : Str)] : List Str)))), (.bl (decide (x_one.cls ∈ ([("NoRow" : Str)] : List Str)))), (.bl (decide (x_one.cls ∈ ([("NoBack" : Str)] : List Str)))), (.bl (decide (x_one.cls ∈ ([("Apart" : Str)] : List Str)))), (.bl (decide (x_one.cls ∈ ([("NoText" : Str)] : List Str))))] ([(decide (x_one.cls ∈ ([("NoWeb" : Str)] : List Str))), (decide (x_one.cls ∈ ([("NoPlace" : Str)] : List Str))), (decide (x_one.cls ∈ ([("NoThing" : Str)] : List Str))), (decide (x_one.cls ∈ ([("NoLooks" : Str)] : List Str))), (decide (x_one.cls ∈ ([("NoTree" : Str)] : List Str))), (decide (x_one.cls ∈ ([("NotOne" : Str)] : List Str))), (decide (x_one.cls ∈ ([("NoSuch" : Str)] : List Str))), (decide (x_one.cls ∈ ([("NoCode" : Str)] : List Str))), (decide (x_one.cls ∈ ([("TooMany" : Str)] : List Str))), (decide (x_one.cls ∈ ([("NotHeard" : Str)] : List Str))), (decide (x_one.cls ∈ ([("NoRow" : Str)] : List Str))), (decide (x_one.cls ∈ ([("NoBack" : Str)] : List Str))), (decide (x_one.cls ∈ ([("Apart" : Str)] : List Str))), (decide (x_one.cls ∈ ([("NoText" : Str)] : List Str)))] : (List Bool)) := .cons rep_b (.cons rep_b (.cons rep_b (.cons rep_b (.cons rep_b (.cons rep_b (.cons rep_b (.cons rep_b (.cons rep_b (.cons rep_b (.cons rep_b (.cons rep_b (.cons rep_b (.cons rep_b (.nil))))))))))))))
    refine ⟨_, rfl, _, _, _, _, .ref (A 2), .ref (A 2), _, T.exc m2 n2, (by rw [k2]), q2, fun _ h => h, T.ki0 m2 n2, _, rfl, _, _, _, _, .ref (A 3), .ref (A 3), _, T.exc m3 n3, (by rw [k3]), q3, fun _ h => h, T.ki1 m3 n3, _, rfl, _, _, _, _, .ref (A 4), .ref (A 4), _, T.exc m4 n4, (by rw [k4]), q4, fun _ h => h, T.ki2 m4 n4, _, rfl, _, _, _, _, .ref (A 5), .ref (A 5), _, T.exc m5 n5, (by rw [k5]), q5, fun _ h => h, T.ki3 m5 n5, _, rfl, _, _, _, _, .ref (A 6), .ref (A 6), _, T.exc m6 n6, (by rw [k6]), q6, fun _ h => h, T.ki4 m6 n6, _, rfl, _, _, _, _, .ref (A 7), .ref (A 7), _, T.exc m7 n7, (by rw [k7]), q7, fun _ h => h, T.ki5 m7 n7, _, rfl, _, _, _, _, .ref (A 8), .ref (A 8), _, T.exc m8 n8, (by rw [k8]), q8, fun _ h => h, T.ki6 m8 n8, _, rfl, _, _, _, _, .ref (A 9), .ref (A 9), _, T.exc m9 n9, (by rw [k9]), q9, fun _ h => h, T.ki7 m9 n9, _, rfl, _, _, _, _, .ref (A 10), .ref (A 10), _, T.exc m10 n10, (by rw [k10]), q10, fun _ h => h, T.ki8 m10 n10, _, rfl, _, _, _, _, .ref (A 11), .ref (A 11), _, T.exc m11 n11, (by rw [k11]), q11, fun _ h => h, T.ki9 m11 n11, _, rfl, _, _, _, _, .ref (A 12), .ref (A 12), _, T.exc m12 n12, (by rw [k12]), q12, fun _ h => h, T.ki10 m12 n12, _, rfl, _, _, _, _, .ref (A 13), .ref (A 13), _, T.exc m13 n13, (by rw [k13]), q13, fun _ h => h, T.ki11 m13 n13, _, rfl, _, _, _, _, .ref (A 14), .ref (A 14), _, T.exc m14 n14, (by rw [k14]), q14, fun _ h => h, T.ki12 m14 n14, _, rfl, _, _, _, _, .ref (A 15), .ref (A 15), _, T.exc m15 n15, (by rw [k15]), q15, fun _ h => h, T.ki13 m15 n15, (by show 14 ≤ sizeLine; decide), fun p17 n17 => ?_⟩
    have w17 : W F0 _ ((p17, .lst [(.bl (decide (x_one.cls ∈ ([("NoWeb" : Str)] : List Str)))), (.bl (decide (x_one.cls ∈ ([("NoPlace" : Str)] : List Str)))), (.bl (decide (x_one.cls ∈ ([("NoThing" : Str)] : List Str)))), (.bl (decide (x_one.cls ∈ ([("NoLooks" : Str)] : List Str)))), (.bl (decide (x_one.cls ∈ ([("NoTree" : Str)] : List Str)))), (.bl (decide (x_one.cls ∈ ([("NotOne" : Str)] : List Str)))), (.bl (decide (x_one.cls ∈ ([("NoSuch" : Str)] : List Str)))), (.bl (decide (x_one.cls ∈ ([("NoCode" : Str)] : List Str)))), (.bl (decide (x_one.cls ∈ ([("TooMany" : Str)] : List Str)))), (.bl (decide (x_one.cls ∈ ([("NotHeard" : Str)] : List Str)))), (.bl (decide (x_one.cls ∈ ([("NoRow" : Str)] : List Str)))), (.bl (decide (x_one.cls ∈ ([("NoBack" : Str)] : List Str)))), (.bl (decide (x_one.cls ∈ ([("Apart" : Str)] : List Str)))), (.bl (decide (x_one.cls ∈ ([("NoText" : Str)] : List Str))))]) :: os) := w0.new n17
    obtain ⟨F18, s18, w18, q18⟩ : ∃ F', Same F0 F' ∧ W F' _ (os) ∧ F' p17 = some (.lst [(.bl (decide (x_one.cls ∈ ([("NoWeb" : Str)] : List Str)))), (.bl (decide (x_one.cls ∈ ([("NoPlace" : Str)] : List Str)))), (.bl (decide (x_one.cls ∈ ([("NoThing" : Str)] : List Str)))), (.bl (decide (x_one.cls ∈ ([("NoLooks" : Str)] : List Str)))), (.bl (decide (x_one.cls ∈ ([("NoTree" : Str)] : List Str)))), (.bl (decide (x_one.cls ∈ ([("NotOne" : Str)] : List Str)))), (.bl (decide (x_one.cls ∈ ([("NoSuch" : Str)] : List Str)))), (.bl (decide (x_one.cls ∈ ([("NoCode" : Str)] : List Str)))), (.bl (decide (x_one.cls ∈ ([("TooMany" : Str)] : List Str)))), (.bl (decide (x_one.cls ∈ ([("NotHeard" : Str)] : List Str)))), (.bl (decide (x_one.cls ∈ ([("NoRow" : Str)] : List Str)))), (.bl (decide (x_one.cls ∈ ([("NoBack" : Str)] : List Str)))), (.bl (decide (x_one.cls ∈ ([("Apart" : Str)] : List Str)))), (.bl (decide (x_one.cls ∈ ([("NoText" : Str)] : List Str))))]) := w17.freezeE (pre := [])
    replace r_one := Rep.mono s18 r_one
    replace h16 := A2.mono s18 h16
    replace sF := sF.trans s18
    exact (post_ok hm) _ _ _ w18 sF (rep_lst q18 h16)
def sp_law (K : Fg) : Sp := fun vs H Q E => ∃ (F : Hp) (os : List (Addr × HO)) (v_script : V) (x_script : Scr), vs = [v_script] ∧ W F H (os) ∧ rep K F v_script x_script ∧ Post (law x_script) (Ret K F os Q) noX
theorem sc_law : FnScope ["script", "number", "all_of", "k", "kinds", "place"] ["script"] (defScope s_law) := ⟨rfl, rfl, rfl, by decide +kernel, rfl, by decide +kernel, by decide +kernel⟩
theorem ok_law (T : Tx K mg A FD) : FnOk P w K mg base CX0 4 (A 20) (FD 20) ["script"] (sp_law K) := by
  refine T.d20.fn.ok sc_law (fun vs H Q E h => ?_) (fun cdv Ar outer s H vs Q E hr h => ?_)
  · obtain ⟨F, os, v_script, x_script, rfl, _⟩ := h
    rfl
  · obtain ⟨F0, os, v_script, x_script, rfl, w0, r_script, hm⟩ := h
    have sF : Same F0 F0 := Same.refl _
    obtain ⟨a1, rfl, q1⟩ := r_script
    have h1 : A2 (rep K F0) (x_script.l.map V.int) x_script.l := A2.of_ints
    refine ⟨_, (pss_cons (ps_set (i := 1) sc_law.nd rfl (Or.inl rfl) (pe_op op_mod (pe_callB call_abs (by rfl) T.n_abs (by decide +kernel) (pa_cons (pe_call (ok_law_at T) (hr.mono (by decide)) (by rfl) T.d17.mg T.d17.fn.kp T.d17.b .nil pass0 (pa_cons (pv 0) (pa_cons pe_int pa_nil))) pa_nil)) pe_int)) (pss_cons (ps_set (i := 2) sc_law.nd rfl (Or.inl rfl) (pe_call (ok_law_all T) (hr.mono (by decide)) (by rfl) T.d18.mg T.d18.fn.kp T.d18.b .nil pass0 (pa_cons (pe_op op_add_str pe_str (pe_callTy call_str_int (by rfl) T.n_str (by decide +kernel) (pa_cons (pv 1) pa_nil))) (pa_cons (pv 1) pa_nil)))) (pss_cons (ps_for PassesOwn.never rfl (pi_range1 (by rfl) T.n_range (pa_cons pe_int pa_nil)) (pg_name (i := 3) sc_law.nd rfl (Or.inl rfl)) (pss_cons (ps_set (i := 4) sc_law.nd rfl (Or.inr rfl) (pe_call (ok_law_kinds T) (hr.mono (by decide)) (by rfl) T.d19.mg T.d19.fn.kp T.d19.b .nil pass0 (pa_cons (pe_ix (ix_listK (K := K) rfl) (pv 2) (pv 3) (fun _ _ => rfl)) pa_nil))) (pss_cons (ps_if (pt_cmpR (op_neDt (K := K) rfl (List Int) (by decide) hr.units) (pe_lc (own := [("place", 5)]) (g := gName 5) (by rfl) sc_law.nd (pi_range1 (by rfl) T.n_range (pa_cons pe_int pa_nil)) (blkOk_by (own := [("place", 5)]) (N := ["script", "number", "all_of", "k", "kinds", "place"]) (sc := defScope s_law) (by decide +kernel)) (fun _ _ _ _ _ => (pg_name (i := 5) sc_law.nd rfl (Or.inl rfl))) (fun _ _ _ _ _ => (pts_one (pt_val (pe_ix (ix_listK (K := K) rfl) (pv 4) (pv 5) (fun _ _ => rfl))))) (fun _ _ _ _ _ => (pv 5))) (pe_lst (pa_cons (pv 3) pa_nil)) (nomark _)) (pss_one (ps_ret pe_bl)) pss_nil) (pss_one (ps_if (PW.pt (pw_or (pt_not (pt_val (pe_callB (call_isV (K := K) rfl) (by rfl) T.n_isinstance (by decide +kernel) (pa_cons (pe_ix (ix_listK (K := K) rfl) (pv 2) (pv 3) (fun _ _ => rfl)) (pa_cons (pe_glob (v := .ref (A 1)) (by rfl) T.g_HailError rfl) pa_nil))))) (pw_or1 (pt_not (pt_val (pe_callB (call_isV (K := K) rfl) (by rfl) T.n_isinstance (by decide +kernel) (pa_cons (pe_ix (ix_listK (K := K) rfl) (pv 2) (pv 3) (fun _ _ => rfl)) (pa_cons (pe_bltn (v := .ty "ValueError") (by rfl) T.n_ValueError (by decide +kernel) rfl) pa_nil)))))))) (pss_one (ps_ret pe_bl)) pss_nil))))) (pss_one (ps_ret (pe_and (pe_cmp (pc_eqI (pe_xfV T.xi_Apart.xf T.xi_Apart.no (pe_ix (ix_listK (K := K) rfl) (pv 2) pe_int (fun _ _ => rfl))) (pv 1))) (pe_one (pe_cmp (pc_eqI (pe_xfV T.xi_NoText.xf T.xi_NoText.no (pe_ix (ix_listK (K := K) rfl) (pv 2) pe_int (fun _ _ => rfl))) (pv 1)))))))))), ?_⟩
    refine ⟨_, rfl, _, _, _, (x_script : Scr), _, rfl, w0, ⟨_, rfl, q1⟩, ?_⟩
    refine (post_bind hm).mono (fun y2 hm v2 F2 H2 w2 s2 r2 => ?_) (fun _ z => z)
    replace q1 := s2.seq q1
    replace h1 := A2.mono s2 h1
    replace sF := sF.trans s2
    obtain rfl : v2 = V.int y2 := r2
    obtain ⟨c4, hm⟩ := pb_txNum hm
    obtain ⟨c5, hm⟩ := pb_txAdd hm
    refine ⟨_, rfl, _, _, rfl, rfl, (by show (0 : Int) < (60 : Int); decide), _, rfl, _, rfl, c4, _, _, rfl, rfl, c5, _, rfl, _, _, _, _, rfl, w2, ?_⟩
    refine (post_bind hm).mono (fun y6 hm v6 F6 H6 w6 s6 r6 => ?_) (fun _ z => z)
    replace h1 := A2.mono s6 h1
    replace q1 := s6.seq q1
    replace sF := sF.trans s6
    obtain ⟨a7, vs7, rfl, q7, h7⟩ := r6
    refine ⟨_, rfl, (by decide), (by decide), ?_⟩
    refine forX (tw_rng0 (j := (14 : Int))) hm (fun (g8 : Unit) σ H' => ∃ (F' : Hp) (o8_4 : Option V) (o8_3 : Option V), σ = [some (.ref a1), some (.int ((absI y2) % (60 : Int))), some (.ref a7), o8_3, o8_4, none] ∧ Same F6 F' ∧ W F' H' (os)) ⟨_, _, _, rfl, Same.refl _, w6⟩ (fun _ _ _ _ => trivial) ?_ ?_
    · -- a turn
      intro b8 g8 x8 σ8 H8 H8' N8 B8 P8 hI hy hN8 hB8 hZ8 hm
      obtain ⟨F8, o8_4, o8_3, rfl, s8, w8⟩ := hI
      replace h1 := A2.mono s8 h1
      replace q1 := s8.seq q1
      replace h7 := A2.mono s8 h7
      replace q7 := s8 _ _ q7
      replace sF := sF.trans s8
      obtain ⟨rfl, rfl⟩ := hy
      obtain ⟨t9, e9, hm⟩ := pb_get hm
      obtain ⟨u9, f9, r9⟩ := A2.at h7 e9
      refine ⟨_, rfl, _, rfl, _, _, _, _, rfl, rfl, SqL.of (w8.same _ _ q7), f9, _, _, _, (t9 : Ev), rfl, w8, r9, ?_⟩
      refine (post_bind hm).mono (fun y11 hm v11 F11 H11 w11 s11 r11 => ?_) (fun _ z => z)
      replace h1 := A2.mono s11 h1
      replace q1 := s11.seq q1
      replace h7 := A2.mono s11 h7
      replace q7 := s11 _ _ q7
      replace r9 := Rep.mono s11 r9
      replace sF := sF.trans s11
      obtain ⟨a12, vs12, rfl, q12, h12⟩ := r11
      refine ⟨_, rfl, (by decide), (by decide), fun D13 nD13 => ?_⟩
      refine lcF (K := K) (tw_rng0 (j := (14 : Int))) hm w11 nD13 (fun F' H' acc s w => trivial) ?_ ?_
      · -- one turn
        intro b13 x13 F13 H13 H13' acc13 N13 M13 P13 s13 w13 y13 hN13 hM13 hm
        replace h1 := A2.mono s13 h1
        replace q1 := s13.seq q1
        replace h7 := A2.mono s13 h7
        replace q7 := s13 _ _ q7
        replace h12 := A2.mono s13 h12
        replace q12 := s13 _ _ q12
        replace sF := sF.trans s13
        obtain ⟨rfl, rfl⟩ := y13
        obtain ⟨t15, e15, hm⟩ := pb_get hm
        obtain ⟨u15, f15, r15⟩ := A2.at h12 e15
        obtain rfl : u15 = V.bl t15 := r15
        refine ⟨rfl, _, rfl, _, rfl, _, _, _, _, rfl, rfl, SqL.of (w13.same _ _ q12), f15, _, rfl, ?_⟩
        refine post_ite hm (fun k16 hm => ?_) (fun k16 hm => ?_)
        · skip
          exact ⟨_, rfl, hN13 _ (post_ok hm) _ _ _ w13 (Same.refl _) rep_i⟩
        · skip
          exact hM13 (post_ok hm) _ _ w13 (Same.refl _)
      intro us13 F13 H13 ys13 s13 w13 gg13 hm
      replace h1 := A2.mono s13 h1
      replace q1 := s13.seq q1
      replace h7 := A2.mono s13 h7
      replace q7 := s13 _ _ q7
      replace h12 := A2.mono s13 h12
      replace q12 := s13 _ _ q12
      replace sF := sF.trans s13
      have h18 : A2 (rep K F13) [(.int b8)] ([b8] : (List Int)) := .cons rep_i (.nil)
      refine ⟨_, rfl, (by show 1 ≤ sizeLine; decide), fun p19 n19 => ?_⟩
      have w19 : W F13 _ ((p19, .lst [(.int b8)]) :: (D13, .lst us13) :: os) := w13.new n19
      refine ⟨(ys13 : (List Int)), (([b8] : (List Int)) : (List Int)), (rep_own (pre := [_]) w19 gg13), (rep_own (pre := []) w19 h18), _, rfl, ?_⟩
      have w20 : W F13 _ ((D13, .lst us13) :: os) := w19.drop (pre := [])
      have w21 : W F13 _ (os) := w20.drop (pre := [])
      refine post_ite hm (fun k22 hm => ?_) (fun k22 hm => ?_)
      · skip
        have hm := hZ8 _ (post_ok hm)
        exact (post_ok hm) _ _ _ w21 sF rep_b
      · skip
        refine stepX ?_
        try dsimp only
        refine stepIf ?_
        refine joinT hm (fun (j23 : Bool) c H' => c = j23 ∧ ∃ (F' : Hp), Same F13 F' ∧ W F' H' (os)) ?_ ?_
        · intro Q23 P23 q23 hm
          obtain ⟨t24, e24, hm⟩ := pb_get hm
          obtain ⟨u24, f24, r24⟩ := A2.at h7 e24
          obtain ⟨m26, hm⟩ := pb_isV hm
          obtain ⟨a26, C26, k26, n26, q26⟩ := ev_is r24 w21.same
          refine ⟨_, rfl, _, rfl, _, _, _, _, rfl, rfl, SqL.of (w21.same _ _ q7), f24, _, _, _, _, .ref (A 1), .ref (A 1), _, T.exc m26 n26, (by rw [k26]), q26, fun _ h => h, T.ki14 m26 n26, _, rfl, ?_⟩
          refine post_ite hm (fun k27 hm => ?_) (fun k27 hm => ?_)
          · skip
            exact q23 _ (post_ok hm) _ _ ⟨rfl, _, Same.refl _, w21⟩
          · skip
            obtain ⟨t29, e29, hm⟩ := pb_get hm
            obtain ⟨u29, f29, r29⟩ := A2.at h7 e29
            obtain ⟨m31, hm⟩ := pb_isV hm
            obtain ⟨a31, C31, k31, n31, q31⟩ := ev_is r29 w21.same
            exact ⟨_, rfl, _, rfl, _, _, _, _, rfl, rfl, SqL.of (w21.same _ _ q7), f29, _, _, _, _, .ty "ValueError", .type "ValueError", _, T.exc m31 n31, (by rw [k31]), q31, fun _ h => h, T.ki15 m31 n31, _, rfl, q23 _ (post_ok hm) _ _ ⟨rfl, _, Same.refl _, w21⟩⟩
        intro j23 c23 H23 hc23 hm
        obtain ⟨rfl, F23, s23, w23⟩ := hc23
        replace h1 := A2.mono s23 h1
        replace q1 := s23.seq q1
        replace h7 := A2.mono s23 h7
        replace q7 := s23 _ _ q7
        replace h12 := A2.mono s23 h12
        replace q12 := s23 _ _ q12
        replace sF := sF.trans s23
        refine post_ite hm (fun k33 hm => ?_) (fun k33 hm => ?_)
        · skip
          have hm := hZ8 _ (post_ok hm)
          exact (post_ok hm) _ _ _ w23 sF rep_b
        · skip
          exact hN8 _ (post_ok hm) _ _ ⟨_, _, _, rfl, (s8.trans (s11.trans (s13.trans s23))), w23⟩
    intro g8 σ8 H8 hI hm
    obtain ⟨F8, o8_4, o8_3, rfl, s8, w8⟩ := hI
    replace h1 := A2.mono s8 h1
    replace q1 := s8.seq q1
    replace h7 := A2.mono s8 h7
    replace q7 := s8 _ _ q7
    replace sF := sF.trans s8
    try dsimp only
    refine stepRet ?_
    refine joinE hm (fun (j34 : Bool) c H' => c = V.bl j34 ∧ ∃ (F' : Hp), Same F8 F' ∧ W F' H' (os)) ?_ ?_
    · intro Q34 P34 q34 hm
      obtain ⟨t35, e35, hm⟩ := pb_get hm
      obtain ⟨u35, f35, r35⟩ := A2.at h7 e35
      obtain ⟨c37, hm⟩ := pb_argV hm
      obtain ⟨a37, dd37, k37, q37, qd37⟩ := ev_at r35 c37 T.x_Apart.ns
      refine ⟨_, rfl, _, _, _, _, rfl, rfl, SqL.of (w8.same _ _ q7), f35, _, _, _, k37, w8.same _ _ q37, w8.same _ _ qd37, _, rfl, _, _, rfl, rfl, _, rfl, ?_⟩
      refine post_ite hm (fun k38 hm => ?_) (fun k38 hm => ?_)
      · skip
        obtain ⟨t39, e39, hm⟩ := pb_get hm
        obtain ⟨u39, f39, r39⟩ := A2.at h7 e39
        obtain ⟨c41, hm⟩ := pb_argV hm
        obtain ⟨a41, dd41, k41, q41, qd41⟩ := ev_at r39 c41 T.x_NoText.ns
        exact ⟨_, rfl, _, _, _, _, rfl, rfl, SqL.of (w8.same _ _ q7), f39, _, _, _, k41, w8.same _ _ q41, w8.same _ _ qd41, _, rfl, _, _, rfl, rfl, q34 _ (post_ok hm) _ _ ⟨rfl, _, Same.refl _, w8⟩⟩
      · skip
        exact q34 _ (post_ok hm) _ _ ⟨rfl, _, Same.refl _, w8⟩
    intro j34 c34 H34 hc34 hm
    obtain ⟨rfl, F34, s34, w34⟩ := hc34
    replace h1 := A2.mono s34 h1
    replace q1 := s34.seq q1
    replace h7 := A2.mono s34 h7
    replace q7 := s34 _ _ q7
    replace sF := sF.trans s34
    exact (post_ok hm) _ _ _ w34 sF rep_b
end
end G
namespace G
open PySem L2 Z
def lawTail (m : Int) : R Bool := do
  let y6 ← law_all "" m
  let r8 ← foldX (fun (g8 : Unit) (b8 : Int) => do
      let t9 ← getI y6 b8
      let y11 ← law_kinds t9
      let l13 ← filG (fun (b13 : Int) => do
          let t15 ← getI y11 b13
          if t15 = true then do
            R.ok (some b13)
          else
            R.ok none) (rng 0 (14 : Int))
      if (!decide (l13 = ([b8] : (List Int)))) = true then do
        R.ok (.inl false)
      else do
        let j23 ← (do
          let t24 ← getI y6 b8
          let b26 ← isV names [("NoWeb" : Str), ("NoPlace" : Str), ("NoThing" : Str), ("NoLooks" : Str), ("NoTree" : Str), ("NotOne" : Str), ("NoSuch" : Str), ("NoCode" : Str), ("TooMany" : Str), ("NotHeard" : Str), ("NoRow" : Str), ("NoBack" : Str), ("Apart" : Str), ("NoText" : Str)] t24
          if (!b26) = true then do
            R.ok true
          else do
            let t29 ← getI y6 b8
            let b31 ← isV names [("NoWeb" : Str), ("NoPlace" : Str), ("NoThing" : Str), ("NoLooks" : Str), ("NoTree" : Str), ("NotOne" : Str), ("NoSuch" : Str), ("NoCode" : Str), ("TooMany" : Str), ("NotHeard" : Str), ("NoRow" : Str), ("NoBack" : Str), ("Apart" : Str), ("NoText" : Str)] t29
            R.ok (!b31) : R (Bool))
        if j23 = true then do
          R.ok (.inl false)
        else do
          R.ok (.inr (true, ()))) () (rng 0 (14 : Int))
  match r8 with
  | .inl z => R.ok z
  | .inr g8 => do
    let j34 ← (do
      let t35 ← getI y6 (12 : Int)
      let b37 ← argV "Apart" "place" t35
      if (decide (b37 = m)) = true then do
        let t39 ← getI y6 (13 : Int)
        let b41 ← argV "NoText" "row" t39
        R.ok (decide (b41 = m))
      else do
        R.ok false : R (Bool))
    R.ok j34
def okB (x : R Bool) (b : Bool) : Bool := match x with
  | .ok a => a == b
  | _ => false
theorem okB_of {x : R Bool} {b : Bool} (h : okB x b = true) : x = R.ok b := by
  cases x with
  | ok a => rw [show a = b from eq_of_beq h]
  | exc e => exact nomatch (show false = true from h)
  | bad => exact nomatch (show false = true from h)
theorem all60 : (List.range 60).all (fun i => okB (lawTail (i : Int)) true) = true := by decide +kernel
theorem law_true (ns : List Int) (h : ns.length ≤ 63) : law ⟨ns⟩ = R.ok true := by
  refine po_iff ?_
  unfold law
  have hat : ∃ z, law_at ⟨ns⟩ 0 = R.ok z := by
    unfold law_at
    cases ns with
    | nil => exact ⟨0, rfl⟩
    | cons x l =>
      refine ⟨x, ?_⟩
      rw [if_pos (decide_eq_true (show (0 : Int) < ((x :: l).length : Int) by rw [List.length_cons]; omega))]
      show (getI (x :: l) 0 >>= fun t => R.ok t) = _
      rw [getI_eq (x := x) (by decide) rfl]
      rfl
  obtain ⟨z, ez⟩ := hat
  rw [ez, ok_bind]
  generalize hm : absI z % 60 = m
  have m0 : 0 ≤ m ∧ m < 60 := by omega
  have e : lawTail m = R.ok true := by
    have := okB_of (List.all_eq_true.mp all60 m.toNat (List.mem_range.mpr (by omega)))
    rw [show ((m.toNat : Nat) : Int) = m by omega] at this
    exact this
  rw [txNum_ok m0.1 (by omega), ok_bind]
  have hl : ("a text " : Str).length + (numS m).length ≤ 1000000 := by
    have h1 : ("a text " : Str).length = 7 := by decide +kernel
    have h2 := numS_len m0.1 (show m < 1000 by omega)
    omega
  rw [txAdd_ok hl, ok_bind]
  show Post (lawTail m) _ _
  rw [e]
  exact rfl
end G
namespace G
open PySem L2 Z
open Rep (rep)
theorem dn_mk {K : Fg} {h : Heap} {mg : Str → Option Value} (X : K.In h) (G : h.Ns mainGlobals mg) {x y : Str} {st : Stmt} {ps : List Str} {f : Addr} {od an : Option Addr} {sl : Array (Option Value)} {oc kV dc pm cd ct : Value}
    (a : PySem.W.nsIn K mainGlobals x = some (some (.ref f))) (l : K.lookup f = some ⟨oc, od, .func (PySem.W.fnOf y y (defArgs st) (defBody st) (defScope st) .none kV dc pm an cd ct), sl⟩) (c : PySem.W.codeIn K cd y = true) (k : PySem.W.keepIn K (.ref f) = true)
    (b : ∀ (kV doc pm : Value) (an : Option Addr) (cdv ct : Value) (us : List Value), us.length = ps.length → bindArgs (PySem.W.fnOf y y (defArgs st) (defBody st) (defScope st) .none kV doc pm an cdv ct) ⟨us, []⟩ = pure (ps.zip us)) :
    Dn K mg x y st ps f (PySem.W.fnOf y y (defArgs st) (defBody st) (defScope st) .none kV dc pm an cd ct) := ⟨fun_mk l c k, PySem.W.mg_of X G a, (fun_mk l c k).binds b⟩
theorem all_mk {l : PySem.W.OpenLaw} {w : World} {K : PySem.W.Frag} {h : Heap} {mg : Str → Option Value} {fa : Addr} (X : K.In h) (G : h.Ns mainGlobals mg) (hfa : mg "law" = some (.ref fa))
    {f17 : Addr} {od17 an17 : Option Addr} {sl17 : Array (Option Value)} {oc17 kV17 dc17 pm17 cd17 ct17 : Value}
    {f18 : Addr} {od18 an18 : Option Addr} {sl18 : Array (Option Value)} {oc18 kV18 dc18 pm18 cd18 ct18 : Value}
    {f19 : Addr} {od19 an19 : Option Addr} {sl19 : Array (Option Value)} {oc19 kV19 dc19 pm19 cd19 ct19 : Value}
    {f20 : Addr} {od20 an20 : Option Addr} {sl20 : Array (Option Value)} {oc20 kV20 dc20 pm20 cd20 ct20 : Value}
    {f15000 : Addr} {od15000 an15000 : Option Addr} {sl15000 : Array (Option Value)} {oc15000 kV15000 dc15000 pm15000 cd15000 ct15000 : Value}
    {f16000 : Addr} {od16000 an16000 : Option Addr} {sl16000 : Array (Option Value)} {oc16000 kV16000 dc16000 pm16000 cd16000 ct16000 : Value}
    {g1 : Addr}
    {g2 : Addr}
    {g3 : Addr}
    {g4 : Addr}
    {g5 : Addr}
    {g6 : Addr}
    {g7 : Addr}
    {g8 : Addr}
    {g9 : Addr}
    {g10 : Addr}
    {g11 : Addr}
    {g12 : Addr}
    {g13 : Addr}
    {g14 : Addr}
    {g15 : Addr}
    {nm_Apart q_Apart : _} {N_Apart : Addr} {bs_Apart bm_Apart sub_Apart : List Value} {sn_Apart : List Str} {ab_Apart : Bool} {col_Apart : Option Bool} {dd_Apart : Option Addr} {k0_Apart k1_Apart k2_Apart k3_Apart k5_Apart : Option Value}
    {nm_NoText q_NoText : _} {N_NoText : Addr} {bs_NoText bm_NoText sub_NoText : List Value} {sn_NoText : List Str} {ab_NoText : Bool} {col_NoText : Option Bool} {dd_NoText : Option Addr} {k0_NoText k1_NoText k2_NoText k3_NoText k5_NoText : Option Value}
    (a17 : PySem.W.nsIn K mainGlobals "_law_at" = some (some (.ref f17))) (l17 : K.lookup f17 = some ⟨oc17, od17, .func (PySem.W.fnOf "_law_at" "_law_at" (defArgs s_law_at) (defBody s_law_at) (defScope s_law_at) .none kV17 dc17 pm17 an17 cd17 ct17), sl17⟩) (c17 : PySem.W.codeIn K cd17 "_law_at" = true) (k17 : PySem.W.keepIn K (.ref f17) = true)
    (a18 : PySem.W.nsIn K mainGlobals "_law_all" = some (some (.ref f18))) (l18 : K.lookup f18 = some ⟨oc18, od18, .func (PySem.W.fnOf "_law_all" "_law_all" (defArgs s_law_all) (defBody s_law_all) (defScope s_law_all) .none kV18 dc18 pm18 an18 cd18 ct18), sl18⟩) (c18 : PySem.W.codeIn K cd18 "_law_all" = true) (k18 : PySem.W.keepIn K (.ref f18) = true)
    (a19 : PySem.W.nsIn K mainGlobals "_law_kinds" = some (some (.ref f19))) (l19 : K.lookup f19 = some ⟨oc19, od19, .func (PySem.W.fnOf "_law_kinds" "_law_kinds" (defArgs s_law_kinds) (defBody s_law_kinds) (defScope s_law_kinds) .none kV19 dc19 pm19 an19 cd19 ct19), sl19⟩) (c19 : PySem.W.codeIn K cd19 "_law_kinds" = true) (k19 : PySem.W.keepIn K (.ref f19) = true)
    (a20 : PySem.W.nsIn K mainGlobals "law" = some (some (.ref f20))) (l20 : K.lookup f20 = some ⟨oc20, od20, .func (PySem.W.fnOf "law" "law" (defArgs s_law) (defBody s_law) (defScope s_law) .none kV20 dc20 pm20 an20 cd20 ct20), sl20⟩) (c20 : PySem.W.codeIn K cd20 "law" = true) (k20 : PySem.W.keepIn K (.ref f20) = true)
    (a15000 : PySem.W.findIn K (.ref g14) "__init__" = some (some (.ref f15000))) (i15000 : PySem.W.isFn K (.ref f15000) = true) (l15000 : K.lookup f15000 = some ⟨oc15000, od15000, .func (PySem.W.fnOf "__init__" "Apart.__init__" (defArgs s_Apart_init) (defBody s_Apart_init) (defScope s_Apart_init) .none kV15000 dc15000 pm15000 an15000 cd15000 ct15000), sl15000⟩) (c15000 : PySem.W.codeIn K cd15000 "Apart.__init__" = true) (k15000 : PySem.W.keepIn K (.ref f15000) = true)
    (a16000 : PySem.W.findIn K (.ref g15) "__init__" = some (some (.ref f16000))) (i16000 : PySem.W.isFn K (.ref f16000) = true) (l16000 : K.lookup f16000 = some ⟨oc16000, od16000, .func (PySem.W.fnOf "__init__" "NoText.__init__" (defArgs s_NoText_init) (defBody s_NoText_init) (defScope s_NoText_init) .none kV16000 dc16000 pm16000 an16000 cd16000 ct16000), sl16000⟩) (c16000 : PySem.W.codeIn K cd16000 "NoText.__init__" = true) (k16000 : PySem.W.keepIn K (.ref f16000) = true)
    (ns_HailError : PySem.W.nsIn K mainGlobals "HailError" = some (some (.ref g1)))
    (ns_NoWeb : PySem.W.nsIn K mainGlobals "NoWeb" = some (some (.ref g2)))
    (ns_NoPlace : PySem.W.nsIn K mainGlobals "NoPlace" = some (some (.ref g3)))
    (ns_NoThing : PySem.W.nsIn K mainGlobals "NoThing" = some (some (.ref g4)))
    (ns_NoLooks : PySem.W.nsIn K mainGlobals "NoLooks" = some (some (.ref g5)))
    (ns_NoTree : PySem.W.nsIn K mainGlobals "NoTree" = some (some (.ref g6)))
    (ns_NotOne : PySem.W.nsIn K mainGlobals "NotOne" = some (some (.ref g7)))
    (ns_NoSuch : PySem.W.nsIn K mainGlobals "NoSuch" = some (some (.ref g8)))
    (ns_NoCode : PySem.W.nsIn K mainGlobals "NoCode" = some (some (.ref g9)))
    (ns_TooMany : PySem.W.nsIn K mainGlobals "TooMany" = some (some (.ref g10)))
    (ns_NotHeard : PySem.W.nsIn K mainGlobals "NotHeard" = some (some (.ref g11)))
    (ns_NoRow : PySem.W.nsIn K mainGlobals "NoRow" = some (some (.ref g12)))
    (ns_NoBack : PySem.W.nsIn K mainGlobals "NoBack" = some (some (.ref g13)))
    (ns_Apart : PySem.W.nsIn K mainGlobals "Apart" = some (some (.ref g14)))
    (ns_NoText : PySem.W.nsIn K mainGlobals "NoText" = some (some (.ref g15)))
    (xc_NoWeb : PySem.W.excIn K g2 [.type "ValueError", .type "Exception", .type "BaseException", .type "object"] "ValueError.__new__" = true)
    (kp_NoWeb : PySem.W.keepIn K (.ref g2) = true)
    (b_NoWeb : PySem.W.subIn K (.ref g2) (.type "BaseException") = some true)
    (t_NoWeb : PySem.W.typeIn K (.ref g2) = some (.type "type"))
    (hg_NoWeb : PySem.W.findIn K (.ref g2) "__getattribute__" = some (some (.builtin "BaseException.__getattribute__")))
    (hk_NoWeb : PySem.W.findIn K (.ref g2) "__getattr__" = some none)
    (hd_NoWeb : PySem.W.hasDictIn K g2 = true)
    (ha_NoWeb : PySem.W.findIn K (.ref g2) "__class__" = some (some (.builtin "object.__class__")))
    (hm_NoWeb : PySem.W.mroIn K g2 (.type "object") = some true)
    (ks_NoWeb_Apart : PySem.W.subIn K (.ref g2) (.ref g14) = some false)
    (ne_NoWeb_Apart : (Value.ref g2 == Value.ref g14) = false)
    (ks_NoWeb_HailError : PySem.W.subIn K (.ref g2) (.ref g1) = some true)
    (ks_NoWeb_NoBack : PySem.W.subIn K (.ref g2) (.ref g13) = some false)
    (ne_NoWeb_NoBack : (Value.ref g2 == Value.ref g13) = false)
    (ks_NoWeb_NoCode : PySem.W.subIn K (.ref g2) (.ref g9) = some false)
    (ne_NoWeb_NoCode : (Value.ref g2 == Value.ref g9) = false)
    (ks_NoWeb_NoLooks : PySem.W.subIn K (.ref g2) (.ref g5) = some false)
    (ne_NoWeb_NoLooks : (Value.ref g2 == Value.ref g5) = false)
    (ks_NoWeb_NoPlace : PySem.W.subIn K (.ref g2) (.ref g3) = some false)
    (ne_NoWeb_NoPlace : (Value.ref g2 == Value.ref g3) = false)
    (ks_NoWeb_NoRow : PySem.W.subIn K (.ref g2) (.ref g12) = some false)
    (ne_NoWeb_NoRow : (Value.ref g2 == Value.ref g12) = false)
    (ks_NoWeb_NoSuch : PySem.W.subIn K (.ref g2) (.ref g8) = some false)
    (ne_NoWeb_NoSuch : (Value.ref g2 == Value.ref g8) = false)
    (ks_NoWeb_NoText : PySem.W.subIn K (.ref g2) (.ref g15) = some false)
    (ne_NoWeb_NoText : (Value.ref g2 == Value.ref g15) = false)
    (ks_NoWeb_NoThing : PySem.W.subIn K (.ref g2) (.ref g4) = some false)
    (ne_NoWeb_NoThing : (Value.ref g2 == Value.ref g4) = false)
    (ks_NoWeb_NoTree : PySem.W.subIn K (.ref g2) (.ref g6) = some false)
    (ne_NoWeb_NoTree : (Value.ref g2 == Value.ref g6) = false)
    (ks_NoWeb_NoWeb : PySem.W.subIn K (.ref g2) (.ref g2) = some true)
    (ks_NoWeb_NotHeard : PySem.W.subIn K (.ref g2) (.ref g11) = some false)
    (ne_NoWeb_NotHeard : (Value.ref g2 == Value.ref g11) = false)
    (ks_NoWeb_NotOne : PySem.W.subIn K (.ref g2) (.ref g7) = some false)
    (ne_NoWeb_NotOne : (Value.ref g2 == Value.ref g7) = false)
    (ks_NoWeb_TooMany : PySem.W.subIn K (.ref g2) (.ref g10) = some false)
    (ne_NoWeb_TooMany : (Value.ref g2 == Value.ref g10) = false)
    (ks_NoWeb_ValueError : PySem.W.subIn K (.ref g2) (.type "ValueError") = some true)
    (xc_NoPlace : PySem.W.excIn K g3 [.type "ValueError", .type "Exception", .type "BaseException", .type "object"] "ValueError.__new__" = true)
    (kp_NoPlace : PySem.W.keepIn K (.ref g3) = true)
    (b_NoPlace : PySem.W.subIn K (.ref g3) (.type "BaseException") = some true)
    (t_NoPlace : PySem.W.typeIn K (.ref g3) = some (.type "type"))
    (hg_NoPlace : PySem.W.findIn K (.ref g3) "__getattribute__" = some (some (.builtin "BaseException.__getattribute__")))
    (hk_NoPlace : PySem.W.findIn K (.ref g3) "__getattr__" = some none)
    (hd_NoPlace : PySem.W.hasDictIn K g3 = true)
    (ha_NoPlace : PySem.W.findIn K (.ref g3) "__class__" = some (some (.builtin "object.__class__")))
    (hm_NoPlace : PySem.W.mroIn K g3 (.type "object") = some true)
    (ks_NoPlace_Apart : PySem.W.subIn K (.ref g3) (.ref g14) = some false)
    (ne_NoPlace_Apart : (Value.ref g3 == Value.ref g14) = false)
    (ks_NoPlace_HailError : PySem.W.subIn K (.ref g3) (.ref g1) = some true)
    (ks_NoPlace_NoBack : PySem.W.subIn K (.ref g3) (.ref g13) = some false)
    (ne_NoPlace_NoBack : (Value.ref g3 == Value.ref g13) = false)
    (ks_NoPlace_NoCode : PySem.W.subIn K (.ref g3) (.ref g9) = some false)
    (ne_NoPlace_NoCode : (Value.ref g3 == Value.ref g9) = false)
    (ks_NoPlace_NoLooks : PySem.W.subIn K (.ref g3) (.ref g5) = some false)
    (ne_NoPlace_NoLooks : (Value.ref g3 == Value.ref g5) = false)
    (ks_NoPlace_NoPlace : PySem.W.subIn K (.ref g3) (.ref g3) = some true)
    (ks_NoPlace_NoRow : PySem.W.subIn K (.ref g3) (.ref g12) = some false)
    (ne_NoPlace_NoRow : (Value.ref g3 == Value.ref g12) = false)
    (ks_NoPlace_NoSuch : PySem.W.subIn K (.ref g3) (.ref g8) = some false)
    (ne_NoPlace_NoSuch : (Value.ref g3 == Value.ref g8) = false)
    (ks_NoPlace_NoText : PySem.W.subIn K (.ref g3) (.ref g15) = some false)
    (ne_NoPlace_NoText : (Value.ref g3 == Value.ref g15) = false)
    (ks_NoPlace_NoThing : PySem.W.subIn K (.ref g3) (.ref g4) = some false)
    (ne_NoPlace_NoThing : (Value.ref g3 == Value.ref g4) = false)
    (ks_NoPlace_NoTree : PySem.W.subIn K (.ref g3) (.ref g6) = some false)
    (ne_NoPlace_NoTree : (Value.ref g3 == Value.ref g6) = false)
    (ks_NoPlace_NoWeb : PySem.W.subIn K (.ref g3) (.ref g2) = some false)
    (ne_NoPlace_NoWeb : (Value.ref g3 == Value.ref g2) = false)
    (ks_NoPlace_NotHeard : PySem.W.subIn K (.ref g3) (.ref g11) = some false)
    (ne_NoPlace_NotHeard : (Value.ref g3 == Value.ref g11) = false)
    (ks_NoPlace_NotOne : PySem.W.subIn K (.ref g3) (.ref g7) = some false)
    (ne_NoPlace_NotOne : (Value.ref g3 == Value.ref g7) = false)
    (ks_NoPlace_TooMany : PySem.W.subIn K (.ref g3) (.ref g10) = some false)
    (ne_NoPlace_TooMany : (Value.ref g3 == Value.ref g10) = false)
    (ks_NoPlace_ValueError : PySem.W.subIn K (.ref g3) (.type "ValueError") = some true)
    (xc_NoThing : PySem.W.excIn K g4 [.type "ValueError", .type "Exception", .type "BaseException", .type "object"] "ValueError.__new__" = true)
    (kp_NoThing : PySem.W.keepIn K (.ref g4) = true)
    (b_NoThing : PySem.W.subIn K (.ref g4) (.type "BaseException") = some true)
    (t_NoThing : PySem.W.typeIn K (.ref g4) = some (.type "type"))
    (hg_NoThing : PySem.W.findIn K (.ref g4) "__getattribute__" = some (some (.builtin "BaseException.__getattribute__")))
    (hk_NoThing : PySem.W.findIn K (.ref g4) "__getattr__" = some none)
    (hd_NoThing : PySem.W.hasDictIn K g4 = true)
    (ha_NoThing : PySem.W.findIn K (.ref g4) "__class__" = some (some (.builtin "object.__class__")))
    (hm_NoThing : PySem.W.mroIn K g4 (.type "object") = some true)
    (ks_NoThing_Apart : PySem.W.subIn K (.ref g4) (.ref g14) = some false)
    (ne_NoThing_Apart : (Value.ref g4 == Value.ref g14) = false)
    (ks_NoThing_HailError : PySem.W.subIn K (.ref g4) (.ref g1) = some true)
    (ks_NoThing_NoBack : PySem.W.subIn K (.ref g4) (.ref g13) = some false)
    (ne_NoThing_NoBack : (Value.ref g4 == Value.ref g13) = false)
    (ks_NoThing_NoCode : PySem.W.subIn K (.ref g4) (.ref g9) = some false)
    (ne_NoThing_NoCode : (Value.ref g4 == Value.ref g9) = false)
    (ks_NoThing_NoLooks : PySem.W.subIn K (.ref g4) (.ref g5) = some false)
    (ne_NoThing_NoLooks : (Value.ref g4 == Value.ref g5) = false)
    (ks_NoThing_NoPlace : PySem.W.subIn K (.ref g4) (.ref g3) = some false)
    (ne_NoThing_NoPlace : (Value.ref g4 == Value.ref g3) = false)
    (ks_NoThing_NoRow : PySem.W.subIn K (.ref g4) (.ref g12) = some false)
    (ne_NoThing_NoRow : (Value.ref g4 == Value.ref g12) = false)
    (ks_NoThing_NoSuch : PySem.W.subIn K (.ref g4) (.ref g8) = some false)
    (ne_NoThing_NoSuch : (Value.ref g4 == Value.ref g8) = false)
    (ks_NoThing_NoText : PySem.W.subIn K (.ref g4) (.ref g15) = some false)
    (ne_NoThing_NoText : (Value.ref g4 == Value.ref g15) = false)
    (ks_NoThing_NoThing : PySem.W.subIn K (.ref g4) (.ref g4) = some true)
    (ks_NoThing_NoTree : PySem.W.subIn K (.ref g4) (.ref g6) = some false)
    (ne_NoThing_NoTree : (Value.ref g4 == Value.ref g6) = false)
    (ks_NoThing_NoWeb : PySem.W.subIn K (.ref g4) (.ref g2) = some false)
    (ne_NoThing_NoWeb : (Value.ref g4 == Value.ref g2) = false)
    (ks_NoThing_NotHeard : PySem.W.subIn K (.ref g4) (.ref g11) = some false)
    (ne_NoThing_NotHeard : (Value.ref g4 == Value.ref g11) = false)
    (ks_NoThing_NotOne : PySem.W.subIn K (.ref g4) (.ref g7) = some false)
    (ne_NoThing_NotOne : (Value.ref g4 == Value.ref g7) = false)
    (ks_NoThing_TooMany : PySem.W.subIn K (.ref g4) (.ref g10) = some false)
    (ne_NoThing_TooMany : (Value.ref g4 == Value.ref g10) = false)
    (ks_NoThing_ValueError : PySem.W.subIn K (.ref g4) (.type "ValueError") = some true)
    (xc_NoLooks : PySem.W.excIn K g5 [.type "ValueError", .type "Exception", .type "BaseException", .type "object"] "ValueError.__new__" = true)
    (kp_NoLooks : PySem.W.keepIn K (.ref g5) = true)
    (b_NoLooks : PySem.W.subIn K (.ref g5) (.type "BaseException") = some true)
    (t_NoLooks : PySem.W.typeIn K (.ref g5) = some (.type "type"))
    (hg_NoLooks : PySem.W.findIn K (.ref g5) "__getattribute__" = some (some (.builtin "BaseException.__getattribute__")))
    (hk_NoLooks : PySem.W.findIn K (.ref g5) "__getattr__" = some none)
    (hd_NoLooks : PySem.W.hasDictIn K g5 = true)
    (ha_NoLooks : PySem.W.findIn K (.ref g5) "__class__" = some (some (.builtin "object.__class__")))
    (hm_NoLooks : PySem.W.mroIn K g5 (.type "object") = some true)
    (ks_NoLooks_Apart : PySem.W.subIn K (.ref g5) (.ref g14) = some false)
    (ne_NoLooks_Apart : (Value.ref g5 == Value.ref g14) = false)
    (ks_NoLooks_HailError : PySem.W.subIn K (.ref g5) (.ref g1) = some true)
    (ks_NoLooks_NoBack : PySem.W.subIn K (.ref g5) (.ref g13) = some false)
    (ne_NoLooks_NoBack : (Value.ref g5 == Value.ref g13) = false)
    (ks_NoLooks_NoCode : PySem.W.subIn K (.ref g5) (.ref g9) = some false)
    (ne_NoLooks_NoCode : (Value.ref g5 == Value.ref g9) = false)
    (ks_NoLooks_NoLooks : PySem.W.subIn K (.ref g5) (.ref g5) = some true)
    (ks_NoLooks_NoPlace : PySem.W.subIn K (.ref g5) (.ref g3) = some false)
    (ne_NoLooks_NoPlace : (Value.ref g5 == Value.ref g3) = false)
    (ks_NoLooks_NoRow : PySem.W.subIn K (.ref g5) (.ref g12) = some false)
    (ne_NoLooks_NoRow : (Value.ref g5 == Value.ref g12) = false)
    (ks_NoLooks_NoSuch : PySem.W.subIn K (.ref g5) (.ref g8) = some false)
    (ne_NoLooks_NoSuch : (Value.ref g5 == Value.ref g8) = false)
    (ks_NoLooks_NoText : PySem.W.subIn K (.ref g5) (.ref g15) = some false)
    (ne_NoLooks_NoText : (Value.ref g5 == Value.ref g15) = false)
    (ks_NoLooks_NoThing : PySem.W.subIn K (.ref g5) (.ref g4) = some false)
    (ne_NoLooks_NoThing : (Value.ref g5 == Value.ref g4) = false)
    (ks_NoLooks_NoTree : PySem.W.subIn K (.ref g5) (.ref g6) = some false)
    (ne_NoLooks_NoTree : (Value.ref g5 == Value.ref g6) = false)
    (ks_NoLooks_NoWeb : PySem.W.subIn K (.ref g5) (.ref g2) = some false)
    (ne_NoLooks_NoWeb : (Value.ref g5 == Value.ref g2) = false)
    (ks_NoLooks_NotHeard : PySem.W.subIn K (.ref g5) (.ref g11) = some false)
    (ne_NoLooks_NotHeard : (Value.ref g5 == Value.ref g11) = false)
    (ks_NoLooks_NotOne : PySem.W.subIn K (.ref g5) (.ref g7) = some false)
    (ne_NoLooks_NotOne : (Value.ref g5 == Value.ref g7) = false)
    (ks_NoLooks_TooMany : PySem.W.subIn K (.ref g5) (.ref g10) = some false)
    (ne_NoLooks_TooMany : (Value.ref g5 == Value.ref g10) = false)
    (ks_NoLooks_ValueError : PySem.W.subIn K (.ref g5) (.type "ValueError") = some true)
    (xc_NoTree : PySem.W.excIn K g6 [.type "ValueError", .type "Exception", .type "BaseException", .type "object"] "ValueError.__new__" = true)
    (kp_NoTree : PySem.W.keepIn K (.ref g6) = true)
    (b_NoTree : PySem.W.subIn K (.ref g6) (.type "BaseException") = some true)
    (t_NoTree : PySem.W.typeIn K (.ref g6) = some (.type "type"))
    (hg_NoTree : PySem.W.findIn K (.ref g6) "__getattribute__" = some (some (.builtin "BaseException.__getattribute__")))
    (hk_NoTree : PySem.W.findIn K (.ref g6) "__getattr__" = some none)
    (hd_NoTree : PySem.W.hasDictIn K g6 = true)
    (ha_NoTree : PySem.W.findIn K (.ref g6) "__class__" = some (some (.builtin "object.__class__")))
    (hm_NoTree : PySem.W.mroIn K g6 (.type "object") = some true)
    (ks_NoTree_Apart : PySem.W.subIn K (.ref g6) (.ref g14) = some false)
    (ne_NoTree_Apart : (Value.ref g6 == Value.ref g14) = false)
    (ks_NoTree_HailError : PySem.W.subIn K (.ref g6) (.ref g1) = some true)
    (ks_NoTree_NoBack : PySem.W.subIn K (.ref g6) (.ref g13) = some false)
    (ne_NoTree_NoBack : (Value.ref g6 == Value.ref g13) = false)
    (ks_NoTree_NoCode : PySem.W.subIn K (.ref g6) (.ref g9) = some false)
    (ne_NoTree_NoCode : (Value.ref g6 == Value.ref g9) = false)
    (ks_NoTree_NoLooks : PySem.W.subIn K (.ref g6) (.ref g5) = some false)
    (ne_NoTree_NoLooks : (Value.ref g6 == Value.ref g5) = false)
    (ks_NoTree_NoPlace : PySem.W.subIn K (.ref g6) (.ref g3) = some false)
    (ne_NoTree_NoPlace : (Value.ref g6 == Value.ref g3) = false)
    (ks_NoTree_NoRow : PySem.W.subIn K (.ref g6) (.ref g12) = some false)
    (ne_NoTree_NoRow : (Value.ref g6 == Value.ref g12) = false)
    (ks_NoTree_NoSuch : PySem.W.subIn K (.ref g6) (.ref g8) = some false)
    (ne_NoTree_NoSuch : (Value.ref g6 == Value.ref g8) = false)
    (ks_NoTree_NoText : PySem.W.subIn K (.ref g6) (.ref g15) = some false)
    (ne_NoTree_NoText : (Value.ref g6 == Value.ref g15) = false)
    (ks_NoTree_NoThing : PySem.W.subIn K (.ref g6) (.ref g4) = some false)
    (ne_NoTree_NoThing : (Value.ref g6 == Value.ref g4) = false)
    (ks_NoTree_NoTree : PySem.W.subIn K (.ref g6) (.ref g6) = some true)
    (ks_NoTree_NoWeb : PySem.W.subIn K (.ref g6) (.ref g2) = some false)
    (ne_NoTree_NoWeb : (Value.ref g6 == Value.ref g2) = false)
    (ks_NoTree_NotHeard : PySem.W.subIn K (.ref g6) (.ref g11) = some false)
    (ne_NoTree_NotHeard : (Value.ref g6 == Value.ref g11) = false)
    (ks_NoTree_NotOne : PySem.W.subIn K (.ref g6) (.ref g7) = some false)
    (ne_NoTree_NotOne : (Value.ref g6 == Value.ref g7) = false)
    (ks_NoTree_TooMany : PySem.W.subIn K (.ref g6) (.ref g10) = some false)
    (ne_NoTree_TooMany : (Value.ref g6 == Value.ref g10) = false)
    (ks_NoTree_ValueError : PySem.W.subIn K (.ref g6) (.type "ValueError") = some true)
    (xc_NotOne : PySem.W.excIn K g7 [.type "ValueError", .type "Exception", .type "BaseException", .type "object"] "ValueError.__new__" = true)
    (kp_NotOne : PySem.W.keepIn K (.ref g7) = true)
    (b_NotOne : PySem.W.subIn K (.ref g7) (.type "BaseException") = some true)
    (t_NotOne : PySem.W.typeIn K (.ref g7) = some (.type "type"))
    (hg_NotOne : PySem.W.findIn K (.ref g7) "__getattribute__" = some (some (.builtin "BaseException.__getattribute__")))
    (hk_NotOne : PySem.W.findIn K (.ref g7) "__getattr__" = some none)
    (hd_NotOne : PySem.W.hasDictIn K g7 = true)
    (ha_NotOne : PySem.W.findIn K (.ref g7) "__class__" = some (some (.builtin "object.__class__")))
    (hm_NotOne : PySem.W.mroIn K g7 (.type "object") = some true)
    (ks_NotOne_Apart : PySem.W.subIn K (.ref g7) (.ref g14) = some false)
    (ne_NotOne_Apart : (Value.ref g7 == Value.ref g14) = false)
    (ks_NotOne_HailError : PySem.W.subIn K (.ref g7) (.ref g1) = some true)
    (ks_NotOne_NoBack : PySem.W.subIn K (.ref g7) (.ref g13) = some false)
    (ne_NotOne_NoBack : (Value.ref g7 == Value.ref g13) = false)
    (ks_NotOne_NoCode : PySem.W.subIn K (.ref g7) (.ref g9) = some false)
    (ne_NotOne_NoCode : (Value.ref g7 == Value.ref g9) = false)
    (ks_NotOne_NoLooks : PySem.W.subIn K (.ref g7) (.ref g5) = some false)
    (ne_NotOne_NoLooks : (Value.ref g7 == Value.ref g5) = false)
    (ks_NotOne_NoPlace : PySem.W.subIn K (.ref g7) (.ref g3) = some false)
    (ne_NotOne_NoPlace : (Value.ref g7 == Value.ref g3) = false)
    (ks_NotOne_NoRow : PySem.W.subIn K (.ref g7) (.ref g12) = some false)
    (ne_NotOne_NoRow : (Value.ref g7 == Value.ref g12) = false)
    (ks_NotOne_NoSuch : PySem.W.subIn K (.ref g7) (.ref g8) = some false)
    (ne_NotOne_NoSuch : (Value.ref g7 == Value.ref g8) = false)
    (ks_NotOne_NoText : PySem.W.subIn K (.ref g7) (.ref g15) = some false)
    (ne_NotOne_NoText : (Value.ref g7 == Value.ref g15) = false)
    (ks_NotOne_NoThing : PySem.W.subIn K (.ref g7) (.ref g4) = some false)
    (ne_NotOne_NoThing : (Value.ref g7 == Value.ref g4) = false)
    (ks_NotOne_NoTree : PySem.W.subIn K (.ref g7) (.ref g6) = some false)
    (ne_NotOne_NoTree : (Value.ref g7 == Value.ref g6) = false)
    (ks_NotOne_NoWeb : PySem.W.subIn K (.ref g7) (.ref g2) = some false)
    (ne_NotOne_NoWeb : (Value.ref g7 == Value.ref g2) = false)
    (ks_NotOne_NotHeard : PySem.W.subIn K (.ref g7) (.ref g11) = some false)
    (ne_NotOne_NotHeard : (Value.ref g7 == Value.ref g11) = false)
    (ks_NotOne_NotOne : PySem.W.subIn K (.ref g7) (.ref g7) = some true)
    (ks_NotOne_TooMany : PySem.W.subIn K (.ref g7) (.ref g10) = some false)
    (ne_NotOne_TooMany : (Value.ref g7 == Value.ref g10) = false)
    (ks_NotOne_ValueError : PySem.W.subIn K (.ref g7) (.type "ValueError") = some true)
    (xc_NoSuch : PySem.W.excIn K g8 [.type "ValueError", .type "Exception", .type "BaseException", .type "object"] "ValueError.__new__" = true)
    (kp_NoSuch : PySem.W.keepIn K (.ref g8) = true)
    (b_NoSuch : PySem.W.subIn K (.ref g8) (.type "BaseException") = some true)
    (t_NoSuch : PySem.W.typeIn K (.ref g8) = some (.type "type"))
    (hg_NoSuch : PySem.W.findIn K (.ref g8) "__getattribute__" = some (some (.builtin "BaseException.__getattribute__")))
    (hk_NoSuch : PySem.W.findIn K (.ref g8) "__getattr__" = some none)
    (hd_NoSuch : PySem.W.hasDictIn K g8 = true)
    (ha_NoSuch : PySem.W.findIn K (.ref g8) "__class__" = some (some (.builtin "object.__class__")))
    (hm_NoSuch : PySem.W.mroIn K g8 (.type "object") = some true)
    (ks_NoSuch_Apart : PySem.W.subIn K (.ref g8) (.ref g14) = some false)
    (ne_NoSuch_Apart : (Value.ref g8 == Value.ref g14) = false)
    (ks_NoSuch_HailError : PySem.W.subIn K (.ref g8) (.ref g1) = some true)
    (ks_NoSuch_NoBack : PySem.W.subIn K (.ref g8) (.ref g13) = some false)
    (ne_NoSuch_NoBack : (Value.ref g8 == Value.ref g13) = false)
    (ks_NoSuch_NoCode : PySem.W.subIn K (.ref g8) (.ref g9) = some false)
    (ne_NoSuch_NoCode : (Value.ref g8 == Value.ref g9) = false)
    (ks_NoSuch_NoLooks : PySem.W.subIn K (.ref g8) (.ref g5) = some false)
    (ne_NoSuch_NoLooks : (Value.ref g8 == Value.ref g5) = false)
    (ks_NoSuch_NoPlace : PySem.W.subIn K (.ref g8) (.ref g3) = some false)
    (ne_NoSuch_NoPlace : (Value.ref g8 == Value.ref g3) = false)
    (ks_NoSuch_NoRow : PySem.W.subIn K (.ref g8) (.ref g12) = some false)
    (ne_NoSuch_NoRow : (Value.ref g8 == Value.ref g12) = false)
    (ks_NoSuch_NoSuch : PySem.W.subIn K (.ref g8) (.ref g8) = some true)
    (ks_NoSuch_NoText : PySem.W.subIn K (.ref g8) (.ref g15) = some false)
    (ne_NoSuch_NoText : (Value.ref g8 == Value.ref g15) = false)
    (ks_NoSuch_NoThing : PySem.W.subIn K (.ref g8) (.ref g4) = some false)
    (ne_NoSuch_NoThing : (Value.ref g8 == Value.ref g4) = false)
    (ks_NoSuch_NoTree : PySem.W.subIn K (.ref g8) (.ref g6) = some false)
    (ne_NoSuch_NoTree : (Value.ref g8 == Value.ref g6) = false)
    (ks_NoSuch_NoWeb : PySem.W.subIn K (.ref g8) (.ref g2) = some false)
    (ne_NoSuch_NoWeb : (Value.ref g8 == Value.ref g2) = false)
    (ks_NoSuch_NotHeard : PySem.W.subIn K (.ref g8) (.ref g11) = some false)
    (ne_NoSuch_NotHeard : (Value.ref g8 == Value.ref g11) = false)
    (ks_NoSuch_NotOne : PySem.W.subIn K (.ref g8) (.ref g7) = some false)
    (ne_NoSuch_NotOne : (Value.ref g8 == Value.ref g7) = false)
    (ks_NoSuch_TooMany : PySem.W.subIn K (.ref g8) (.ref g10) = some false)
    (ne_NoSuch_TooMany : (Value.ref g8 == Value.ref g10) = false)
    (ks_NoSuch_ValueError : PySem.W.subIn K (.ref g8) (.type "ValueError") = some true)
    (xc_NoCode : PySem.W.excIn K g9 [.type "ValueError", .type "Exception", .type "BaseException", .type "object"] "ValueError.__new__" = true)
    (kp_NoCode : PySem.W.keepIn K (.ref g9) = true)
    (b_NoCode : PySem.W.subIn K (.ref g9) (.type "BaseException") = some true)
    (t_NoCode : PySem.W.typeIn K (.ref g9) = some (.type "type"))
    (hg_NoCode : PySem.W.findIn K (.ref g9) "__getattribute__" = some (some (.builtin "BaseException.__getattribute__")))
    (hk_NoCode : PySem.W.findIn K (.ref g9) "__getattr__" = some none)
    (hd_NoCode : PySem.W.hasDictIn K g9 = true)
    (ha_NoCode : PySem.W.findIn K (.ref g9) "__class__" = some (some (.builtin "object.__class__")))
    (hm_NoCode : PySem.W.mroIn K g9 (.type "object") = some true)
    (ks_NoCode_Apart : PySem.W.subIn K (.ref g9) (.ref g14) = some false)
    (ne_NoCode_Apart : (Value.ref g9 == Value.ref g14) = false)
    (ks_NoCode_HailError : PySem.W.subIn K (.ref g9) (.ref g1) = some true)
    (ks_NoCode_NoBack : PySem.W.subIn K (.ref g9) (.ref g13) = some false)
    (ne_NoCode_NoBack : (Value.ref g9 == Value.ref g13) = false)
    (ks_NoCode_NoCode : PySem.W.subIn K (.ref g9) (.ref g9) = some true)
    (ks_NoCode_NoLooks : PySem.W.subIn K (.ref g9) (.ref g5) = some false)
    (ne_NoCode_NoLooks : (Value.ref g9 == Value.ref g5) = false)
    (ks_NoCode_NoPlace : PySem.W.subIn K (.ref g9) (.ref g3) = some false)
    (ne_NoCode_NoPlace : (Value.ref g9 == Value.ref g3) = false)
    (ks_NoCode_NoRow : PySem.W.subIn K (.ref g9) (.ref g12) = some false)
    (ne_NoCode_NoRow : (Value.ref g9 == Value.ref g12) = false)
    (ks_NoCode_NoSuch : PySem.W.subIn K (.ref g9) (.ref g8) = some false)
    (ne_NoCode_NoSuch : (Value.ref g9 == Value.ref g8) = false)
    (ks_NoCode_NoText : PySem.W.subIn K (.ref g9) (.ref g15) = some false)
    (ne_NoCode_NoText : (Value.ref g9 == Value.ref g15) = false)
    (ks_NoCode_NoThing : PySem.W.subIn K (.ref g9) (.ref g4) = some false)
    (ne_NoCode_NoThing : (Value.ref g9 == Value.ref g4) = false)
    (ks_NoCode_NoTree : PySem.W.subIn K (.ref g9) (.ref g6) = some false)
    (ne_NoCode_NoTree : (Value.ref g9 == Value.ref g6) = false)
    (ks_NoCode_NoWeb : PySem.W.subIn K (.ref g9) (.ref g2) = some false)
    (ne_NoCode_NoWeb : (Value.ref g9 == Value.ref g2) = false)
    (ks_NoCode_NotHeard : PySem.W.subIn K (.ref g9) (.ref g11) = some false)
    (ne_NoCode_NotHeard : (Value.ref g9 == Value.ref g11) = false)
    (ks_NoCode_NotOne : PySem.W.subIn K (.ref g9) (.ref g7) = some false)
    (ne_NoCode_NotOne : (Value.ref g9 == Value.ref g7) = false)
    (ks_NoCode_TooMany : PySem.W.subIn K (.ref g9) (.ref g10) = some false)
    (ne_NoCode_TooMany : (Value.ref g9 == Value.ref g10) = false)
    (ks_NoCode_ValueError : PySem.W.subIn K (.ref g9) (.type "ValueError") = some true)
    (xc_TooMany : PySem.W.excIn K g10 [.type "ValueError", .type "Exception", .type "BaseException", .type "object"] "ValueError.__new__" = true)
    (kp_TooMany : PySem.W.keepIn K (.ref g10) = true)
    (b_TooMany : PySem.W.subIn K (.ref g10) (.type "BaseException") = some true)
    (t_TooMany : PySem.W.typeIn K (.ref g10) = some (.type "type"))
    (hg_TooMany : PySem.W.findIn K (.ref g10) "__getattribute__" = some (some (.builtin "BaseException.__getattribute__")))
    (hk_TooMany : PySem.W.findIn K (.ref g10) "__getattr__" = some none)
    (hd_TooMany : PySem.W.hasDictIn K g10 = true)
    (ha_TooMany : PySem.W.findIn K (.ref g10) "__class__" = some (some (.builtin "object.__class__")))
    (hm_TooMany : PySem.W.mroIn K g10 (.type "object") = some true)
    (ks_TooMany_Apart : PySem.W.subIn K (.ref g10) (.ref g14) = some false)
    (ne_TooMany_Apart : (Value.ref g10 == Value.ref g14) = false)
    (ks_TooMany_HailError : PySem.W.subIn K (.ref g10) (.ref g1) = some true)
    (ks_TooMany_NoBack : PySem.W.subIn K (.ref g10) (.ref g13) = some false)
    (ne_TooMany_NoBack : (Value.ref g10 == Value.ref g13) = false)
    (ks_TooMany_NoCode : PySem.W.subIn K (.ref g10) (.ref g9) = some false)
    (ne_TooMany_NoCode : (Value.ref g10 == Value.ref g9) = false)
    (ks_TooMany_NoLooks : PySem.W.subIn K (.ref g10) (.ref g5) = some false)
    (ne_TooMany_NoLooks : (Value.ref g10 == Value.ref g5) = false)
    (ks_TooMany_NoPlace : PySem.W.subIn K (.ref g10) (.ref g3) = some false)
    (ne_TooMany_NoPlace : (Value.ref g10 == Value.ref g3) = false)
    (ks_TooMany_NoRow : PySem.W.subIn K (.ref g10) (.ref g12) = some false)
    (ne_TooMany_NoRow : (Value.ref g10 == Value.ref g12) = false)
    (ks_TooMany_NoSuch : PySem.W.subIn K (.ref g10) (.ref g8) = some false)
    (ne_TooMany_NoSuch : (Value.ref g10 == Value.ref g8) = false)
    (ks_TooMany_NoText : PySem.W.subIn K (.ref g10) (.ref g15) = some false)
    (ne_TooMany_NoText : (Value.ref g10 == Value.ref g15) = false)
    (ks_TooMany_NoThing : PySem.W.subIn K (.ref g10) (.ref g4) = some false)
    (ne_TooMany_NoThing : (Value.ref g10 == Value.ref g4) = false)
    (ks_TooMany_NoTree : PySem.W.subIn K (.ref g10) (.ref g6) = some false)
    (ne_TooMany_NoTree : (Value.ref g10 == Value.ref g6) = false)
    (ks_TooMany_NoWeb : PySem.W.subIn K (.ref g10) (.ref g2) = some false)
    (ne_TooMany_NoWeb : (Value.ref g10 == Value.ref g2) = false)
    (ks_TooMany_NotHeard : PySem.W.subIn K (.ref g10) (.ref g11) = some false)
    (ne_TooMany_NotHeard : (Value.ref g10 == Value.ref g11) = false)
    (ks_TooMany_NotOne : PySem.W.subIn K (.ref g10) (.ref g7) = some false)
    (ne_TooMany_NotOne : (Value.ref g10 == Value.ref g7) = false)
    (ks_TooMany_TooMany : PySem.W.subIn K (.ref g10) (.ref g10) = some true)
    (ks_TooMany_ValueError : PySem.W.subIn K (.ref g10) (.type "ValueError") = some true)
    (xc_NotHeard : PySem.W.excIn K g11 [.type "ValueError", .type "Exception", .type "BaseException", .type "object"] "ValueError.__new__" = true)
    (kp_NotHeard : PySem.W.keepIn K (.ref g11) = true)
    (b_NotHeard : PySem.W.subIn K (.ref g11) (.type "BaseException") = some true)
    (t_NotHeard : PySem.W.typeIn K (.ref g11) = some (.type "type"))
    (hg_NotHeard : PySem.W.findIn K (.ref g11) "__getattribute__" = some (some (.builtin "BaseException.__getattribute__")))
    (hk_NotHeard : PySem.W.findIn K (.ref g11) "__getattr__" = some none)
    (hd_NotHeard : PySem.W.hasDictIn K g11 = true)
    (ha_NotHeard : PySem.W.findIn K (.ref g11) "__class__" = some (some (.builtin "object.__class__")))
    (hm_NotHeard : PySem.W.mroIn K g11 (.type "object") = some true)
    (ks_NotHeard_Apart : PySem.W.subIn K (.ref g11) (.ref g14) = some false)
    (ne_NotHeard_Apart : (Value.ref g11 == Value.ref g14) = false)
    (ks_NotHeard_HailError : PySem.W.subIn K (.ref g11) (.ref g1) = some true)
    (ks_NotHeard_NoBack : PySem.W.subIn K (.ref g11) (.ref g13) = some false)
    (ne_NotHeard_NoBack : (Value.ref g11 == Value.ref g13) = false)
    (ks_NotHeard_NoCode : PySem.W.subIn K (.ref g11) (.ref g9) = some false)
    (ne_NotHeard_NoCode : (Value.ref g11 == Value.ref g9) = false)
    (ks_NotHeard_NoLooks : PySem.W.subIn K (.ref g11) (.ref g5) = some false)
    (ne_NotHeard_NoLooks : (Value.ref g11 == Value.ref g5) = false)
    (ks_NotHeard_NoPlace : PySem.W.subIn K (.ref g11) (.ref g3) = some false)
    (ne_NotHeard_NoPlace : (Value.ref g11 == Value.ref g3) = false)
    (ks_NotHeard_NoRow : PySem.W.subIn K (.ref g11) (.ref g12) = some false)
    (ne_NotHeard_NoRow : (Value.ref g11 == Value.ref g12) = false)
    (ks_NotHeard_NoSuch : PySem.W.subIn K (.ref g11) (.ref g8) = some false)
    (ne_NotHeard_NoSuch : (Value.ref g11 == Value.ref g8) = false)
    (ks_NotHeard_NoText : PySem.W.subIn K (.ref g11) (.ref g15) = some false)
    (ne_NotHeard_NoText : (Value.ref g11 == Value.ref g15) = false)
    (ks_NotHeard_NoThing : PySem.W.subIn K (.ref g11) (.ref g4) = some false)
    (ne_NotHeard_NoThing : (Value.ref g11 == Value.ref g4) = false)
    (ks_NotHeard_NoTree : PySem.W.subIn K (.ref g11) (.ref g6) = some false)
    (ne_NotHeard_NoTree : (Value.ref g11 == Value.ref g6) = false)
    (ks_NotHeard_NoWeb : PySem.W.subIn K (.ref g11) (.ref g2) = some false)
    (ne_NotHeard_NoWeb : (Value.ref g11 == Value.ref g2) = false)
    (ks_NotHeard_NotHeard : PySem.W.subIn K (.ref g11) (.ref g11) = some true)
    (ks_NotHeard_NotOne : PySem.W.subIn K (.ref g11) (.ref g7) = some false)
    (ne_NotHeard_NotOne : (Value.ref g11 == Value.ref g7) = false)
    (ks_NotHeard_TooMany : PySem.W.subIn K (.ref g11) (.ref g10) = some false)
    (ne_NotHeard_TooMany : (Value.ref g11 == Value.ref g10) = false)
    (ks_NotHeard_ValueError : PySem.W.subIn K (.ref g11) (.type "ValueError") = some true)
    (xc_NoRow : PySem.W.excIn K g12 [.type "ValueError", .type "Exception", .type "BaseException", .type "object"] "ValueError.__new__" = true)
    (kp_NoRow : PySem.W.keepIn K (.ref g12) = true)
    (b_NoRow : PySem.W.subIn K (.ref g12) (.type "BaseException") = some true)
    (t_NoRow : PySem.W.typeIn K (.ref g12) = some (.type "type"))
    (hg_NoRow : PySem.W.findIn K (.ref g12) "__getattribute__" = some (some (.builtin "BaseException.__getattribute__")))
    (hk_NoRow : PySem.W.findIn K (.ref g12) "__getattr__" = some none)
    (hd_NoRow : PySem.W.hasDictIn K g12 = true)
    (ha_NoRow : PySem.W.findIn K (.ref g12) "__class__" = some (some (.builtin "object.__class__")))
    (hm_NoRow : PySem.W.mroIn K g12 (.type "object") = some true)
    (ks_NoRow_Apart : PySem.W.subIn K (.ref g12) (.ref g14) = some false)
    (ne_NoRow_Apart : (Value.ref g12 == Value.ref g14) = false)
    (ks_NoRow_HailError : PySem.W.subIn K (.ref g12) (.ref g1) = some true)
    (ks_NoRow_NoBack : PySem.W.subIn K (.ref g12) (.ref g13) = some false)
    (ne_NoRow_NoBack : (Value.ref g12 == Value.ref g13) = false)
    (ks_NoRow_NoCode : PySem.W.subIn K (.ref g12) (.ref g9) = some false)
    (ne_NoRow_NoCode : (Value.ref g12 == Value.ref g9) = false)
    (ks_NoRow_NoLooks : PySem.W.subIn K (.ref g12) (.ref g5) = some false)
    (ne_NoRow_NoLooks : (Value.ref g12 == Value.ref g5) = false)
    (ks_NoRow_NoPlace : PySem.W.subIn K (.ref g12) (.ref g3) = some false)
    (ne_NoRow_NoPlace : (Value.ref g12 == Value.ref g3) = false)
    (ks_NoRow_NoRow : PySem.W.subIn K (.ref g12) (.ref g12) = some true)
    (ks_NoRow_NoSuch : PySem.W.subIn K (.ref g12) (.ref g8) = some false)
    (ne_NoRow_NoSuch : (Value.ref g12 == Value.ref g8) = false)
    (ks_NoRow_NoText : PySem.W.subIn K (.ref g12) (.ref g15) = some false)
    (ne_NoRow_NoText : (Value.ref g12 == Value.ref g15) = false)
    (ks_NoRow_NoThing : PySem.W.subIn K (.ref g12) (.ref g4) = some false)
    (ne_NoRow_NoThing : (Value.ref g12 == Value.ref g4) = false)
    (ks_NoRow_NoTree : PySem.W.subIn K (.ref g12) (.ref g6) = some false)
    (ne_NoRow_NoTree : (Value.ref g12 == Value.ref g6) = false)
    (ks_NoRow_NoWeb : PySem.W.subIn K (.ref g12) (.ref g2) = some false)
    (ne_NoRow_NoWeb : (Value.ref g12 == Value.ref g2) = false)
    (ks_NoRow_NotHeard : PySem.W.subIn K (.ref g12) (.ref g11) = some false)
    (ne_NoRow_NotHeard : (Value.ref g12 == Value.ref g11) = false)
    (ks_NoRow_NotOne : PySem.W.subIn K (.ref g12) (.ref g7) = some false)
    (ne_NoRow_NotOne : (Value.ref g12 == Value.ref g7) = false)
    (ks_NoRow_TooMany : PySem.W.subIn K (.ref g12) (.ref g10) = some false)
    (ne_NoRow_TooMany : (Value.ref g12 == Value.ref g10) = false)
    (ks_NoRow_ValueError : PySem.W.subIn K (.ref g12) (.type "ValueError") = some true)
    (xc_NoBack : PySem.W.excIn K g13 [.type "ValueError", .type "Exception", .type "BaseException", .type "object"] "ValueError.__new__" = true)
    (kp_NoBack : PySem.W.keepIn K (.ref g13) = true)
    (b_NoBack : PySem.W.subIn K (.ref g13) (.type "BaseException") = some true)
    (t_NoBack : PySem.W.typeIn K (.ref g13) = some (.type "type"))
    (hg_NoBack : PySem.W.findIn K (.ref g13) "__getattribute__" = some (some (.builtin "BaseException.__getattribute__")))
    (hk_NoBack : PySem.W.findIn K (.ref g13) "__getattr__" = some none)
    (hd_NoBack : PySem.W.hasDictIn K g13 = true)
    (ha_NoBack : PySem.W.findIn K (.ref g13) "__class__" = some (some (.builtin "object.__class__")))
    (hm_NoBack : PySem.W.mroIn K g13 (.type "object") = some true)
    (ks_NoBack_Apart : PySem.W.subIn K (.ref g13) (.ref g14) = some false)
    (ne_NoBack_Apart : (Value.ref g13 == Value.ref g14) = false)
    (ks_NoBack_HailError : PySem.W.subIn K (.ref g13) (.ref g1) = some true)
    (ks_NoBack_NoBack : PySem.W.subIn K (.ref g13) (.ref g13) = some true)
    (ks_NoBack_NoCode : PySem.W.subIn K (.ref g13) (.ref g9) = some false)
    (ne_NoBack_NoCode : (Value.ref g13 == Value.ref g9) = false)
    (ks_NoBack_NoLooks : PySem.W.subIn K (.ref g13) (.ref g5) = some false)
    (ne_NoBack_NoLooks : (Value.ref g13 == Value.ref g5) = false)
    (ks_NoBack_NoPlace : PySem.W.subIn K (.ref g13) (.ref g3) = some false)
    (ne_NoBack_NoPlace : (Value.ref g13 == Value.ref g3) = false)
    (ks_NoBack_NoRow : PySem.W.subIn K (.ref g13) (.ref g12) = some false)
    (ne_NoBack_NoRow : (Value.ref g13 == Value.ref g12) = false)
    (ks_NoBack_NoSuch : PySem.W.subIn K (.ref g13) (.ref g8) = some false)
    (ne_NoBack_NoSuch : (Value.ref g13 == Value.ref g8) = false)
    (ks_NoBack_NoText : PySem.W.subIn K (.ref g13) (.ref g15) = some false)
    (ne_NoBack_NoText : (Value.ref g13 == Value.ref g15) = false)
    (ks_NoBack_NoThing : PySem.W.subIn K (.ref g13) (.ref g4) = some false)
    (ne_NoBack_NoThing : (Value.ref g13 == Value.ref g4) = false)
    (ks_NoBack_NoTree : PySem.W.subIn K (.ref g13) (.ref g6) = some false)
    (ne_NoBack_NoTree : (Value.ref g13 == Value.ref g6) = false)
    (ks_NoBack_NoWeb : PySem.W.subIn K (.ref g13) (.ref g2) = some false)
    (ne_NoBack_NoWeb : (Value.ref g13 == Value.ref g2) = false)
    (ks_NoBack_NotHeard : PySem.W.subIn K (.ref g13) (.ref g11) = some false)
    (ne_NoBack_NotHeard : (Value.ref g13 == Value.ref g11) = false)
    (ks_NoBack_NotOne : PySem.W.subIn K (.ref g13) (.ref g7) = some false)
    (ne_NoBack_NotOne : (Value.ref g13 == Value.ref g7) = false)
    (ks_NoBack_TooMany : PySem.W.subIn K (.ref g13) (.ref g10) = some false)
    (ne_NoBack_TooMany : (Value.ref g13 == Value.ref g10) = false)
    (ks_NoBack_ValueError : PySem.W.subIn K (.ref g13) (.type "ValueError") = some true)
    (lo_Apart : K.lookup g14 = some (excClassObj nm_Apart q_Apart g14 N_Apart bs_Apart bm_Apart true sn_Apart sub_Apart ab_Apart col_Apart dd_Apart k0_Apart k1_Apart k2_Apart k3_Apart k5_Apart "ValueError.__new__"))
    (rv_Apart : PySem.HandSPX.refsVE bm_Apart = true)
    (sa_Apart : PySem.W.findIn K (.ref g14) "__setattr__" = some (some (.builtin "object.__setattr__")))
    (no_Apart : PySem.W.findIn K (.ref g14) "place" = some none)
    (kp_Apart : PySem.W.keepIn K (.ref g14) = true)
    (b_Apart : PySem.W.subIn K (.ref g14) (.type "BaseException") = some true)
    (t_Apart : PySem.W.typeIn K (.ref g14) = some (.type "type"))
    (hg_Apart : PySem.W.findIn K (.ref g14) "__getattribute__" = some (some (.builtin "BaseException.__getattribute__")))
    (hk_Apart : PySem.W.findIn K (.ref g14) "__getattr__" = some none)
    (hd_Apart : PySem.W.hasDictIn K g14 = true)
    (ha_Apart : PySem.W.findIn K (.ref g14) "__class__" = some (some (.builtin "object.__class__")))
    (hm_Apart : PySem.W.mroIn K g14 (.type "object") = some true)
    (ks_Apart_Apart : PySem.W.subIn K (.ref g14) (.ref g14) = some true)
    (ks_Apart_HailError : PySem.W.subIn K (.ref g14) (.ref g1) = some true)
    (ks_Apart_NoBack : PySem.W.subIn K (.ref g14) (.ref g13) = some false)
    (ne_Apart_NoBack : (Value.ref g14 == Value.ref g13) = false)
    (ks_Apart_NoCode : PySem.W.subIn K (.ref g14) (.ref g9) = some false)
    (ne_Apart_NoCode : (Value.ref g14 == Value.ref g9) = false)
    (ks_Apart_NoLooks : PySem.W.subIn K (.ref g14) (.ref g5) = some false)
    (ne_Apart_NoLooks : (Value.ref g14 == Value.ref g5) = false)
    (ks_Apart_NoPlace : PySem.W.subIn K (.ref g14) (.ref g3) = some false)
    (ne_Apart_NoPlace : (Value.ref g14 == Value.ref g3) = false)
    (ks_Apart_NoRow : PySem.W.subIn K (.ref g14) (.ref g12) = some false)
    (ne_Apart_NoRow : (Value.ref g14 == Value.ref g12) = false)
    (ks_Apart_NoSuch : PySem.W.subIn K (.ref g14) (.ref g8) = some false)
    (ne_Apart_NoSuch : (Value.ref g14 == Value.ref g8) = false)
    (ks_Apart_NoText : PySem.W.subIn K (.ref g14) (.ref g15) = some false)
    (ne_Apart_NoText : (Value.ref g14 == Value.ref g15) = false)
    (ks_Apart_NoThing : PySem.W.subIn K (.ref g14) (.ref g4) = some false)
    (ne_Apart_NoThing : (Value.ref g14 == Value.ref g4) = false)
    (ks_Apart_NoTree : PySem.W.subIn K (.ref g14) (.ref g6) = some false)
    (ne_Apart_NoTree : (Value.ref g14 == Value.ref g6) = false)
    (ks_Apart_NoWeb : PySem.W.subIn K (.ref g14) (.ref g2) = some false)
    (ne_Apart_NoWeb : (Value.ref g14 == Value.ref g2) = false)
    (ks_Apart_NotHeard : PySem.W.subIn K (.ref g14) (.ref g11) = some false)
    (ne_Apart_NotHeard : (Value.ref g14 == Value.ref g11) = false)
    (ks_Apart_NotOne : PySem.W.subIn K (.ref g14) (.ref g7) = some false)
    (ne_Apart_NotOne : (Value.ref g14 == Value.ref g7) = false)
    (ks_Apart_TooMany : PySem.W.subIn K (.ref g14) (.ref g10) = some false)
    (ne_Apart_TooMany : (Value.ref g14 == Value.ref g10) = false)
    (ks_Apart_ValueError : PySem.W.subIn K (.ref g14) (.type "ValueError") = some true)
    (lo_NoText : K.lookup g15 = some (excClassObj nm_NoText q_NoText g15 N_NoText bs_NoText bm_NoText true sn_NoText sub_NoText ab_NoText col_NoText dd_NoText k0_NoText k1_NoText k2_NoText k3_NoText k5_NoText "ValueError.__new__"))
    (rv_NoText : PySem.HandSPX.refsVE bm_NoText = true)
    (sa_NoText : PySem.W.findIn K (.ref g15) "__setattr__" = some (some (.builtin "object.__setattr__")))
    (no_NoText : PySem.W.findIn K (.ref g15) "row" = some none)
    (kp_NoText : PySem.W.keepIn K (.ref g15) = true)
    (b_NoText : PySem.W.subIn K (.ref g15) (.type "BaseException") = some true)
    (t_NoText : PySem.W.typeIn K (.ref g15) = some (.type "type"))
    (hg_NoText : PySem.W.findIn K (.ref g15) "__getattribute__" = some (some (.builtin "BaseException.__getattribute__")))
    (hk_NoText : PySem.W.findIn K (.ref g15) "__getattr__" = some none)
    (hd_NoText : PySem.W.hasDictIn K g15 = true)
    (ha_NoText : PySem.W.findIn K (.ref g15) "__class__" = some (some (.builtin "object.__class__")))
    (hm_NoText : PySem.W.mroIn K g15 (.type "object") = some true)
    (ks_NoText_Apart : PySem.W.subIn K (.ref g15) (.ref g14) = some false)
    (ne_NoText_Apart : (Value.ref g15 == Value.ref g14) = false)
    (ks_NoText_HailError : PySem.W.subIn K (.ref g15) (.ref g1) = some true)
    (ks_NoText_NoBack : PySem.W.subIn K (.ref g15) (.ref g13) = some false)
    (ne_NoText_NoBack : (Value.ref g15 == Value.ref g13) = false)
    (ks_NoText_NoCode : PySem.W.subIn K (.ref g15) (.ref g9) = some false)
    (ne_NoText_NoCode : (Value.ref g15 == Value.ref g9) = false)
    (ks_NoText_NoLooks : PySem.W.subIn K (.ref g15) (.ref g5) = some false)
    (ne_NoText_NoLooks : (Value.ref g15 == Value.ref g5) = false)
    (ks_NoText_NoPlace : PySem.W.subIn K (.ref g15) (.ref g3) = some false)
    (ne_NoText_NoPlace : (Value.ref g15 == Value.ref g3) = false)
    (ks_NoText_NoRow : PySem.W.subIn K (.ref g15) (.ref g12) = some false)
    (ne_NoText_NoRow : (Value.ref g15 == Value.ref g12) = false)
    (ks_NoText_NoSuch : PySem.W.subIn K (.ref g15) (.ref g8) = some false)
    (ne_NoText_NoSuch : (Value.ref g15 == Value.ref g8) = false)
    (ks_NoText_NoText : PySem.W.subIn K (.ref g15) (.ref g15) = some true)
    (ks_NoText_NoThing : PySem.W.subIn K (.ref g15) (.ref g4) = some false)
    (ne_NoText_NoThing : (Value.ref g15 == Value.ref g4) = false)
    (ks_NoText_NoTree : PySem.W.subIn K (.ref g15) (.ref g6) = some false)
    (ne_NoText_NoTree : (Value.ref g15 == Value.ref g6) = false)
    (ks_NoText_NoWeb : PySem.W.subIn K (.ref g15) (.ref g2) = some false)
    (ne_NoText_NoWeb : (Value.ref g15 == Value.ref g2) = false)
    (ks_NoText_NotHeard : PySem.W.subIn K (.ref g15) (.ref g11) = some false)
    (ne_NoText_NotHeard : (Value.ref g15 == Value.ref g11) = false)
    (ks_NoText_NotOne : PySem.W.subIn K (.ref g15) (.ref g7) = some false)
    (ne_NoText_NotOne : (Value.ref g15 == Value.ref g7) = false)
    (ks_NoText_TooMany : PySem.W.subIn K (.ref g15) (.ref g10) = some false)
    (ne_NoText_TooMany : (Value.ref g15 == Value.ref g10) = false)
    (ks_NoText_ValueError : PySem.W.subIn K (.ref g15) (.type "ValueError") = some true)
    (rd_HailError : PySem.W.readsIn K g1 (.type "type") = true)
    (rg_HailError : PySem.W.specialIn K (.ref g1) "__getattribute__" = some (some (.builtin "type.__getattribute__")))
    (fv_HailError : PySem.W.findCls K (.ref g1) (.type "type") "__init__" = some (.val (.builtin "ValueError.__init__")))
    (ic_Apart : PySem.W.isClsIn K g14 = true)
    (tc_Apart : PySem.W.typeIn K (.ref g14) = some (.type "type"))
    (ic_HailError : PySem.W.isClsIn K g1 = true)
    (tc_HailError : PySem.W.typeIn K (.ref g1) = some (.type "type"))
    (ic_NoBack : PySem.W.isClsIn K g13 = true)
    (tc_NoBack : PySem.W.typeIn K (.ref g13) = some (.type "type"))
    (ic_NoCode : PySem.W.isClsIn K g9 = true)
    (tc_NoCode : PySem.W.typeIn K (.ref g9) = some (.type "type"))
    (ic_NoLooks : PySem.W.isClsIn K g5 = true)
    (tc_NoLooks : PySem.W.typeIn K (.ref g5) = some (.type "type"))
    (ic_NoPlace : PySem.W.isClsIn K g3 = true)
    (tc_NoPlace : PySem.W.typeIn K (.ref g3) = some (.type "type"))
    (ic_NoRow : PySem.W.isClsIn K g12 = true)
    (tc_NoRow : PySem.W.typeIn K (.ref g12) = some (.type "type"))
    (ic_NoSuch : PySem.W.isClsIn K g8 = true)
    (tc_NoSuch : PySem.W.typeIn K (.ref g8) = some (.type "type"))
    (ic_NoText : PySem.W.isClsIn K g15 = true)
    (tc_NoText : PySem.W.typeIn K (.ref g15) = some (.type "type"))
    (ic_NoThing : PySem.W.isClsIn K g4 = true)
    (tc_NoThing : PySem.W.typeIn K (.ref g4) = some (.type "type"))
    (ic_NoTree : PySem.W.isClsIn K g6 = true)
    (tc_NoTree : PySem.W.typeIn K (.ref g6) = some (.type "type"))
    (ic_NoWeb : PySem.W.isClsIn K g2 = true)
    (tc_NoWeb : PySem.W.typeIn K (.ref g2) = some (.type "type"))
    (ic_NotHeard : PySem.W.isClsIn K g11 = true)
    (tc_NotHeard : PySem.W.typeIn K (.ref g11) = some (.type "type"))
    (ic_NotOne : PySem.W.isClsIn K g7 = true)
    (tc_NotOne : PySem.W.typeIn K (.ref g7) = some (.type "type"))
    (ic_TooMany : PySem.W.isClsIn K g10 = true)
    (tc_TooMany : PySem.W.typeIn K (.ref g10) = some (.type "type"))
    (hn_ : PySem.W.specialIn K (.builtin "object.__class__") "__get__" = some (some (.builtin "getset_descriptor.__get__")))
    (ht_ : PySem.W.takesIn K (.builtin "object.__class__") = some true)
    (z_ValueError : PySem.W.nsIn K mainGlobals "ValueError" = some none)
    (z_abs : PySem.W.nsIn K mainGlobals "abs" = some none)
    (z_isinstance : PySem.W.nsIn K mainGlobals "isinstance" = some none)
    (z_len : PySem.W.nsIn K mainGlobals "len" = some none)
    (z_range : PySem.W.nsIn K mainGlobals "range" = some none)
    (z_str : PySem.W.nsIn K mainGlobals "str" = some none) :
    ∃ fd : FuncData, (∀ (s : Shared) (v : Value), BindsTo s fd ⟨[v], []⟩ [("script", v)]) ∧ ∀ base : Heap, K.In base → base.Ns mainGlobals mg → FnOk l.prog w K mg base CX0 4 fa fd ["script"] (sp_law K) := by
  have e := hfa.symm.trans (PySem.W.mg_of X G a20)
  cases e
  let A : Nat → Addr := fun i => match i with | 17 => f17 | 18 => f18 | 19 => f19 | 20 => fa | 15000 => f15000 | 16000 => f16000 | 1 => g1 | 2 => g2 | 3 => g3 | 4 => g4 | 5 => g5 | 6 => g6 | 7 => g7 | 8 => g8 | 9 => g9 | 10 => g10 | 11 => g11 | 12 => g12 | 13 => g13 | 14 => g14 | 15 => g15 | _ => fa
  let FD : Nat → FuncData := fun i => match i with | 17 => (PySem.W.fnOf "_law_at" "_law_at" (defArgs s_law_at) (defBody s_law_at) (defScope s_law_at) .none kV17 dc17 pm17 an17 cd17 ct17) | 18 => (PySem.W.fnOf "_law_all" "_law_all" (defArgs s_law_all) (defBody s_law_all) (defScope s_law_all) .none kV18 dc18 pm18 an18 cd18 ct18) | 19 => (PySem.W.fnOf "_law_kinds" "_law_kinds" (defArgs s_law_kinds) (defBody s_law_kinds) (defScope s_law_kinds) .none kV19 dc19 pm19 an19 cd19 ct19) | 20 => (PySem.W.fnOf "law" "law" (defArgs s_law) (defBody s_law) (defScope s_law) .none kV20 dc20 pm20 an20 cd20 ct20) | 15000 => (PySem.W.fnOf "__init__" "Apart.__init__" (defArgs s_Apart_init) (defBody s_Apart_init) (defScope s_Apart_init) .none kV15000 dc15000 pm15000 an15000 cd15000 ct15000) | 16000 => (PySem.W.fnOf "__init__" "NoText.__init__" (defArgs s_NoText_init) (defBody s_NoText_init) (defScope s_NoText_init) .none kV16000 dc16000 pm16000 an16000 cd16000 ct16000) | _ => (PySem.W.fnOf "law" "law" (defArgs s_law) (defBody s_law) (defScope s_law) .none kV20 dc20 pm20 an20 cd20 ct20)
  have T : Tx K mg A FD := {
    d17 := dn_mk (st := s_law_at) (ps := ["script", "k"]) X G a17 l17 c17 k17 fun _ _ _ _ _ _ us hl => match us, hl with | [_, _], _ => rfl
    d18 := dn_mk (st := s_law_all) (ps := ["text", "number"]) X G a18 l18 c18 k18 fun _ _ _ _ _ _ us hl => match us, hl with | [_, _], _ => rfl
    d19 := dn_mk (st := s_law_kinds) (ps := ["one"]) X G a19 l19 c19 k19 fun _ _ _ _ _ _ us hl => match us, hl with | [_], _ => rfl
    d20 := dn_mk (st := s_law) (ps := ["script"]) X G a20 l20 c20 k20 fun _ _ _ _ _ _ us hl => match us, hl with | [_], _ => rfl
    d15000 := ⟨fun_mk (st := s_Apart_init) l15000 c15000 k15000, ⟨a15000, i15000, k15000⟩, (fun_mk (st := s_Apart_init) l15000 c15000 k15000).binds (ps := ["self", "place"]) fun _ _ _ _ _ _ us hl => match us, hl with | [_, _], _ => rfl⟩
    d16000 := ⟨fun_mk (st := s_NoText_init) l16000 c16000 k16000, ⟨a16000, i16000, k16000⟩, (fun_mk (st := s_NoText_init) l16000 c16000 k16000).binds (ps := ["self", "row"]) fun _ _ _ _ _ _ us hl => match us, hl with | [_, _], _ => rfl⟩
    n_ValueError := PySem.W.mg_none_of X G z_ValueError
    n_abs := PySem.W.mg_none_of X G z_abs
    n_isinstance := PySem.W.mg_none_of X G z_isinstance
    n_len := PySem.W.mg_none_of X G z_len
    n_range := PySem.W.mg_none_of X G z_range
    n_str := PySem.W.mg_none_of X G z_str
    x_Apart := ⟨ns_Apart, PySem.W.mg_of X G ns_Apart, kp_Apart, b_Apart, t_Apart, ⟨hg_Apart, hk_Apart, b_Apart, hd_Apart, ha_Apart, hn_, ht_, hm_Apart⟩⟩
    xi_Apart := ⟨⟨⟨nm_Apart, q_Apart, N_Apart, bs_Apart, bm_Apart, sn_Apart, sub_Apart, ab_Apart, col_Apart, dd_Apart, k0_Apart, k1_Apart, k2_Apart, k3_Apart, k5_Apart, lo_Apart, rv_Apart⟩, sa_Apart, b_Apart, t_Apart, kp_Apart⟩, a15000, eq_of_beq i15000, no_Apart, ⟨hg_Apart, hk_Apart, b_Apart, hd_Apart⟩⟩
    x_NoText := ⟨ns_NoText, PySem.W.mg_of X G ns_NoText, kp_NoText, b_NoText, t_NoText, ⟨hg_NoText, hk_NoText, b_NoText, hd_NoText, ha_NoText, hn_, ht_, hm_NoText⟩⟩
    xi_NoText := ⟨⟨⟨nm_NoText, q_NoText, N_NoText, bs_NoText, bm_NoText, sn_NoText, sub_NoText, ab_NoText, col_NoText, dd_NoText, k0_NoText, k1_NoText, k2_NoText, k3_NoText, k5_NoText, lo_NoText, rv_NoText⟩, sa_NoText, b_NoText, t_NoText, kp_NoText⟩, a16000, eq_of_beq i16000, no_NoText, ⟨hg_NoText, hk_NoText, b_NoText, hd_NoText⟩⟩
    cr_HailError := ⟨rd_HailError, rg_HailError⟩
    vi_HailError := fv_HailError
    x_NoWeb := ⟨ns_NoWeb, PySem.W.mg_of X G ns_NoWeb, xc_NoWeb, kp_NoWeb, b_NoWeb, t_NoWeb, ⟨hg_NoWeb, hk_NoWeb, b_NoWeb, hd_NoWeb, ha_NoWeb, hn_, ht_, hm_NoWeb⟩⟩
    x_NoPlace := ⟨ns_NoPlace, PySem.W.mg_of X G ns_NoPlace, xc_NoPlace, kp_NoPlace, b_NoPlace, t_NoPlace, ⟨hg_NoPlace, hk_NoPlace, b_NoPlace, hd_NoPlace, ha_NoPlace, hn_, ht_, hm_NoPlace⟩⟩
    x_NoThing := ⟨ns_NoThing, PySem.W.mg_of X G ns_NoThing, xc_NoThing, kp_NoThing, b_NoThing, t_NoThing, ⟨hg_NoThing, hk_NoThing, b_NoThing, hd_NoThing, ha_NoThing, hn_, ht_, hm_NoThing⟩⟩
    x_NoLooks := ⟨ns_NoLooks, PySem.W.mg_of X G ns_NoLooks, xc_NoLooks, kp_NoLooks, b_NoLooks, t_NoLooks, ⟨hg_NoLooks, hk_NoLooks, b_NoLooks, hd_NoLooks, ha_NoLooks, hn_, ht_, hm_NoLooks⟩⟩
    x_NoTree := ⟨ns_NoTree, PySem.W.mg_of X G ns_NoTree, xc_NoTree, kp_NoTree, b_NoTree, t_NoTree, ⟨hg_NoTree, hk_NoTree, b_NoTree, hd_NoTree, ha_NoTree, hn_, ht_, hm_NoTree⟩⟩
    x_NotOne := ⟨ns_NotOne, PySem.W.mg_of X G ns_NotOne, xc_NotOne, kp_NotOne, b_NotOne, t_NotOne, ⟨hg_NotOne, hk_NotOne, b_NotOne, hd_NotOne, ha_NotOne, hn_, ht_, hm_NotOne⟩⟩
    x_NoSuch := ⟨ns_NoSuch, PySem.W.mg_of X G ns_NoSuch, xc_NoSuch, kp_NoSuch, b_NoSuch, t_NoSuch, ⟨hg_NoSuch, hk_NoSuch, b_NoSuch, hd_NoSuch, ha_NoSuch, hn_, ht_, hm_NoSuch⟩⟩
    x_NoCode := ⟨ns_NoCode, PySem.W.mg_of X G ns_NoCode, xc_NoCode, kp_NoCode, b_NoCode, t_NoCode, ⟨hg_NoCode, hk_NoCode, b_NoCode, hd_NoCode, ha_NoCode, hn_, ht_, hm_NoCode⟩⟩
    x_TooMany := ⟨ns_TooMany, PySem.W.mg_of X G ns_TooMany, xc_TooMany, kp_TooMany, b_TooMany, t_TooMany, ⟨hg_TooMany, hk_TooMany, b_TooMany, hd_TooMany, ha_TooMany, hn_, ht_, hm_TooMany⟩⟩
    x_NotHeard := ⟨ns_NotHeard, PySem.W.mg_of X G ns_NotHeard, xc_NotHeard, kp_NotHeard, b_NotHeard, t_NotHeard, ⟨hg_NotHeard, hk_NotHeard, b_NotHeard, hd_NotHeard, ha_NotHeard, hn_, ht_, hm_NotHeard⟩⟩
    x_NoRow := ⟨ns_NoRow, PySem.W.mg_of X G ns_NoRow, xc_NoRow, kp_NoRow, b_NoRow, t_NoRow, ⟨hg_NoRow, hk_NoRow, b_NoRow, hd_NoRow, ha_NoRow, hn_, ht_, hm_NoRow⟩⟩
    x_NoBack := ⟨ns_NoBack, PySem.W.mg_of X G ns_NoBack, xc_NoBack, kp_NoBack, b_NoBack, t_NoBack, ⟨hg_NoBack, hk_NoBack, b_NoBack, hd_NoBack, ha_NoBack, hn_, ht_, hm_NoBack⟩⟩
    g_Apart := PySem.W.mg_of X G ns_Apart
    g_HailError := PySem.W.mg_of X G ns_HailError
    g_NoBack := PySem.W.mg_of X G ns_NoBack
    g_NoCode := PySem.W.mg_of X G ns_NoCode
    g_NoLooks := PySem.W.mg_of X G ns_NoLooks
    g_NoPlace := PySem.W.mg_of X G ns_NoPlace
    g_NoRow := PySem.W.mg_of X G ns_NoRow
    g_NoSuch := PySem.W.mg_of X G ns_NoSuch
    g_NoText := PySem.W.mg_of X G ns_NoText
    g_NoThing := PySem.W.mg_of X G ns_NoThing
    g_NoTree := PySem.W.mg_of X G ns_NoTree
    g_NoWeb := PySem.W.mg_of X G ns_NoWeb
    g_NotHeard := PySem.W.mg_of X G ns_NotHeard
    g_NotOne := PySem.W.mg_of X G ns_NotOne
    g_TooMany := PySem.W.mg_of X G ns_TooMany
    kt_NoWeb_Apart := kit_ref ic_Apart tc_Apart ks_NoWeb_Apart (.inr ne_NoWeb_Apart)
    kt_NoPlace_Apart := kit_ref ic_Apart tc_Apart ks_NoPlace_Apart (.inr ne_NoPlace_Apart)
    kt_NoThing_Apart := kit_ref ic_Apart tc_Apart ks_NoThing_Apart (.inr ne_NoThing_Apart)
    kt_NoLooks_Apart := kit_ref ic_Apart tc_Apart ks_NoLooks_Apart (.inr ne_NoLooks_Apart)
    kt_NoTree_Apart := kit_ref ic_Apart tc_Apart ks_NoTree_Apart (.inr ne_NoTree_Apart)
    kt_NotOne_Apart := kit_ref ic_Apart tc_Apart ks_NotOne_Apart (.inr ne_NotOne_Apart)
    kt_NoSuch_Apart := kit_ref ic_Apart tc_Apart ks_NoSuch_Apart (.inr ne_NoSuch_Apart)
    kt_NoCode_Apart := kit_ref ic_Apart tc_Apart ks_NoCode_Apart (.inr ne_NoCode_Apart)
    kt_TooMany_Apart := kit_ref ic_Apart tc_Apart ks_TooMany_Apart (.inr ne_TooMany_Apart)
    kt_NotHeard_Apart := kit_ref ic_Apart tc_Apart ks_NotHeard_Apart (.inr ne_NotHeard_Apart)
    kt_NoRow_Apart := kit_ref ic_Apart tc_Apart ks_NoRow_Apart (.inr ne_NoRow_Apart)
    kt_NoBack_Apart := kit_ref ic_Apart tc_Apart ks_NoBack_Apart (.inr ne_NoBack_Apart)
    kt_Apart_Apart := kit_ref ic_Apart tc_Apart ks_Apart_Apart (.inl rfl)
    kt_NoText_Apart := kit_ref ic_Apart tc_Apart ks_NoText_Apart (.inr ne_NoText_Apart)
    kt_NoWeb_HailError := kit_ref ic_HailError tc_HailError ks_NoWeb_HailError (.inl rfl)
    kt_NoPlace_HailError := kit_ref ic_HailError tc_HailError ks_NoPlace_HailError (.inl rfl)
    kt_NoThing_HailError := kit_ref ic_HailError tc_HailError ks_NoThing_HailError (.inl rfl)
    kt_NoLooks_HailError := kit_ref ic_HailError tc_HailError ks_NoLooks_HailError (.inl rfl)
    kt_NoTree_HailError := kit_ref ic_HailError tc_HailError ks_NoTree_HailError (.inl rfl)
    kt_NotOne_HailError := kit_ref ic_HailError tc_HailError ks_NotOne_HailError (.inl rfl)
    kt_NoSuch_HailError := kit_ref ic_HailError tc_HailError ks_NoSuch_HailError (.inl rfl)
    kt_NoCode_HailError := kit_ref ic_HailError tc_HailError ks_NoCode_HailError (.inl rfl)
    kt_TooMany_HailError := kit_ref ic_HailError tc_HailError ks_TooMany_HailError (.inl rfl)
    kt_NotHeard_HailError := kit_ref ic_HailError tc_HailError ks_NotHeard_HailError (.inl rfl)
    kt_NoRow_HailError := kit_ref ic_HailError tc_HailError ks_NoRow_HailError (.inl rfl)
    kt_NoBack_HailError := kit_ref ic_HailError tc_HailError ks_NoBack_HailError (.inl rfl)
    kt_Apart_HailError := kit_ref ic_HailError tc_HailError ks_Apart_HailError (.inl rfl)
    kt_NoText_HailError := kit_ref ic_HailError tc_HailError ks_NoText_HailError (.inl rfl)
    kt_NoWeb_NoBack := kit_ref ic_NoBack tc_NoBack ks_NoWeb_NoBack (.inr ne_NoWeb_NoBack)
    kt_NoPlace_NoBack := kit_ref ic_NoBack tc_NoBack ks_NoPlace_NoBack (.inr ne_NoPlace_NoBack)
    kt_NoThing_NoBack := kit_ref ic_NoBack tc_NoBack ks_NoThing_NoBack (.inr ne_NoThing_NoBack)
    kt_NoLooks_NoBack := kit_ref ic_NoBack tc_NoBack ks_NoLooks_NoBack (.inr ne_NoLooks_NoBack)
    kt_NoTree_NoBack := kit_ref ic_NoBack tc_NoBack ks_NoTree_NoBack (.inr ne_NoTree_NoBack)
    kt_NotOne_NoBack := kit_ref ic_NoBack tc_NoBack ks_NotOne_NoBack (.inr ne_NotOne_NoBack)
    kt_NoSuch_NoBack := kit_ref ic_NoBack tc_NoBack ks_NoSuch_NoBack (.inr ne_NoSuch_NoBack)
    kt_NoCode_NoBack := kit_ref ic_NoBack tc_NoBack ks_NoCode_NoBack (.inr ne_NoCode_NoBack)
    kt_TooMany_NoBack := kit_ref ic_NoBack tc_NoBack ks_TooMany_NoBack (.inr ne_TooMany_NoBack)
    kt_NotHeard_NoBack := kit_ref ic_NoBack tc_NoBack ks_NotHeard_NoBack (.inr ne_NotHeard_NoBack)
    kt_NoRow_NoBack := kit_ref ic_NoBack tc_NoBack ks_NoRow_NoBack (.inr ne_NoRow_NoBack)
    kt_NoBack_NoBack := kit_ref ic_NoBack tc_NoBack ks_NoBack_NoBack (.inl rfl)
    kt_Apart_NoBack := kit_ref ic_NoBack tc_NoBack ks_Apart_NoBack (.inr ne_Apart_NoBack)
    kt_NoText_NoBack := kit_ref ic_NoBack tc_NoBack ks_NoText_NoBack (.inr ne_NoText_NoBack)
    kt_NoWeb_NoCode := kit_ref ic_NoCode tc_NoCode ks_NoWeb_NoCode (.inr ne_NoWeb_NoCode)
    kt_NoPlace_NoCode := kit_ref ic_NoCode tc_NoCode ks_NoPlace_NoCode (.inr ne_NoPlace_NoCode)
    kt_NoThing_NoCode := kit_ref ic_NoCode tc_NoCode ks_NoThing_NoCode (.inr ne_NoThing_NoCode)
    kt_NoLooks_NoCode := kit_ref ic_NoCode tc_NoCode ks_NoLooks_NoCode (.inr ne_NoLooks_NoCode)
    kt_NoTree_NoCode := kit_ref ic_NoCode tc_NoCode ks_NoTree_NoCode (.inr ne_NoTree_NoCode)
    kt_NotOne_NoCode := kit_ref ic_NoCode tc_NoCode ks_NotOne_NoCode (.inr ne_NotOne_NoCode)
    kt_NoSuch_NoCode := kit_ref ic_NoCode tc_NoCode ks_NoSuch_NoCode (.inr ne_NoSuch_NoCode)
    kt_NoCode_NoCode := kit_ref ic_NoCode tc_NoCode ks_NoCode_NoCode (.inl rfl)
    kt_TooMany_NoCode := kit_ref ic_NoCode tc_NoCode ks_TooMany_NoCode (.inr ne_TooMany_NoCode)
    kt_NotHeard_NoCode := kit_ref ic_NoCode tc_NoCode ks_NotHeard_NoCode (.inr ne_NotHeard_NoCode)
    kt_NoRow_NoCode := kit_ref ic_NoCode tc_NoCode ks_NoRow_NoCode (.inr ne_NoRow_NoCode)
    kt_NoBack_NoCode := kit_ref ic_NoCode tc_NoCode ks_NoBack_NoCode (.inr ne_NoBack_NoCode)
    kt_Apart_NoCode := kit_ref ic_NoCode tc_NoCode ks_Apart_NoCode (.inr ne_Apart_NoCode)
    kt_NoText_NoCode := kit_ref ic_NoCode tc_NoCode ks_NoText_NoCode (.inr ne_NoText_NoCode)
    kt_NoWeb_NoLooks := kit_ref ic_NoLooks tc_NoLooks ks_NoWeb_NoLooks (.inr ne_NoWeb_NoLooks)
    kt_NoPlace_NoLooks := kit_ref ic_NoLooks tc_NoLooks ks_NoPlace_NoLooks (.inr ne_NoPlace_NoLooks)
    kt_NoThing_NoLooks := kit_ref ic_NoLooks tc_NoLooks ks_NoThing_NoLooks (.inr ne_NoThing_NoLooks)
    kt_NoLooks_NoLooks := kit_ref ic_NoLooks tc_NoLooks ks_NoLooks_NoLooks (.inl rfl)
    kt_NoTree_NoLooks := kit_ref ic_NoLooks tc_NoLooks ks_NoTree_NoLooks (.inr ne_NoTree_NoLooks)
    kt_NotOne_NoLooks := kit_ref ic_NoLooks tc_NoLooks ks_NotOne_NoLooks (.inr ne_NotOne_NoLooks)
    kt_NoSuch_NoLooks := kit_ref ic_NoLooks tc_NoLooks ks_NoSuch_NoLooks (.inr ne_NoSuch_NoLooks)
    kt_NoCode_NoLooks := kit_ref ic_NoLooks tc_NoLooks ks_NoCode_NoLooks (.inr ne_NoCode_NoLooks)
    kt_TooMany_NoLooks := kit_ref ic_NoLooks tc_NoLooks ks_TooMany_NoLooks (.inr ne_TooMany_NoLooks)
    kt_NotHeard_NoLooks := kit_ref ic_NoLooks tc_NoLooks ks_NotHeard_NoLooks (.inr ne_NotHeard_NoLooks)
    kt_NoRow_NoLooks := kit_ref ic_NoLooks tc_NoLooks ks_NoRow_NoLooks (.inr ne_NoRow_NoLooks)
    kt_NoBack_NoLooks := kit_ref ic_NoLooks tc_NoLooks ks_NoBack_NoLooks (.inr ne_NoBack_NoLooks)
    kt_Apart_NoLooks := kit_ref ic_NoLooks tc_NoLooks ks_Apart_NoLooks (.inr ne_Apart_NoLooks)
    kt_NoText_NoLooks := kit_ref ic_NoLooks tc_NoLooks ks_NoText_NoLooks (.inr ne_NoText_NoLooks)
    kt_NoWeb_NoPlace := kit_ref ic_NoPlace tc_NoPlace ks_NoWeb_NoPlace (.inr ne_NoWeb_NoPlace)
    kt_NoPlace_NoPlace := kit_ref ic_NoPlace tc_NoPlace ks_NoPlace_NoPlace (.inl rfl)
    kt_NoThing_NoPlace := kit_ref ic_NoPlace tc_NoPlace ks_NoThing_NoPlace (.inr ne_NoThing_NoPlace)
    kt_NoLooks_NoPlace := kit_ref ic_NoPlace tc_NoPlace ks_NoLooks_NoPlace (.inr ne_NoLooks_NoPlace)
    kt_NoTree_NoPlace := kit_ref ic_NoPlace tc_NoPlace ks_NoTree_NoPlace (.inr ne_NoTree_NoPlace)
    kt_NotOne_NoPlace := kit_ref ic_NoPlace tc_NoPlace ks_NotOne_NoPlace (.inr ne_NotOne_NoPlace)
    kt_NoSuch_NoPlace := kit_ref ic_NoPlace tc_NoPlace ks_NoSuch_NoPlace (.inr ne_NoSuch_NoPlace)
    kt_NoCode_NoPlace := kit_ref ic_NoPlace tc_NoPlace ks_NoCode_NoPlace (.inr ne_NoCode_NoPlace)
    kt_TooMany_NoPlace := kit_ref ic_NoPlace tc_NoPlace ks_TooMany_NoPlace (.inr ne_TooMany_NoPlace)
    kt_NotHeard_NoPlace := kit_ref ic_NoPlace tc_NoPlace ks_NotHeard_NoPlace (.inr ne_NotHeard_NoPlace)
    kt_NoRow_NoPlace := kit_ref ic_NoPlace tc_NoPlace ks_NoRow_NoPlace (.inr ne_NoRow_NoPlace)
    kt_NoBack_NoPlace := kit_ref ic_NoPlace tc_NoPlace ks_NoBack_NoPlace (.inr ne_NoBack_NoPlace)
    kt_Apart_NoPlace := kit_ref ic_NoPlace tc_NoPlace ks_Apart_NoPlace (.inr ne_Apart_NoPlace)
    kt_NoText_NoPlace := kit_ref ic_NoPlace tc_NoPlace ks_NoText_NoPlace (.inr ne_NoText_NoPlace)
    kt_NoWeb_NoRow := kit_ref ic_NoRow tc_NoRow ks_NoWeb_NoRow (.inr ne_NoWeb_NoRow)
    kt_NoPlace_NoRow := kit_ref ic_NoRow tc_NoRow ks_NoPlace_NoRow (.inr ne_NoPlace_NoRow)
    kt_NoThing_NoRow := kit_ref ic_NoRow tc_NoRow ks_NoThing_NoRow (.inr ne_NoThing_NoRow)
    kt_NoLooks_NoRow := kit_ref ic_NoRow tc_NoRow ks_NoLooks_NoRow (.inr ne_NoLooks_NoRow)
    kt_NoTree_NoRow := kit_ref ic_NoRow tc_NoRow ks_NoTree_NoRow (.inr ne_NoTree_NoRow)
    kt_NotOne_NoRow := kit_ref ic_NoRow tc_NoRow ks_NotOne_NoRow (.inr ne_NotOne_NoRow)
    kt_NoSuch_NoRow := kit_ref ic_NoRow tc_NoRow ks_NoSuch_NoRow (.inr ne_NoSuch_NoRow)
    kt_NoCode_NoRow := kit_ref ic_NoRow tc_NoRow ks_NoCode_NoRow (.inr ne_NoCode_NoRow)
    kt_TooMany_NoRow := kit_ref ic_NoRow tc_NoRow ks_TooMany_NoRow (.inr ne_TooMany_NoRow)
    kt_NotHeard_NoRow := kit_ref ic_NoRow tc_NoRow ks_NotHeard_NoRow (.inr ne_NotHeard_NoRow)
    kt_NoRow_NoRow := kit_ref ic_NoRow tc_NoRow ks_NoRow_NoRow (.inl rfl)
    kt_NoBack_NoRow := kit_ref ic_NoRow tc_NoRow ks_NoBack_NoRow (.inr ne_NoBack_NoRow)
    kt_Apart_NoRow := kit_ref ic_NoRow tc_NoRow ks_Apart_NoRow (.inr ne_Apart_NoRow)
    kt_NoText_NoRow := kit_ref ic_NoRow tc_NoRow ks_NoText_NoRow (.inr ne_NoText_NoRow)
    kt_NoWeb_NoSuch := kit_ref ic_NoSuch tc_NoSuch ks_NoWeb_NoSuch (.inr ne_NoWeb_NoSuch)
    kt_NoPlace_NoSuch := kit_ref ic_NoSuch tc_NoSuch ks_NoPlace_NoSuch (.inr ne_NoPlace_NoSuch)
    kt_NoThing_NoSuch := kit_ref ic_NoSuch tc_NoSuch ks_NoThing_NoSuch (.inr ne_NoThing_NoSuch)
    kt_NoLooks_NoSuch := kit_ref ic_NoSuch tc_NoSuch ks_NoLooks_NoSuch (.inr ne_NoLooks_NoSuch)
    kt_NoTree_NoSuch := kit_ref ic_NoSuch tc_NoSuch ks_NoTree_NoSuch (.inr ne_NoTree_NoSuch)
    kt_NotOne_NoSuch := kit_ref ic_NoSuch tc_NoSuch ks_NotOne_NoSuch (.inr ne_NotOne_NoSuch)
    kt_NoSuch_NoSuch := kit_ref ic_NoSuch tc_NoSuch ks_NoSuch_NoSuch (.inl rfl)
    kt_NoCode_NoSuch := kit_ref ic_NoSuch tc_NoSuch ks_NoCode_NoSuch (.inr ne_NoCode_NoSuch)
    kt_TooMany_NoSuch := kit_ref ic_NoSuch tc_NoSuch ks_TooMany_NoSuch (.inr ne_TooMany_NoSuch)
    kt_NotHeard_NoSuch := kit_ref ic_NoSuch tc_NoSuch ks_NotHeard_NoSuch (.inr ne_NotHeard_NoSuch)
    kt_NoRow_NoSuch := kit_ref ic_NoSuch tc_NoSuch ks_NoRow_NoSuch (.inr ne_NoRow_NoSuch)
    kt_NoBack_NoSuch := kit_ref ic_NoSuch tc_NoSuch ks_NoBack_NoSuch (.inr ne_NoBack_NoSuch)
    kt_Apart_NoSuch := kit_ref ic_NoSuch tc_NoSuch ks_Apart_NoSuch (.inr ne_Apart_NoSuch)
    kt_NoText_NoSuch := kit_ref ic_NoSuch tc_NoSuch ks_NoText_NoSuch (.inr ne_NoText_NoSuch)
    kt_NoWeb_NoText := kit_ref ic_NoText tc_NoText ks_NoWeb_NoText (.inr ne_NoWeb_NoText)
    kt_NoPlace_NoText := kit_ref ic_NoText tc_NoText ks_NoPlace_NoText (.inr ne_NoPlace_NoText)
    kt_NoThing_NoText := kit_ref ic_NoText tc_NoText ks_NoThing_NoText (.inr ne_NoThing_NoText)
    kt_NoLooks_NoText := kit_ref ic_NoText tc_NoText ks_NoLooks_NoText (.inr ne_NoLooks_NoText)
    kt_NoTree_NoText := kit_ref ic_NoText tc_NoText ks_NoTree_NoText (.inr ne_NoTree_NoText)
    kt_NotOne_NoText := kit_ref ic_NoText tc_NoText ks_NotOne_NoText (.inr ne_NotOne_NoText)
    kt_NoSuch_NoText := kit_ref ic_NoText tc_NoText ks_NoSuch_NoText (.inr ne_NoSuch_NoText)
    kt_NoCode_NoText := kit_ref ic_NoText tc_NoText ks_NoCode_NoText (.inr ne_NoCode_NoText)
    kt_TooMany_NoText := kit_ref ic_NoText tc_NoText ks_TooMany_NoText (.inr ne_TooMany_NoText)
    kt_NotHeard_NoText := kit_ref ic_NoText tc_NoText ks_NotHeard_NoText (.inr ne_NotHeard_NoText)
    kt_NoRow_NoText := kit_ref ic_NoText tc_NoText ks_NoRow_NoText (.inr ne_NoRow_NoText)
    kt_NoBack_NoText := kit_ref ic_NoText tc_NoText ks_NoBack_NoText (.inr ne_NoBack_NoText)
    kt_Apart_NoText := kit_ref ic_NoText tc_NoText ks_Apart_NoText (.inr ne_Apart_NoText)
    kt_NoText_NoText := kit_ref ic_NoText tc_NoText ks_NoText_NoText (.inl rfl)
    kt_NoWeb_NoThing := kit_ref ic_NoThing tc_NoThing ks_NoWeb_NoThing (.inr ne_NoWeb_NoThing)
    kt_NoPlace_NoThing := kit_ref ic_NoThing tc_NoThing ks_NoPlace_NoThing (.inr ne_NoPlace_NoThing)
    kt_NoThing_NoThing := kit_ref ic_NoThing tc_NoThing ks_NoThing_NoThing (.inl rfl)
    kt_NoLooks_NoThing := kit_ref ic_NoThing tc_NoThing ks_NoLooks_NoThing (.inr ne_NoLooks_NoThing)
    kt_NoTree_NoThing := kit_ref ic_NoThing tc_NoThing ks_NoTree_NoThing (.inr ne_NoTree_NoThing)
    kt_NotOne_NoThing := kit_ref ic_NoThing tc_NoThing ks_NotOne_NoThing (.inr ne_NotOne_NoThing)
    kt_NoSuch_NoThing := kit_ref ic_NoThing tc_NoThing ks_NoSuch_NoThing (.inr ne_NoSuch_NoThing)
    kt_NoCode_NoThing := kit_ref ic_NoThing tc_NoThing ks_NoCode_NoThing (.inr ne_NoCode_NoThing)
    kt_TooMany_NoThing := kit_ref ic_NoThing tc_NoThing ks_TooMany_NoThing (.inr ne_TooMany_NoThing)
    kt_NotHeard_NoThing := kit_ref ic_NoThing tc_NoThing ks_NotHeard_NoThing (.inr ne_NotHeard_NoThing)
    kt_NoRow_NoThing := kit_ref ic_NoThing tc_NoThing ks_NoRow_NoThing (.inr ne_NoRow_NoThing)
    kt_NoBack_NoThing := kit_ref ic_NoThing tc_NoThing ks_NoBack_NoThing (.inr ne_NoBack_NoThing)
    kt_Apart_NoThing := kit_ref ic_NoThing tc_NoThing ks_Apart_NoThing (.inr ne_Apart_NoThing)
    kt_NoText_NoThing := kit_ref ic_NoThing tc_NoThing ks_NoText_NoThing (.inr ne_NoText_NoThing)
    kt_NoWeb_NoTree := kit_ref ic_NoTree tc_NoTree ks_NoWeb_NoTree (.inr ne_NoWeb_NoTree)
    kt_NoPlace_NoTree := kit_ref ic_NoTree tc_NoTree ks_NoPlace_NoTree (.inr ne_NoPlace_NoTree)
    kt_NoThing_NoTree := kit_ref ic_NoTree tc_NoTree ks_NoThing_NoTree (.inr ne_NoThing_NoTree)
    kt_NoLooks_NoTree := kit_ref ic_NoTree tc_NoTree ks_NoLooks_NoTree (.inr ne_NoLooks_NoTree)
    kt_NoTree_NoTree := kit_ref ic_NoTree tc_NoTree ks_NoTree_NoTree (.inl rfl)
    kt_NotOne_NoTree := kit_ref ic_NoTree tc_NoTree ks_NotOne_NoTree (.inr ne_NotOne_NoTree)
    kt_NoSuch_NoTree := kit_ref ic_NoTree tc_NoTree ks_NoSuch_NoTree (.inr ne_NoSuch_NoTree)
    kt_NoCode_NoTree := kit_ref ic_NoTree tc_NoTree ks_NoCode_NoTree (.inr ne_NoCode_NoTree)
    kt_TooMany_NoTree := kit_ref ic_NoTree tc_NoTree ks_TooMany_NoTree (.inr ne_TooMany_NoTree)
    kt_NotHeard_NoTree := kit_ref ic_NoTree tc_NoTree ks_NotHeard_NoTree (.inr ne_NotHeard_NoTree)
    kt_NoRow_NoTree := kit_ref ic_NoTree tc_NoTree ks_NoRow_NoTree (.inr ne_NoRow_NoTree)
    kt_NoBack_NoTree := kit_ref ic_NoTree tc_NoTree ks_NoBack_NoTree (.inr ne_NoBack_NoTree)
    kt_Apart_NoTree := kit_ref ic_NoTree tc_NoTree ks_Apart_NoTree (.inr ne_Apart_NoTree)
    kt_NoText_NoTree := kit_ref ic_NoTree tc_NoTree ks_NoText_NoTree (.inr ne_NoText_NoTree)
    kt_NoWeb_NoWeb := kit_ref ic_NoWeb tc_NoWeb ks_NoWeb_NoWeb (.inl rfl)
    kt_NoPlace_NoWeb := kit_ref ic_NoWeb tc_NoWeb ks_NoPlace_NoWeb (.inr ne_NoPlace_NoWeb)
    kt_NoThing_NoWeb := kit_ref ic_NoWeb tc_NoWeb ks_NoThing_NoWeb (.inr ne_NoThing_NoWeb)
    kt_NoLooks_NoWeb := kit_ref ic_NoWeb tc_NoWeb ks_NoLooks_NoWeb (.inr ne_NoLooks_NoWeb)
    kt_NoTree_NoWeb := kit_ref ic_NoWeb tc_NoWeb ks_NoTree_NoWeb (.inr ne_NoTree_NoWeb)
    kt_NotOne_NoWeb := kit_ref ic_NoWeb tc_NoWeb ks_NotOne_NoWeb (.inr ne_NotOne_NoWeb)
    kt_NoSuch_NoWeb := kit_ref ic_NoWeb tc_NoWeb ks_NoSuch_NoWeb (.inr ne_NoSuch_NoWeb)
    kt_NoCode_NoWeb := kit_ref ic_NoWeb tc_NoWeb ks_NoCode_NoWeb (.inr ne_NoCode_NoWeb)
    kt_TooMany_NoWeb := kit_ref ic_NoWeb tc_NoWeb ks_TooMany_NoWeb (.inr ne_TooMany_NoWeb)
    kt_NotHeard_NoWeb := kit_ref ic_NoWeb tc_NoWeb ks_NotHeard_NoWeb (.inr ne_NotHeard_NoWeb)
    kt_NoRow_NoWeb := kit_ref ic_NoWeb tc_NoWeb ks_NoRow_NoWeb (.inr ne_NoRow_NoWeb)
    kt_NoBack_NoWeb := kit_ref ic_NoWeb tc_NoWeb ks_NoBack_NoWeb (.inr ne_NoBack_NoWeb)
    kt_Apart_NoWeb := kit_ref ic_NoWeb tc_NoWeb ks_Apart_NoWeb (.inr ne_Apart_NoWeb)
    kt_NoText_NoWeb := kit_ref ic_NoWeb tc_NoWeb ks_NoText_NoWeb (.inr ne_NoText_NoWeb)
    kt_NoWeb_NotHeard := kit_ref ic_NotHeard tc_NotHeard ks_NoWeb_NotHeard (.inr ne_NoWeb_NotHeard)
    kt_NoPlace_NotHeard := kit_ref ic_NotHeard tc_NotHeard ks_NoPlace_NotHeard (.inr ne_NoPlace_NotHeard)
    kt_NoThing_NotHeard := kit_ref ic_NotHeard tc_NotHeard ks_NoThing_NotHeard (.inr ne_NoThing_NotHeard)
    kt_NoLooks_NotHeard := kit_ref ic_NotHeard tc_NotHeard ks_NoLooks_NotHeard (.inr ne_NoLooks_NotHeard)
    kt_NoTree_NotHeard := kit_ref ic_NotHeard tc_NotHeard ks_NoTree_NotHeard (.inr ne_NoTree_NotHeard)
    kt_NotOne_NotHeard := kit_ref ic_NotHeard tc_NotHeard ks_NotOne_NotHeard (.inr ne_NotOne_NotHeard)
    kt_NoSuch_NotHeard := kit_ref ic_NotHeard tc_NotHeard ks_NoSuch_NotHeard (.inr ne_NoSuch_NotHeard)
    kt_NoCode_NotHeard := kit_ref ic_NotHeard tc_NotHeard ks_NoCode_NotHeard (.inr ne_NoCode_NotHeard)
    kt_TooMany_NotHeard := kit_ref ic_NotHeard tc_NotHeard ks_TooMany_NotHeard (.inr ne_TooMany_NotHeard)
    kt_NotHeard_NotHeard := kit_ref ic_NotHeard tc_NotHeard ks_NotHeard_NotHeard (.inl rfl)
    kt_NoRow_NotHeard := kit_ref ic_NotHeard tc_NotHeard ks_NoRow_NotHeard (.inr ne_NoRow_NotHeard)
    kt_NoBack_NotHeard := kit_ref ic_NotHeard tc_NotHeard ks_NoBack_NotHeard (.inr ne_NoBack_NotHeard)
    kt_Apart_NotHeard := kit_ref ic_NotHeard tc_NotHeard ks_Apart_NotHeard (.inr ne_Apart_NotHeard)
    kt_NoText_NotHeard := kit_ref ic_NotHeard tc_NotHeard ks_NoText_NotHeard (.inr ne_NoText_NotHeard)
    kt_NoWeb_NotOne := kit_ref ic_NotOne tc_NotOne ks_NoWeb_NotOne (.inr ne_NoWeb_NotOne)
    kt_NoPlace_NotOne := kit_ref ic_NotOne tc_NotOne ks_NoPlace_NotOne (.inr ne_NoPlace_NotOne)
    kt_NoThing_NotOne := kit_ref ic_NotOne tc_NotOne ks_NoThing_NotOne (.inr ne_NoThing_NotOne)
    kt_NoLooks_NotOne := kit_ref ic_NotOne tc_NotOne ks_NoLooks_NotOne (.inr ne_NoLooks_NotOne)
    kt_NoTree_NotOne := kit_ref ic_NotOne tc_NotOne ks_NoTree_NotOne (.inr ne_NoTree_NotOne)
    kt_NotOne_NotOne := kit_ref ic_NotOne tc_NotOne ks_NotOne_NotOne (.inl rfl)
    kt_NoSuch_NotOne := kit_ref ic_NotOne tc_NotOne ks_NoSuch_NotOne (.inr ne_NoSuch_NotOne)
    kt_NoCode_NotOne := kit_ref ic_NotOne tc_NotOne ks_NoCode_NotOne (.inr ne_NoCode_NotOne)
    kt_TooMany_NotOne := kit_ref ic_NotOne tc_NotOne ks_TooMany_NotOne (.inr ne_TooMany_NotOne)
    kt_NotHeard_NotOne := kit_ref ic_NotOne tc_NotOne ks_NotHeard_NotOne (.inr ne_NotHeard_NotOne)
    kt_NoRow_NotOne := kit_ref ic_NotOne tc_NotOne ks_NoRow_NotOne (.inr ne_NoRow_NotOne)
    kt_NoBack_NotOne := kit_ref ic_NotOne tc_NotOne ks_NoBack_NotOne (.inr ne_NoBack_NotOne)
    kt_Apart_NotOne := kit_ref ic_NotOne tc_NotOne ks_Apart_NotOne (.inr ne_Apart_NotOne)
    kt_NoText_NotOne := kit_ref ic_NotOne tc_NotOne ks_NoText_NotOne (.inr ne_NoText_NotOne)
    kt_NoWeb_TooMany := kit_ref ic_TooMany tc_TooMany ks_NoWeb_TooMany (.inr ne_NoWeb_TooMany)
    kt_NoPlace_TooMany := kit_ref ic_TooMany tc_TooMany ks_NoPlace_TooMany (.inr ne_NoPlace_TooMany)
    kt_NoThing_TooMany := kit_ref ic_TooMany tc_TooMany ks_NoThing_TooMany (.inr ne_NoThing_TooMany)
    kt_NoLooks_TooMany := kit_ref ic_TooMany tc_TooMany ks_NoLooks_TooMany (.inr ne_NoLooks_TooMany)
    kt_NoTree_TooMany := kit_ref ic_TooMany tc_TooMany ks_NoTree_TooMany (.inr ne_NoTree_TooMany)
    kt_NotOne_TooMany := kit_ref ic_TooMany tc_TooMany ks_NotOne_TooMany (.inr ne_NotOne_TooMany)
    kt_NoSuch_TooMany := kit_ref ic_TooMany tc_TooMany ks_NoSuch_TooMany (.inr ne_NoSuch_TooMany)
    kt_NoCode_TooMany := kit_ref ic_TooMany tc_TooMany ks_NoCode_TooMany (.inr ne_NoCode_TooMany)
    kt_TooMany_TooMany := kit_ref ic_TooMany tc_TooMany ks_TooMany_TooMany (.inl rfl)
    kt_NotHeard_TooMany := kit_ref ic_TooMany tc_TooMany ks_NotHeard_TooMany (.inr ne_NotHeard_TooMany)
    kt_NoRow_TooMany := kit_ref ic_TooMany tc_TooMany ks_NoRow_TooMany (.inr ne_NoRow_TooMany)
    kt_NoBack_TooMany := kit_ref ic_TooMany tc_TooMany ks_NoBack_TooMany (.inr ne_NoBack_TooMany)
    kt_Apart_TooMany := kit_ref ic_TooMany tc_TooMany ks_Apart_TooMany (.inr ne_Apart_TooMany)
    kt_NoText_TooMany := kit_ref ic_TooMany tc_TooMany ks_NoText_TooMany (.inr ne_NoText_TooMany)
    kt_NoWeb_ValueError := kit_ty (by decide +kernel) ks_NoWeb_ValueError
    kt_NoPlace_ValueError := kit_ty (by decide +kernel) ks_NoPlace_ValueError
    kt_NoThing_ValueError := kit_ty (by decide +kernel) ks_NoThing_ValueError
    kt_NoLooks_ValueError := kit_ty (by decide +kernel) ks_NoLooks_ValueError
    kt_NoTree_ValueError := kit_ty (by decide +kernel) ks_NoTree_ValueError
    kt_NotOne_ValueError := kit_ty (by decide +kernel) ks_NotOne_ValueError
    kt_NoSuch_ValueError := kit_ty (by decide +kernel) ks_NoSuch_ValueError
    kt_NoCode_ValueError := kit_ty (by decide +kernel) ks_NoCode_ValueError
    kt_TooMany_ValueError := kit_ty (by decide +kernel) ks_TooMany_ValueError
    kt_NotHeard_ValueError := kit_ty (by decide +kernel) ks_NotHeard_ValueError
    kt_NoRow_ValueError := kit_ty (by decide +kernel) ks_NoRow_ValueError
    kt_NoBack_ValueError := kit_ty (by decide +kernel) ks_NoBack_ValueError
    kt_Apart_ValueError := kit_ty (by decide +kernel) ks_Apart_ValueError
    kt_NoText_ValueError := kit_ty (by decide +kernel) ks_NoText_ValueError }
  exact ⟨(PySem.W.fnOf "law" "law" (defArgs s_law) (defBody s_law) (defScope s_law) .none kV20 dc20 pm20 an20 cd20 ct20), fun s v => .of_eq rfl, fun base _ _ => ok_law (A := A) (FD := FD) T⟩
theorem walk {l : PySem.W.OpenLaw} {q : Program} {loose : List Str} {XP : (Str → Option Value) → Heap → Prop} {YP : World → Heap → Prop} {d : DefRec} {K : Params → PySem.W.Frag} (hn : l.most = some 63) (hdf : d.params.defaults = [])
    (hY : ∀ (w : World) (h : Heap), YP w h → (K w.params).In h)
    (F : ∀ (w : World) (mg : Str → Option Value) (fa : Addr) (h : Heap), (K w.params).In h → h.Ns mainGlobals mg → mg d.name = some (.ref fa) →
      ∃ fd : FuncData, (∀ (s : Shared) (u : Value), BindsTo s fd ⟨[u], []⟩ [("script", u)]) ∧ ∀ base : Heap, (K w.params).In base → base.Ns mainGlobals mg → FnOk l.prog w (K w.params) mg base CX0 4 fa fd ["script"] (sp_law (K w.params))) :
    PySem.W.WalkO q loose XP YP l.row.toRowW d [] (fun f vs => PySem.call f vs) :=
  L2.walk_of (n := 63) (k := 4) (x := "script") (CX := fun _ => CX0) (sp := fun w => sp_law (K w.params)) hn (by decide) hdf ⟨rfl, by decide, by decide⟩ hY F
    (fun _ H a ns hl _ hS => ⟨H, [], .ref a, ⟨ns⟩, rfl, ⟨Same.refl _, (fun _ z => nomatch z), List.Pairwise.nil, (fun _ z => nomatch z)⟩, ⟨a, rfl, hS⟩, by rw [law_true ns hl]; exact fun v F2 H2 w s r => r⟩) fun _ _ _ _ _ z => z
end G
open PySem PySem.W PyProof.Rows
set_option maxRecDepth 100000 in
set_option maxHeartbeats 0 in
theorem PySem.Challenge.cw_farhail_k01_refusals_stand_alone_holds : PySem.Challenge.rw_farhail_k01_refusals_stand_alone.Holds := by
  w_on; o_law; k_head; (case hw => w_witness2)
  k_fill
  refine G.walk (l := PySem.Challenge.rw_farhail_k01_refusals_stand_alone) rfl rfl (fun w h Y => PySem.W.kIn_of Y) ?F
  case F =>
    intro w mg fa h KX Gn hmg
    refine' G.all_mk KX Gn hmg ?a17 ?l17 ?c17 ?k17 ?a18 ?l18 ?c18 ?k18 ?a19 ?l19 ?c19 ?k19 ?a20 ?l20 ?c20 ?k20 ?a15000 ?i15000 ?l15000 ?c15000 ?k15000 ?a16000 ?i16000 ?l16000 ?c16000 ?k16000 ?ns_HailError ?ns_NoWeb ?ns_NoPlace ?ns_NoThing ?ns_NoLooks ?ns_NoTree ?ns_NotOne ?ns_NoSuch ?ns_NoCode ?ns_TooMany ?ns_NotHeard ?ns_NoRow ?ns_NoBack ?ns_Apart ?ns_NoText ?xc_NoWeb ?kp_NoWeb ?b_NoWeb ?t_NoWeb ?hg_NoWeb ?hk_NoWeb ?hd_NoWeb ?ha_NoWeb ?hm_NoWeb ?ks_NoWeb_Apart ?ne_NoWeb_Apart ?ks_NoWeb_HailError ?ks_NoWeb_NoBack ?ne_NoWeb_NoBack ?ks_NoWeb_NoCode ?ne_NoWeb_NoCode ?ks_NoWeb_NoLooks ?ne_NoWeb_NoLooks ?ks_NoWeb_NoPlace ?ne_NoWeb_NoPlace ?ks_NoWeb_NoRow ?ne_NoWeb_NoRow ?ks_NoWeb_NoSuch ?ne_NoWeb_NoSuch ?ks_NoWeb_NoText ?ne_NoWeb_NoText ?ks_NoWeb_NoThing ?ne_NoWeb_NoThing ?ks_NoWeb_NoTree ?ne_NoWeb_NoTree ?ks_NoWeb_NoWeb ?ks_NoWeb_NotHeard ?ne_NoWeb_NotHeard ?ks_NoWeb_NotOne ?ne_NoWeb_NotOne ?ks_NoWeb_TooMany ?ne_NoWeb_TooMany ?ks_NoWeb_ValueError ?xc_NoPlace ?kp_NoPlace ?b_NoPlace ?t_NoPlace ?hg_NoPlace ?hk_NoPlace ?hd_NoPlace ?ha_NoPlace ?hm_NoPlace ?ks_NoPlace_Apart ?ne_NoPlace_Apart ?ks_NoPlace_HailError ?ks_NoPlace_NoBack ?ne_NoPlace_NoBack ?ks_NoPlace_NoCode ?ne_NoPlace_NoCode ?ks_NoPlace_NoLooks ?ne_NoPlace_NoLooks ?ks_NoPlace_NoPlace ?ks_NoPlace_NoRow ?ne_NoPlace_NoRow ?ks_NoPlace_NoSuch ?ne_NoPlace_NoSuch ?ks_NoPlace_NoText ?ne_NoPlace_NoText ?ks_NoPlace_NoThing ?ne_NoPlace_NoThing ?ks_NoPlace_NoTree ?ne_NoPlace_NoTree ?ks_NoPlace_NoWeb ?ne_NoPlace_NoWeb ?ks_NoPlace_NotHeard ?ne_NoPlace_NotHeard ?ks_NoPlace_NotOne ?ne_NoPlace_NotOne ?ks_NoPlace_TooMany ?ne_NoPlace_TooMany ?ks_NoPlace_ValueError ?xc_NoThing ?kp_NoThing ?b_NoThing ?t_NoThing ?hg_NoThing ?hk_NoThing ?hd_NoThing ?ha_NoThing ?hm_NoThing ?ks_NoThing_Apart ?ne_NoThing_Apart ?ks_NoThing_HailError ?ks_NoThing_NoBack ?ne_NoThing_NoBack ?ks_NoThing_NoCode ?ne_NoThing_NoCode ?ks_NoThing_NoLooks ?ne_NoThing_NoLooks ?ks_NoThing_NoPlace ?ne_NoThing_NoPlace ?ks_NoThing_NoRow ?ne_NoThing_NoRow ?ks_NoThing_NoSuch ?ne_NoThing_NoSuch ?ks_NoThing_NoText ?ne_NoThing_NoText ?ks_NoThing_NoThing ?ks_NoThing_NoTree ?ne_NoThing_NoTree ?ks_NoThing_NoWeb ?ne_NoThing_NoWeb ?ks_NoThing_NotHeard ?ne_NoThing_NotHeard ?ks_NoThing_NotOne ?ne_NoThing_NotOne ?ks_NoThing_TooMany ?ne_NoThing_TooMany ?ks_NoThing_ValueError ?xc_NoLooks ?kp_NoLooks ?b_NoLooks ?t_NoLooks ?hg_NoLooks ?hk_NoLooks ?hd_NoLooks ?ha_NoLooks ?hm_NoLooks ?ks_NoLooks_Apart ?ne_NoLooks_Apart ?ks_NoLooks_HailError ?ks_NoLooks_NoBack ?ne_NoLooks_NoBack ?ks_NoLooks_NoCode ?ne_NoLooks_NoCode ?ks_NoLooks_NoLooks ?ks_NoLooks_NoPlace ?ne_NoLooks_NoPlace ?ks_NoLooks_NoRow ?ne_NoLooks_NoRow ?ks_NoLooks_NoSuch ?ne_NoLooks_NoSuch ?ks_NoLooks_NoText ?ne_NoLooks_NoText ?ks_NoLooks_NoThing ?ne_NoLooks_NoThing ?ks_NoLooks_NoTree ?ne_NoLooks_NoTree ?ks_NoLooks_NoWeb ?ne_NoLooks_NoWeb ?ks_NoLooks_NotHeard ?ne_NoLooks_NotHeard ?ks_NoLooks_NotOne ?ne_NoLooks_NotOne ?ks_NoLooks_TooMany ?ne_NoLooks_TooMany ?ks_NoLooks_ValueError ?xc_NoTree ?kp_NoTree ?b_NoTree ?t_NoTree ?hg_NoTree ?hk_NoTree ?hd_NoTree ?ha_NoTree ?hm_NoTree ?ks_NoTree_Apart ?ne_NoTree_Apart ?ks_NoTree_HailError ?ks_NoTree_NoBack ?ne_NoTree_NoBack ?ks_NoTree_NoCode ?ne_NoTree_NoCode ?ks_NoTree_NoLooks ?ne_NoTree_NoLooks ?ks_NoTree_NoPlace ?ne_NoTree_NoPlace ?ks_NoTree_NoRow ?ne_NoTree_NoRow ?ks_NoTree_NoSuch ?ne_NoTree_NoSuch ?ks_NoTree_NoText ?ne_NoTree_NoText ?ks_NoTree_NoThing ?ne_NoTree_NoThing ?ks_NoTree_NoTree ?ks_NoTree_NoWeb ?ne_NoTree_NoWeb ?ks_NoTree_NotHeard ?ne_NoTree_NotHeard ?ks_NoTree_NotOne ?ne_NoTree_NotOne ?ks_NoTree_TooMany ?ne_NoTree_TooMany ?ks_NoTree_ValueError ?xc_NotOne ?kp_NotOne ?b_NotOne ?t_NotOne ?hg_NotOne ?hk_NotOne ?hd_NotOne ?ha_NotOne ?hm_NotOne ?ks_NotOne_Apart ?ne_NotOne_Apart ?ks_NotOne_HailError ?ks_NotOne_NoBack ?ne_NotOne_NoBack ?ks_NotOne_NoCode ?ne_NotOne_NoCode ?ks_NotOne_NoLooks ?ne_NotOne_NoLooks ?ks_NotOne_NoPlace ?ne_NotOne_NoPlace ?ks_NotOne_NoRow ?ne_NotOne_NoRow ?ks_NotOne_NoSuch ?ne_NotOne_NoSuch ?ks_NotOne_NoText ?ne_NotOne_NoText ?ks_NotOne_NoThing ?ne_NotOne_NoThing ?ks_NotOne_NoTree ?ne_NotOne_NoTree ?ks_NotOne_NoWeb ?ne_NotOne_NoWeb ?ks_NotOne_NotHeard ?ne_NotOne_NotHeard ?ks_NotOne_NotOne ?ks_NotOne_TooMany ?ne_NotOne_TooMany ?ks_NotOne_ValueError ?xc_NoSuch ?kp_NoSuch ?b_NoSuch ?t_NoSuch ?hg_NoSuch ?hk_NoSuch ?hd_NoSuch ?ha_NoSuch ?hm_NoSuch ?ks_NoSuch_Apart ?ne_NoSuch_Apart ?ks_NoSuch_HailError ?ks_NoSuch_NoBack ?ne_NoSuch_NoBack ?ks_NoSuch_NoCode ?ne_NoSuch_NoCode ?ks_NoSuch_NoLooks ?ne_NoSuch_NoLooks ?ks_NoSuch_NoPlace ?ne_NoSuch_NoPlace ?ks_NoSuch_NoRow ?ne_NoSuch_NoRow ?ks_NoSuch_NoSuch ?ks_NoSuch_NoText ?ne_NoSuch_NoText ?ks_NoSuch_NoThing ?ne_NoSuch_NoThing ?ks_NoSuch_NoTree ?ne_NoSuch_NoTree ?ks_NoSuch_NoWeb ?ne_NoSuch_NoWeb ?ks_NoSuch_NotHeard ?ne_NoSuch_NotHeard ?ks_NoSuch_NotOne ?ne_NoSuch_NotOne ?ks_NoSuch_TooMany ?ne_NoSuch_TooMany ?ks_NoSuch_ValueError ?xc_NoCode ?kp_NoCode ?b_NoCode ?t_NoCode ?hg_NoCode ?hk_NoCode ?hd_NoCode ?ha_NoCode ?hm_NoCode ?ks_NoCode_Apart ?ne_NoCode_Apart ?ks_NoCode_HailError ?ks_NoCode_NoBack ?ne_NoCode_NoBack ?ks_NoCode_NoCode ?ks_NoCode_NoLooks ?ne_NoCode_NoLooks ?ks_NoCode_NoPlace ?ne_NoCode_NoPlace ?ks_NoCode_NoRow ?ne_NoCode_NoRow ?ks_NoCode_NoSuch ?ne_NoCode_NoSuch ?ks_NoCode_NoText ?ne_NoCode_NoText ?ks_NoCode_NoThing ?ne_NoCode_NoThing ?ks_NoCode_NoTree ?ne_NoCode_NoTree ?ks_NoCode_NoWeb ?ne_NoCode_NoWeb ?ks_NoCode_NotHeard ?ne_NoCode_NotHeard ?ks_NoCode_NotOne ?ne_NoCode_NotOne ?ks_NoCode_TooMany ?ne_NoCode_TooMany ?ks_NoCode_ValueError ?xc_TooMany ?kp_TooMany ?b_TooMany ?t_TooMany ?hg_TooMany ?hk_TooMany ?hd_TooMany ?ha_TooMany ?hm_TooMany ?ks_TooMany_Apart ?ne_TooMany_Apart ?ks_TooMany_HailError ?ks_TooMany_NoBack ?ne_TooMany_NoBack ?ks_TooMany_NoCode ?ne_TooMany_NoCode ?ks_TooMany_NoLooks ?ne_TooMany_NoLooks ?ks_TooMany_NoPlace ?ne_TooMany_NoPlace ?ks_TooMany_NoRow ?ne_TooMany_NoRow ?ks_TooMany_NoSuch ?ne_TooMany_NoSuch ?ks_TooMany_NoText ?ne_TooMany_NoText ?ks_TooMany_NoThing ?ne_TooMany_NoThing ?ks_TooMany_NoTree ?ne_TooMany_NoTree ?ks_TooMany_NoWeb ?ne_TooMany_NoWeb ?ks_TooMany_NotHeard ?ne_TooMany_NotHeard ?ks_TooMany_NotOne ?ne_TooMany_NotOne ?ks_TooMany_TooMany ?ks_TooMany_ValueError ?xc_NotHeard ?kp_NotHeard ?b_NotHeard ?t_NotHeard ?hg_NotHeard ?hk_NotHeard ?hd_NotHeard ?ha_NotHeard ?hm_NotHeard ?ks_NotHeard_Apart ?ne_NotHeard_Apart ?ks_NotHeard_HailError ?ks_NotHeard_NoBack ?ne_NotHeard_NoBack ?ks_NotHeard_NoCode ?ne_NotHeard_NoCode ?ks_NotHeard_NoLooks ?ne_NotHeard_NoLooks ?ks_NotHeard_NoPlace ?ne_NotHeard_NoPlace ?ks_NotHeard_NoRow ?ne_NotHeard_NoRow ?ks_NotHeard_NoSuch ?ne_NotHeard_NoSuch ?ks_NotHeard_NoText ?ne_NotHeard_NoText ?ks_NotHeard_NoThing ?ne_NotHeard_NoThing ?ks_NotHeard_NoTree ?ne_NotHeard_NoTree ?ks_NotHeard_NoWeb ?ne_NotHeard_NoWeb ?ks_NotHeard_NotHeard ?ks_NotHeard_NotOne ?ne_NotHeard_NotOne ?ks_NotHeard_TooMany ?ne_NotHeard_TooMany ?ks_NotHeard_ValueError ?xc_NoRow ?kp_NoRow ?b_NoRow ?t_NoRow ?hg_NoRow ?hk_NoRow ?hd_NoRow ?ha_NoRow ?hm_NoRow ?ks_NoRow_Apart ?ne_NoRow_Apart ?ks_NoRow_HailError ?ks_NoRow_NoBack ?ne_NoRow_NoBack ?ks_NoRow_NoCode ?ne_NoRow_NoCode ?ks_NoRow_NoLooks ?ne_NoRow_NoLooks ?ks_NoRow_NoPlace ?ne_NoRow_NoPlace ?ks_NoRow_NoRow ?ks_NoRow_NoSuch ?ne_NoRow_NoSuch ?ks_NoRow_NoText ?ne_NoRow_NoText ?ks_NoRow_NoThing ?ne_NoRow_NoThing ?ks_NoRow_NoTree ?ne_NoRow_NoTree ?ks_NoRow_NoWeb ?ne_NoRow_NoWeb ?ks_NoRow_NotHeard ?ne_NoRow_NotHeard ?ks_NoRow_NotOne ?ne_NoRow_NotOne ?ks_NoRow_TooMany ?ne_NoRow_TooMany ?ks_NoRow_ValueError ?xc_NoBack ?kp_NoBack ?b_NoBack ?t_NoBack ?hg_NoBack ?hk_NoBack ?hd_NoBack ?ha_NoBack ?hm_NoBack ?ks_NoBack_Apart ?ne_NoBack_Apart ?ks_NoBack_HailError ?ks_NoBack_NoBack ?ks_NoBack_NoCode ?ne_NoBack_NoCode ?ks_NoBack_NoLooks ?ne_NoBack_NoLooks ?ks_NoBack_NoPlace ?ne_NoBack_NoPlace ?ks_NoBack_NoRow ?ne_NoBack_NoRow ?ks_NoBack_NoSuch ?ne_NoBack_NoSuch ?ks_NoBack_NoText ?ne_NoBack_NoText ?ks_NoBack_NoThing ?ne_NoBack_NoThing ?ks_NoBack_NoTree ?ne_NoBack_NoTree ?ks_NoBack_NoWeb ?ne_NoBack_NoWeb ?ks_NoBack_NotHeard ?ne_NoBack_NotHeard ?ks_NoBack_NotOne ?ne_NoBack_NotOne ?ks_NoBack_TooMany ?ne_NoBack_TooMany ?ks_NoBack_ValueError ?lo_Apart ?rv_Apart ?sa_Apart ?no_Apart ?kp_Apart ?b_Apart ?t_Apart ?hg_Apart ?hk_Apart ?hd_Apart ?ha_Apart ?hm_Apart ?ks_Apart_Apart ?ks_Apart_HailError ?ks_Apart_NoBack ?ne_Apart_NoBack ?ks_Apart_NoCode ?ne_Apart_NoCode ?ks_Apart_NoLooks ?ne_Apart_NoLooks ?ks_Apart_NoPlace ?ne_Apart_NoPlace ?ks_Apart_NoRow ?ne_Apart_NoRow ?ks_Apart_NoSuch ?ne_Apart_NoSuch ?ks_Apart_NoText ?ne_Apart_NoText ?ks_Apart_NoThing ?ne_Apart_NoThing ?ks_Apart_NoTree ?ne_Apart_NoTree ?ks_Apart_NoWeb ?ne_Apart_NoWeb ?ks_Apart_NotHeard ?ne_Apart_NotHeard ?ks_Apart_NotOne ?ne_Apart_NotOne ?ks_Apart_TooMany ?ne_Apart_TooMany ?ks_Apart_ValueError ?lo_NoText ?rv_NoText ?sa_NoText ?no_NoText ?kp_NoText ?b_NoText ?t_NoText ?hg_NoText ?hk_NoText ?hd_NoText ?ha_NoText ?hm_NoText ?ks_NoText_Apart ?ne_NoText_Apart ?ks_NoText_HailError ?ks_NoText_NoBack ?ne_NoText_NoBack ?ks_NoText_NoCode ?ne_NoText_NoCode ?ks_NoText_NoLooks ?ne_NoText_NoLooks ?ks_NoText_NoPlace ?ne_NoText_NoPlace ?ks_NoText_NoRow ?ne_NoText_NoRow ?ks_NoText_NoSuch ?ne_NoText_NoSuch ?ks_NoText_NoText ?ks_NoText_NoThing ?ne_NoText_NoThing ?ks_NoText_NoTree ?ne_NoText_NoTree ?ks_NoText_NoWeb ?ne_NoText_NoWeb ?ks_NoText_NotHeard ?ne_NoText_NotHeard ?ks_NoText_NotOne ?ne_NoText_NotOne ?ks_NoText_TooMany ?ne_NoText_TooMany ?ks_NoText_ValueError ?rd_HailError ?rg_HailError ?fv_HailError ?ic_Apart ?tc_Apart ?ic_HailError ?tc_HailError ?ic_NoBack ?tc_NoBack ?ic_NoCode ?tc_NoCode ?ic_NoLooks ?tc_NoLooks ?ic_NoPlace ?tc_NoPlace ?ic_NoRow ?tc_NoRow ?ic_NoSuch ?tc_NoSuch ?ic_NoText ?tc_NoText ?ic_NoThing ?tc_NoThing ?ic_NoTree ?tc_NoTree ?ic_NoWeb ?tc_NoWeb ?ic_NotHeard ?tc_NotHeard ?ic_NotOne ?tc_NotOne ?ic_TooMany ?tc_TooMany ?hn_ ?ht_ ?z_ValueError ?z_abs ?z_isinstance ?z_len ?z_range ?z_str
    (case a17 => k_is); (case l17 => k_is); (case c17 => k_is); (case k17 => k_is)
    (case a18 => k_is); (case l18 => k_is); (case c18 => k_is); (case k18 => k_is)
    (case a19 => k_is); (case l19 => k_is); (case c19 => k_is); (case k19 => k_is)
    (case a20 => k_is); (case l20 => k_is); (case c20 => k_is); (case k20 => k_is)
    (case ns_HailError => k_is)
    (case ns_NoWeb => k_is)
    (case ns_NoPlace => k_is)
    (case ns_NoThing => k_is)
    (case ns_NoLooks => k_is)
    (case ns_NoTree => k_is)
    (case ns_NotOne => k_is)
    (case ns_NoSuch => k_is)
    (case ns_NoCode => k_is)
    (case ns_TooMany => k_is)
    (case ns_NotHeard => k_is)
    (case ns_NoRow => k_is)
    (case ns_NoBack => k_is)
    (case ns_Apart => k_is)
    (case ns_NoText => k_is)
    (case a15000 => k_is); (case i15000 => k_is); (case l15000 => k_is); (case c15000 => k_is); (case k15000 => k_is)
    (case a16000 => k_is); (case i16000 => k_is); (case l16000 => k_is); (case c16000 => k_is); (case k16000 => k_is)
    (case xc_NoWeb => k_exc)
    (case kp_NoWeb => k_is)
    (case b_NoWeb => k_is)
    (case t_NoWeb => k_is)
    (case hg_NoWeb => k_is)
    (case hk_NoWeb => k_is)
    (case hd_NoWeb => k_is)
    (case ha_NoWeb => k_is)
    (case hm_NoWeb => k_is)
    (case ks_NoWeb_Apart => first | rfl | k_is)
    (case ne_NoWeb_Apart => first | rfl | decide +kernel)
    (case ks_NoWeb_HailError => first | rfl | k_is)
    (case ks_NoWeb_NoBack => first | rfl | k_is)
    (case ne_NoWeb_NoBack => first | rfl | decide +kernel)
    (case ks_NoWeb_NoCode => first | rfl | k_is)
    (case ne_NoWeb_NoCode => first | rfl | decide +kernel)
    (case ks_NoWeb_NoLooks => first | rfl | k_is)
    (case ne_NoWeb_NoLooks => first | rfl | decide +kernel)
    (case ks_NoWeb_NoPlace => first | rfl | k_is)
    (case ne_NoWeb_NoPlace => first | rfl | decide +kernel)
    (case ks_NoWeb_NoRow => first | rfl | k_is)
    (case ne_NoWeb_NoRow => first | rfl | decide +kernel)
    (case ks_NoWeb_NoSuch => first | rfl | k_is)
    (case ne_NoWeb_NoSuch => first | rfl | decide +kernel)
    (case ks_NoWeb_NoText => first | rfl | k_is)
    (case ne_NoWeb_NoText => first | rfl | decide +kernel)
    (case ks_NoWeb_NoThing => first | rfl | k_is)
    (case ne_NoWeb_NoThing => first | rfl | decide +kernel)
    (case ks_NoWeb_NoTree => first | rfl | k_is)
    (case ne_NoWeb_NoTree => first | rfl | decide +kernel)
    (case ks_NoWeb_NoWeb => first | rfl | k_is)
    (case ks_NoWeb_NotHeard => first | rfl | k_is)
    (case ne_NoWeb_NotHeard => first | rfl | decide +kernel)
    (case ks_NoWeb_NotOne => first | rfl | k_is)
    (case ne_NoWeb_NotOne => first | rfl | decide +kernel)
    (case ks_NoWeb_TooMany => first | rfl | k_is)
    (case ne_NoWeb_TooMany => first | rfl | decide +kernel)
    (case ks_NoWeb_ValueError => first | rfl | k_is)
    (case xc_NoPlace => k_exc)
    (case kp_NoPlace => k_is)
    (case b_NoPlace => k_is)
    (case t_NoPlace => k_is)
    (case hg_NoPlace => k_is)
    (case hk_NoPlace => k_is)
    (case hd_NoPlace => k_is)
    (case ha_NoPlace => k_is)
    (case hm_NoPlace => k_is)
    (case ks_NoPlace_Apart => first | rfl | k_is)
    (case ne_NoPlace_Apart => first | rfl | decide +kernel)
    (case ks_NoPlace_HailError => first | rfl | k_is)
    (case ks_NoPlace_NoBack => first | rfl | k_is)
    (case ne_NoPlace_NoBack => first | rfl | decide +kernel)
    (case ks_NoPlace_NoCode => first | rfl | k_is)
    (case ne_NoPlace_NoCode => first | rfl | decide +kernel)
    (case ks_NoPlace_NoLooks => first | rfl | k_is)
    (case ne_NoPlace_NoLooks => first | rfl | decide +kernel)
    (case ks_NoPlace_NoPlace => first | rfl | k_is)
    (case ks_NoPlace_NoRow => first | rfl | k_is)
    (case ne_NoPlace_NoRow => first | rfl | decide +kernel)
    (case ks_NoPlace_NoSuch => first | rfl | k_is)
    (case ne_NoPlace_NoSuch => first | rfl | decide +kernel)
    (case ks_NoPlace_NoText => first | rfl | k_is)
    (case ne_NoPlace_NoText => first | rfl | decide +kernel)
    (case ks_NoPlace_NoThing => first | rfl | k_is)
    (case ne_NoPlace_NoThing => first | rfl | decide +kernel)
    (case ks_NoPlace_NoTree => first | rfl | k_is)
    (case ne_NoPlace_NoTree => first | rfl | decide +kernel)
    (case ks_NoPlace_NoWeb => first | rfl | k_is)
    (case ne_NoPlace_NoWeb => first | rfl | decide +kernel)
    (case ks_NoPlace_NotHeard => first | rfl | k_is)
    (case ne_NoPlace_NotHeard => first | rfl | decide +kernel)
    (case ks_NoPlace_NotOne => first | rfl | k_is)
    (case ne_NoPlace_NotOne => first | rfl | decide +kernel)
    (case ks_NoPlace_TooMany => first | rfl | k_is)
    (case ne_NoPlace_TooMany => first | rfl | decide +kernel)
    (case ks_NoPlace_ValueError => first | rfl | k_is)
    (case xc_NoThing => k_exc)
    (case kp_NoThing => k_is)
    (case b_NoThing => k_is)
    (case t_NoThing => k_is)
    (case hg_NoThing => k_is)
    (case hk_NoThing => k_is)
    (case hd_NoThing => k_is)
    (case ha_NoThing => k_is)
    (case hm_NoThing => k_is)
    (case ks_NoThing_Apart => first | rfl | k_is)
    (case ne_NoThing_Apart => first | rfl | decide +kernel)
    (case ks_NoThing_HailError => first | rfl | k_is)
    (case ks_NoThing_NoBack => first | rfl | k_is)
    (case ne_NoThing_NoBack => first | rfl | decide +kernel)
    (case ks_NoThing_NoCode => first | rfl | k_is)
    (case ne_NoThing_NoCode => first | rfl | decide +kernel)
    (case ks_NoThing_NoLooks => first | rfl | k_is)
    (case ne_NoThing_NoLooks => first | rfl | decide +kernel)
    (case ks_NoThing_NoPlace => first | rfl | k_is)
    (case ne_NoThing_NoPlace => first | rfl | decide +kernel)
    (case ks_NoThing_NoRow => first | rfl | k_is)
    (case ne_NoThing_NoRow => first | rfl | decide +kernel)
    (case ks_NoThing_NoSuch => first | rfl | k_is)
    (case ne_NoThing_NoSuch => first | rfl | decide +kernel)
    (case ks_NoThing_NoText => first | rfl | k_is)
    (case ne_NoThing_NoText => first | rfl | decide +kernel)
    (case ks_NoThing_NoThing => first | rfl | k_is)
    (case ks_NoThing_NoTree => first | rfl | k_is)
    (case ne_NoThing_NoTree => first | rfl | decide +kernel)
    (case ks_NoThing_NoWeb => first | rfl | k_is)
    (case ne_NoThing_NoWeb => first | rfl | decide +kernel)
    (case ks_NoThing_NotHeard => first | rfl | k_is)
    (case ne_NoThing_NotHeard => first | rfl | decide +kernel)
    (case ks_NoThing_NotOne => first | rfl | k_is)
    (case ne_NoThing_NotOne => first | rfl | decide +kernel)
    (case ks_NoThing_TooMany => first | rfl | k_is)
    (case ne_NoThing_TooMany => first | rfl | decide +kernel)
    (case ks_NoThing_ValueError => first | rfl | k_is)
    (case xc_NoLooks => k_exc)
    (case kp_NoLooks => k_is)
    (case b_NoLooks => k_is)
    (case t_NoLooks => k_is)
    (case hg_NoLooks => k_is)
    (case hk_NoLooks => k_is)
    (case hd_NoLooks => k_is)
    (case ha_NoLooks => k_is)
    (case hm_NoLooks => k_is)
    (case ks_NoLooks_Apart => first | rfl | k_is)
    (case ne_NoLooks_Apart => first | rfl | decide +kernel)
    (case ks_NoLooks_HailError => first | rfl | k_is)
    (case ks_NoLooks_NoBack => first | rfl | k_is)
    (case ne_NoLooks_NoBack => first | rfl | decide +kernel)
    (case ks_NoLooks_NoCode => first | rfl | k_is)
    (case ne_NoLooks_NoCode => first | rfl | decide +kernel)
    (case ks_NoLooks_NoLooks => first | rfl | k_is)
    (case ks_NoLooks_NoPlace => first | rfl | k_is)
    (case ne_NoLooks_NoPlace => first | rfl | decide +kernel)
    (case ks_NoLooks_NoRow => first | rfl | k_is)
    (case ne_NoLooks_NoRow => first | rfl | decide +kernel)
    (case ks_NoLooks_NoSuch => first | rfl | k_is)
    (case ne_NoLooks_NoSuch => first | rfl | decide +kernel)
    (case ks_NoLooks_NoText => first | rfl | k_is)
    (case ne_NoLooks_NoText => first | rfl | decide +kernel)
    (case ks_NoLooks_NoThing => first | rfl | k_is)
    (case ne_NoLooks_NoThing => first | rfl | decide +kernel)
    (case ks_NoLooks_NoTree => first | rfl | k_is)
    (case ne_NoLooks_NoTree => first | rfl | decide +kernel)
    (case ks_NoLooks_NoWeb => first | rfl | k_is)
    (case ne_NoLooks_NoWeb => first | rfl | decide +kernel)
    (case ks_NoLooks_NotHeard => first | rfl | k_is)
    (case ne_NoLooks_NotHeard => first | rfl | decide +kernel)
    (case ks_NoLooks_NotOne => first | rfl | k_is)
    (case ne_NoLooks_NotOne => first | rfl | decide +kernel)
    (case ks_NoLooks_TooMany => first | rfl | k_is)
    (case ne_NoLooks_TooMany => first | rfl | decide +kernel)
    (case ks_NoLooks_ValueError => first | rfl | k_is)
    (case xc_NoTree => k_exc)
    (case kp_NoTree => k_is)
    (case b_NoTree => k_is)
    (case t_NoTree => k_is)
    (case hg_NoTree => k_is)
    (case hk_NoTree => k_is)
    (case hd_NoTree => k_is)
    (case ha_NoTree => k_is)
    (case hm_NoTree => k_is)
    (case ks_NoTree_Apart => first | rfl | k_is)
    (case ne_NoTree_Apart => first | rfl | decide +kernel)
    (case ks_NoTree_HailError => first | rfl | k_is)
    (case ks_NoTree_NoBack => first | rfl | k_is)
    (case ne_NoTree_NoBack => first | rfl | decide +kernel)
    (case ks_NoTree_NoCode => first | rfl | k_is)
    (case ne_NoTree_NoCode => first | rfl | decide +kernel)
    (case ks_NoTree_NoLooks => first | rfl | k_is)
    (case ne_NoTree_NoLooks => first | rfl | decide +kernel)
    (case ks_NoTree_NoPlace => first | rfl | k_is)
    (case ne_NoTree_NoPlace => first | rfl | decide +kernel)
    (case ks_NoTree_NoRow => first | rfl | k_is)
    (case ne_NoTree_NoRow => first | rfl | decide +kernel)
    (case ks_NoTree_NoSuch => first | rfl | k_is)
    (case ne_NoTree_NoSuch => first | rfl | decide +kernel)
    (case ks_NoTree_NoText => first | rfl | k_is)
    (case ne_NoTree_NoText => first | rfl | decide +kernel)
    (case ks_NoTree_NoThing => first | rfl | k_is)
    (case ne_NoTree_NoThing => first | rfl | decide +kernel)
    (case ks_NoTree_NoTree => first | rfl | k_is)
    (case ks_NoTree_NoWeb => first | rfl | k_is)
    (case ne_NoTree_NoWeb => first | rfl | decide +kernel)
    (case ks_NoTree_NotHeard => first | rfl | k_is)
    (case ne_NoTree_NotHeard => first | rfl | decide +kernel)
    (case ks_NoTree_NotOne => first | rfl | k_is)
    (case ne_NoTree_NotOne => first | rfl | decide +kernel)
    (case ks_NoTree_TooMany => first | rfl | k_is)
    (case ne_NoTree_TooMany => first | rfl | decide +kernel)
    (case ks_NoTree_ValueError => first | rfl | k_is)
    (case xc_NotOne => k_exc)
    (case kp_NotOne => k_is)
    (case b_NotOne => k_is)
    (case t_NotOne => k_is)
    (case hg_NotOne => k_is)
    (case hk_NotOne => k_is)
    (case hd_NotOne => k_is)
    (case ha_NotOne => k_is)
    (case hm_NotOne => k_is)
    (case ks_NotOne_Apart => first | rfl | k_is)
    (case ne_NotOne_Apart => first | rfl | decide +kernel)
    (case ks_NotOne_HailError => first | rfl | k_is)
    (case ks_NotOne_NoBack => first | rfl | k_is)
    (case ne_NotOne_NoBack => first | rfl | decide +kernel)
    (case ks_NotOne_NoCode => first | rfl | k_is)
    (case ne_NotOne_NoCode => first | rfl | decide +kernel)
    (case ks_NotOne_NoLooks => first | rfl | k_is)
    (case ne_NotOne_NoLooks => first | rfl | decide +kernel)
    (case ks_NotOne_NoPlace => first | rfl | k_is)
    (case ne_NotOne_NoPlace => first | rfl | decide +kernel)
    (case ks_NotOne_NoRow => first | rfl | k_is)
    (case ne_NotOne_NoRow => first | rfl | decide +kernel)
    (case ks_NotOne_NoSuch => first | rfl | k_is)
    (case ne_NotOne_NoSuch => first | rfl | decide +kernel)
    (case ks_NotOne_NoText => first | rfl | k_is)
    (case ne_NotOne_NoText => first | rfl | decide +kernel)
    (case ks_NotOne_NoThing => first | rfl | k_is)
    (case ne_NotOne_NoThing => first | rfl | decide +kernel)
    (case ks_NotOne_NoTree => first | rfl | k_is)
    (case ne_NotOne_NoTree => first | rfl | decide +kernel)
    (case ks_NotOne_NoWeb => first | rfl | k_is)
    (case ne_NotOne_NoWeb => first | rfl | decide +kernel)
    (case ks_NotOne_NotHeard => first | rfl | k_is)
    (case ne_NotOne_NotHeard => first | rfl | decide +kernel)
    (case ks_NotOne_NotOne => first | rfl | k_is)
    (case ks_NotOne_TooMany => first | rfl | k_is)
    (case ne_NotOne_TooMany => first | rfl | decide +kernel)
    (case ks_NotOne_ValueError => first | rfl | k_is)
    (case xc_NoSuch => k_exc)
    (case kp_NoSuch => k_is)
    (case b_NoSuch => k_is)
    (case t_NoSuch => k_is)
    (case hg_NoSuch => k_is)
    (case hk_NoSuch => k_is)
    (case hd_NoSuch => k_is)
    (case ha_NoSuch => k_is)
    (case hm_NoSuch => k_is)
    (case ks_NoSuch_Apart => first | rfl | k_is)
    (case ne_NoSuch_Apart => first | rfl | decide +kernel)
    (case ks_NoSuch_HailError => first | rfl | k_is)
    (case ks_NoSuch_NoBack => first | rfl | k_is)
    (case ne_NoSuch_NoBack => first | rfl | decide +kernel)
    (case ks_NoSuch_NoCode => first | rfl | k_is)
    (case ne_NoSuch_NoCode => first | rfl | decide +kernel)
    (case ks_NoSuch_NoLooks => first | rfl | k_is)
    (case ne_NoSuch_NoLooks => first | rfl | decide +kernel)
    (case ks_NoSuch_NoPlace => first | rfl | k_is)
    (case ne_NoSuch_NoPlace => first | rfl | decide +kernel)
    (case ks_NoSuch_NoRow => first | rfl | k_is)
    (case ne_NoSuch_NoRow => first | rfl | decide +kernel)
    (case ks_NoSuch_NoSuch => first | rfl | k_is)
    (case ks_NoSuch_NoText => first | rfl | k_is)
    (case ne_NoSuch_NoText => first | rfl | decide +kernel)
    (case ks_NoSuch_NoThing => first | rfl | k_is)
    (case ne_NoSuch_NoThing => first | rfl | decide +kernel)
    (case ks_NoSuch_NoTree => first | rfl | k_is)
    (case ne_NoSuch_NoTree => first | rfl | decide +kernel)
    (case ks_NoSuch_NoWeb => first | rfl | k_is)
    (case ne_NoSuch_NoWeb => first | rfl | decide +kernel)
    (case ks_NoSuch_NotHeard => first | rfl | k_is)
    (case ne_NoSuch_NotHeard => first | rfl | decide +kernel)
    (case ks_NoSuch_NotOne => first | rfl | k_is)
    (case ne_NoSuch_NotOne => first | rfl | decide +kernel)
    (case ks_NoSuch_TooMany => first | rfl | k_is)
    (case ne_NoSuch_TooMany => first | rfl | decide +kernel)
    (case ks_NoSuch_ValueError => first | rfl | k_is)
    (case xc_NoCode => k_exc)
    (case kp_NoCode => k_is)
    (case b_NoCode => k_is)
    (case t_NoCode => k_is)
    (case hg_NoCode => k_is)
    (case hk_NoCode => k_is)
    (case hd_NoCode => k_is)
    (case ha_NoCode => k_is)
    (case hm_NoCode => k_is)
    (case ks_NoCode_Apart => first | rfl | k_is)
    (case ne_NoCode_Apart => first | rfl | decide +kernel)
    (case ks_NoCode_HailError => first | rfl | k_is)
    (case ks_NoCode_NoBack => first | rfl | k_is)
    (case ne_NoCode_NoBack => first | rfl | decide +kernel)
    (case ks_NoCode_NoCode => first | rfl | k_is)
    (case ks_NoCode_NoLooks => first | rfl | k_is)
    (case ne_NoCode_NoLooks => first | rfl | decide +kernel)
    (case ks_NoCode_NoPlace => first | rfl | k_is)
    (case ne_NoCode_NoPlace => first | rfl | decide +kernel)
    (case ks_NoCode_NoRow => first | rfl | k_is)
    (case ne_NoCode_NoRow => first | rfl | decide +kernel)
    (case ks_NoCode_NoSuch => first | rfl | k_is)
    (case ne_NoCode_NoSuch => first | rfl | decide +kernel)
    (case ks_NoCode_NoText => first | rfl | k_is)
    (case ne_NoCode_NoText => first | rfl | decide +kernel)
    (case ks_NoCode_NoThing => first | rfl | k_is)
    (case ne_NoCode_NoThing => first | rfl | decide +kernel)
    (case ks_NoCode_NoTree => first | rfl | k_is)
    (case ne_NoCode_NoTree => first | rfl | decide +kernel)
    (case ks_NoCode_NoWeb => first | rfl | k_is)
    (case ne_NoCode_NoWeb => first | rfl | decide +kernel)
    (case ks_NoCode_NotHeard => first | rfl | k_is)
    (case ne_NoCode_NotHeard => first | rfl | decide +kernel)
    (case ks_NoCode_NotOne => first | rfl | k_is)
    (case ne_NoCode_NotOne => first | rfl | decide +kernel)
    (case ks_NoCode_TooMany => first | rfl | k_is)
    (case ne_NoCode_TooMany => first | rfl | decide +kernel)
    (case ks_NoCode_ValueError => first | rfl | k_is)
    (case xc_TooMany => k_exc)
    (case kp_TooMany => k_is)
    (case b_TooMany => k_is)
    (case t_TooMany => k_is)
    (case hg_TooMany => k_is)
    (case hk_TooMany => k_is)
    (case hd_TooMany => k_is)
    (case ha_TooMany => k_is)
    (case hm_TooMany => k_is)
    (case ks_TooMany_Apart => first | rfl | k_is)
    (case ne_TooMany_Apart => first | rfl | decide +kernel)
    (case ks_TooMany_HailError => first | rfl | k_is)
    (case ks_TooMany_NoBack => first | rfl | k_is)
    (case ne_TooMany_NoBack => first | rfl | decide +kernel)
    (case ks_TooMany_NoCode => first | rfl | k_is)
    (case ne_TooMany_NoCode => first | rfl | decide +kernel)
    (case ks_TooMany_NoLooks => first | rfl | k_is)
    (case ne_TooMany_NoLooks => first | rfl | decide +kernel)
    (case ks_TooMany_NoPlace => first | rfl | k_is)
    (case ne_TooMany_NoPlace => first | rfl | decide +kernel)
    (case ks_TooMany_NoRow => first | rfl | k_is)
    (case ne_TooMany_NoRow => first | rfl | decide +kernel)
    (case ks_TooMany_NoSuch => first | rfl | k_is)
    (case ne_TooMany_NoSuch => first | rfl | decide +kernel)
    (case ks_TooMany_NoText => first | rfl | k_is)
    (case ne_TooMany_NoText => first | rfl | decide +kernel)
    (case ks_TooMany_NoThing => first | rfl | k_is)
    (case ne_TooMany_NoThing => first | rfl | decide +kernel)
    (case ks_TooMany_NoTree => first | rfl | k_is)
    (case ne_TooMany_NoTree => first | rfl | decide +kernel)
    (case ks_TooMany_NoWeb => first | rfl | k_is)
    (case ne_TooMany_NoWeb => first | rfl | decide +kernel)
    (case ks_TooMany_NotHeard => first | rfl | k_is)
    (case ne_TooMany_NotHeard => first | rfl | decide +kernel)
    (case ks_TooMany_NotOne => first | rfl | k_is)
    (case ne_TooMany_NotOne => first | rfl | decide +kernel)
    (case ks_TooMany_TooMany => first | rfl | k_is)
    (case ks_TooMany_ValueError => first | rfl | k_is)
    (case xc_NotHeard => k_exc)
    (case kp_NotHeard => k_is)
    (case b_NotHeard => k_is)
    (case t_NotHeard => k_is)
    (case hg_NotHeard => k_is)
    (case hk_NotHeard => k_is)
    (case hd_NotHeard => k_is)
    (case ha_NotHeard => k_is)
    (case hm_NotHeard => k_is)
    (case ks_NotHeard_Apart => first | rfl | k_is)
    (case ne_NotHeard_Apart => first | rfl | decide +kernel)
    (case ks_NotHeard_HailError => first | rfl | k_is)
    (case ks_NotHeard_NoBack => first | rfl | k_is)
    (case ne_NotHeard_NoBack => first | rfl | decide +kernel)
    (case ks_NotHeard_NoCode => first | rfl | k_is)
    (case ne_NotHeard_NoCode => first | rfl | decide +kernel)
    (case ks_NotHeard_NoLooks => first | rfl | k_is)
    (case ne_NotHeard_NoLooks => first | rfl | decide +kernel)
    (case ks_NotHeard_NoPlace => first | rfl | k_is)
    (case ne_NotHeard_NoPlace => first | rfl | decide +kernel)
    (case ks_NotHeard_NoRow => first | rfl | k_is)
    (case ne_NotHeard_NoRow => first | rfl | decide +kernel)
    (case ks_NotHeard_NoSuch => first | rfl | k_is)
    (case ne_NotHeard_NoSuch => first | rfl | decide +kernel)
    (case ks_NotHeard_NoText => first | rfl | k_is)
    (case ne_NotHeard_NoText => first | rfl | decide +kernel)
    (case ks_NotHeard_NoThing => first | rfl | k_is)
    (case ne_NotHeard_NoThing => first | rfl | decide +kernel)
    (case ks_NotHeard_NoTree => first | rfl | k_is)
    (case ne_NotHeard_NoTree => first | rfl | decide +kernel)
    (case ks_NotHeard_NoWeb => first | rfl | k_is)
    (case ne_NotHeard_NoWeb => first | rfl | decide +kernel)
    (case ks_NotHeard_NotHeard => first | rfl | k_is)
    (case ks_NotHeard_NotOne => first | rfl | k_is)
    (case ne_NotHeard_NotOne => first | rfl | decide +kernel)
    (case ks_NotHeard_TooMany => first | rfl | k_is)
    (case ne_NotHeard_TooMany => first | rfl | decide +kernel)
    (case ks_NotHeard_ValueError => first | rfl | k_is)
    (case xc_NoRow => k_exc)
    (case kp_NoRow => k_is)
    (case b_NoRow => k_is)
    (case t_NoRow => k_is)
    (case hg_NoRow => k_is)
    (case hk_NoRow => k_is)
    (case hd_NoRow => k_is)
    (case ha_NoRow => k_is)
    (case hm_NoRow => k_is)
    (case ks_NoRow_Apart => first | rfl | k_is)
    (case ne_NoRow_Apart => first | rfl | decide +kernel)
    (case ks_NoRow_HailError => first | rfl | k_is)
    (case ks_NoRow_NoBack => first | rfl | k_is)
    (case ne_NoRow_NoBack => first | rfl | decide +kernel)
    (case ks_NoRow_NoCode => first | rfl | k_is)
    (case ne_NoRow_NoCode => first | rfl | decide +kernel)
    (case ks_NoRow_NoLooks => first | rfl | k_is)
    (case ne_NoRow_NoLooks => first | rfl | decide +kernel)
    (case ks_NoRow_NoPlace => first | rfl | k_is)
    (case ne_NoRow_NoPlace => first | rfl | decide +kernel)
    (case ks_NoRow_NoRow => first | rfl | k_is)
    (case ks_NoRow_NoSuch => first | rfl | k_is)
    (case ne_NoRow_NoSuch => first | rfl | decide +kernel)
    (case ks_NoRow_NoText => first | rfl | k_is)
    (case ne_NoRow_NoText => first | rfl | decide +kernel)
    (case ks_NoRow_NoThing => first | rfl | k_is)
    (case ne_NoRow_NoThing => first | rfl | decide +kernel)
    (case ks_NoRow_NoTree => first | rfl | k_is)
    (case ne_NoRow_NoTree => first | rfl | decide +kernel)
    (case ks_NoRow_NoWeb => first | rfl | k_is)
    (case ne_NoRow_NoWeb => first | rfl | decide +kernel)
    (case ks_NoRow_NotHeard => first | rfl | k_is)
    (case ne_NoRow_NotHeard => first | rfl | decide +kernel)
    (case ks_NoRow_NotOne => first | rfl | k_is)
    (case ne_NoRow_NotOne => first | rfl | decide +kernel)
    (case ks_NoRow_TooMany => first | rfl | k_is)
    (case ne_NoRow_TooMany => first | rfl | decide +kernel)
    (case ks_NoRow_ValueError => first | rfl | k_is)
    (case xc_NoBack => k_exc)
    (case kp_NoBack => k_is)
    (case b_NoBack => k_is)
    (case t_NoBack => k_is)
    (case hg_NoBack => k_is)
    (case hk_NoBack => k_is)
    (case hd_NoBack => k_is)
    (case ha_NoBack => k_is)
    (case hm_NoBack => k_is)
    (case ks_NoBack_Apart => first | rfl | k_is)
    (case ne_NoBack_Apart => first | rfl | decide +kernel)
    (case ks_NoBack_HailError => first | rfl | k_is)
    (case ks_NoBack_NoBack => first | rfl | k_is)
    (case ks_NoBack_NoCode => first | rfl | k_is)
    (case ne_NoBack_NoCode => first | rfl | decide +kernel)
    (case ks_NoBack_NoLooks => first | rfl | k_is)
    (case ne_NoBack_NoLooks => first | rfl | decide +kernel)
    (case ks_NoBack_NoPlace => first | rfl | k_is)
    (case ne_NoBack_NoPlace => first | rfl | decide +kernel)
    (case ks_NoBack_NoRow => first | rfl | k_is)
    (case ne_NoBack_NoRow => first | rfl | decide +kernel)
    (case ks_NoBack_NoSuch => first | rfl | k_is)
    (case ne_NoBack_NoSuch => first | rfl | decide +kernel)
    (case ks_NoBack_NoText => first | rfl | k_is)
    (case ne_NoBack_NoText => first | rfl | decide +kernel)
    (case ks_NoBack_NoThing => first | rfl | k_is)
    (case ne_NoBack_NoThing => first | rfl | decide +kernel)
    (case ks_NoBack_NoTree => first | rfl | k_is)
    (case ne_NoBack_NoTree => first | rfl | decide +kernel)
    (case ks_NoBack_NoWeb => first | rfl | k_is)
    (case ne_NoBack_NoWeb => first | rfl | decide +kernel)
    (case ks_NoBack_NotHeard => first | rfl | k_is)
    (case ne_NoBack_NotHeard => first | rfl | decide +kernel)
    (case ks_NoBack_NotOne => first | rfl | k_is)
    (case ne_NoBack_NotOne => first | rfl | decide +kernel)
    (case ks_NoBack_TooMany => first | rfl | k_is)
    (case ne_NoBack_TooMany => first | rfl | decide +kernel)
    (case ks_NoBack_ValueError => first | rfl | k_is)
    (case lo_Apart => k_is)
    (case rv_Apart => first | rfl | decide)
    (case sa_Apart => k_is)
    (case no_Apart => k_is)
    (case kp_Apart => k_is)
    (case b_Apart => k_is)
    (case t_Apart => k_is)
    (case hg_Apart => k_is)
    (case hk_Apart => k_is)
    (case hd_Apart => k_is)
    (case ha_Apart => k_is)
    (case hm_Apart => k_is)
    (case ks_Apart_Apart => first | rfl | k_is)
    (case ks_Apart_HailError => first | rfl | k_is)
    (case ks_Apart_NoBack => first | rfl | k_is)
    (case ne_Apart_NoBack => first | rfl | decide +kernel)
    (case ks_Apart_NoCode => first | rfl | k_is)
    (case ne_Apart_NoCode => first | rfl | decide +kernel)
    (case ks_Apart_NoLooks => first | rfl | k_is)
    (case ne_Apart_NoLooks => first | rfl | decide +kernel)
    (case ks_Apart_NoPlace => first | rfl | k_is)
    (case ne_Apart_NoPlace => first | rfl | decide +kernel)
    (case ks_Apart_NoRow => first | rfl | k_is)
    (case ne_Apart_NoRow => first | rfl | decide +kernel)
    (case ks_Apart_NoSuch => first | rfl | k_is)
    (case ne_Apart_NoSuch => first | rfl | decide +kernel)
    (case ks_Apart_NoText => first | rfl | k_is)
    (case ne_Apart_NoText => first | rfl | decide +kernel)
    (case ks_Apart_NoThing => first | rfl | k_is)
    (case ne_Apart_NoThing => first | rfl | decide +kernel)
    (case ks_Apart_NoTree => first | rfl | k_is)
    (case ne_Apart_NoTree => first | rfl | decide +kernel)
    (case ks_Apart_NoWeb => first | rfl | k_is)
    (case ne_Apart_NoWeb => first | rfl | decide +kernel)
    (case ks_Apart_NotHeard => first | rfl | k_is)
    (case ne_Apart_NotHeard => first | rfl | decide +kernel)
    (case ks_Apart_NotOne => first | rfl | k_is)
    (case ne_Apart_NotOne => first | rfl | decide +kernel)
    (case ks_Apart_TooMany => first | rfl | k_is)
    (case ne_Apart_TooMany => first | rfl | decide +kernel)
    (case ks_Apart_ValueError => first | rfl | k_is)
    (case lo_NoText => k_is)
    (case rv_NoText => first | rfl | decide)
    (case sa_NoText => k_is)
    (case no_NoText => k_is)
    (case kp_NoText => k_is)
    (case b_NoText => k_is)
    (case t_NoText => k_is)
    (case hg_NoText => k_is)
    (case hk_NoText => k_is)
    (case hd_NoText => k_is)
    (case ha_NoText => k_is)
    (case hm_NoText => k_is)
    (case ks_NoText_Apart => first | rfl | k_is)
    (case ne_NoText_Apart => first | rfl | decide +kernel)
    (case ks_NoText_HailError => first | rfl | k_is)
    (case ks_NoText_NoBack => first | rfl | k_is)
    (case ne_NoText_NoBack => first | rfl | decide +kernel)
    (case ks_NoText_NoCode => first | rfl | k_is)
    (case ne_NoText_NoCode => first | rfl | decide +kernel)
    (case ks_NoText_NoLooks => first | rfl | k_is)
    (case ne_NoText_NoLooks => first | rfl | decide +kernel)
    (case ks_NoText_NoPlace => first | rfl | k_is)
    (case ne_NoText_NoPlace => first | rfl | decide +kernel)
    (case ks_NoText_NoRow => first | rfl | k_is)
    (case ne_NoText_NoRow => first | rfl | decide +kernel)
    (case ks_NoText_NoSuch => first | rfl | k_is)
    (case ne_NoText_NoSuch => first | rfl | decide +kernel)
    (case ks_NoText_NoText => first | rfl | k_is)
    (case ks_NoText_NoThing => first | rfl | k_is)
    (case ne_NoText_NoThing => first | rfl | decide +kernel)
    (case ks_NoText_NoTree => first | rfl | k_is)
    (case ne_NoText_NoTree => first | rfl | decide +kernel)
    (case ks_NoText_NoWeb => first | rfl | k_is)
    (case ne_NoText_NoWeb => first | rfl | decide +kernel)
    (case ks_NoText_NotHeard => first | rfl | k_is)
    (case ne_NoText_NotHeard => first | rfl | decide +kernel)
    (case ks_NoText_NotOne => first | rfl | k_is)
    (case ne_NoText_NotOne => first | rfl | decide +kernel)
    (case ks_NoText_TooMany => first | rfl | k_is)
    (case ne_NoText_TooMany => first | rfl | decide +kernel)
    (case ks_NoText_ValueError => first | rfl | k_is)
    (case rd_HailError => k_is)
    (case rg_HailError => k_is)
    (case fv_HailError => k_is)
    (case ic_Apart => k_is)
    (case tc_Apart => k_is)
    (case ic_HailError => k_is)
    (case tc_HailError => k_is)
    (case ic_NoBack => k_is)
    (case tc_NoBack => k_is)
    (case ic_NoCode => k_is)
    (case tc_NoCode => k_is)
    (case ic_NoLooks => k_is)
    (case tc_NoLooks => k_is)
    (case ic_NoPlace => k_is)
    (case tc_NoPlace => k_is)
    (case ic_NoRow => k_is)
    (case tc_NoRow => k_is)
    (case ic_NoSuch => k_is)
    (case tc_NoSuch => k_is)
    (case ic_NoText => k_is)
    (case tc_NoText => k_is)
    (case ic_NoThing => k_is)
    (case tc_NoThing => k_is)
    (case ic_NoTree => k_is)
    (case tc_NoTree => k_is)
    (case ic_NoWeb => k_is)
    (case tc_NoWeb => k_is)
    (case ic_NotHeard => k_is)
    (case tc_NotHeard => k_is)
    (case ic_NotOne => k_is)
    (case tc_NotOne => k_is)
    (case ic_TooMany => k_is)
    (case tc_TooMany => k_is)
    (case hn_ => k_is)
    (case ht_ => k_is)
    (case z_ValueError => k_is)
    (case z_abs => k_is)
    (case z_isinstance => k_is)
    (case z_len => k_is)
    (case z_range => k_is)
    (case z_str => k_is)
#print axioms PySem.Challenge.cw_farhail_k01_refusals_stand_alone_holds
