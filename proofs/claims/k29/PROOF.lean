import PyProof.Rows.All
import Wide.All
import OpenK.AllK
import Wide.FinOn
import HandS.ForMost
import HandS.Walk
import HandS.Deep
import HandS.SortInts
import HandS.Flow
import HandS.IsInst
import PyProof.P3In
import HandS.TupSets
import HandS.Dict
import HandS.Conv
import HandS.SortRule
import KE.KIsAll
import HandS.Base
import HandS.Call
import HandS.Exc
import HandS.ExcOwn
import HandS.ExcIs
import HandS.ExcValue
import HandS.TryOnly
import HandS.WordsExc
import PySem.Challenge.RW_farhail_k29_choices_of_no_trees
set_option Elab.async false
set_option linter.all false
set_option maxRecDepth 100000
set_option maxHeartbeats 4000000
/-! Z0: results with refusals, data as it stands in a heap, the heap in a frozen part and cells of one's own -/
namespace Z
open PySem L2

abbrev Fg := PySem.W.Frag

/-! ### results -/
structure Exn where
  cls : Str
  arg : Int
  deriving DecidableEq

inductive R (α : Type) where
  | ok (a : α)
  | exc (e : Exn)
  | bad

def R.bind {α β : Type} (m : R α) (f : α → R β) : R β :=
  match m with
  | .ok a => f a
  | .exc e => .exc e
  | .bad => .bad
instance : Monad R where
  pure := R.ok
  bind := R.bind
section
variable {α β γ : Type}
theorem ok_bind (a : α) (f : α → R β) : (R.ok a >>= f) = f a := rfl
theorem pure_bind' (a : α) (f : α → R β) : ((pure a : R α) >>= f) = f a := rfl
theorem exc_bind (e : Exn) (f : α → R β) : ((R.exc e : R α) >>= f) = R.exc e := rfl
theorem bad_bind (f : α → R β) : ((R.bad : R α) >>= f) = R.bad := rfl
theorem pure_ok (a : α) : (pure a : R α) = R.ok a := rfl
theorem bind_bind (m : R α) (f : α → R β) (g : β → R γ) : ((m >>= f) >>= g) = (m >>= fun a => f a >>= g) := by
  cases m <;> rfl
theorem bind_ok_iff {m : R α} {f : α → R β} {b : β} : (m >>= f) = R.ok b ↔ ∃ a, m = R.ok a ∧ f a = R.ok b := by
  cases m with
  | ok a => exact ⟨fun h => ⟨a, rfl, h⟩, fun ⟨_, h1, h2⟩ => by cases h1; exact h2⟩
  | exc e => exact ⟨fun h => (nomatch (show R.exc e = R.ok b from h)), fun ⟨_, h1, _⟩ => nomatch h1⟩
  | bad => exact ⟨fun h => (nomatch (show R.bad = R.ok b from h)), fun ⟨_, h1, _⟩ => nomatch h1⟩
def grd (b : Bool) : R Unit := if b = true then .ok () else .bad
theorem grd_t {b : Bool} (h : b = true) : grd b = R.ok () := by rw [h]; rfl
def ofO (o : Option α) : R α :=
  match o with
  | some a => .ok a
  | none => .bad
theorem ofO_some (a : α) : ofO (some a) = R.ok a := rfl
/-- the item at an index of any sign -/
def getI (xs : List α) (i : Int) : R α := ofO (atI xs i)
/-- the list with another item at an index -/
def setI (xs : List α) (i : Int) (x : α) : R (List α) :=
  match ixN xs.length i with
  | some j => .ok (xs.set j x)
  | none => .bad
/-- a list of at most a thousand items grows by one -/
def app (xs : List α) (x : α) : R (List α) := if xs.length < 100000 then .ok (xs ++ [x]) else .bad
def extend (xs ys : List α) : R (List α) := if xs.length + ys.length < 100000 then .ok (xs ++ ys) else .bad
def mulI (i j : Int) : R Int := if (-(2 ^ 64) < i ∧ i < 2 ^ 64) ∨ (-(2 ^ 64) < j ∧ j < 2 ^ 64) then .ok (i * j) else .bad
def modI (i j : Int) : R Int := if 0 < j then .ok (i % j) else .bad
def divI (i j : Int) : R Int := if 0 < j ∧ j < 1073741824 then .ok (i / j) else .bad
def powI (i j : Int) : R Int := if 0 ≤ j ∧ j ≤ 1000000 ∧ i.natAbs < 2 ^ 64 then .ok (i ^ j.toNat) else .bad
/-- the ints from i on below j -/
def rng (i j : Int) : List Int := (List.range (j - i).toNat).map fun (k : Nat) => i + (k : Int)
def rngI (i j : Int) : R (List Int) := if -(2 ^ 62) ≤ i ∧ i < 2 ^ 62 ∧ -(2 ^ 62) ≤ j ∧ j < 2 ^ 62 then .ok (rng i j) else .bad
/-- items for items -/
def mapR (f : α → R β) : List α → R (List β)
  | [] => .ok []
  | x :: xs => do
    let y ← f x
    let ys ← mapR f xs
    pure (y :: ys)
/-- a fold whose turn may leave -/
def foldR (f : β → α → R β) : β → List α → R β
  | s, [] => .ok s
  | s, x :: xs => f s x >>= fun s' => foldR f s' xs
/-- a fold whose turn may end the whole with a value (inl), or the loop alone (inr inl) -/
def foldX {ρ : Type} (f : β → α → R (Sum ρ (Bool × β))) : β → List α → R (Sum ρ β)
  | s, [] => .ok (.inr s)
  | s, x :: xs => f s x >>= fun r =>
    match r with
    | .inl z => .ok (.inl z)
    | .inr (true, s') => foldX f s' xs
    | .inr (false, s') => .ok (.inr s')
/-- what holds of a result -/
def Post (m : R α) (P : α → Prop) (E : Exn → Prop) : Prop :=
  match m with
  | .ok a => P a
  | .exc e => E e
  | .bad => False
variable {P P' : α → Prop} {Q : β → Prop} {E E' : Exn → Prop}
theorem Post.mono {m : R α} (h : Post m P E) (hP : ∀ a, P a → P' a) (hE : ∀ e, E e → E' e) : Post m P' E' := by
  cases m with
  | ok a => exact hP a h
  | exc e => exact hE e h
  | bad => exact h
theorem post_bind {m : R α} {f : α → R β} (h : Post (m >>= f) Q E) : Post m (fun a => Post (f a) Q E) E := by
  cases m <;> exact h
theorem post_ok {a : α} (h : Post (R.ok a) P E) : P a := h
theorem pb_ok {a : α} {f : α → R β} (h : Post (R.ok a >>= f) Q E) : Post (f a) Q E := h
theorem pb_pure {a : α} {f : α → R β} (h : Post ((pure a : R α) >>= f) Q E) : Post (f a) Q E := h
theorem pb_assoc {m : R α} {f : α → R β} {g : β → R γ} {Q : γ → Prop} (h : Post ((m >>= f) >>= g) Q E) : Post (m >>= fun a => f a >>= g) Q E := by
  rw [bind_bind] at h
  exact h
theorem pb_grd {b : Bool} {f : Unit → R β} (h : Post (grd b >>= f) Q E) : b = true ∧ Post (f ()) Q E := by
  cases b with
  | true => exact ⟨rfl, h⟩
  | false => exact (show False from h).elim
theorem pb_ofO {o : Option α} {f : α → R β} (h : Post (ofO o >>= f) Q E) : ∃ a, o = some a ∧ Post (f a) Q E := by
  cases o with
  | some a => exact ⟨a, rfl, h⟩
  | none => exact (show False from h).elim
theorem pb_get {xs : List α} {i : Int} {f : α → R β} (h : Post (getI xs i >>= f) Q E) : ∃ a, atI xs i = some a ∧ Post (f a) Q E := pb_ofO h
theorem pb_set {xs : List α} {i : Int} {x : α} {f : List α → R β} (h : Post (setI xs i x >>= f) Q E) : ∃ j, ixN xs.length i = some j ∧ Post (f (xs.set j x)) Q E := by
  unfold setI at h
  cases e : ixN xs.length i with
  | some j => rw [e] at h; exact ⟨j, rfl, h⟩
  | none => rw [e] at h; exact (show False from h).elim
theorem pb_if {c : Prop} [Decidable c] {a : α} {f : α → R β} (h : Post ((if c then R.ok a else R.bad) >>= f) Q E) : c ∧ Post (f a) Q E := by
  by_cases hc : c
  · rw [if_pos hc] at h
    exact ⟨hc, h⟩
  · rw [if_neg hc] at h
    exact (show False from h).elim
theorem line5 : 100000 ≤ sizeLine := by decide
theorem pb_app {xs : List α} {x : α} {f : List α → R β} (h : Post (app xs x >>= f) Q E) : xs.length < sizeLine ∧ Post (f (xs ++ [x])) Q E :=
  let ⟨a, b⟩ := pb_if h
  ⟨Nat.lt_of_lt_of_le a line5, b⟩
theorem pb_extend {xs ys : List α} {f : List α → R β} (h : Post (extend xs ys >>= f) Q E) : xs.length + ys.length ≤ sizeLine ∧ Post (f (xs ++ ys)) Q E :=
  let ⟨a, b⟩ := pb_if h
  ⟨Nat.le_of_lt (Nat.lt_of_lt_of_le a line5), b⟩
theorem pb_mul {i j : Int} {f : Int → R β} (h : Post (mulI i j >>= f) Q E) : CMul i j ∧ Post (f (i * j)) Q E :=
  let ⟨a, b⟩ := pb_if (c := (-(2 ^ 64) < i ∧ i < 2 ^ 64) ∨ (-(2 ^ 64) < j ∧ j < 2 ^ 64)) h
  ⟨a, b⟩
theorem pb_mod {i j : Int} {f : Int → R β} (h : Post (modI i j >>= f) Q E) : 0 < j ∧ Post (f (i % j)) Q E := pb_if h
theorem pb_div {i j : Int} {f : Int → R β} (h : Post (divI i j >>= f) Q E) : CDiv i j ∧ Post (f (i / j)) Q E :=
  let ⟨a, b⟩ := pb_if (c := 0 < j ∧ j < 1073741824) h
  ⟨a, b⟩
theorem pb_pow {i j : Int} {f : Int → R β} (h : Post (powI i j >>= f) Q E) : CPow i j ∧ Post (f (i ^ j.toNat)) Q E :=
  let ⟨a, b⟩ := pb_if (c := 0 ≤ j ∧ j ≤ 1000000 ∧ i.natAbs < 2 ^ 64) h
  ⟨a, b⟩
theorem pb_rng {i j : Int} {f : List Int → R β} (h : Post (rngI i j >>= f) Q E) : (-(2 ^ 62) ≤ i ∧ i < 2 ^ 62 ∧ -(2 ^ 62) ≤ j ∧ j < 2 ^ 62) ∧ Post (f (rng i j)) Q E := pb_if h
theorem post_ite {c : Bool} {m n : R α} {A B : Prop} (h : Post (if c = true then m else n) P E) (ht : c = true → Post m P E → A) (hf : c = false → Post n P E → B) : if c = true then A else B := by
  cases c with
  | true => exact ht rfl h
  | false => exact hf rfl h
theorem post_ite2 {c : Bool} {m n : R α} {A : Prop} (h : Post (if c = true then m else n) P E) (ht : c = true → Post m P E → A) (hf : c = false → Post n P E → A) : A := by
  cases c with
  | true => exact ht rfl h
  | false => exact hf rfl h
theorem pb_ite {c : Bool} {m n : R α} {f : α → R β} (h : Post ((if c = true then m else n) >>= f) Q E) : Post (if c = true then m >>= f else n >>= f) Q E := by
  cases c <;> exact h
theorem pb_foldR {f : γ → α → R γ} {s : γ} {x : α} {xs : List α} {g : γ → R β} (h : Post (foldR f s (x :: xs) >>= g) Q E) : Post (f s x >>= fun s' => foldR f s' xs >>= g) Q E := by
  have h' : Post ((f s x >>= fun s' => foldR f s' xs) >>= g) Q E := h
  rw [bind_bind] at h'
  exact h'
end

/-! ### lists of values and what they stand for -/
inductive A2 {α : Type} (r : V → α → Prop) : List V → List α → Prop
  | nil : A2 r [] []
  | cons {v : V} {x : α} {vs : List V} {xs : List α} : r v x → A2 r vs xs → A2 r (v :: vs) (x :: xs)
section
variable {α : Type} {r r' : V → α → Prop} {vs us : List V} {xs ys : List α} {v : V} {x : α}
theorem A2.length : ∀ {vs : List V} {xs : List α}, A2 r vs xs → vs.length = xs.length
  | _, _, .nil => rfl
  | _, _, .cons _ t => by rw [List.length_cons, List.length_cons, A2.length t]
theorem A2.imp (f : ∀ v x, r v x → r' v x) : ∀ {vs : List V} {xs : List α}, A2 r vs xs → A2 r' vs xs
  | _, _, .nil => .nil
  | _, _, .cons h t => .cons (f _ _ h) (A2.imp f t)
theorem A2.append : ∀ {vs us : List V} {xs ys : List α}, A2 r vs xs → A2 r us ys → A2 r (vs ++ us) (xs ++ ys)
  | _, _, _, _, .nil, h => h
  | _, _, _, _, .cons a t, h => .cons a (A2.append t h)
theorem A2.snoc (h : A2 r vs xs) (a : r v x) : A2 r (vs ++ [v]) (xs ++ [x]) := h.append (.cons a .nil)
theorem A2.get : ∀ {vs : List V} {xs : List α} {i : Nat} {x : α}, A2 r vs xs → xs[i]? = some x → ∃ v, vs[i]? = some v ∧ r v x
  | _, _, _, _, .nil, e => by simp at e
  | _, _, 0, _, .cons a _, e => by simp at e; subst e; exact ⟨_, rfl, a⟩
  | _, _, i + 1, x, .cons _ t, e => by
    obtain ⟨v, h1, h2⟩ := A2.get (i := i) (x := x) t (by simpa using e)
    exact ⟨v, by simpa using h1, h2⟩
theorem A2.getV : ∀ {vs : List V} {xs : List α} {i : Nat} {v : V}, A2 r vs xs → vs[i]? = some v → ∃ x, xs[i]? = some x ∧ r v x
  | _, _, _, _, .nil, e => by simp at e
  | _, _, 0, _, .cons a _, e => by simp at e; subst e; exact ⟨_, rfl, a⟩
  | _, _, i + 1, x, .cons _ t, e => by
    obtain ⟨v, h1, h2⟩ := A2.getV (i := i) (v := x) t (by simpa using e)
    exact ⟨v, by simpa using h1, h2⟩
theorem A2.at {i : Int} (h : A2 r vs xs) (e : atI xs i = some x) : ∃ v, atI vs i = some v ∧ r v x := by
  unfold atI at e ⊢
  rw [h.length]
  cases q : ixN xs.length i with
  | none => rw [q] at e; cases e
  | some j =>
    rw [q] at e
    exact h.get e
theorem A2.set (a : r v x) : ∀ {vs : List V} {xs : List α} (i : Nat), A2 r vs xs → A2 r (vs.set i v) (xs.set i x)
  | _, _, _, .nil => .nil
  | _, _, 0, .cons _ t => .cons a t
  | _, _, i + 1, .cons q t => .cons q (A2.set a i t)
theorem A2.take : ∀ {vs : List V} {xs : List α} (n : Nat), A2 r vs xs → A2 r (vs.take n) (xs.take n)
  | _, _, 0, _ => .nil
  | _, _, _ + 1, .nil => .nil
  | _, _, n + 1, .cons a t => .cons a (A2.take n t)
theorem A2.drop : ∀ {vs : List V} {xs : List α} (n : Nat), A2 r vs xs → A2 r (vs.drop n) (xs.drop n)
  | _, _, 0, h => h
  | _, _, _ + 1, .nil => .nil
  | _, _, n + 1, .cons _ t => A2.drop n t
theorem A2.reverse : ∀ {vs : List V} {xs : List α}, A2 r vs xs → A2 r vs.reverse xs.reverse
  | _, _, .nil => .nil
  | _, _, .cons a t => by
    rw [List.reverse_cons, List.reverse_cons]
    exact (A2.reverse t).snoc a
theorem A2.eraseIdx : ∀ {vs : List V} {xs : List α} (i : Nat), A2 r vs xs → A2 r (vs.eraseIdx i) (xs.eraseIdx i)
  | _, _, _, .nil => .nil
  | _, _, 0, .cons _ t => t
  | _, _, i + 1, .cons a t => .cons a (A2.eraseIdx i t)
theorem A2.dropLast : ∀ {vs : List V} {xs : List α}, A2 r vs xs → A2 r vs.dropLast xs.dropLast
  | _, _, .nil => .nil
  | _, _, .cons _ .nil => .nil
  | _, _, .cons a (.cons b t) => .cons a (A2.dropLast (.cons b t))
theorem A2.repl {n : Nat} (a : r v x) : A2 r (List.replicate n v) (List.replicate n x) := by
  induction n with
  | zero => exact .nil
  | succ n ih => exact .cons a ih
end

/-! ### data in a heap -/
theorem Same.seqT {K : Fg} {H H' : Hp} {a : Addr} {xs : List V} (e : Same H H') (h : SqT K H a xs) : SqT K H' a xs := by
  rcases h with (h | ⟨o, h⟩) | h
  · exact .inl (.inl (e _ _ h))
  · exact .inl (.inr ⟨o, e _ _ h⟩)
  · exact .inr h
class Rep (α : Type) where
  rep : Fg → Hp → V → α → Prop
  mono : ∀ {K : Fg} {H H' : Hp} {v : V} {x : α}, Same H H' → rep K H v x → rep K H' v x
open Rep (rep)
section
variable {α β : Type} [Rep α] [Rep β] {K : Fg} {H H' : Hp} {v : V}
theorem A2.mono {vs : List V} {xs : List α} (s : Same H H') (h : A2 (rep K H) vs xs) : A2 (rep K H') vs xs := h.imp fun _ _ => Rep.mono s
instance : Rep Int := ⟨fun _ _ v x => v = .int x, fun _ h => h⟩
instance : Rep Bool := ⟨fun _ _ v x => v = .bl x, fun _ h => h⟩
instance : Rep Unit := ⟨fun _ _ v _ => v = .non, fun _ h => h⟩
instance : Rep Str := ⟨fun _ _ v x => v = .str x, fun _ h => h⟩
instance repOpt : Rep (Option α) := ⟨fun K H v x => match x with
  | none => v = .non
  | some y => rep K H v y, fun {_ _ _ _ x} s h => by
    cases x with
    | none => exact h
    | some y => exact Rep.mono (α := α) s h⟩
instance repPair : Rep (α × β) := ⟨fun K H v x => ∃ a u w, v = .ref a ∧ H a = some (.tup [u, w]) ∧ rep K H u x.1 ∧ rep K H w x.2,
  fun s ⟨a, u, w, e, q, h1, h2⟩ => ⟨a, u, w, e, s _ _ q, Rep.mono s h1, Rep.mono s h2⟩⟩
instance repList : Rep (List α) := ⟨fun K H v xs => ∃ a vs, v = .ref a ∧ H a = some (.lst vs) ∧ A2 (rep K H) vs xs,
  fun s ⟨a, vs, e, q, h⟩ => ⟨a, vs, e, s _ _ q, h.mono s⟩⟩
/-- the script -/
structure Scr where
  l : List Int
  deriving DecidableEq
instance repScr : Rep Scr := ⟨fun K H v xs => ∃ a, v = .ref a ∧ SqL K H a (xs.l.map V.int), fun s ⟨a, e, q⟩ => ⟨a, e, s.seq q⟩⟩
/-- a tuple of any number of like things -/
structure Tup (α : Type) where
  l : List α
  deriving DecidableEq
instance repTup : Rep (Tup α) := ⟨fun K H v xs => ∃ a vs, v = .ref a ∧ H a = some (.tup vs) ∧ A2 (rep K H) vs xs.l,
  fun s ⟨a, vs, e, q, h⟩ => ⟨a, vs, e, s _ _ q, h.mono s⟩⟩
/-- a place, or a pair -/
inductive Thing where
  | pl (i : Int)
  | ti (a b : Int)
  deriving DecidableEq
instance repThing : Rep Thing := ⟨fun K H v x => match x with
  | .pl i => v = .int i
  | .ti a b => rep K H v (a, b), fun {_ _ _ _ x} s h => by
    cases x with
    | pl i => exact h
    | ti a b => exact Rep.mono (α := Int × Int) s h⟩
theorem A2.ints {vs : List V} {xs : List Int} (h : A2 (rep K H) vs xs) : vs = xs.map V.int := by
  induction h with
  | nil => rfl
  | cons a _ ih =>
    have a' : _ = V.int _ := a
    rw [a', ih]
    rfl
theorem A2.of_ints {xs : List Int} : A2 (rep K H) (xs.map V.int) xs := by
  induction xs with
  | nil => exact .nil
  | cons x xs ih => exact .cons rfl ih
theorem A2.bools {vs : List V} {xs : List Bool} (h : A2 (rep K H) vs xs) : vs = xs.map V.bl := by
  induction h with
  | nil => rfl
  | cons a _ ih =>
    have a' : _ = V.bl _ := a
    rw [a', ih]
    rfl
end

/-! ### the heap: F, frozen, is read alone; the cells os are one's own, not in F -/
structure W (F H : Hp) (os : List (Addr × HO)) : Prop where
  same : Same F H
  own : ∀ p ∈ os, H p.1 = some p.2 ∧ F p.1 = none
  nd : os.Pairwise fun p q => p.1 ≠ q.1
  nt : ∀ p ∈ os, ∀ vs, p.2 ≠ .tup vs
theorem same_new {H : Hp} {p : Addr} {o : HO} (h : H p = none) : Same H (upd H p o) := fun a u e => by
  rw [upd_ne (ne_of_none e h)]
  exact e
section
variable {F H : Hp} {os pre post : List (Addr × HO)} {a p : Addr} {o o' : HO}
theorem W.free (w : W F H os) (n : H p = none) : F p = none := w.same.free n
theorem W.get (w : W F H (pre ++ (a, o) :: post)) : H a = some o := (w.own (a, o) (List.mem_append_right _ List.mem_cons_self)).1
theorem W.no (w : W F H (pre ++ (a, o) :: post)) : F a = none := (w.own (a, o) (List.mem_append_right _ List.mem_cons_self)).2
theorem W.ne (w : W F H os) (n : H p = none) : ∀ q ∈ os, q.1 ≠ p := fun q hq e => by
  have h := (w.own q hq).1
  rw [e, n] at h
  cases h
/-- a new thing, never to be written -/
theorem W.frz (w : W F H os) (n : H p = none) : W (upd F p o) (upd H p o) os where
  same := fun b u e => by
    by_cases hb : b = p
    · subst hb
      rw [upd_same] at e ⊢
      exact e
    · rw [upd_ne hb] at e ⊢
      exact w.same b u e
  own := fun q hq => by
    have hne := w.ne n q hq
    rw [upd_ne hne, upd_ne hne]
    exact w.own q hq
  nd := w.nd
  nt := w.nt
theorem W.frzS (w : W F H os) (n : H p = none) : Same F (upd F p o) := same_new (w.free n)
/-- a new cell of one's own -/
theorem W.new (w : W F H os) (n : H p = none) (ho : ∀ vs, o ≠ .tup vs := by exact fun _ h => nomatch h) : W F (upd H p o) ((p, o) :: os) where
  same := w.same.trans (same_new n)
  own := fun q hq => by
    rcases List.mem_cons.mp hq with rfl | hq
    · exact ⟨upd_same, w.free n⟩
    · rw [upd_ne (w.ne n q hq)]
      exact w.own q hq
  nd := List.pairwise_cons.mpr ⟨fun q hq => fun e => w.ne n q hq e.symm, w.nd⟩
  nt := fun q hq => by
    rcases List.mem_cons.mp hq with rfl | hq
    · exact ho
    · exact w.nt q hq
/-- a cell of one's own is written -/
theorem W.set (w : W F H (pre ++ (a, o) :: post)) (ho : ∀ vs, o' ≠ .tup vs := by exact fun _ h => nomatch h) : W F (upd H a o') (pre ++ (a, o') :: post) where
  same := fun b u e => by
    have hn := w.no
    rw [upd_ne (ne_of_none e hn)]
    exact w.same b u e
  own := fun q hq => by
    have nd := w.nd
    rw [List.pairwise_append] at nd
    obtain ⟨_, n2, n3⟩ := nd
    rw [List.pairwise_cons] at n2
    rcases List.mem_append.mp hq with hq | hq
    · have hne : q.1 ≠ a := n3 q hq (a, o) List.mem_cons_self
      rw [upd_ne hne]
      exact w.own q (List.mem_append_left _ hq)
    · rcases List.mem_cons.mp hq with rfl | hq
      · exact ⟨upd_same, w.no⟩
      · have hne : q.1 ≠ a := fun e => n2.1 q hq e.symm
        rw [upd_ne hne]
        exact w.own q (List.mem_append_right _ (List.mem_cons_of_mem _ hq))
  nd := by
    have nd := w.nd
    rw [List.pairwise_append] at nd ⊢
    obtain ⟨n1, n2, n3⟩ := nd
    rw [List.pairwise_cons] at n2 ⊢
    refine ⟨n1, ⟨n2.1, n2.2⟩, fun x hx y hy => ?_⟩
    rcases List.mem_cons.mp hy with rfl | hy
    · exact n3 x hx (a, o) List.mem_cons_self
    · exact n3 x hx y (List.mem_cons_of_mem _ hy)
  nt := fun q hq => by
    rcases List.mem_append.mp hq with hq | hq
    · exact w.nt q (List.mem_append_left _ hq)
    · rcases List.mem_cons.mp hq with rfl | hq
      · exact ho
      · exact w.nt q (List.mem_append_right _ (List.mem_cons_of_mem _ hq))
/-- a cell is forgotten -/
theorem W.drop (w : W F H (pre ++ (a, o) :: post)) : W F H (pre ++ post) where
  same := w.same
  own := fun q hq => w.own q (by
    rcases List.mem_append.mp hq with h | h
    · exact List.mem_append_left _ h
    · exact List.mem_append_right _ (List.mem_cons_of_mem _ h))
  nd := by
    have nd := w.nd
    rw [List.pairwise_append] at nd ⊢
    obtain ⟨n1, n2, n3⟩ := nd
    rw [List.pairwise_cons] at n2
    exact ⟨n1, n2.2, fun x hx y hy => n3 x hx y (List.mem_cons_of_mem _ hy)⟩
  nt := fun q hq => w.nt q (by
    rcases List.mem_append.mp hq with h | h
    · exact List.mem_append_left _ h
    · exact List.mem_append_right _ (List.mem_cons_of_mem _ h))
/-- a cell of one's own is never written again -/
theorem W.freeze (w : W F H (pre ++ (a, o) :: post)) : W (upd F a o) H (pre ++ post) where
  same := fun b u e => by
    by_cases hb : b = a
    · subst hb
      rw [upd_same] at e
      rw [← e]
      exact w.get
    · rw [upd_ne hb] at e
      exact w.same b u e
  own := fun q hq => by
    have nd := w.nd
    rw [List.pairwise_append] at nd
    obtain ⟨n1, n2, n3⟩ := nd
    rw [List.pairwise_cons] at n2
    have hne : q.1 ≠ a := by
      rcases List.mem_append.mp hq with h | h
      · exact n3 q h (a, o) List.mem_cons_self
      · exact fun e => n2.1 q h e.symm
    have h := w.drop.own q hq
    rw [upd_ne hne]
    exact h
  nd := w.drop.nd
  nt := w.drop.nt
theorem W.freezeS (w : W F H (pre ++ (a, o) :: post)) : Same F (upd F a o) := same_new w.no
/-- a cell is told first -/
theorem W.front (w : W F H (pre ++ (a, o) :: post)) : W F H ((a, o) :: (pre ++ post)) where
  same := w.same
  own := fun x hx => w.own x (by
    rcases List.mem_cons.mp hx with rfl | h
    · exact List.mem_append_right _ List.mem_cons_self
    · rcases List.mem_append.mp h with h | h
      · exact List.mem_append_left _ h
      · exact List.mem_append_right _ (List.mem_cons_of_mem _ h))
  nd := by
    have nd := w.nd
    have nd' := w.drop.nd
    rw [List.pairwise_append] at nd
    obtain ⟨n1, n2, n3⟩ := nd
    rw [List.pairwise_cons] at n2
    refine List.pairwise_cons.mpr ⟨fun x hx => ?_, nd'⟩
    rcases List.mem_append.mp hx with h | h
    · exact fun e => n3 x h (a, o) List.mem_cons_self e.symm
    · exact n2.1 x h
  nt := fun x hx => w.nt x (by
    rcases List.mem_cons.mp hx with rfl | h
    · exact List.mem_append_right _ List.mem_cons_self
    · rcases List.mem_append.mp h with h | h
      · exact List.mem_append_left _ h
      · exact List.mem_append_right _ (List.mem_cons_of_mem _ h))
end

/-! ### what a call hands back -/
section
variable {α β : Type} [Rep α] [Rep β]
/-- a value of the frozen part -/
def Ret (K : Fg) (F : Hp) (os : List (Addr × HO)) (Q : VK) (y : α) : Prop := ∀ v F' H', W F' H' os → Same F F' → rep K F' v y → Q v H'
/-- a new list, the caller's own -/
def RetL (K : Fg) (F : Hp) (os : List (Addr × HO)) (Q : VK) (ys : List α) : Prop := ∀ p vs F' H', W F' H' ((p, .lst vs) :: os) → Same F F' → A2 (rep K F') vs ys → Q (.ref p) H'
/-- a value, and what the list at a holds now -/
def RetM (K : Fg) (F : Hp) (a : Addr) (os : List (Addr × HO)) (Q : VK) (y : α × List β) : Prop :=
  ∀ v vs F' H', W F' H' ((a, .lst vs) :: os) → Same F F' → rep K F' v y.1 → A2 (rep K F') vs y.2 → Q v H'
/-- a new list, the caller's own, and what the list at a holds now -/
def RetLM (K : Fg) (F : Hp) (a : Addr) (os : List (Addr × HO)) (Q : VK) (y : List α × List β) : Prop :=
  ∀ p us vs F' H', W F' H' ((p, .lst us) :: (a, .lst vs) :: os) → Same F F' → A2 (rep K F') us y.1 → A2 (rep K F') vs y.2 → Q (.ref p) H'
def noX : Exn → Prop := fun _ => False
end
end Z
/-! Z1: loops, comprehensions and joins against their mirrors; calls by typed data -/
namespace Z
open PySem L2
open Rep (rep)

/-! ### ways that join -/
section
variable {γ δ : Type} {m : R γ} {k : γ → R δ} {P : δ → Prop} {X : Exn → Prop}
theorem joinS {t u : TS} {D : Ends} {σ : St} {H : Hp} (hm : Post (m >>= k) P X) (J : γ → St → Hp → Prop)
    (h : ∀ (N : St → Hp → Prop) (P' : γ → Prop), (∀ g, P' g → ∀ σ' H', J g σ' H' → N σ' H') → Post m P' X → t { D with nx := N } σ H)
    (h2 : ∀ g σ' H', J g σ' H' → Post (k g) P X → u D σ' H') : tSeq t u D σ H :=
  h _ _ (fun g p σ' H' j => h2 g σ' H' j p) (post_bind hm)
theorem joinT {t : TT} {σ : St} {H : Hp} {Q : Bool → Hp → Prop} (hm : Post (m >>= k) P X) (J : γ → Bool → Hp → Prop)
    (h : ∀ (Q' : Bool → Hp → Prop) (P' : γ → Prop), (∀ g, P' g → ∀ c H', J g c H' → Q' c H') → Post m P' X → t σ H Q')
    (h2 : ∀ g c H', J g c H' → Post (k g) P X → Q c H') : t σ H Q :=
  h _ _ (fun g p c H' j => h2 g c H' j p) (post_bind hm)
theorem joinE {t : TE} {σ : St} {H : Hp} {Q : VK} (hm : Post (m >>= k) P X) (J : γ → V → Hp → Prop)
    (h : ∀ (Q' : VK) (P' : γ → Prop), (∀ g, P' g → ∀ c H', J g c H' → Q' c H') → Post m P' X → t σ H Q')
    (h2 : ∀ g c H', J g c H' → Post (k g) P X → Q c H') : t σ H Q :=
  h _ _ (fun g p c H' j => h2 g c H' j p) (post_bind hm)
/-- a test of a value that is told -/
theorem cutT {t : TT} {σ : St} {H : Hp} {Q : Bool → Hp → Prop} (J : Bool → Hp → Prop) (h : ∀ Q' : Bool → Hp → Prop, (∀ c H', J c H' → Q' c H') → t σ H Q') (h2 : ∀ c H', J c H' → Q c H') : t σ H Q := h _ h2
theorem cutE {t : TE} {σ : St} {H : Hp} {Q : VK} (J : V → Hp → Prop) (h : ∀ Q' : VK, (∀ c H', J c H' → Q' c H') → t σ H Q') (h2 : ∀ c H', J c H' → Q c H') : t σ H Q := h _ h2
theorem ifB {c : Bool} {A B : Prop} (h1 : c = true → A) (h2 : c = false → B) : if c = true then A else B := by
  cases c with
  | true => exact h1 rfl
  | false => exact h2 rfl
end

/-! ### what is walked, typed -/
structure TW (J : It) {β : Type} (items : List β) (G : Hp → Prop) (Y : β → Hp → V → Hp → Prop) : Prop where
  walk : Walk J items.length G (fun i H x H' => ∃ b, items[i]? = some b ∧ Y b H x H')
section
variable {K : Fg} {F : Hp} {a : Addr} {α β : Type} [Rep α] [Rep β] {vs us : List V} {xs : List α} {ys : List β}
theorem tw_list (h : A2 (rep K F) vs xs) : TW (Itl K a) xs (fun H => SqL K H a vs) (fun b H x H' => H' = H ∧ rep K F x b) := ⟨by
  rw [← h.length]
  exact walk_list.mono (fun _ g => g) fun i H x H' _ _ y => by
    obtain ⟨y1, y2⟩ := y
    obtain ⟨b, h1, h2⟩ := h.getV y2
    exact ⟨b, h1, y1, h2⟩⟩
theorem tw_tup (h : A2 (rep K F) vs xs) : TW (Itt K a) xs (fun H => SqT K H a vs) (fun b H x H' => H' = H ∧ rep K F x b) := ⟨by
  rw [← h.length]
  exact walk_tup.mono (fun _ g => g) fun i H x H' _ _ y => by
    obtain ⟨y1, y2⟩ := y
    obtain ⟨b, h1, h2⟩ := h.getV y2
    exact ⟨b, h1, y1, h2⟩⟩
theorem rng_length (i j : Int) : (rng i j).length = (j - i).toNat := by
  unfold rng
  rw [List.length_map, List.length_range]
theorem rng_get {i j : Int} {n : Nat} (h : n < (j - i).toNat) : (rng i j)[n]? = some (i + (n : Int)) := by
  unfold rng
  rw [List.getElem?_map, List.getElem?_range h]
  rfl
theorem tw_rng {i j : Int} : TW (Itr i (j - i).toNat) (rng i j) (fun _ => True) (fun b H x H' => H' = H ∧ x = .int b) := ⟨by
  rw [rng_length]
  exact walk_range.mono (fun _ g => g) fun n H x H' hn _ y => ⟨_, rng_get hn, y.1, y.2⟩⟩
theorem tw_rng0 {j : Int} : TW (Itr 0 j.toNat) (rng 0 j) (fun _ => True) (fun b H x H' => H' = H ∧ x = .int b) := by
  have h := tw_rng (i := 0) (j := j)
  rw [Int.sub_zero] at h
  exact h
/-- pairs of a place and the item there -/
def enum (xs : List α) : List (Int × α) := (rng 0 xs.length).zip xs
theorem enum_length (xs : List α) : (enum xs).length = xs.length := by
  unfold enum
  rw [List.length_zip, rng_length]
  omega
theorem enum_get {xs : List α} {i : Nat} {x : α} (h : xs[i]? = some x) : (enum xs)[i]? = some ((i : Int), x) := by
  have hl := (List.getElem?_eq_some_iff.mp h).1
  unfold enum
  rw [List.getElem?_zip_eq_some]
  refine ⟨?_, h⟩
  rw [rng_get (by omega)]
  simp
theorem tw_enum (h : A2 (rep K F) vs xs) : TW (Ite K a) (enum xs) (fun H => SqL K H a vs) (fun b H v H' => ∃ T x, v = .ref T ∧ H T = none ∧ H' = upd H T (.tup [.int b.1, x]) ∧ rep K F x b.2) := ⟨by
  rw [enum_length, ← h.length]
  exact walk_enum.mono (fun _ g => g) fun i H x H' _ _ y => by
    obtain ⟨T, u, w, e1, e2, e3, e4, e5⟩ := y
    obtain ⟨b, h1, h2⟩ := h.getV e5
    cases e4
    exact ⟨((i : Int), b), enum_get h1, T, w, e1, e2, e3, h2⟩⟩
theorem tw_zip {b : Addr} (h : A2 (rep K F) vs xs) (h' : A2 (rep K F) us ys) : TW (Itz K a b) (xs.zip ys) (fun H => SqL K H a vs ∧ SqL K H b us) (fun p H v H' => ∃ T x y, v = .ref T ∧ H T = none ∧ H' = upd H T (.tup [x, y]) ∧ rep K F x p.1 ∧ rep K F y p.2) := ⟨by
  rw [List.length_zip, ← h.length, ← h'.length]
  exact (walk_zip rfl).mono (fun _ g => g) fun i H x H' _ _ y => by
    obtain ⟨T, u, w, e1, e2, e3, e4, e5⟩ := y
    obtain ⟨c, h1, h2⟩ := h.getV e4
    obtain ⟨d, h3, h4⟩ := h'.getV e5
    refine ⟨(c, d), ?_, T, u, w, e1, e2, e3, h2, h4⟩
    rw [List.getElem?_zip_eq_some]
    exact ⟨h1, h3⟩⟩
end

/-! ### for -/
section
variable {J : It} {β γ δ ρ : Type} {items : List β} {G : Hp → Prop} {Y : β → Hp → V → Hp → Prop} {g : TG} {tb : TS} {D : Ends} {σ : St} {H : Hp} {P : δ → Prop} {X : Exn → Prop}
theorem drop_cons {l : List β} {i : Nat} {b : β} (h : l[i]? = some b) : l.drop i = b :: l.drop (i + 1) := by
  obtain ⟨hl, e⟩ := List.getElem?_eq_some_iff.mp h
  rw [List.drop_eq_getElem_cons hl, e]
theorem forS (tw : TW J items G Y) {body : γ → β → R γ} {s0 : γ} {k : γ → R δ} (hm : Post (foldR body s0 items >>= k) P X) (I : γ → St → Hp → Prop) (h0 : I s0 σ H) (hG : ∀ c σ H, I c σ H → G H)
    (hs : ∀ (b : β) (c : γ) (x : V) (σ : St) (H H' : Hp) (N : St → Hp → Prop) (P' : γ → Prop), I c σ H → Y b H x H' → (∀ c', P' c' → ∀ σ' H', I c' σ' H' → N σ' H') → Post (body c b) P' X → g x σ H' fun σ2 H2 => tb { D with nx := N, ct := N, bk := D.nx } σ2 H2)
    (hd : ∀ c σ H, I c σ H → Post (k c) P X → D.nx σ H) :
    ∃ W : Nat → Nat → St → Hp → Prop, (∃ m, W 0 m σ H) ∧ ∀ i m σ H, W i m σ H →
      (J.stop i H ∧ D.nx σ H) ∨ (J.go i H ∧ ∃ N : St → Hp → Prop, (∀ σ' H', N σ' H' → ∃ m', m' < m ∧ W (i + 1) m' σ' H') ∧ ∀ x H', J.yld i H x H' → g x σ H' fun σ2 H2 => tb { D with nx := N, ct := N, bk := D.nx } σ2 H2) := by
  refine for_it tw.walk (fun i σ H => ∃ c, I c σ H ∧ Post (foldR body c (items.drop i) >>= k) P X) ⟨s0, h0, hm⟩ (fun i σ H _ ⟨c, h, _⟩ => hG c σ H h) ?_ ?_
  · rintro i x σ H H' hi ⟨c, h, hm⟩ ⟨b, hb, y⟩
    rw [drop_cons hb] at hm
    exact hs b c x σ H H' _ _ h y (fun c' p' σ' H' h' => ⟨c', h', p'⟩) (post_bind (pb_foldR hm))
  · rintro σ H ⟨c, h, hm⟩
    rw [List.drop_length] at hm
    exact hd c σ H h hm
/-- a for that may end the whole, or itself -/
theorem forX (tw : TW J items G Y) {body : γ → β → R (Sum ρ (Bool × γ))} {s0 : γ} {k : Sum ρ γ → R δ} (hm : Post (foldX body s0 items >>= k) P X) (I : γ → St → Hp → Prop) (h0 : I s0 σ H) (hG : ∀ c σ H, I c σ H → G H)
    (hs : ∀ (b : β) (c : γ) (x : V) (σ : St) (H H' : Hp) (N B : St → Hp → Prop) (P' : Sum ρ (Bool × γ) → Prop), I c σ H → Y b H x H' → (∀ c', P' (.inr (true, c')) → ∀ σ' H', I c' σ' H' → N σ' H') → (∀ c', P' (.inr (false, c')) → ∀ σ' H', I c' σ' H' → B σ' H') →
      (∀ z, P' (.inl z) → Post (k (.inl z)) P X) → Post (body c b) P' X → g x σ H' fun σ2 H2 => tb { D with nx := N, ct := N, bk := B } σ2 H2)
    (hd : ∀ c σ H, I c σ H → Post (k (.inr c)) P X → D.nx σ H) :
    ∃ W : Nat → Nat → St → Hp → Prop, (∃ m, W 0 m σ H) ∧ ∀ i m σ H, W i m σ H →
      (J.stop i H ∧ D.nx σ H) ∨ (J.go i H ∧ ∃ N : St → Hp → Prop, (∀ σ' H', N σ' H' → ∃ m', m' < m ∧ W (i + 1) m' σ' H') ∧ ∀ x H', J.yld i H x H' → g x σ H' fun σ2 H2 => tb { D with nx := N, ct := N, bk := D.nx } σ2 H2) := by
  refine for_it tw.walk (fun i σ H => ∃ c, I c σ H ∧ Post (foldX body c (items.drop i) >>= k) P X) ⟨s0, h0, hm⟩ (fun i σ H _ ⟨c, h, _⟩ => hG c σ H h) ?_ ?_
  · rintro i x σ H H' hi ⟨c, h, hm⟩ ⟨b, hb, y⟩
    rw [drop_cons hb] at hm
    have hm' : Post ((body c b >>= fun r => match r with
      | .inl z => (R.ok (.inl z) : R (Sum ρ γ))
      | .inr (true, s') => foldX body s' (items.drop (i + 1))
      | .inr (false, s') => R.ok (.inr s')) >>= k) P X := hm
    rw [bind_bind] at hm'
    exact hs b c x σ H H' _ _ _ h y (fun c' p' σ' H' h' => ⟨c', h', p'⟩) (fun c' p' σ' H' h' => hd c' σ' H' h' p') (fun z p' => p') (post_bind hm')
  · rintro σ H ⟨c, h, hm⟩
    rw [List.drop_length] at hm
    exact hd c σ H h hm
end
/-! ### comprehensions -/
/-- items for items, of a list that is not too long -/
def mapG {α β : Type} (f : α → R β) (xs : List α) : R (List β) := grd (decide (xs.length < 100000)) >>= fun _ => mapR f xs
/-- items for some items -/
def filR {α β : Type} (f : α → R (Option β)) : List α → R (List β)
  | [] => .ok []
  | x :: xs => f x >>= fun o => filR f xs >>= fun ys => match o with
    | some y => .ok (y :: ys)
    | none => .ok ys
def filG {α β : Type} (f : α → R (Option β)) (xs : List α) : R (List β) := grd (decide (xs.length < 100000)) >>= fun _ => filR f xs
/-- items for items, by a state that turns -/
def mapSt {α β γ : Type} (f : γ → α → R (β × γ)) : γ → List α → R (List β × γ)
  | s, [] => .ok ([], s)
  | s, x :: xs => f s x >>= fun p => mapSt f p.2 xs >>= fun q => .ok (p.1 :: q.1, q.2)
def mapStG {α β γ : Type} (f : γ → α → R (β × γ)) (s : γ) (xs : List α) : R (List β × γ) := grd (decide (xs.length < 100000)) >>= fun _ => mapSt f s xs
/-- items for some items, by a state that turns -/
def filSt {α β γ : Type} (f : γ → α → R (Option β × γ)) : γ → List α → R (List β × γ)
  | s, [] => .ok ([], s)
  | s, x :: xs => f s x >>= fun p => filSt f p.2 xs >>= fun q => match p.1 with
    | some y => .ok (y :: q.1, q.2)
    | none => .ok q
def filStG {α β γ : Type} (f : γ → α → R (Option β × γ)) (s : γ) (xs : List α) : R (List β × γ) := grd (decide (xs.length < 100000)) >>= fun _ => filSt f s xs
section
variable {J : It} {β γ δ ε : Type} {items : List β} {G : Hp → Prop} {Y : β → Hp → V → Hp → Prop} {g : TG} {tt : TT} {te : TE} {P : ε → Prop} {X : Exn → Prop} {K : Fg} {vs : List Nat} {σ : St} {F H1 : Hp} {os : List (Addr × HO)} {D : Addr} {Qd : Hp → Prop}
/-- what is asked of a comprehension's list D behind its walk J: by the readings' own words -/
abbrev LcAsk (J : It) (g : TG) (tt : TT) (te : TE) (vs : List Nat) (σ : St) (H1 : Hp) (D : Addr) (Qd : Hp → Prop) : Prop :=
  ∃ W : Nat → Nat → Hp → Prop, (∃ m, W 0 m (upd H1 D (.lst []))) ∧ ∀ i m H, W i m H →
      (J.stop i H ∧ Qd H) ∨ (J.go i H ∧ ∃ Nx : Hp → Prop, (∀ H', Nx H' → ∃ m', m' < m ∧ W (i + 1) m' H') ∧ ∀ x H', J.yld i H x H' → g x (wipe σ vs) H' fun σ2 H2 => wipe σ2 vs = wipe σ vs ∧ tt σ2 H2 fun b H3 =>
        if b = true then te σ2 H3 fun y H4 => ∃ acc, H4 D = some (.lst acc) ∧ acc.length < sizeLine ∧ Nx (upd H4 D (.lst (acc ++ [y]))) else Nx H3)
/-- the state and the items told of a comprehension: os by the state -/
theorem lcFil [Rep δ] (tw : TW J items G Y) {f : γ → β → R (Option δ × γ)} {s0 : γ} {k : List δ × γ → R ε} (hm : Post (filStG f s0 items >>= k) P X) (O : γ → Hp → List (Addr × HO) → Prop) (w : W F H1 os) (o0 : O s0 F os) (nD : H1 D = none)
    (hG : ∀ c F' H' os' acc, Same F F' → W F' H' ((D, .lst acc) :: os') → O c F' os' → G H')
    (hs : ∀ (b : β) (c : γ) (x : V) (F' H' H'' : Hp) (os' : List (Addr × HO)) (acc : List V) (N : V → Hp → Prop) (N0 : Hp → Prop) (P' : Option δ × γ → Prop), Same F F' → W F' H' ((D, .lst acc) :: os') → O c F' os' → Y b H' x H'' →
      (∀ d c', P' (some d, c') → ∀ y F'' H'' os'', W F'' H'' ((D, .lst acc) :: os'') → Same F' F'' → O c' F'' os'' → rep K F'' y d → N y H'') →
      (∀ c', P' (none, c') → ∀ F'' H'' os'', W F'' H'' ((D, .lst acc) :: os'') → Same F' F'' → O c' F'' os'' → N0 H'') → Post (f c b) P' X →
      g x (wipe σ vs) H'' fun σ2 H2 => wipe σ2 vs = wipe σ vs ∧ tt σ2 H2 fun b H3 => if b = true then te σ2 H3 N else N0 H3)
    (hd : ∀ c us F' H' os' ys, Same F F' → W F' H' ((D, .lst us) :: os') → O c F' os' → A2 (rep K F') us ys → Post (k (ys, c)) P X → Qd H') : LcAsk J g tt te vs σ H1 D Qd := by
  obtain ⟨hlen, hm⟩ := pb_grd (pb_assoc hm)
  have hlen : items.length < sizeLine := Nat.lt_of_lt_of_le (of_decide_eq_true hlen) line5
  refine lc_it tw.walk (fun i H => ∃ c F' os' us ys, i ≤ items.length ∧ Same F F' ∧ W F' H ((D, .lst us) :: os') ∧ O c F' os' ∧ A2 (rep K F') us ys ∧ ys.length ≤ i ∧ Post (filSt f c (items.drop i) >>= fun q => k (ys ++ q.1, q.2)) P X) ?_ ?_ ?_ ?_
  · exact ⟨s0, F, os, [], [], Nat.zero_le _, Same.refl _, w.new nD, o0, .nil, Nat.le_refl _, hm⟩
  · rintro i H _ ⟨c, F', os', us, ys, _, s, w', o, _⟩
    exact hG c F' H os' us s w' o
  · rintro i x H H' hi ⟨c, F', os', us, ys, _, s, w', o, h, hl, hm⟩ ⟨b, hb, y⟩
    rw [drop_cons hb] at hm
    have hm' : Post ((f c b >>= fun p => filSt f p.2 (items.drop (i + 1)) >>= fun q => match p.1 with
      | some y => (R.ok (y :: q.1, q.2) : R (List δ × γ))
      | none => R.ok q) >>= fun q => k (ys ++ q.1, q.2)) P X := hm
    rw [bind_bind] at hm'
    have hm2 := post_bind hm'
    have hul : us.length = ys.length := h.length
    refine hs b c x F' H H' os' us (fun y H4 => ∃ acc, H4 D = some (.lst acc) ∧ acc.length < sizeLine ∧ _) _ _ s w' o y ?_ ?_ hm2
    · intro d c' p2 y F'' H'' os'' w2 s2 o2 r2
      refine ⟨us, w2.get (pre := []), by omega, c', F'', os'', us ++ [y], ys ++ [d], hi, s.trans s2, w2.set (pre := []), o2, (h.mono s2).snoc r2, by rw [List.length_append, List.length_singleton]; omega, ?_⟩
      have p3 : Post ((filSt f c' (items.drop (i + 1)) >>= fun q => (R.ok (d :: q.1, q.2) : R (List δ × γ))) >>= fun q => k (ys ++ q.1, q.2)) P X := p2
      rw [bind_bind] at p3
      have e : (fun q : List δ × γ => (R.ok (d :: q.1, q.2) : R (List δ × γ)) >>= fun q => k (ys ++ q.1, q.2)) = fun q => k (ys ++ [d] ++ q.1, q.2) := by
        funext q
        show k (ys ++ (d :: q.1), q.2) = k (ys ++ [d] ++ q.1, q.2)
        rw [List.append_assoc]
        rfl
      rw [e] at p3
      exact p3
    · intro c' p2 F'' H'' os'' w2 s2 o2
      refine ⟨c', F'', os'', us, ys, hi, s.trans s2, w2, o2, h.mono s2, by omega, ?_⟩
      have p3 : Post ((filSt f c' (items.drop (i + 1)) >>= fun q => (R.ok q : R (List δ × γ))) >>= fun q => k (ys ++ q.1, q.2)) P X := p2
      rw [bind_bind] at p3
      exact p3
  · rintro H ⟨c, F', os', us, ys, _, s, w', o, h, _, hm⟩
    rw [List.drop_length] at hm
    have hm' : Post (k (ys ++ [], c)) P X := hm
    rw [List.append_nil] at hm'
    exact hd c us F' H os' ys s w' o h hm'
/-- without a test -/
theorem lcMap [Rep δ] (tw : TW J items G Y) {f : γ → β → R (δ × γ)} {s0 : γ} {k : List δ × γ → R ε} (hm : Post (mapStG f s0 items >>= k) P X) (O : γ → Hp → List (Addr × HO) → Prop) (w : W F H1 os) (o0 : O s0 F os) (nD : H1 D = none)
    (hG : ∀ c F' H' os' acc, Same F F' → W F' H' ((D, .lst acc) :: os') → O c F' os' → G H')
    (hs : ∀ (b : β) (c : γ) (x : V) (F' H' H'' : Hp) (os' : List (Addr × HO)) (acc : List V) (N : V → Hp → Prop) (P' : δ × γ → Prop), Same F F' → W F' H' ((D, .lst acc) :: os') → O c F' os' → Y b H' x H'' →
      (∀ d c', P' (d, c') → ∀ y F'' H'' os'', W F'' H'' ((D, .lst acc) :: os'') → Same F' F'' → O c' F'' os'' → rep K F'' y d → N y H'') → Post (f c b) P' X →
      g x (wipe σ vs) H'' fun σ2 H2 => wipe σ2 vs = wipe σ vs ∧ te σ2 H2 N)
    (hd : ∀ c us F' H' os' ys, Same F F' → W F' H' ((D, .lst us) :: os') → O c F' os' → A2 (rep K F') us ys → Post (k (ys, c)) P X → Qd H') : LcAsk J g tYes te vs σ H1 D Qd := by
  have e : ∀ (s : γ) (l : List β), filSt (fun c b => f c b >>= fun p => R.ok (some p.1, p.2)) s l = mapSt f s l := by
    intro s l
    induction l generalizing s with
    | nil => rfl
    | cons b l ih =>
      show ((f s b >>= fun p => R.ok (some p.1, p.2)) >>= fun p => filSt (fun c b => f c b >>= fun p => R.ok (some p.1, p.2)) p.2 l >>= fun q => match p.1 with
        | some y => (R.ok (y :: q.1, q.2) : R (List δ × γ))
        | none => R.ok q) = (f s b >>= fun p => mapSt f p.2 l >>= fun q => .ok (p.1 :: q.1, q.2))
      rw [bind_bind]
      refine congrArg (f s b >>= ·) ?_
      funext p
      show (filSt (fun c b => f c b >>= fun p => R.ok (some p.1, p.2)) p.2 l >>= fun q => (R.ok (p.1 :: q.1, q.2) : R (List δ × γ))) = _
      rw [ih]
  have hm' : Post (filStG (fun c b => f c b >>= fun p => R.ok (some p.1, p.2)) s0 items >>= k) P X := by
    unfold filStG
    simp only [e]
    exact hm
  refine lcFil tw hm' O w o0 nD hG (fun b c x F' H' H'' os' acc N N0 P' s w' o y hN hN0 hp => ?_) hd
  exact hs b c x F' H' H'' os' acc N _ s w' o y (fun d c' p2 y F'' H'' os'' w2 s2 o2 r2 => hN d c' p2 y F'' H'' os'' w2 s2 o2 r2) (post_bind hp)
/-- without a state -/
theorem lcM [Rep δ] (tw : TW J items G Y) {f : β → R δ} {k : List δ → R ε} (hm : Post (mapG f items >>= k) P X) (w : W F H1 os) (nD : H1 D = none)
    (hG : ∀ F' H' acc, Same F F' → W F' H' ((D, .lst acc) :: os) → G H')
    (hs : ∀ (b : β) (x : V) (F' H' H'' : Hp) (acc : List V) (N : V → Hp → Prop) (P' : δ → Prop), Same F F' → W F' H' ((D, .lst acc) :: os) → Y b H' x H'' →
      (∀ d, P' d → ∀ y F'' H'', W F'' H'' ((D, .lst acc) :: os) → Same F' F'' → rep K F'' y d → N y H'') → Post (f b) P' X →
      g x (wipe σ vs) H'' fun σ2 H2 => wipe σ2 vs = wipe σ vs ∧ te σ2 H2 N)
    (hd : ∀ us F' H' ys, Same F F' → W F' H' ((D, .lst us) :: os) → A2 (rep K F') us ys → Post (k ys) P X → Qd H') : LcAsk J g tYes te vs σ H1 D Qd := by
  have e : ∀ (l : List β), (mapSt (fun (_ : Unit) b => f b >>= fun d => R.ok (d, ())) () l >>= fun q => R.ok q.1) = mapR f l := by
    intro l
    induction l with
    | nil => rfl
    | cons b l ih =>
      show (((f b >>= fun d => R.ok (d, ())) >>= fun p => mapSt (fun (_ : Unit) b => f b >>= fun d => R.ok (d, ())) p.2 l >>= fun q => (R.ok (p.1 :: q.1, q.2) : R (List δ × Unit))) >>= fun q => R.ok q.1) = (f b >>= fun y => mapR f l >>= fun ys => R.ok (y :: ys))
      rw [bind_bind, bind_bind]
      refine congrArg (f b >>= ·) ?_
      funext d
      show ((mapSt (fun (_ : Unit) b => f b >>= fun d => R.ok (d, ())) () l >>= fun q => (R.ok (d :: q.1, q.2) : R (List δ × Unit))) >>= fun q => R.ok q.1) = _
      rw [bind_bind, ← ih, bind_bind]
      rfl
  have hm' : Post (mapStG (fun (_ : Unit) b => f b >>= fun d => R.ok (d, ())) () items >>= fun q => k q.1) P X := by
    have e2 : (mapStG (fun (_ : Unit) b => f b >>= fun d => R.ok (d, ())) () items >>= fun q => R.ok q.1) = mapG f items := by
      unfold mapStG mapG
      rw [bind_bind]
      simp only [e]
    have h2 : Post ((mapStG (fun (_ : Unit) b => f b >>= fun d => R.ok (d, ())) () items >>= fun q => R.ok q.1) >>= k) P X := by
      rw [e2]
      exact hm
    rw [bind_bind] at h2
    exact h2
  refine lcMap tw hm' (fun _ _ os' => os = os') w rfl nD (fun c F' H' os' acc s w' o => by subst o; exact hG F' H' acc s w') (fun b c x F' H' H'' os' acc N P' s w' o y hN hp => ?_) (fun c us F' H' os' ys s w' o h hm => by subst o; exact hd us F' H' ys s w' h hm)
  subst o
  exact hs b x F' H' H'' acc N _ s w' y (fun d p2 y F'' H'' w2 s2 r2 => hN d () p2 y F'' H'' _ w2 s2 rfl r2) (post_bind hp)
/-- .. with a test -/
theorem lcF [Rep δ] (tw : TW J items G Y) {f : β → R (Option δ)} {k : List δ → R ε} (hm : Post (filG f items >>= k) P X) (w : W F H1 os) (nD : H1 D = none)
    (hG : ∀ F' H' acc, Same F F' → W F' H' ((D, .lst acc) :: os) → G H')
    (hs : ∀ (b : β) (x : V) (F' H' H'' : Hp) (acc : List V) (N : V → Hp → Prop) (N0 : Hp → Prop) (P' : Option δ → Prop), Same F F' → W F' H' ((D, .lst acc) :: os) → Y b H' x H'' →
      (∀ d, P' (some d) → ∀ y F'' H'', W F'' H'' ((D, .lst acc) :: os) → Same F' F'' → rep K F'' y d → N y H'') →
      (P' none → ∀ F'' H'', W F'' H'' ((D, .lst acc) :: os) → Same F' F'' → N0 H'') → Post (f b) P' X →
      g x (wipe σ vs) H'' fun σ2 H2 => wipe σ2 vs = wipe σ vs ∧ tt σ2 H2 fun b H3 => if b = true then te σ2 H3 N else N0 H3)
    (hd : ∀ us F' H' ys, Same F F' → W F' H' ((D, .lst us) :: os) → A2 (rep K F') us ys → Post (k ys) P X → Qd H') : LcAsk J g tt te vs σ H1 D Qd := by
  have e : ∀ (l : List β), (filSt (fun (_ : Unit) b => f b >>= fun d => R.ok (d, ())) () l >>= fun q => R.ok q.1) = filR f l := by
    intro l
    induction l with
    | nil => rfl
    | cons b l ih =>
      show (((f b >>= fun d => R.ok (d, ())) >>= fun p => filSt (fun (_ : Unit) b => f b >>= fun d => R.ok (d, ())) p.2 l >>= fun q => match p.1 with
        | some y => (R.ok (y :: q.1, q.2) : R (List δ × Unit))
        | none => R.ok q) >>= fun q => R.ok q.1) = (f b >>= fun o => filR f l >>= fun ys => match o with
        | some y => .ok (y :: ys)
        | none => .ok ys)
      rw [bind_bind, bind_bind]
      refine congrArg (f b >>= ·) ?_
      funext d
      show ((filSt (fun (_ : Unit) b => f b >>= fun d => R.ok (d, ())) () l >>= fun q => match d with
        | some y => (R.ok (y :: q.1, q.2) : R (List δ × Unit))
        | none => R.ok q) >>= fun q => R.ok q.1) = _
      rw [bind_bind, ← ih, bind_bind]
      cases d <;> rfl
  have hm' : Post (filStG (fun (_ : Unit) b => f b >>= fun d => R.ok (d, ())) () items >>= fun q => k q.1) P X := by
    have e2 : (filStG (fun (_ : Unit) b => f b >>= fun d => R.ok (d, ())) () items >>= fun q => R.ok q.1) = filG f items := by
      unfold filStG filG
      rw [bind_bind]
      simp only [e]
    have h2 : Post ((filStG (fun (_ : Unit) b => f b >>= fun d => R.ok (d, ())) () items >>= fun q => R.ok q.1) >>= k) P X := by
      rw [e2]
      exact hm
    rw [bind_bind] at h2
    exact h2
  refine lcFil tw hm' (fun _ _ os' => os = os') w rfl nD (fun c F' H' os' acc s w' o => by subst o; exact hG F' H' acc s w') (fun b c x F' H' H'' os' acc N N0 P' s w' o y hN hN0 hp => ?_) (fun c us F' H' os' ys s w' o h hm => by subst o; exact hd us F' H' ys s w' h hm)
  subst o
  exact hs b x F' H' H'' acc N N0 _ s w' y (fun d p2 y F'' H'' w2 s2 r2 => hN d () p2 y F'' H'' _ w2 s2 rfl r2) (fun p2 F'' H'' w2 s2 => hN0 () p2 F'' H'' _ w2 s2 rfl) (post_bind hp)
end
end Z
namespace Z
open PySem L2
open Rep (rep)
/-! ### short words for a walk -/
section
variable {F F1 F2 H H1 : Hp} {os os' pre post : List (Addr × HO)} {a p : Addr} {o o' : HO} {K : Fg}
theorem W.frzE (w : W F H os) (n : H p = none) : ∃ F', Same F F' ∧ W F' (upd H p o) os ∧ F' p = some o := ⟨_, w.frzS n, w.frz n, upd_same⟩
theorem W.freezeE (w : W F H (pre ++ (a, o) :: post)) : ∃ F', Same F F' ∧ W F' H (pre ++ post) ∧ F' a = some o := ⟨_, w.freezeS, w.freeze, upd_same⟩
/-- a cell that was lent to a call as frozen comes back -/
theorem W.unfreeze (w : W F1 H os) (s : Same F F1) (n : F a = none) (k : F1 a = some o) (ho : ∀ vs, o ≠ .tup vs := by exact fun _ h => nomatch h) : ∃ F', Same F F' ∧ W F' H ((a, o) :: os) := by
  refine ⟨fun b => if b = a then none else F1 b, fun b u e => ?_, fun b u e => ?_, fun q hq => ?_, ?_, fun q hq => ?_⟩
  · have hb : b ≠ a := ne_of_none e n
    show (if b = a then none else F1 b) = some u
    rw [if_neg hb]
    exact s b u e
  · by_cases hb : b = a
    · have e' : (if b = a then none else F1 b) = some u := e
      rw [if_pos hb] at e'
      cases e'
    · have e' : (if b = a then none else F1 b) = some u := e
      rw [if_neg hb] at e'
      exact w.same b u e'
  · rcases List.mem_cons.mp hq with rfl | hq
    · exact ⟨w.same _ _ k, if_pos rfl⟩
    · have h := w.own q hq
      have hb : q.1 ≠ a := fun e => by
        rw [e, k] at h
        cases h.2
      exact ⟨h.1, by show (if q.1 = a then none else F1 q.1) = none; rw [if_neg hb]; exact h.2⟩
  · refine List.pairwise_cons.mpr ⟨fun q hq e => ?_, w.nd⟩
    have h := (w.own q hq).2
    have e' : a = q.1 := e
    rw [← e', k] at h
    cases h
  · rcases List.mem_cons.mp hq with rfl | hq
    · exact ho
    · exact w.nt q hq
theorem rep_own {α : Type} [Rep α] {vs : List V} {xs : List α} (w : W F H (pre ++ (a, .lst vs) :: post)) (h : A2 (rep K F) vs xs) : rep K H (.ref a) xs := ⟨a, vs, rfl, w.get, h.mono w.same⟩
theorem rep_lst {α : Type} [Rep α] {vs : List V} {xs : List α} (q : F a = some (.lst vs)) (h : A2 (rep K F) vs xs) : rep K F (.ref a) xs := ⟨a, vs, rfl, q, h⟩
theorem rep_tup {α : Type} [Rep α] {vs : List V} {xs : List α} (q : F a = some (.tup vs)) (h : A2 (rep K F) vs xs) : rep K F (.ref a) (Tup.mk xs) := ⟨a, vs, rfl, q, h⟩
theorem rep_pair {α β : Type} [Rep α] [Rep β] {u v : V} {x : α} {y : β} (q : F a = some (.tup [u, v])) (h1 : rep K F u x) (h2 : rep K F v y) : rep K F (.ref a) (x, y) := ⟨a, u, v, rfl, q, h1, h2⟩
theorem ints_q {vs : List V} {xs : List Int} (q : SqL K H a vs) (h : A2 (rep K F) vs xs) : SqL K H a (xs.map V.int) := h.ints ▸ q
theorem Room.units65 {k : Nat} {A : Around} (r : Room k A) : A.units + 65 < cLine := by
  have := r.un
  omega
theorem sl_cut {α : Type} {r : V → α → Prop} {vs : List V} {xs : List α} (h : A2 r vs xs) (lo hi : Option Int) : A2 r (cutV vs lo hi) (((xs.drop (HT.sIx xs.length 0 lo)).take (HT.sIx xs.length xs.length hi - HT.sIx xs.length 0 lo))) := by
  unfold cutV
  rw [h.length]
  exact (h.drop _).take _
/-- xs[lo:hi] -/
def cutL {α : Type} (xs : List α) (lo hi : Option Int) : List α := (xs.drop (HT.sIx xs.length 0 lo)).take (HT.sIx xs.length xs.length hi - HT.sIx xs.length 0 lo)
end
end Z
namespace Z
open PySem L2
open Rep (rep)
/-- a while by its fuel -/
def whileR {γ : Type} (c : γ → R Bool) (b : γ → R γ) : Nat → γ → R γ
  | 0, _ => .bad
  | n + 1, s => c s >>= fun t => if t = true then b s >>= fun s' => whileR c b n s' else .ok s
section
variable {γ δ : Type} {P : δ → Prop} {X : Exn → Prop} {tc : TT} {tb : TS} {D : Ends} {σ : St} {H : Hp}
theorem whileS {c : γ → R Bool} {b : γ → R γ} {n : Nat} {s0 : γ} {k : γ → R δ} (hm : Post (whileR c b n s0 >>= k) P X) (I : γ → St → Hp → Prop) (h0 : I s0 σ H)
    (hc : ∀ (g : γ) (σ : St) (H : Hp) (Q' : Bool → Hp → Prop) (P' : Bool → Prop), I g σ H → (∀ t, P' t → ∀ H', I g σ H' → Q' t H') → Post (c g) P' X → tc σ H Q')
    (hs : ∀ (g : γ) (σ : St) (H : Hp) (N : St → Hp → Prop) (P' : γ → Prop), I g σ H → (∀ g', P' g' → ∀ σ' H', I g' σ' H' → N σ' H') → Post (b g) P' X → tb { D with nx := N, ct := N, bk := D.nx } σ H)
    (hd : ∀ g σ H, I g σ H → Post (k g) P X → D.nx σ H) : tWhile tc tb D σ H := by
  refine ⟨fun m σ H => ∃ g, I g σ H ∧ Post (whileR c b m g >>= k) P X, ⟨n, s0, h0, hm⟩, ?_⟩
  rintro m σ H ⟨g, h, hm⟩
  cases m with
  | zero => exact (show False from hm).elim
  | succ m =>
    have hm' : Post ((c g >>= fun t => if t = true then b g >>= fun s' => whileR c b m s' else .ok g) >>= k) P X := hm
    rw [bind_bind] at hm'
    refine hc g σ H _ _ h (fun t p H' h' => ?_) (post_bind hm')
    cases t with
    | false => exact iteF (hd g σ H' h' p)
    | true =>
      refine iteT ?_
      have p' : Post ((b g >>= fun s' => whileR c b m s') >>= k) P X := p
      rw [bind_bind] at p'
      exact ⟨fun σ' H' => ∃ g', I g' σ' H' ∧ Post (whileR c b m g' >>= k) P X, fun σ' H' ⟨g', h1, h2⟩ => ⟨m, Nat.lt_succ_self m, g', h1, h2⟩, hs g σ H' _ _ h' (fun g' p2 σ' H' h2 => ⟨g', h2, p2⟩) (post_bind p')⟩
end
section
variable {α β : Type} {Q : β → Prop} {E : Exn → Prop}
theorem pn_set {xs : List α} {i : Int} {x : α} {f : List α → R β} (h : Post (setI xs i x >>= f) Q E) : ∃ j ys, ixN xs.length i = some j ∧ ys = xs.set j x ∧ Post (f ys) Q E :=
  let ⟨j, a, b⟩ := pb_set h
  ⟨j, _, a, rfl, b⟩
theorem pn_app {xs : List α} {x : α} {f : List α → R β} (h : Post (app xs x >>= f) Q E) : ∃ ys, xs.length < sizeLine ∧ ys = xs ++ [x] ∧ Post (f ys) Q E :=
  let ⟨a, b⟩ := pb_app h
  ⟨_, a, rfl, b⟩
theorem pn_extend {xs ys : List α} {f : List α → R β} (h : Post (extend xs ys >>= f) Q E) : ∃ zs, xs.length + ys.length ≤ sizeLine ∧ zs = xs ++ ys ∧ Post (f zs) Q E :=
  let ⟨a, b⟩ := pb_extend h
  ⟨_, a, rfl, b⟩
theorem A2.lt {r : V → α → Prop} {vs : List V} {xs : List α} {n : Nat} (h : A2 r vs xs) (z : xs.length < n) : vs.length < n := by rw [h.length]; exact z
theorem A2.ix {r : V → α → Prop} {vs : List V} {xs : List α} {i : Int} {j : Nat} (h : A2 r vs xs) (z : ixN xs.length i = some j) : ixN vs.length i = some j := by rw [h.length]; exact z
theorem A2.le2 {γ : Type} {r : V → α → Prop} {r' : V → γ → Prop} {vs us : List V} {xs : List α} {ys : List γ} {n : Nat} (h : A2 r vs xs) (h' : A2 r' us ys) (z : xs.length + ys.length ≤ n) : vs.length + us.length ≤ n := by rw [h.length, h'.length]; exact z
/-- the last item, and the rest -/
def popI (xs : List α) : R (α × List α) := match xs.getLast? with
  | some x => .ok (x, xs.dropLast)
  | none => .bad
def popAt (xs : List α) (i : Int) : R (α × List α) := match ixN xs.length i with
  | some j => match xs[j]? with
    | some x => .ok (x, xs.eraseIdx j)
    | none => .bad
  | none => .bad
theorem pn_popAt {xs : List α} {i : Int} {f : α × List α → R β} (h : Post (popAt xs i >>= f) Q E) : ∃ j x ys, ixN xs.length i = some j ∧ xs[j]? = some x ∧ ys = xs.eraseIdx j ∧ Post (f (x, ys)) Q E := by
  unfold popAt at h
  cases e : ixN xs.length i with
  | none => rw [e] at h; exact (show False from h).elim
  | some j =>
    rw [e] at h
    cases e2 : xs[j]? with
    | none =>
      have h' : Post ((match xs[j]? with
        | some x => (R.ok (x, xs.eraseIdx j) : R (α × List α))
        | none => .bad) >>= f) Q E := h
      rw [e2] at h'
      exact (show False from h').elim
    | some x =>
      have h' : Post ((match xs[j]? with
        | some x => (R.ok (x, xs.eraseIdx j) : R (α × List α))
        | none => .bad) >>= f) Q E := h
      rw [e2] at h'
      exact ⟨j, x, _, rfl, e2, rfl, h'⟩
end
section
variable {K : Fg} {F : Hp}
theorem rep_i {i : Int} : rep K F (.int i) i := rfl
theorem rep_b {i : Bool} : rep K F (.bl i) i := rfl
theorem rep_s {i : Str} : rep K F (.str i) i := rfl
theorem rep_n : rep K F .non () := rfl
end
end Z
namespace Z
open PySem L2
section
variable {X : Cx} {D : Ends} {σ : L2.St} {H : Hp}
def tC1 (v : V) : TE := fun _ H Q => True ∧ Q v H
theorem pe_int1 {i j pos} : PE X (.Constant (.int i) j pos) (tC1 (.int i)) := ⟨fun pins s σ H Q I h => pe_int.run pins s σ H Q I h.2⟩
theorem pe_bl1 {i j pos} : PE X (.Constant (.bool i) j pos) (tC1 (.bl i)) := ⟨fun pins s σ H Q I h => pe_bl.run pins s σ H Q I h.2⟩
theorem pe_str1 {i j pos} : PE X (.Constant (.str i) j pos) (tC1 (.str i)) := ⟨fun pins s σ H Q I h => pe_str.run pins s σ H Q I h.2⟩
theorem pe_non1 {j pos} : PE X (.Constant .none j pos) (tC1 .non) := ⟨fun pins s σ H Q I h => pe_non.run pins s σ H Q I h.2⟩
theorem stepN {i : Nat} {v : V} {Q : L2.St → Hp → Prop} (h : Q (σ.set i (some v)) H) : gName i v σ H Q := h
theorem stepX (h : D.nx σ H) : tNext D σ H := h
theorem stepSeq {t u : TS} (h : t { D with nx := u D } σ H) : tSeq t u D σ H := h
theorem stepIf {c : TT} {a b : TS} (h : c σ H fun t H1 => if t = true then a D σ H1 else b D σ H1) : tIfS c a b D σ H := h
theorem stepRet {te : TE} (h : te σ H D.rt) : tRet te D σ H := h
theorem stepAsg {te : TE} {g : TG} (h : te σ H fun x H1 => g x σ H1 D.nx) : tAsg te g D σ H := h
theorem stepDrop {te : TE} (h : te σ H fun _ H1 => D.nx σ H1) : tDrop te D σ H := h
end
end Z
namespace Z
open PySem L2
open Rep (rep)
section
variable {α : Type} [Rep α] {K : Fg} {F : Hp} {v : V} {x : α}
theorem rep_none : rep K F .non (none : Option α) := rfl
theorem rep_some (h : rep K F v x) : rep K F v (some x) := h
theorem rep_pl {i : Int} : rep K F (.int i) (Thing.pl i) := rfl
theorem rep_ti {a b : Int} (h : rep K F v (a, b)) : rep K F v (Thing.ti a b) := h
end
end Z
/-! Z2: rules by typed data -/
namespace Z
open PySem L2 PySem.Spec PyProof.Rows
open Rep (rep)

/-! ### data that is compared -/
class Dat (α : Type) extends Rep α where
  toD : α → PyData
  dmax : Nat
  dp : ∀ {K : Fg} {H : Hp} {v : V} {x : α}, rep K H v x → Dp K H v (toD x)
  lay : ∀ x : α, (toD x).canLay0 = true
  dep : ∀ x : α, (toD x).depth ≤ dmax
  eqv : ∀ x y : α, PyData.eqv (toD x) (toD y) = true ↔ x = y
section
variable {α β : Type} {K : Fg} {H : Hp}
instance : Dat Int where
  toD := .int
  dmax := 0
  dp := fun h => by
    have h' : _ = V.int _ := h
    subst h'
    exact .int _
  lay := fun x => by simp only [PyData.canLay0]
  dep := fun x => by simp only [PyData.depth, Nat.le_refl]
  eqv := fun x y => by simp [PyData.eqv]
instance : Dat Bool where
  toD := .bool
  dmax := 0
  dp := fun h => by
    have h' : _ = V.bl _ := h
    subst h'
    exact .bl _
  lay := fun x => by simp only [PyData.canLay0]
  dep := fun x => by simp only [PyData.depth, Nat.le_refl]
  eqv := fun x y => by simp [PyData.eqv]
instance datOptInt : Dat (Option Int) where
  toD := fun x => match x with
    | none => .none
    | some i => .int i
  dmax := 0
  dp := fun {K H v x} h => by
    cases x with
    | none =>
      have h' : v = V.non := h
      subst h'
      exact .non
    | some i =>
      have h' : v = V.int i := h
      subst h'
      exact .int _
  lay := fun x => by cases x <;> simp only [PyData.canLay0]
  dep := fun x => by cases x <;> simp only [PyData.depth, Nat.le_refl]
  eqv := fun x y => by cases x <;> cases y <;> simp [PyData.eqv]
instance datPair [Dat α] [Dat β] : Dat (α × β) where
  toD := fun x => .tuple [Dat.toD x.1, Dat.toD x.2]
  dmax := max (Dat.dmax α) (Dat.dmax β) + 1
  dp := fun {K H v x} h => by
    obtain ⟨a, u, w, rfl, q, h1, h2⟩ := h
    exact .tup (SqT.of q) (.cons (Dat.dp h1) (.cons (Dat.dp h2) .nil))
  lay := fun x => by simp only [PyData.canLay0, PyData.canLayAll0, Dat.lay, Bool.and_true]
  dep := fun x => by
    have h1 := Dat.dep x.1
    have h2 := Dat.dep x.2
    simp only [PyData.depth, PyData.depthAll]
    omega
  eqv := fun x y => by
    obtain ⟨x1, x2⟩ := x
    obtain ⟨y1, y2⟩ := y
    simp only [PyData.eqv, PyData.eqvAll, Bool.and_true, Bool.and_eq_true, Dat.eqv, Prod.mk.injEq]
theorem dp_all [Dat α] : ∀ {vs : List V} {xs : List α}, A2 (rep K H) vs xs → DpAll K H vs (xs.map Dat.toD)
  | _, _, .nil => .nil
  | _, _, .cons h t => .cons (Dat.dp h) (dp_all t)
theorem lay_all [Dat α] : ∀ xs : List α, PyData.canLayAll0 (xs.map Dat.toD) = true
  | [] => by simp only [List.map_nil, PyData.canLayAll0]
  | x :: xs => by simp only [List.map_cons, PyData.canLayAll0, Dat.lay, lay_all xs, Bool.and_true]
theorem dep_all [Dat α] : ∀ xs : List α, PyData.depthAll (xs.map Dat.toD) ≤ Dat.dmax α
  | [] => by simp only [List.map_nil, PyData.depthAll, Nat.zero_le]
  | x :: xs => by
    have h1 := dep_all xs
    have h2 := Dat.dep x
    simp only [List.map_cons, PyData.depthAll]
    omega
theorem eqv_all [Dat α] : ∀ xs ys : List α, PyData.eqvAll (xs.map Dat.toD) (ys.map Dat.toD) = true ↔ xs = ys
  | [], [] => by simp [PyData.eqvAll]
  | x :: xs, [] => by simp [PyData.eqvAll]
  | [], y :: ys => by simp [PyData.eqvAll]
  | x :: xs, y :: ys => by simp only [List.map_cons, PyData.eqvAll, Bool.and_eq_true, Dat.eqv, eqv_all xs ys, List.cons.injEq]
instance datList [Dat α] : Dat (List α) where
  toD := fun xs => .list (xs.map Dat.toD)
  dmax := Dat.dmax α + 1
  dp := fun {K H v x} h => by
    obtain ⟨a, vs, rfl, q, h⟩ := h
    exact .lst (SqL.of q) (dp_all h)
  lay := fun x => by
    simp only [PyData.canLay0]
    exact lay_all x
  dep := fun x => by
    have h := dep_all x
    simp only [PyData.depth]
    omega
  eqv := fun x y => by
    simp only [PyData.eqv]
    exact eqv_all x y
instance datTup [Dat α] : Dat (Tup α) where
  toD := fun xs => .tuple (xs.l.map Dat.toD)
  dmax := Dat.dmax α + 1
  dp := fun {K H v x} h => by
    obtain ⟨a, vs, rfl, q, h⟩ := h
    exact .tup (SqT.of q) (dp_all h)
  lay := fun x => by
    simp only [PyData.canLay0]
    exact lay_all x.l
  dep := fun x => by
    have h := dep_all x.l
    simp only [PyData.depth]
    omega
  eqv := fun x y => by
    obtain ⟨x⟩ := x
    obtain ⟨y⟩ := y
    simp only [PyData.eqv, Tup.mk.injEq]
    exact eqv_all x y
instance datThing : Dat Thing where
  toD := fun x => match x with
    | .pl i => .int i
    | .ti a b => .tuple [.int a, .int b]
  dmax := 1
  dp := fun {K H v x} h => by
    cases x with
    | pl i =>
      have h' : v = V.int i := h
      subst h'
      exact .int _
    | ti a b =>
      obtain ⟨p, u, w, rfl, q, h1, h2⟩ := (show rep K H v (a, b) from h)
      have h1' : u = V.int a := h1
      have h2' : w = V.int b := h2
      subst h1' h2'
      exact .tup (SqT.of q) (.cons (.int _) (.cons (.int _) .nil))
  lay := fun x => by cases x <;> simp [PyData.canLay0, PyData.canLayAll0]
  dep := fun x => by cases x <;> simp [PyData.depth, PyData.depthAll]
  eqv := fun x y => by cases x <;> cases y <;> simp [PyData.eqv, PyData.eqvAll]
instance datScr : Dat Scr where
  toD := fun xs => .list (xs.l.map PyData.int)
  dmax := 1
  dp := fun {K H v x} h => by
    obtain ⟨a, rfl, q⟩ := h
    have e : ∀ l : List Int, DpAll K H (l.map V.int) (l.map PyData.int) := fun l => by
      induction l with
      | nil => exact .nil
      | cons x l ih => exact .cons (.int _) ih
    exact .lst q (e x.l)
  lay := fun x => by
    simp only [PyData.canLay0]
    exact lay_all (α := Int) x.l
  dep := fun x => by
    have h := dep_all (α := Int) x.l
    have h' : PyData.depthAll (x.l.map PyData.int) ≤ 0 := h
    simp only [PyData.depth]
    omega
  eqv := fun x y => by
    obtain ⟨x⟩ := x
    obtain ⟨y⟩ := y
    simp only [PyData.eqv, Scr.mk.injEq]
    exact eqv_all (α := Int) x y
theorem shapedD [Dat α] (hd : Dat.dmax α ≤ 60) (x : α) : SeqAt.shaped (Dat.toD x) = true := by
  have h := Dat.dep x
  show ((Dat.toD x).canLay0 && decide ((Dat.toD x).depth ≤ 64)) = true
  rw [Bool.and_eq_true]
  exact ⟨Dat.lay x, decide_eq_true (by omega)⟩
theorem eqvD [Dat α] [DecidableEq α] (x y : α) : PyData.eqv (Dat.toD x) (Dat.toD y) = decide (x = y) := by
  by_cases h : x = y
  · rw [decide_eq_true h]
    exact (Dat.eqv x y).mpr h
  · rw [decide_eq_false h]
    exact Bool.eq_false_iff.mpr fun e => h ((Dat.eqv x y).mp e)
theorem anyD [Dat α] [DecidableEq α] (x : α) : ∀ ys : List α, ((ys.map Dat.toD).any fun z => PyData.eqv z (Dat.toD x)) = decide (x ∈ ys)
  | [] => by simp
  | y :: ys => by
    rw [List.map_cons, List.any_cons, anyD x ys, eqvD]
    by_cases h : y = x
    · subst h; simp
    · have h' : ¬ x = y := fun e => h e.symm
      simp [h, h']
end

section
variable {X : Cx} {α β : Type} {K : Fg}
/-- ==, != of data -/
theorem op_eqDt (hK : X.K = K) (α : Type) [Dat α] [DecidableEq α] (hd : Dat.dmax α ≤ 60) (hu : X.A.units + 64 < cLine) : OpR X (compareOp .Eq) (fun x y H Q => ∃ a b : α, rep K H x a ∧ rep K H y b ∧ Q (.bl (decide (a = b))) H) := by
  subst hK
  intro pins s σ H x y v u Q I rx ry ⟨a, b, h1, h2, q⟩
  exact op_eqD hu pins s σ H x y v u Q I rx ry ⟨Dat.toD a, Dat.toD b, Dat.dp h1, Dat.dp h2, shapedD hd a, shapedD hd b, by rw [eqvD]; exact q⟩
theorem op_neDt (hK : X.K = K) (α : Type) [Dat α] [DecidableEq α] (hd : Dat.dmax α ≤ 60) (hu : X.A.units + 64 < cLine) : OpR X (compareOp .NotEq) (fun x y H Q => ∃ a b : α, rep K H x a ∧ rep K H y b ∧ Q (.bl (!decide (a = b))) H) := by
  subst hK
  intro pins s σ H x y v u Q I rx ry ⟨a, b, h1, h2, q⟩
  exact op_neD hu pins s σ H x y v u Q I rx ry ⟨Dat.toD a, Dat.toD b, Dat.dp h1, Dat.dp h2, shapedD hd a, shapedD hd b, by rw [eqvD]; exact q⟩
/-- in, not in a list, a tuple of data -/
theorem op_inL (hK : X.K = K) (α : Type) [Dat α] [DecidableEq α] (hd : Dat.dmax α ≤ 50) (hu : X.A.units + 65 < cLine) : OpR X (compareOp .In) (fun x y H Q => ∃ (a : α) (b : List α), rep K H x a ∧ rep K H y b ∧ Q (.bl (decide (a ∈ b))) H) := by
  subst hK
  intro pins s σ H x y v u Q I rx ry ⟨a, b, h1, h2, q⟩
  exact op_inD hu pins s σ H x y v u Q I rx ry ⟨Dat.toD a, b.map Dat.toD, Dat.dp h1, Dat.dp h2, shapedD (by omega) a, shapedD (α := List α) (by show Dat.dmax α + 1 ≤ 60; omega) b, by rw [anyD]; exact q⟩
theorem op_notInL (hK : X.K = K) (α : Type) [Dat α] [DecidableEq α] (hd : Dat.dmax α ≤ 50) (hu : X.A.units + 65 < cLine) : OpR X (compareOp .NotIn) (fun x y H Q => ∃ (a : α) (b : List α), rep K H x a ∧ rep K H y b ∧ Q (.bl (!decide (a ∈ b))) H) := by
  subst hK
  intro pins s σ H x y v u Q I rx ry ⟨a, b, h1, h2, q⟩
  exact op_notInD hu pins s σ H x y v u Q I rx ry ⟨Dat.toD a, b.map Dat.toD, Dat.dp h1, Dat.dp h2, shapedD (by omega) a, shapedD (α := List α) (by show Dat.dmax α + 1 ≤ 60; omega) b, by rw [anyD]; exact q⟩
theorem op_inT (hK : X.K = K) (α : Type) [Dat α] [DecidableEq α] (hd : Dat.dmax α ≤ 50) (hu : X.A.units + 65 < cLine) : OpR X (compareOp .In) (fun x y H Q => ∃ (a : α) (b : Tup α), rep K H x a ∧ rep K H y b ∧ Q (.bl (decide (a ∈ b.l))) H) := by
  subst hK
  intro pins s σ H x y v u Q I rx ry ⟨a, b, h1, h2, q⟩
  have sd := shapedD (by omega : Dat.dmax α ≤ 60) a
  have se : SeqAt.shaped (.tuple (b.l.map Dat.toD)) = true := shapedD (α := Tup α) (by show Dat.dmax α + 1 ≤ 60; omega) b
  obtain ⟨as, r1⟩ := Dp.reads I (Dat.toD a) x v (Dat.dp h1) rx
  obtain ⟨bs, r2⟩ := Dp.reads I (.tuple (b.l.map Dat.toD)) y u (Dat.dp h2) ry
  refine SeqAt.in_tuple_reads r2 r1 (SeqAt.canLay_of_shaped se) (SeqAt.canLay_of_shaped sd) (room_in_shaped sd hu) ?_
  rw [anyD]
  exact ⟨.bl _, H, I, rfl, q⟩
theorem op_notInT (hK : X.K = K) (α : Type) [Dat α] [DecidableEq α] (hd : Dat.dmax α ≤ 50) (hu : X.A.units + 65 < cLine) : OpR X (compareOp .NotIn) (fun x y H Q => ∃ (a : α) (b : Tup α), rep K H x a ∧ rep K H y b ∧ Q (.bl (!decide (a ∈ b.l))) H) := by
  subst hK
  intro pins s σ H x y v u Q I rx ry ⟨a, b, h1, h2, q⟩
  have sd := shapedD (by omega : Dat.dmax α ≤ 60) a
  have se : SeqAt.shaped (.tuple (b.l.map Dat.toD)) = true := shapedD (α := Tup α) (by show Dat.dmax α + 1 ≤ 60; omega) b
  obtain ⟨as, r1⟩ := Dp.reads I (Dat.toD a) x v (Dat.dp h1) rx
  obtain ⟨bs, r2⟩ := Dp.reads I (.tuple (b.l.map Dat.toD)) y u (Dat.dp h2) ry
  refine SeqAt.notIn_tuple_reads r2 r1 (SeqAt.canLay_of_shaped se) (SeqAt.canLay_of_shaped sd) (room_in_shaped sd hu) ?_
  rw [anyD]
  exact ⟨.bl _, H, I, rfl, q⟩
/-- == of texts -/
theorem decS (x y : Str) : decide (V.str x = V.str y) = decide (x = y) := by
  by_cases h : x = y
  · subst h; simp
  · rw [decide_eq_false h, decide_eq_false (fun e => h (V.str.inj e))]
theorem op_eqS : OpR X (compareOp .Eq) (fun x y H Q => ∃ a b : Str, x = .str a ∧ y = .str b ∧ Q (.bl (decide (a = b))) H) := by
  intro pins s σ H x y v u Q I rx ry ⟨a, b, h1, h2, q⟩
  subst h1 h2
  exact op_eq pins s σ H _ _ v u Q I rx ry ⟨rfl, by rw [decS]; exact q⟩
theorem op_neS : OpR X (compareOp .NotEq) (fun x y H Q => ∃ a b : Str, x = .str a ∧ y = .str b ∧ Q (.bl (!decide (a = b))) H) := by
  intro pins s σ H x y v u Q I rx ry ⟨a, b, h1, h2, q⟩
  subst h1 h2
  exact op_ne pins s σ H _ _ v u Q I rx ry ⟨rfl, by rw [decS]; exact q⟩
/-- == of truths -/
theorem decB (x y : Bool) : decide (V.bl x = V.bl y) = decide (x = y) := by
  cases x <;> cases y <;> rfl
theorem op_eqB : OpR X (compareOp .Eq) (fun x y H Q => ∃ a b : Bool, x = .bl a ∧ y = .bl b ∧ Q (.bl (decide (a = b))) H) := by
  intro pins s σ H x y v u Q I rx ry ⟨a, b, h1, h2, q⟩
  subst h1 h2
  exact op_eq pins s σ H _ _ v u Q I rx ry ⟨rfl, by rw [decB]; exact q⟩
theorem op_neB : OpR X (compareOp .NotEq) (fun x y H Q => ∃ a b : Bool, x = .bl a ∧ y = .bl b ∧ Q (.bl (!decide (a = b))) H) := by
  intro pins s σ H x y v u Q I rx ry ⟨a, b, h1, h2, q⟩
  subst h1 h2
  exact op_ne pins s σ H _ _ v u Q I rx ry ⟨rfl, by rw [decB]; exact q⟩

/-! ### built-ins -/
theorem call_lenN (hK : X.K = K) : CallR X (.builtin "len") (fun xs H Q => ∃ (p : Addr) (ys : List V) (n : Nat), xs = [.ref p] ∧ (SqL K H p ys ∨ SqT K H p ys) ∧ ys.length = n ∧ Q (.int (n : Int)) H) := by
  subst hK
  intro pins s σ H xs us Q I r ⟨p, ys, n, e, h, hn, q⟩
  subst hn
  exact call_len_seq pins s σ H xs us Q I r ⟨p, ys, e, h, q⟩
def absI (i : Int) : Int := if i < 0 then -i else i
def max2 (i j : Int) : Int := if j > i then j else i
def min2 (i j : Int) : Int := if j < i then j else i
/-- the greatest, the least of a list -/
def maxL (xs : List Int) : R Int := ofO xs.max?
def minL (xs : List Int) : R Int := ofO xs.min?
theorem pb_max {δ : Type} {xs : List Int} {f : Int → R δ} {P : δ → Prop} {E : Exn → Prop} (h : Post (maxL xs >>= f) P E) : ∃ m, xs.max? = some m ∧ Post (f m) P E := pb_ofO h
theorem pb_min {δ : Type} {xs : List Int} {f : Int → R δ} {P : δ → Prop} {E : Exn → Prop} (h : Post (minL xs >>= f) P E) : ∃ m, xs.min? = some m ∧ Post (f m) P E := pb_ofO h
theorem cr_maxI (hK : X.K = K) (hc : X.calm = true) : CallR X (.builtin "max") (fun vs H Q => ∃ (a : Addr) (ns : List Int) (m : Int), vs = [V.ref a] ∧ SqL K H a (ns.map V.int) ∧ ns.max? = some m ∧ Q (.int m) H) := by
  subst hK
  intro pins s σ H xs us Q I r ⟨a, ns, m, e, h, hm, q⟩
  obtain ⟨h1, h2⟩ := List.max?_eq_some_iff.mp hm
  refine cr_max hc pins s σ H xs us Q I r ⟨a, ns, e, h, ?_, fun k h3 h4 => ?_⟩
  · exact List.length_pos_of_mem h1
  · have e1 : k = m := Int.le_antisymm (h2 k h3) (h4 m h1)
    subst e1
    exact q
theorem cr_minI (hK : X.K = K) (hc : X.calm = true) : CallR X (.builtin "min") (fun vs H Q => ∃ (a : Addr) (ns : List Int) (m : Int), vs = [V.ref a] ∧ SqL K H a (ns.map V.int) ∧ ns.min? = some m ∧ Q (.int m) H) := by
  subst hK
  intro pins s σ H xs us Q I r ⟨a, ns, m, e, h, hm, q⟩
  obtain ⟨h1, h2⟩ := List.min?_eq_some_iff.mp hm
  refine cr_min hc pins s σ H xs us Q I r ⟨a, ns, e, h, ?_, fun k h3 h4 => ?_⟩
  · exact List.length_pos_of_mem h1
  · have e1 : k = m := Int.le_antisymm (h4 m h1) (h2 k h3)
    subst e1
    exact q
/-- the ints in order -/
def sortI (xs : List Int) : List Int := xs.mergeSort fun a b => decide (a ≤ b)
theorem sortI_perm (xs : List Int) : (sortI xs).Perm xs := List.mergeSort_perm xs _
theorem sortI_sorted (xs : List Int) : (sortI xs).Pairwise (· ≤ ·) := by
  have h := List.pairwise_mergeSort (le := fun a b : Int => decide (a ≤ b)) (fun a b c h1 h2 => by simp only [decide_eq_true_eq] at *; omega) (fun a b => by simp only [Bool.or_eq_true, decide_eq_true_eq]; omega) xs
  exact h.imp fun h => by simpa using h
theorem sort_uniq {xs ys : List Int} (h : xs.Perm ys) (hx : xs.Pairwise (· ≤ ·)) (hy : ys.Pairwise (· ≤ ·)) : xs = ys := by
  induction xs generalizing ys with
  | nil => exact (List.nil_perm.mp h).symm
  | cons x xs ih =>
    cases ys with
    | nil => exact absurd h.symm (by simp)
    | cons y ys =>
      rw [List.pairwise_cons] at hx hy
      have e : x = y := by
        have h1 : x ∈ y :: ys := h.mem_iff.mp List.mem_cons_self
        have h2 : y ∈ x :: xs := h.mem_iff.mpr List.mem_cons_self
        rcases List.mem_cons.mp h1 with h1 | h1
        · exact h1
        · rcases List.mem_cons.mp h2 with h2 | h2
          · exact h2.symm
          · have := hx.1 y h2
            have := hy.1 x h1
            omega
      subst e
      rw [ih (List.perm_cons x |>.mp h) hx.2 hy.2]
theorem sortI_eq {xs ys : List Int} (h : ys.Perm xs) (hy : ys.Pairwise (· ≤ ·)) : ys = sortI xs := sort_uniq (h.trans (sortI_perm xs).symm) hy (sortI_sorted xs)
theorem cr_sortI (hK : X.K = K) : CallR X (.builtin "sorted") (fun vs H Q => ∃ (a : Addr) (ns : List Int), vs = [V.ref a] ∧ SqL K H a (ns.map V.int) ∧ ∀ p, H p = none → Q (.ref p) (upd H p (.lst ((sortI ns).map V.int)))) := by
  subst hK
  intro pins s σ H xs us Q I r ⟨a, ns, e, h, q⟩
  refine cr_sortedI pins s σ H xs us Q I r ⟨a, ns, e, h, fun ns' p h1 h2 hp => ?_⟩
  rw [sortI_eq h1 h2]
  exact q p hp
theorem ix_listK (hK : X.K = K) : IxR X (rIxL K) := hK ▸ ix_list
theorem ix_tupK (hK : X.K = K) : IxR X (rIxT K) := hK ▸ ix_tup
theorem sl_listK (hK : X.K = K) : SlR X (rSlL K) := hK ▸ sl_list
theorem cr_sumK (hK : X.K = K) (hc : X.calm = true) : CallR X (.builtin "sum") (rSum K) := hK ▸ cr_sum hc
theorem call_list_ofK (hK : X.K = K) : CallR X (.type "list") (fun xs H Q => ∃ p ys, xs = [.ref p] ∧ (SqL K H p ys ∨ SqT K H p ys) ∧ ∀ l, H l = none → Q (.ref l) (upd H l (.lst ys))) := hK ▸ call_list_of
theorem call_tuple_ofK (hK : X.K = K) : CallR X (.type "tuple") (fun xs H Q => ∃ p ys, xs = [.ref p] ∧ ((SqL K H p ys ∧ ∀ l, H l = none → Q (.ref l) (upd H l (.tup ys))) ∨ (SqT K H p ys ∧ Q (.ref p) H))) := hK ▸ call_tuple_of
theorem pi_listK {tg l : Expr} {tl : TE} (hK : X.K = K) (hl : PE X l tl) : PI X tg l (iList K tl) := hK ▸ pi_list hl
theorem pi_tupK {tg l : Expr} {tl : TE} (hK : X.K = K) (hl : PE X l tl) : PI X tg l (iTup K tl) := hK ▸ pi_tup hl
theorem pi_k {tg l : Expr} {wi : Fg → TI} (hK : X.K = K) (h : PI X tg l (wi X.K)) : PI X tg l (wi K) := hK ▸ h
theorem pe_k {e : Expr} {t : Fg → TE} (hK : X.K = K) (h : PE X e (t X.K)) : PE X e (t K) := hK ▸ h
theorem pg_k {tg : Expr} {t : Fg → TG} (hK : X.K = K) (h : PG X tg (t X.K)) : PG X tg (t K) := hK ▸ h
end
end Z
/-! Z3: sets of tuples by their number, isinstance -/
namespace Z
open PySem L2 PySem.Spec PyProof.Rows
open Rep (rep)
/-- each once -/
def nub {α : Type} [DecidableEq α] : List α → List α
  | [] => []
  | x :: xs => if x ∈ xs then nub xs else x :: nub xs
section
variable {α : Type} [DecidableEq α]
theorem nub_mem {y : α} : ∀ {xs : List α}, y ∈ nub xs ↔ y ∈ xs
  | [] => Iff.rfl
  | x :: xs => by
    unfold nub
    by_cases h : x ∈ xs
    · rw [if_pos h, nub_mem]
      exact ⟨List.mem_cons_of_mem _, fun q => (List.mem_cons.mp q).elim (fun e => e ▸ h) id⟩
    · rw [if_neg h, List.mem_cons, List.mem_cons, nub_mem]
theorem nub_nodup : ∀ (xs : List α), (nub xs).Nodup
  | [] => List.nodup_nil
  | x :: xs => by
    unfold nub
    by_cases h : x ∈ xs
    · rw [if_pos h]
      exact nub_nodup xs
    · rw [if_neg h]
      exact List.nodup_cons.mpr ⟨fun q => h (nub_mem.mp q), nub_nodup xs⟩
theorem nub_le : ∀ (xs : List α), (nub xs).length ≤ xs.length
  | [] => Nat.le_refl _
  | x :: xs => by
    unfold nub
    have := nub_le xs
    by_cases h : x ∈ xs
    · rw [if_pos h, List.length_cons]
      omega
    · rw [if_neg h, List.length_cons, List.length_cons]
      omega
theorem nub_len : ∀ {xs : List α}, (nub xs).length = xs.length ↔ xs.Nodup
  | [] => by simp [nub]
  | x :: xs => by
    unfold nub
    by_cases h : x ∈ xs
    · rw [if_pos h, List.length_cons]
      have := nub_le xs
      constructor
      · intro e
        omega
      · intro e
        exact absurd h (List.nodup_cons.mp e).1
    · rw [if_neg h, List.length_cons, List.length_cons, List.nodup_cons]
      constructor
      · intro e
        exact ⟨h, nub_len.mp (by omega)⟩
      · intro e
        rw [nub_len.mpr e.2]
theorem nodup_le : ∀ {xs ys : List α}, xs.Nodup → (∀ y ∈ xs, y ∈ ys) → xs.length ≤ ys.length
  | [], _, _, _ => Nat.zero_le _
  | x :: xs, ys, h, hs => by
    obtain ⟨h1, h2⟩ := List.nodup_cons.mp h
    have hx : x ∈ ys := hs x List.mem_cons_self
    have := nodup_le (xs := xs) (ys := ys.erase x) h2 fun y hy => (List.mem_erase_of_ne (show y ≠ x from fun e => by subst e; exact h1 hy)).mpr (hs y (List.mem_cons_of_mem _ hy))
    rw [List.length_erase_of_mem hx] at this
    have := List.length_pos_of_mem hx
    rw [List.length_cons]
    omega
theorem nodup_len {xs ys : List α} (h1 : xs.Nodup) (h2 : ys.Nodup) (h : ∀ y, y ∈ xs ↔ y ∈ ys) : xs.length = ys.length := by
  refine Nat.le_antisymm ?_ ?_
  · exact nodup_le h1 fun y hy => (h y).mp hy
  · exact nodup_le h2 fun y hy => (h y).mpr hy
end
section
variable {X : Cx} {K : Fg} {P : Program} {w : World} {F H : Hp}
/-- tuples of ints by their places -/
theorem tups_ks : ∀ {vs : List V} {xs : List (Tup Int)}, A2 (rep K H) vs xs → ∃ ks : List (Addr × List Int), vs = ks.map (fun p => V.ref p.1) ∧ ks.map (·.2) = xs.map (·.l) ∧ ∀ p ∈ ks, H p.1 = some (.tup (p.2.map V.int))
  | _, _, .nil => ⟨[], rfl, rfl, fun _ h => nomatch h⟩
  | _, _, .cons (x := x) h t => by
    obtain ⟨ks, h1, h2, h3⟩ := tups_ks t
    obtain ⟨a, us, rfl, q, hu⟩ := h
    refine ⟨(a, x.l) :: ks, by rw [h1]; rfl, by rw [List.map_cons, List.map_cons, h2], fun p hp => ?_⟩
    rcases List.mem_cons.mp hp with rfl | hp
    · rw [← hu.ints]
      exact q
    · exact h3 p hp
theorem setT0_len {pins : List (Addr × Obj)} {σ : L2.St} {s : Shared} {a : Addr} {L : List (Addr × List Int)} {Q : VK} (I : Inv X pins σ H s) (R : SetT0 X.prog X.w s.heap a L) (q : (L.map (·.2)).Nodup → Q (.int (L.length : Nat)) H) :
    wpAny (model X.prog X.w) X.A (call (.builtin "len") [.ref a]) (EP X pins σ Q) X.xe s := by
  obtain ⟨es, ep, t, ⟨o, ho, hex, hd⟩, hr, ht, hn, _, _, _, hf⟩ := R.ex
  have hsz : es.size = L.length := by
    have h := congrArg List.length hr
    unfold rowsOf at h
    rw [Array.length_toList, List.length_map] at h
    exact h
  have hps : t.place.size = L.length := by
    have := ht.sz
    rw [List.length_map] at this
    exact this
  have hroom := R.ex
  obtain ⟨_, _, t', ⟨o', ho', _, hd'⟩, _, _, _, _, _, hm, _⟩ := hroom
  rw [ho] at ho'
  cases ho'
  rw [hd] at hd'
  cases hd'
  have hfit : t.fits es.size = true := by
    unfold SetTable.fits SetTable.fill
    rw [ht.dm, hps, hsz]
    simp
    omega
  exact call_len_set ho hex hd hfit (by rw [hsz]; omega) ⟨.int (L.length : Nat), H, I.tok _, ⟨_, by rw [hsz]⟩, q hn⟩
/-- set(xs) of tuples, then len of it -/
theorem cr_setT (hK : X.K = K) (hP : X.prog = P) (hw : X.w = w) (hc : X.calm = true) (hu : X.A.units + 64 < cLine) : CallR X (.type "set") (fun xs H Q => ∃ (ys : List (Tup Int)) (v : V), xs = [v] ∧ rep K H v ys ∧ ys.length < 64 ∧
    ∀ a L, H a = none → ((L.map (·.2)).Nodup → L.length = (nub ys).length) → Q (.ref a) (upd H a (SetTO P w a L))) := by
  subst hK hP hw
  intro pins s σ H xs us Q I r ⟨ys, v, e, hr, hl, q⟩
  obtain ⟨a, vs, rfl, hq, h⟩ := hr
  obtain ⟨ks, h1, h2, h3⟩ := tups_ks h
  subst h1
  have hks : ks.length = ys.length := by
    have := congrArg List.length h2
    simpa using this
  refine cr_setOfT hc hu pins s σ H xs us Q I r ⟨a, ks, e, SqL.of hq, fun p hp => SqT.of (h3 p hp), by omega, fun b L hb hsub hall => q b L hb fun hn => ?_⟩
  have key : (L.map (·.2)).length = ((nub ys).map (·.l)).length := by
    refine nodup_len hn ?_ fun y => ?_
    · have inj : ∀ x y : Tup Int, x.l = y.l → x = y := fun x y e => by cases x; cases y; simp at e; rw [e]
      refine List.Pairwise.map (R := (· ≠ ·)) _ (fun x y hxy e => hxy (inj x y e)) (nub_nodup ys)
    · constructor
      · intro hy
        obtain ⟨p, hp, rfl⟩ := List.mem_map.mp hy
        have h4 : p.2 ∈ ks.map (·.2) := List.mem_map.mpr ⟨p, hsub p hp, rfl⟩
        rw [h2] at h4
        obtain ⟨z, hz, e⟩ := List.mem_map.mp h4
        exact List.mem_map.mpr ⟨z, nub_mem.mpr hz, e⟩
      · intro hy
        obtain ⟨z, hz, rfl⟩ := List.mem_map.mp hy
        have h4 : z.l ∈ ks.map (·.2) := by
          rw [h2]
          exact List.mem_map.mpr ⟨z, nub_mem.mp hz, rfl⟩
        obtain ⟨p, hp, e⟩ := List.mem_map.mp h4
        rw [← e]
        exact hall p hp
  rw [List.length_map, List.length_map] at key
  exact key
theorem call_lenT (hP : X.prog = P) (hw : X.w = w) : CallR X (.builtin "len") (fun xs H Q => ∃ (a : Addr) (L : List (Addr × List Int)) (n : Nat), xs = [.ref a] ∧ H a = some (SetTO P w a L) ∧ ((L.map (·.2)).Nodup → L.length = n) ∧ Q (.int (n : Nat)) H) := by
  subst hP hw
  intro pins s σ H xs us Q I r ⟨a, L, n, e, ha, hn, q⟩
  subst e
  rw [Vals.ref1 r]
  have R : SetT0 X.prog X.w s.heap a L := (show ObjOk X.prog X.w H s.heap a (SetTO X.prog X.w a L) from I.hok a _ ha).1
  exact setT0_len I R fun nd => by rw [hn nd]; exact q
/-- isinstance of a plain value and a built-in class -/
theorem call_isB (hK : X.K = K) : CallR X (.builtin "isinstance") (fun xs H Q => ∃ (x : V) (a b : String) (r : Bool), xs = [x, .ty b] ∧ TyOf K H x (.type a) ∧ kitB a b = some r ∧ Q (.bl r) H) := by
  subst hK
  intro pins s σ H xs us Q I r ⟨x, a, b, c, e, h1, h2, q⟩
  exact call_isi pins s σ H xs us Q I r ⟨x, .ty b, .type a, .type b, c, e, .ty b, .base h1, kit_ty h2, q⟩
end
end Z
namespace Z
open PySem L2 PySem.Spec PyProof.Rows
open Rep (rep)
section
variable {α : Type}
/-- the first place of an item -/
def fidx [DecidableEq α] (y : α) : List α → Option Nat
  | [] => none
  | x :: xs => if x = y then some 0 else (fidx y xs).map (· + 1)
def idxR [DecidableEq α] (xs : List α) (y : α) : R Int := ofO ((fidx y xs).map fun j => ((j : Nat) : Int))
theorem fidx_spec [DecidableEq α] {y : α} : ∀ {xs : List α} {j : Nat}, fidx y xs = some j → xs[j]? = some y ∧ ∀ m z, m < j → xs[m]? = some z → z ≠ y
  | [], j, h => nomatch h
  | x :: xs, j, h => by
    unfold fidx at h
    by_cases e : x = y
    · rw [if_pos e] at h
      cases h
      subst e
      exact ⟨rfl, fun m z hm => absurd hm (Nat.not_lt_zero _)⟩
    · rw [if_neg e] at h
      cases q : fidx y xs with
      | none => rw [q] at h; cases h
      | some k =>
        rw [q] at h
        cases h
        obtain ⟨h1, h2⟩ := fidx_spec q
        refine ⟨by simpa using h1, fun m z hm hz => ?_⟩
        cases m with
        | zero =>
          simp at hz
          subst hz
          exact e
        | succ m => exact h2 m z (Nat.lt_of_succ_lt_succ hm) (by simpa using hz)
variable {δ : Type} {P : δ → Prop} {E : Exn → Prop}
theorem pb_idx [DecidableEq α] {xs : List α} {y : α} {f : Int → R δ} (h : Post (idxR xs y >>= f) P E) : ∃ j : Nat, fidx y xs = some j ∧ Post (f (j : Int)) P E := by
  unfold idxR at h
  cases q : fidx y xs with
  | none => rw [q] at h; exact (show False from h).elim
  | some j => rw [q] at h; exact ⟨j, rfl, h⟩
end
section
variable {X : Cx} {K : Fg} {F H : Hp}
theorem A2.strs {vs : List V} {xs : List Str} (h : A2 (rep K H) vs xs) : vs = xs.map V.str := by
  induction h with
  | nil => rfl
  | cons a _ ih =>
    have a' : _ = V.str _ := a
    rw [a', ih]
    rfl
theorem bools_q {a : Addr} {vs : List V} {xs : List Bool} (q : SqL K H a vs) (h : A2 (rep K F) vs xs) : SqL K H a (xs.map V.bl) := h.bools ▸ q
theorem strs_q {a : Addr} {vs : List V} {xs : List Str} (q : SqL K H a vs) (h : A2 (rep K F) vs xs) : SqL K H a (xs.map V.str) := h.strs ▸ q
theorem mt_indexS (hK : X.K = K) : MtR X "list.index" (fun x xs H Q => ∃ (a : Addr) (ys : List Str) (y : Str) (j : Nat), x = V.ref a ∧ xs = [.str y] ∧ SqL K H a (ys.map V.str) ∧ fidx y ys = some j ∧ Q (.int (j : Int)) H) := by
  subst hK
  intro pins s σ H x xs v us Q I rx rxs ⟨a, ys, y, j, e1, e2, hs, hj, q⟩
  obtain ⟨h1, h2⟩ := fidx_spec hj
  refine mt_index pins s σ H x xs v us Q I rx rxs ⟨a, _, .str y, j, .str y, e1, e2, hs, rfl, ?_, ?_, ?_, fun m z hm hz => ?_, q⟩
  · rw [List.all_eq_true]
    intro z hz
    obtain ⟨t, _, rfl⟩ := List.mem_map.mp hz
    rfl
  · rw [List.getElem?_map, h1]
    rfl
  · show (y == y) = true
    simp
  · rw [List.getElem?_map] at hz
    cases e : ys[m]? with
    | none => rw [e] at hz; cases hz
    | some t =>
      rw [e] at hz
      cases hz
      have := h2 m t hm e
      show (t == y) = false
      simpa using this
theorem mt_indexI (hK : X.K = K) : MtR X "list.index" (fun x xs H Q => ∃ (a : Addr) (ys : List Int) (y : Int) (j : Nat), x = V.ref a ∧ xs = [.int y] ∧ SqL K H a (ys.map V.int) ∧ fidx y ys = some j ∧ Q (.int (j : Int)) H) := by
  subst hK
  intro pins s σ H x xs v us Q I rx rxs ⟨a, ys, y, j, e1, e2, hs, hj, q⟩
  obtain ⟨h1, h2⟩ := fidx_spec hj
  refine mt_index pins s σ H x xs v us Q I rx rxs ⟨a, _, .int y, j, .int y, e1, e2, hs, rfl, ?_, ?_, ?_, fun m z hm hz => ?_, q⟩
  · rw [List.all_eq_true]
    intro z hz
    obtain ⟨t, _, rfl⟩ := List.mem_map.mp hz
    rfl
  · rw [List.getElem?_map, h1]
    rfl
  · show (y == y) = true
    simp
  · rw [List.getElem?_map] at hz
    cases e : ys[m]? with
    | none => rw [e] at hz; cases hz
    | some t =>
      rw [e] at hz
      cases hz
      have := h2 m t hm e
      show (t == y) = false
      simpa using this
theorem cr_allK (hK : X.K = K) (hc : X.calm = true) : CallR X (.builtin "all") (rAll K) := hK ▸ cr_all hc
theorem cr_anyK (hK : X.K = K) (hc : X.calm = true) : CallR X (.builtin "any") (rAny K) := hK ▸ cr_any hc
end
end Z
namespace HT
open PySem PySem.Spec PyProof.Rows
section
variable {prog : Program} {w : World} {A : Around} {E : Value → Shared → Prop} {s : Shared}
/-- t[::-1] of a tuple of two -/
theorem zrev_two {t sl : Addr} {x y vs : Value} {Q : Value → Shared → Prop} (ht : IsTup s.heap t #[x, y]) (hs : s.heap.IsSliceOf sl .none .none vs) (pl : IsPart .none none) (ps : IsPart vs (some (-1)))
    (h : Q (.ref s.heap.objs.size) { s with heap := s.heap.push { cls := .type "tuple", data := .seq #[y, x] } }) : wpAny (model prog w) A (getItem (.ref t) (.ref sl)) Q E s := by
  have htake : sizeOk (.seq #[y, x]) := by
    show 2 ≤ sizeLine
    decide
  obtain ⟨os, hos, hcs, hds⟩ := id hs
  have hTs : s.TypeIs (.ref sl) "slice" := ⟨os, hos, hcs⟩
  unfold getItem
  try with_reducible refine wpAny_holding ?_
  first | refine wpAny_bind (wpAny_pure ?_) | skip
  refine wpAny_bind (wpAny_sequenceKey ht.typeIs (by decide) ?_)
  refine wpAny_bind (wpAny_callSpecial?_slot (name := Str.ofString "__getitem__") ht.typeIs PyProof.Rows.slot_tuple_getitem
    (wpAny_call_entry PyProof.Rows.slot_tuple_getitem ht.typeIs entry_tuple_getitem ?_ (args_tuple_getitem _ _)))
  show wpAny _ _ (Builtin.Tuple.tupleItemsOf (.ref t) >>= _) _ _ s
  refine wpAny_bind (tupleItemsOf_ ht ?_)
  refine wpAny_bind (wpAny_typeOf hTs ?_)
  rw [if_pos (by decide)]
  have key : ∀ {A' : Around} {E' : Value → Shared → Prop} {R : Int × Int × Nat → Shared → Prop}, R ((1 : Int), -1, 2) s → wpAny (model prog w) A' (Builtin.Slice.sliceApplied (.ref sl) (pure (2 : Int))) R E' s := by
    intro A' E' R hR
    unfold Builtin.Slice.sliceApplied Builtin.Slice.sliceFields
    refine wpAny_bind (wpAny_bind (wpAny_field hos hds (x := .none) rfl (wpAny_bind (wpAny_field hos hds (x := .none) rfl (wpAny_bind (wpAny_field hos hds (x := vs) rfl (wpAny_pure ?_)))))))
    refine wpAny_bind (slicePart_ ps ?_)
    show wpAny _ _ (if ((-1 : Int) == 0) = true then _ else _) _ _ s
    rw [if_neg (by decide)]
    refine wpAny_bind (slicePart_ pl (wpAny_bind (slicePart_ pl (wpAny_bind (wpAny_pure ?_)))))
    show wpAny _ _ (match Builtin.Slice.sliceAdjust none none (-1) (2 : Int) with | (lo, hi) => pure (lo, (-1 : Int), Builtin.Slice.slicePlaces lo hi (-1))) _ _ s
    exact wpAny_pure hR
  refine wpAny_bind (key ?_)
  show wpAny _ _ (if ((1 : Int) == 0 && (-1 : Int) == 1 && (2 : Nat) == 2) = true then _ else _) _ _ s
  rw [if_neg (by decide)]
  first
    | exact wpAny_bind (m := Builtin.Tuple.tupleExact _) (wpAny_newObj_type (wpAny_pure ⟨_, rfl, wpAny_pure h⟩) htake)
    | exact wpAny_bind (m := Builtin.Tuple.tupleExact _) (wpAny_newObj_type (wpAny_bind (wpAny_pure (wpAny_pure ⟨_, rfl, wpAny_pure h⟩))) htake)
    | exact wpAny_bind (wpAny_bind (m := Builtin.Tuple.tupleExact _) (wpAny_newObj_type (wpAny_pure (wpAny_pure ⟨_, rfl, wpAny_pure h⟩)) htake))
    | exact wpAny_bind (wpAny_bind (m := Builtin.Tuple.tupleExact _) (wpAny_newObj_type (wpAny_pure ⟨_, rfl, wpAny_pure h⟩) htake))
end
end HT
namespace Z
open PySem L2 PySem.Spec PyProof.Rows
open Rep (rep)
section
variable {X : Cx} {K : Fg} {F H : Hp}
def tRev2 (te : TE) : TE := fun σ H Q => te σ H fun x H1 => ∃ a u w, x = .ref a ∧ H1 a = some (.tup [u, w]) ∧ ∀ p, H1 p = none → Q (.ref p) (upd H1 p (.tup [w, u]))
theorem pe_rev2 {e : Expr} {te : TE} {k : Nat} {p1 p2 p3 pos : Pos} (he : PE X e te) : PE X (.Subscript e (.Slice none none (some (.UnaryOp .USub (.Constant (.int 1) k p1) p2)) p3) pos) (tRev2 te) := by
  refine ⟨fun pins s σ H Q I h => ?_⟩
  refine Subscript_ (thn (he.run pins s σ H _ I h) fun v s1 ⟨x, H1, I1, r1, q1⟩ => ?_)
  obtain ⟨a, c, d, ex, hx, q⟩ := q1
  subst ex
  cases r1
  have hst : PO X (some (.UnaryOp .USub (.Constant (.int 1) k p1) p2)) (tPart (tUn (rU fun i => .int (-i)) (tC (.int 1)))) := po_some (pe_un un_neg pe_int)
  refine wpAny_Slice (thn (po_none.run pins s1 σ H1 (fun o H2 => o = none ∧ H2 = H1) I1 ⟨rfl, rfl⟩) fun vl s2 ⟨l, H2, I2, pl, el, e2⟩ => ?_)
  subst el e2
  refine thn (po_none.run pins s2 σ H2 (fun o H3 => o = none ∧ H3 = H2) I2 ⟨rfl, rfl⟩) fun vu s3 ⟨u, H3, I3, pu, eu, e3⟩ => ?_
  subst eu e3
  refine thn (hst.run pins s3 σ H3 (fun o H4 => o = some (-1) ∧ H4 = H3) I3 ⟨1, rfl, -1, rfl, rfl, rfl⟩) fun vs s4 ⟨o, H4, I4, ps, eo, e4⟩ => ?_
  subst eo e4
  have I5 : Inv X pins σ H4 { s4 with heap := s4.heap.push { cls := .type "slice", data := .fields #[vl, vu, vs] } } := I4.kept (t' := s4.toks) fun b ob q => Heap.get?_push_of_some _ q
  obtain ⟨its, r, ht, hz⟩ := I5.tuple (SqT.of hx)
  cases r with
  | cons r1 r' =>
    rename_i uu us
    cases r' with
    | cons r2 r'' =>
      rename_i ww ws
      cases r''
      cases pl
      cases pu
      show wpAny (model X.prog X.w) X.A (subscriptTail e (.Slice none none (some (.UnaryOp .USub (.Constant (.int 1) k p1) p2)) p3) (.ref a) (.ref s4.heap.objs.size)) (EP X pins σ Q) X.xe { s4 with heap := s4.heap.push { cls := .type "slice", data := .fields #[.none, .none, vs] } }
      refine tail_any (ops := [.ref a, .ref s4.heap.objs.size]) ht.typeIs (PyProof.Rows.slot_tuple_getitem.lookup) ?_ (by with_unfolding_all rfl)
      refine HT.zrev_two ht (Heap.IsSliceOf.new _ .none .none vs) .none ps ?_
      exact ⟨.ref _, _, I5.laid (t' := s4.toks) (o := .tup [d, c]) (fun b ob q => Heap.get?_push_of_some _ q) (Nat.le_refl _) ⟨by show 2 ≤ sizeLine; decide, [ww, uu], .cons r2 (.cons r1 .nil), IsTup.new _ _⟩, rfl, q _ (I5.hok.fresh (Nat.le_refl _))⟩
/-- two things turned about -/
def rev2 {α : Type} (xs : List α) : R (List α) := match xs with
  | [x, y] => .ok [y, x]
  | _ => .bad
theorem pb_rev2 {α δ : Type} {xs : List α} {f : List α → R δ} {P : δ → Prop} {E : Exn → Prop} (h : Post (rev2 xs >>= f) P E) : ∃ x y, xs = [x, y] ∧ Post (f [y, x]) P E := by
  cases xs with
  | nil => exact (show False from h).elim
  | cons x xs =>
    cases xs with
    | nil => exact (show False from h).elim
    | cons y xs =>
      cases xs with
      | nil => exact ⟨x, y, rfl, h⟩
      | cons z xs => exact (show False from h).elim
theorem A2.two {α : Type} {r : V → α → Prop} {vs : List V} {x y : α} (h : A2 r vs [x, y]) : ∃ u w, vs = [u, w] ∧ r u x ∧ r w y := by
  cases h with
  | cons a t =>
    cases t with
    | cons b t =>
      cases t
      exact ⟨_, _, rfl, a, b⟩
/-- xs * k -/
def repL {α : Type} (xs : List α) (k : Int) : List α := (List.replicate k.toNat xs).flatten
def repR {α : Type} (xs : List α) (k : Int) : R (List α) := if -(2 ^ 62) ≤ k ∧ k < 2 ^ 62 ∧ xs.length * k.toNat < 100000 then .ok (repL xs k) else .bad
theorem pb_rep {α δ : Type} {xs : List α} {k : Int} {f : List α → R δ} {P : δ → Prop} {E : Exn → Prop} (h : Post (repR xs k >>= f) P E) : ∃ ys, (-(2 ^ 63) ≤ k ∧ k < 2 ^ 63 ∧ xs.length * k.toNat ≤ sizeLine) ∧ ys = repL xs k ∧ Post (f ys) P E := by
  obtain ⟨⟨a, b, c⟩, d⟩ := pb_if h
  exact ⟨_, ⟨by omega, by omega, Nat.le_of_lt (Nat.lt_of_lt_of_le c line5)⟩, rfl, d⟩
theorem A2.flat {α : Type} {r : V → α → Prop} {vs : List V} {xs : List α} (h : A2 r vs xs) (n : Nat) : A2 r (List.replicate n vs).flatten (List.replicate n xs).flatten := by
  induction n with
  | zero => exact .nil
  | succ n ih =>
    rw [List.replicate_succ, List.replicate_succ, List.flatten_cons, List.flatten_cons]
    exact h.append ih
/-! ### None -/
class NonN (α : Type) extends Rep α where
  no : ∀ {K : Fg} {H : Hp} {v : V} {x : α}, rep K H v x → v ≠ .non
instance : NonN Int := ⟨fun h e => by have h' : _ = V.int _ := h; rw [h'] at e; cases e⟩
instance : NonN Bool := ⟨fun h e => by have h' : _ = V.bl _ := h; rw [h'] at e; cases e⟩
instance {α β : Type} [Rep α] [Rep β] : NonN (α × β) := ⟨fun {K H v x} h q => by
  obtain ⟨a, u, w, e, _⟩ := h
  rw [e] at q
  cases q⟩
instance {α : Type} [Rep α] : NonN (List α) := ⟨fun {K H v x} h q => by
  obtain ⟨a, u, e, _⟩ := h
  rw [e] at q
  cases q⟩
instance {α : Type} [Rep α] : NonN (Tup α) := ⟨fun {K H v x} h q => by
  obtain ⟨a, u, e, _⟩ := h
  rw [e] at q
  cases q⟩
theorem isN_eq {α : Type} [NonN α] {v : V} {o : Option α} (h : rep K F v o) : decide (v = .non) = o.isNone := by
  cases o with
  | none =>
    have h' : v = V.non := h
    rw [h']
    rfl
  | some x => exact decide_eq_false (NonN.no (α := α) h)
theorem op_isN2 : OpR X (compareOp .Is) (fun x y H Q => y = V.non ∧ ∃ b, decide (x = .non) = b ∧ Q (.bl b) H) := by
  intro pins s σ H x y v u Q I rx ry ⟨e, b, hb, q⟩
  exact op_isN pins s σ H x y v u Q I rx ry ⟨e, by rw [hb]; exact q⟩
theorem op_notN2 : OpR X (compareOp .IsNot) (fun x y H Q => y = V.non ∧ ∃ b, decide (x = .non) = b ∧ Q (.bl (!b)) H) := by
  intro pins s σ H x y v u Q I rx ry ⟨e, b, hb, q⟩
  exact op_notN pins s σ H x y v u Q I rx ry ⟨e, by rw [hb]; exact q⟩
instance datOptBool : Dat (Option Bool) where
  toD := fun x => match x with
    | none => .none
    | some i => .bool i
  dmax := 0
  dp := fun {K H v x} h => by
    cases x with
    | none =>
      have h' : v = V.non := h
      subst h'
      exact .non
    | some i =>
      have h' : v = V.bl i := h
      subst h'
      exact .bl _
  lay := fun x => by cases x <;> simp only [PyData.canLay0]
  dep := fun x => by cases x <;> simp only [PyData.depth, Nat.le_refl]
  eqv := fun x y => by cases x <;> cases y <;> simp [PyData.eqv]
end
end Z
/-! Z4: statements never reached, tuples into the frozen part, pairs sorted, dicts of scalars, list(range), pop -/
namespace Z
open PySem L2
open Rep (rep)
section
variable {X : Cx}
theorem ps_absurd {st : Stmt} : PS X st (fun _ _ _ => False) := ⟨fun _ _ _ _ _ _ h => h.elim⟩
theorem stepNot {t : TT} {σ : L2.St} {H : Hp} {Q : Bool → Hp → Prop} (h : t σ H fun c H1 => Q (!c) H1) : tNot t σ H Q := h
/-- every tuple there is may be read -/
def tupF (F H : Hp) : Hp := fun b => match F b with
  | some u => some u
  | none => match H b with
    | some (.tup vs) => some (.tup vs)
    | _ => none
theorem tupF_some {F H : Hp} {b : Addr} {u : HO} (e : F b = some u) : tupF F H b = some u := by
  unfold tupF
  rw [e]
theorem tupF_none {F H : Hp} {b : Addr} {u : HO} (e : F b = none) (h : tupF F H b = some u) : H b = some u ∧ ∃ vs, u = .tup vs := by
  unfold tupF at h
  rw [e] at h
  dsimp only at h
  split at h
  · rename_i vs e'
    cases h
    exact ⟨e', _, rfl⟩
  · cases h
theorem tupF_tup {F H : Hp} {b : Addr} {vs : List V} (e : F b = none) (h : H b = some (.tup vs)) : tupF F H b = some (.tup vs) := by
  unfold tupF
  rw [e, h]
theorem W.tups {F H : Hp} {os : List (Addr × HO)} (w : W F H os) : ∃ F', Same F F' ∧ W F' H os ∧ ∀ b vs, H b = some (.tup vs) → F' b = some (.tup vs) := by
  refine ⟨tupF F H, fun b u e => tupF_some e, ⟨fun b u e => ?_, fun p hp => ?_, w.nd, w.nt⟩, fun b vs e => ?_⟩
  · cases q : F b with
    | some u' =>
      rw [tupF_some q] at e
      cases e
      exact w.same b _ q
    | none => exact (tupF_none q e).1
  · obtain ⟨h1, h2⟩ := w.own p hp
    refine ⟨h1, ?_⟩
    cases q : tupF F H p.1 with
    | none => rfl
    | some u =>
      obtain ⟨k, vs, rfl⟩ := tupF_none h2 q
      rw [h1] at k
      exact absurd (Option.some.inj k) (w.nt p hp vs)
  · cases q : F b with
    | some u' =>
      have := w.same b _ q
      rw [e] at this
      cases this
      exact tupF_some q
    | none => exact tupF_tup q e
/-! ### sorted, of pairs -/
def leP (p q : Int × Int) : Bool := decide (p.1 < q.1 ∨ (p.1 = q.1 ∧ p.2 ≤ q.2))
def sortP (xs : List (Int × Int)) : List (Int × Int) := xs.mergeSort leP
theorem sortP_perm (xs : List (Int × Int)) : (sortP xs).Perm xs := List.mergeSort_perm xs _
theorem sortP_sorted (xs : List (Int × Int)) : (sortP xs).Pairwise fun p q => leP p q = true := by
  refine List.pairwise_mergeSort (le := leP) (fun a b c h1 h2 => ?_) (fun a b => ?_) xs
  · unfold leP at *
    simp only [decide_eq_true_eq] at *
    omega
  · unfold leP
    simp only [Bool.or_eq_true, decide_eq_true_eq]
    omega
theorem sortP_uniq {xs ys : List (Int × Int)} (h : xs.Perm ys) (hx : xs.Pairwise fun p q => leP p q = true) (hy : ys.Pairwise fun p q => leP p q = true) : xs = ys := by
  induction xs generalizing ys with
  | nil => exact (List.nil_perm.mp h).symm
  | cons x xs ih =>
    cases ys with
    | nil => exact absurd h.length_eq (by simp)
    | cons y ys =>
      rw [List.pairwise_cons] at hx hy
      have e : x = y := by
        have h1 : y ∈ x :: xs := h.mem_iff.mpr List.mem_cons_self
        have h2 : x ∈ y :: ys := h.mem_iff.mp List.mem_cons_self
        rcases List.mem_cons.mp h1 with e | h1
        · exact e.symm
        · rcases List.mem_cons.mp h2 with e | h2
          · exact e
          · have a := hx.1 y h1
            have b := hy.1 x h2
            unfold leP at a b
            simp only [decide_eq_true_eq] at a b
            exact Prod.ext (by omega) (by omega)
      subst e
      rw [ih h.cons_inv hx.2 hy.2]
theorem sortP_eq {xs ys : List (Int × Int)} (h : ys.Perm xs) (hy : ys.Pairwise fun p q => leP p q = true) : ys = sortP xs := sortP_uniq (h.trans (sortP_perm xs).symm) hy (sortP_sorted xs)
/-- which pair stands at a reference -/
def keyP (H : Hp) (v : V) : Int × Int := match v with
  | .ref t => match H t with
    | some (.tup [.int i, .int j]) => (i, j)
    | _ => (0, 0)
  | _ => (0, 0)
theorem keyP_of {K : Fg} {F H : Hp} {v : V} {x : Int × Int} (s : Same F H) (r : rep K F v x) : ∃ t, v = .ref t ∧ F t = some (.tup [.int x.1, .int x.2]) ∧ keyP H v = x := by
  obtain ⟨t, u, z, rfl, q, r1, r2⟩ := r
  obtain rfl : u = V.int x.1 := r1
  obtain rfl : z = V.int x.2 := r2
  refine ⟨t, rfl, q, ?_⟩
  have h := s _ _ q
  unfold keyP
  dsimp only
  rw [h]
theorem keyP_all {K : Fg} {F H : Hp} {vs : List V} {xs : List (Int × Int)} (s : Same F H) (h : A2 (rep K F) vs xs) : xs = vs.map (keyP H) ∧ ∀ v ∈ vs, ∃ t, v = .ref t ∧ F t = some (.tup [.int (keyP H v).1, .int (keyP H v).2]) := by
  induction h with
  | nil => exact ⟨rfl, fun _ z => nomatch z⟩
  | cons a b ih =>
    obtain ⟨t, e, q, k⟩ := keyP_of s a
    refine ⟨by rw [List.map_cons, k, ← ih.1], fun v hv => ?_⟩
    rcases List.mem_cons.mp hv with rfl | hv
    · exact ⟨t, e, by rw [k]; exact q⟩
    · exact ih.2 v hv
theorem rep_keys {K : Fg} {F H : Hp} : ∀ {ys : List V}, (∀ v ∈ ys, ∃ t, v = V.ref t ∧ F t = some (.tup [.int (keyP H v).1, .int (keyP H v).2])) → A2 (rep K F) ys (ys.map (keyP H))
  | [], _ => .nil
  | v :: ys, h => by
    obtain ⟨t, e, q⟩ := h v List.mem_cons_self
    refine .cons ?_ (rep_keys fun y hy => h y (List.mem_cons_of_mem _ hy))
    subst e
    exact ⟨t, _, _, rfl, q, rfl, rfl⟩
theorem cr_sortP {K : Fg} (hK : X.K = K) : CallR X (.builtin "sorted") (fun vs H Q => ∃ (a : Addr) (us : List V) (F : Hp) (xs : List (Int × Int)), vs = [V.ref a] ∧ SqL K H a us ∧ Same F H ∧ A2 (rep K F) us xs ∧
    ∀ p ys, H p = none → A2 (rep K F) ys (sortP xs) → Q (.ref p) (upd H p (.lst ys))) := by
  subst hK
  intro pins s σ H vs us Q I r h
  obtain ⟨a, us', F, xs, rfl, hs, sF, hA, q⟩ := h
  obtain ⟨e1, e2⟩ := keyP_all sF hA
  refine cr_sortedPO pins s σ H _ us Q I r ⟨a, us', keyP H, rfl, hs, fun x hx => ?_, fun ys p h1 h2 hp => q p ys hp ?_⟩
  · obtain ⟨t, e, k⟩ := e2 x hx
    exact ⟨t, e, sF _ _ k⟩
  · have e : ys.map (keyP H) = sortP xs := by
      refine sortP_eq ?_ ?_
      · rw [e1]
        exact h2.perm.map _
      · rw [List.pairwise_map]
        refine h1.imp fun {x y} h => ?_
        have h := SrtO.lexB_no.mp h
        unfold leP
        rw [decide_eq_true_eq]
        omega
    rw [← e]
    exact rep_keys fun v hv => e2 v (h2.perm.mem_iff.mp hv)
end
/-! ### dicts of scalars -/
section
variable {κ β γ δ : Type} [DecidableEq κ]
def mput (m : List (κ × β)) (k : κ) (v : β) : List (κ × β) := if (m.any fun p => decide (p.1 = k)) = true then m.map (fun p => if p.1 = k then (p.1, v) else p) else m ++ [(k, v)]
def mhas (m : List (κ × β)) (k : κ) : Bool := m.any fun p => decide (p.1 = k)
def mget (m : List (κ × β)) (k : κ) : Option β := (m.find? fun p => decide (p.1 = k)).map (·.2)
def mputR (m : List (κ × β)) (k : κ) (v : β) : R (List (κ × β)) := if m.length < 100000 then .ok (mput m k v) else .bad
def mgetR (m : List (κ × β)) (k : κ) : R β := ofO (mget m k)
/-- as the dict stands -/
def encM (e : κ → γ) (ev : β → V) (m : List (κ × β)) : List (γ × V) := m.map fun p => (e p.1, ev p.2)
variable [DecidableEq γ] {e : κ → γ} {ev : β → V}
theorem any_enc (he : ∀ a b, e a = e b → a = b) (m : List (κ × β)) (k : κ) : ((encM e ev m).any fun p => decide (p.1 = e k)) = m.any fun p => decide (p.1 = k) := by
  unfold encM
  rw [List.any_map]
  congr 1
  funext p
  show decide (e p.1 = e k) = decide (p.1 = k)
  by_cases h : p.1 = k
  · rw [h]; simp
  · rw [decide_eq_false h, decide_eq_false fun z => h (he _ _ z)]
theorem put_enc (he : ∀ a b, e a = e b → a = b) (m : List (κ × β)) (k : κ) (v : β) : putK (encM e ev m) (e k) (ev v) = encM e ev (mput m k v) := by
  unfold putK mput
  rw [any_enc he]
  by_cases h : (m.any fun p => decide (p.1 = k)) = true
  · rw [if_pos h, if_pos h]
    unfold encM
    rw [List.map_map, List.map_map]
    refine List.map_congr_left fun p _ => ?_
    show (if e p.1 = e k then (e p.1, ev v) else (e p.1, ev p.2)) = (fun q : κ × β => (e q.1, ev q.2)) (if p.1 = k then (p.1, v) else p)
    by_cases h : p.1 = k
    · rw [if_pos h, if_pos (congrArg e h)]
    · rw [if_neg h, if_neg fun z => h (he _ _ z)]
  · rw [if_neg h, if_neg h]
    unfold encM
    rw [List.map_append]
    rfl
theorem val_enc (he : ∀ a b, e a = e b → a = b) (k : κ) : ∀ m : List (κ × β), valV (encM e ev m) (e k) = (mget m k).map ev
  | [] => rfl
  | p :: m => by
    show valV ((e p.1, ev p.2) :: encM e ev m) (e k) = _
    unfold mget
    by_cases h : p.1 = k
    · rw [valV_pos (congrArg e h), List.find?_cons_of_pos (by simpa using h)]
      rfl
    · rw [valV_neg (fun z => h (he _ _ z)), List.find?_cons_of_neg (by simpa using h), val_enc he k m]
      rfl
theorem has_enc (he : ∀ a b, e a = e b → a = b) (m : List (κ × β)) (k : κ) : (valV (encM e ev m) (e k)).isSome = mhas m k := by
  rw [← valV_any, any_enc he]
  rfl
theorem enc_length (m : List (κ × β)) : (encM e ev m).length = m.length := List.length_map _
end
abbrev kI : Int → Key := .inl
theorem kI_inj : ∀ a b, kI a = kI b → a = b := fun _ _ h => Sum.inl.inj h
def kP (p : Int × Int) : List Key := [.inl p.1, .inl p.2]
theorem kP_inj : ∀ a b, kP a = kP b → a = b := fun a b h => by
  unfold kP at h
  injection h with h1 h2
  injection h2 with h2 _
  exact Prod.ext (Sum.inl.inj h1) (Sum.inl.inj h2)
section
variable {β : Type} {ev : β → V} {H : Hp} {a b : Addr}
theorem dget_k {m : List (Int × β)} {k : Int} (e : H a = some (.dK (encM kI ev m))) : DGet H a (.int k) ((mget m k).map ev) := by
  rw [← val_enc kI_inj]
  exact DGet.k (k := kI k) e
theorem dget_p {m : List ((Int × Int) × β)} {k : Int × Int} (e : H a = some (.dT (encM kP ev m))) (eb : H b = some (.tup [.int k.1, .int k.2])) : DGet H a (.ref b) ((mget m k).map ev) := by
  rw [← val_enc kP_inj]
  exact DGet.t (k := kP k) e eb
theorem get_has {κ : Type} [DecidableEq κ] (m : List (κ × β)) (k : κ) (f : β → V) : ((mget m k).map f).isSome = mhas m k := by
  rw [Option.isSome_map]
  unfold mget mhas
  rw [Option.isSome_map, List.isSome_find?]
theorem dput_k {m : List (Int × β)} {k : Int} {v : β} (e : H a = some (.dK (encM kI ev m))) (hl : m.length < sizeLine) : DPut H a (.int k) (ev v) (upd H a (.dK (encM kI ev (mput m k v)))) := by
  rw [← put_enc kI_inj]
  exact DPut.k (k := kI k) e (by rw [enc_length]; exact hl)
theorem dput_p {m : List ((Int × Int) × β)} {k : Int × Int} {v : β} (e : H a = some (.dT (encM kP ev m))) (eb : H b = some (.tup [.int k.1, .int k.2])) (hl : m.length < sizeLine) : DPut H a (.ref b) (ev v) (upd H a (.dT (encM kP ev (mput m k v)))) := by
  rw [← put_enc kP_inj]
  exact DPut.t (k := kP k) e eb (by rw [enc_length]; exact hl)
end
/-- the keys of a dict, as tuples that may be read -/
theorem keys_rep {β : Type} {ev : β → V} {K : Fg} {F H : Hp} (hF : ∀ b vs, H b = some (.tup vs) → F b = some (.tup vs)) : ∀ {m : List ((Int × Int) × β)} {bs : List Addr}, IsKeys H (encM kP ev m) bs → A2 (rep K F) (bs.map V.ref) (m.map (·.1))
  | [], [], _ => .nil
  | [], _ :: _, h => nomatch h
  | _ :: _, [], h => nomatch h
  | p :: m, b :: bs, .cons h1 h2 => .cons ⟨b, _, _, rfl, hF _ _ h1, rfl, rfl⟩ (keys_rep hF h2)
theorem pn_mput {κ β δ : Type} [DecidableEq κ] {m : List (κ × β)} {k : κ} {v : β} {f : List (κ × β) → R δ} {P : δ → Prop} {E : Exn → Prop} (h : Post (mputR m k v >>= f) P E) : ∃ m', m.length < sizeLine ∧ m' = mput m k v ∧ Post (f m') P E := by
  unfold mputR at h
  by_cases hl : m.length < 100000
  · rw [if_pos hl] at h
    exact ⟨_, Nat.lt_of_lt_of_le hl line5, rfl, h⟩
  · rw [if_neg hl] at h
    exact (show False from h).elim
/-! ### list(range(n)) -/
def listRng (i j : Int) : R (List Int) := if -(2 ^ 62) ≤ i ∧ i < 2 ^ 62 ∧ -(2 ^ 62) ≤ j ∧ j < 2 ^ 62 ∧ (j - i).toNat ≤ 100000 then .ok (rng i j) else .bad
theorem rgV_eq (i j : Int) : rgV i j = (rng i j).map V.int := by
  unfold rgV rng
  rw [List.map_map]
  rfl
theorem pb_lrng {δ : Type} {i j : Int} {f : List Int → R δ} {P : δ → Prop} {E : Exn → Prop} (h : Post (listRng i j >>= f) P E) : ∃ l, RgOk i j ∧ l = rng i j ∧ Post (f l) P E := by
  unfold listRng at h
  by_cases hl : -(2 ^ 62) ≤ i ∧ i < 2 ^ 62 ∧ -(2 ^ 62) ≤ j ∧ j < 2 ^ 62 ∧ (j - i).toNat ≤ 100000
  · rw [if_pos hl] at h
    obtain ⟨a, b, c, d, e⟩ := hl
    exact ⟨_, ⟨a, b, c, d, by omega⟩, rfl, h⟩
  · rw [if_neg hl] at h
    exact (show False from h).elim
/-! ### a list of perhaps nothing, where nothing is nothing -/
def allS {α : Type} : List (Option α) → R (List α)
  | [] => .ok []
  | none :: _ => .bad
  | some x :: xs => allS xs >>= fun ys => .ok (x :: ys)
theorem allS_iff {α : Type} : ∀ {xs : List (Option α)} {ys : List α}, allS xs = R.ok ys ↔ xs = ys.map some
  | [], ys => by
    constructor
    · intro h; cases h; rfl
    · intro h
      cases ys with
      | nil => rfl
      | cons => cases h
  | none :: xs, ys => by
    constructor
    · intro h; cases h
    · intro h
      cases ys <;> cases h
  | some x :: xs, ys => by
    constructor
    · intro h
      obtain ⟨zs, e, h⟩ := bind_ok_iff.mp h
      cases h
      rw [allS_iff.mp e]
      rfl
    · intro h
      cases ys with
      | nil => cases h
      | cons y ys =>
        rw [List.map_cons] at h
        injection h with h1 h2
        cases h1
        show (allS xs >>= fun ys => R.ok (x :: ys)) = _
        rw [allS_iff.mpr h2]
        rfl
theorem pb_allS {α δ : Type} {xs : List (Option α)} {f : List α → R δ} {P : δ → Prop} {E : Exn → Prop} (h : Post (allS xs >>= f) P E) : ∃ ys, xs = ys.map some ∧ Post (f ys) P E := by
  cases e : allS xs with
  | ok ys =>
    rw [e] at h
    exact ⟨ys, allS_iff.mp e, h⟩
  | exc x =>
    rw [e] at h
    exfalso
    clear h
    induction xs with
    | nil => cases e
    | cons x xs ih =>
      cases x with
      | none => cases e
      | some x =>
        have e' : (allS xs >>= fun ys => R.ok (x :: ys)) = R.exc _ := e
        cases e2 : allS xs with
        | ok y => rw [e2] at e'; cases e'
        | exc y => rw [e2] at e'; cases e'; exact ih e2
        | bad => rw [e2] at e'; cases e'
  | bad =>
    rw [e] at h
    exact (show False from h).elim
theorem A2.unsome {α : Type} [Rep α] {K : Fg} {F : Hp} : ∀ {vs : List V} {ys : List α}, A2 (rep K F) vs (ys.map some) → A2 (rep K F) vs ys
  | [], [], _ => .nil
  | _ :: _, [], h => nomatch h
  | [], _ :: _, h => nomatch h
  | _ :: _, _ :: _, .cons a b => .cons a (A2.unsome b)
/-! ### pop -/
def popB {α : Type} (xs : List α) (i : Int) : R (α × List α) := if -(2 ^ 62) ≤ i ∧ i < 2 ^ 62 then popAt xs i else .bad
theorem pn_popB {α β : Type} {xs : List α} {i : Int} {f : α × List α → R β} {Q : β → Prop} {E : Exn → Prop} (h : Post (popB xs i >>= f) Q E) : ∃ j x ys, (-(2 ^ 63) ≤ i ∧ i < 2 ^ 63) ∧ ixN xs.length i = some j ∧ xs[j]? = some x ∧ ys = xs.eraseIdx j ∧ Post (f (x, ys)) Q E := by
  unfold popB at h
  by_cases hi : -(2 ^ 62) ≤ i ∧ i < 2 ^ 62
  · rw [if_pos hi] at h
    obtain ⟨j, x, ys, a, b, c, d⟩ := pn_popAt h
    exact ⟨j, x, ys, by omega, a, b, c, d⟩
  · rw [if_neg hi] at h
    exact (show False from h).elim
theorem pn_popI {α β : Type} {xs : List α} {f : α × List α → R β} {Q : β → Prop} {E : Exn → Prop} (h : Post (popI xs >>= f) Q E) : ∃ x ys, xs[xs.length - 1]? = some x ∧ ys = xs.dropLast ∧ Post (f (x, ys)) Q E := by
  unfold popI at h
  rw [List.getLast?_eq_getElem?] at h
  cases e : xs[xs.length - 1]? with
  | none =>
    rw [e] at h
    exact (show False from h).elim
  | some x =>
    rw [e] at h
    exact ⟨x, _, rfl, rfl, h⟩
theorem A2.lastV {α : Type} {r : V → α → Prop} {vs : List V} {xs : List α} {x : α} (h : A2 r vs xs) (e : xs[xs.length - 1]? = some x) : ∃ u, vs[vs.length - 1]? = some u ∧ r u x := by
  rw [h.length]
  exact h.get e
/-! ### in, of a dict of scalars -/
def tDInH (ty td : TE) : TE := fun σ H Q => ty σ H fun y H1 => td σ H1 fun x H2 => ∃ a o b, x = .ref a ∧ DGet H2 a y o ∧ o.isSome = b ∧ Q (.bl b) H2
def tDNotInH (ty td : TE) : TE := fun σ H Q => ty σ H fun y H1 => td σ H1 fun x H2 => ∃ a o b, x = .ref a ∧ DGet H2 a y o ∧ o.isSome = b ∧ Q (.bl (!b)) H2
section
variable {X : Cx} {o i : Expr} {td ty : TE}
theorem pc_dinH (hu : X.A.units + 1 < cLine) (hi : PE X i ty) (ho : PE X o td) : PC X .In i o (tDInH ty td) := by
  refine ⟨fun pins s σ H Q I h => ?_⟩
  refine thn (hi.run pins s σ H _ I h) fun iv s1 ⟨y, H1, I1, ry, q1⟩ => thn (ho.run pins s1 σ H1 _ I1 q1) fun u s2 ⟨x, H2, I2, rx, a, ov, b, ex, g, eb, q2⟩ => ?_
  subst ex
  subst eb
  obtain rfl : u = Value.ref a := rx
  exact d_in hu I2 g ry fun s3 I3 => ⟨.bl ov.isSome, H2, I3, rfl, q2⟩
theorem pc_dnotinH (hu : X.A.units + 1 < cLine) (hi : PE X i ty) (ho : PE X o td) : PC X .NotIn i o (tDNotInH ty td) := by
  refine ⟨fun pins s σ H Q I h => ?_⟩
  refine thn (hi.run pins s σ H _ I h) fun iv s1 ⟨y, H1, I1, ry, q1⟩ => thn (ho.run pins s1 σ H1 _ I1 q1) fun u s2 ⟨x, H2, I2, rx, a, ov, b, ex, g, eb, q2⟩ => ?_
  subst ex
  subst eb
  obtain rfl : u = Value.ref a := rx
  exact d_notIn hu I2 g ry fun s3 I3 => ⟨.bl (!ov.isSome), H2, I3, rfl, q2⟩
end
theorem Room.units1 {k : Nat} {A : Around} (r : Room k A) : A.units + 1 < cLine := by
  have := r.un
  omega
end Z
/-! ZX: an exception caught by its class, held behind the suite as a thing of its own -/
namespace L2
open PySem PySem.Spec PyProof.Rows
/-- a caught exception of the class cls at a -/
def ExH (cls : Value) (a : Addr) : HO := .ext fun h => ∃ (oe : Obj), h.get? a = some oe ∧ Zc cls none oe ∧ ∃ vs, oe.data = .fields vs
theorem exH_ok {P : Program} {w : World} {H : Hp} {h : Heap} {a : Addr} {cls : Value} {oe : Obj} (e : h.get? a = some oe) (z : Zc cls none oe) (d : ∃ vs, oe.data = .fields vs) : ObjOk P w H h a (ExH cls a) :=
  ⟨⟨oe, e, z, d⟩, ⟨oe, e⟩, fun _ _ ⟨o, q, r⟩ k => ⟨o, k o q, r⟩⟩
section
variable {X : Cx} {pins : List (Addr × Obj)} {σ : St} {H : Hp} {s : Shared}
/-- what is pinned, and new since the def began, may be tracked -/
theorem Inv.track {a : Addr} {oe : Obj} {cls : Value} (I : Inv X ((a, oe) :: pins) σ H s) (n0 : X.s_0.heap.get? a = none) (hz : Zc cls none oe) (hd : ∃ vs, oe.data = .fields vs) (hp : ∀ p ∈ X.pn ++ pins, p.1 ≠ a) : Inv X pins σ (upd H a (ExH cls a)) s := by
  obtain ⟨ha, na, nL, nF, _⟩ := I.pin (a, oe) (List.mem_append_right _ List.mem_cons_self)
  dsimp only at ha na nL nF
  have ne0 : ∀ b o, X.s_0.heap.get? b = some o → b ≠ a := fun b o e z => by
    rw [z, n0] at e
    cases e
  refine ⟨I.ok, I.os, I.bare, ⟨I.base.keep, I.base.slot, fun b o e n hq => ?_, I.base.there, fun b xs e => ?_, fun b o u e => ?_, fun b ps e => ?_⟩, I.loc, I.cell, ?_, fun x c e => ?_, fun p hp' => ?_, fun b u e => ?_, I.len⟩
  · rw [upd_ne (ne0 b o e)]
    exact I.base.free b o e n hq
  · have q := I.base.tups b xs e
    rw [upd_ne (ne_of_none q na)]
    exact q
  · have q := I.base.frzs b o u e
    rw [upd_ne (ne_of_none q na)]
    exact q
  · obtain ⟨m, q⟩ := I.base.tbls b ps e
    exact ⟨m, by rw [upd_ne (ne_of_none q na)]; exact q⟩
  · rw [upd_ne (Ne.symm nL)]
    exact I.free
  · have hne : c ≠ a := fun z => by
      obtain ⟨v, o, ho, hc⟩ := I.cell x c e
      rw [z, ha] at ho
      cases ho
      obtain ⟨vs, hd⟩ := hd
      rw [hd] at hc
      cases hc
    rw [upd_ne hne]
    exact I.freeC x c e
  · have hp2 : p ∈ X.pn ++ ((a, oe) :: pins) := by
      rcases List.mem_append.mp hp' with z | z
      · exact List.mem_append_left _ z
      · exact List.mem_append_right _ (List.mem_cons_of_mem _ z)
    obtain ⟨e, n, ne, nf, d⟩ := I.pin p hp2
    exact ⟨e, by rw [upd_ne (hp p hp')]; exact n, ne, nf, d⟩
  · by_cases hb : b = a
    · subst hb
      rw [upd_same] at e
      cases e
      exact exH_ok ha hz hd
    · rw [upd_ne hb] at e
      refine (I.hok b u e).stay (fun c v _ q => q) (fun c q => ?_) fun c xs q => ?_
      · rw [upd_ne (ne_of_none q na)]
        exact q
      · rw [upd_ne (ne_of_none q na)]
        exact q
theorem Inv.unsuiteK {a : Addr} {q : Addr × Obj} {pn' : List (Addr × Obj)} (I : Inv (X.suite a (q :: (X.pn ++ pins))) pn' σ H s) (ok : X.Ok) : Inv X (q :: pins) σ H s :=
  ⟨ok, I.os, I.bare, I.base, I.loc, I.cell, I.free, I.freeC, fun p hp => I.pin p (List.mem_append_left _ (by
    rcases List.mem_append.mp hp with z | z
    · exact List.mem_cons_of_mem _ (List.mem_append_left _ z)
    · rcases List.mem_cons.mp z with z | z
      · rw [z]; exact List.mem_cons_self
      · exact List.mem_cons_of_mem _ (List.mem_append_right _ z))), I.hok, I.len⟩
/-- what the clause 'except x as n' wishes, where the exception is held behind the suite: slot i is n's -/
def wHold (K : PySem.W.Frag) (c : Value) (i : Nat) (ts : Addr → Value → TS) (Wout : WX) (D : Ends) : WX := fun cls d σ H =>
  ∃ b, PySem.W.exmOne K cls c = some b ∧ (b = true → d = none ∧ ∀ a, H a = none → ts a cls { nx := fun σ' H' => H' a = none → D.nx (σ'.set i none) (upd H' a (ExH cls a)), rt := fun _ _ => False, bk := fun _ _ => False, ct := fun _ _ => False } (σ.set i (some (.ref a))) H) ∧
    (b = false → Wout cls d σ H)
variable {x n : Str} {c : Value} {i : Nat} {body suite : List Stmt} {b₀ : Stmt} {np pos pos' : Pos} {tb : WX → TS} {ts : Addr → Value → TS} {Wout : WX}
theorem ps_try_hold (hs : X.stack = X.env :: X.outer) (hf : X.env.frame = some X.env.locals) (hex : X.ex = []) (hN : X.N.Nodup) (hi : X.N[i]? = some n) (hln : X.env.kindOf n = some .local) (hc : Names X x c) (tk : Takes X Wout)
    (hb : ∀ (W : WX) (pn : List (Addr × Obj)) (xe : Value → Shared → Prop), Takes (X.tr pn xe) W → PassesOwn (model X.prog X.w) X.A X.env xe → PSs (X.tr pn xe) body (tb W))
    (hsu : ∀ (a : Addr) (oe : Obj) (cls : Value) (pn : List (Addr × Obj)), PSs (X.suite a ((a, oe) :: pn)) (b₀ :: suite) (ts a cls)) :
    PS X (.Try body [.ExceptHandler (some (.Name x np)) (some n) (b₀ :: suite) pos'] [] [] pos) (fun D σ H => tb (wHold X.K c i ts Wout D) D σ H) := by
  refine ⟨fun pins s σ H D I h => ?_⟩
  have ok := I.ok
  have hfr : X.A.frames = some (X.env :: X.outer) := by rw [ok.frames, hs]
  have hloc : Loc X.env.scope n := .inl hln
  refine wpAny_Try_except ?_
  refine wpAny_mono ((hb (wHold X.K c i ts Wout D) (X.pn ++ pins) (fun e s₁ => wpAny (model X.prog X.w) X.A (noteFrame e X.env) (fun _ s₂ => wpAny (model X.prog X.w) X.A (setFlight e none) (fun _ s₃ =>
    wpAny (model X.prog X.w) X.A (handleBy e X.env [.ExceptHandler (some (.Name x np)) (some n) (b₀ :: suite) pos']) (SP X pins D) X.xe s₃) X.xe s₂) X.xe s₁) (fun u s' xx => ?_) PassesOwn.looking).run [] s σ H D (I.toTry _) h) (fun f s1 hsp => ?_) (fun e s1 he => he)
  · -- the catch
    obtain ⟨a, B, sI, pins', σ', H', cls, d, rfl, J', nb, up, sky, na, os, ag, b, hb1, hyes, hno⟩ := xx
    have J : Inv X pins σ' H' sI := J'.ofTry ok
    have sky' : Sky B (X.env :: X.outer) a (Zc cls d) X.env.locals s'.heap := by rw [← hs]; exact sky
    show wpAny (model X.prog X.w) X.A (noteFrame (.ref a) X.env) _ _ _
    refine Sky.land Zc.steady hfr hf sky' fun h3 fl3 up3 => ?_
    have J3 : Inv X pins σ' H' { s' with heap := h3 } := J.landed nb fl3.1 (up.trans up3) os ag
    obtain ⟨oe3, vs3, he3, hz3, hd3⟩ := fl3.there
    have notFr : ∀ {h : Heap} {o : Obj} {vs : Array Value}, h.FunFrames B (X.env :: X.outer) → h.get? a = some o → o.data = .fields vs → a ∉ frs (X.env :: X.outer) := fun {h o vs} ff e dd hm => by
      obtain ⟨_, o', e', hnf⟩ := ff.mem hm
      rw [e] at e'; cases e'
      exact hnf _ dd
    have nfr := notFr fl3.2.2.1 he3 hd3
    have nL : a ≠ X.env.locals := fun z => nfr (List.mem_filterMap.mpr ⟨X.env, List.mem_cons_self, by rw [hf, z]⟩)
    have nF : a ∉ X.fs := fun hm => by
      obtain ⟨e, he, q⟩ := List.mem_filterMap.mp hm
      exact nfr (List.mem_filterMap.mpr ⟨e, List.mem_cons_of_mem _ he, q⟩)
    have nB : B.get? a = none := fl3.2.1
    have nI : sI.heap.get? a = none := by
      cases e : sI.heap.get? a with
      | none => rfl
      | some o =>
        have z := nb a o e (by rw [hs]; exact nfr)
        rw [nB] at z
        cases z
    have n0 : X.s_0.heap.get? a = none := by
      cases e : X.s_0.heap.get? a with
      | none => rfl
      | some o =>
        obtain ⟨o', z⟩ := J.base.there a o e (by rw [hex]; exact fun z => nomatch z)
        rw [nI] at z
        cases z
    have hpin : ∀ p ∈ X.pn ++ pins, p.1 ≠ a := fun p hp z => by
      have e := (J.pin p hp).1
      rw [z, nI] at e
      cases e
    have S3 := J3.suite he3 hd3 na nL nF
    refine wpAny_handleBy_cons (codeAny_handlers_test ?_) (by intro q; cases q)
    have LT : PySem.W.Looks (model X.prog X.w) h3 (typeOf (.ref a)) cls := fun A Q E s k q => wpAny_typeOf_ref (k _ _ he3) (by rw [hz3.1]; exact q)
    have LM := PySem.W.exm_one (M := model X.prog X.w) (J3.kIn) LT hb1
    have test : ∀ {Q : Value → Shared → Prop} {E : Value → Shared → Prop}, Q c { s' with heap := h3 } → wpAny (model X.prog X.w) (X.A.mark (some (.ref a))) (eval (.Name x np) X.env) Q E { s' with heap := h3 } := fun {Q E} q => by
      obtain ⟨hg, hdbg, hm | ⟨hm, hv, hnn⟩⟩ := hc
      · exact ld_glob (X := X.suite a ((a, oe3) :: (X.pn ++ pins))) S3 hg hm q hdbg
      · exact ld_blt (X := X.suite a ((a, oe3) :: (X.pn ++ pins))) S3 hg hm hv q hnn hdbg
    refine test (LM.here ?_)
    cases b with
    | true =>
      obtain ⟨rfl, hyes2⟩ := hyes rfl
      refine codeAny_handlers_suite_as ?_
      refine HandSPX.lands_againZ fl3 fun h4 fl4 up4 => ?_
      have J4 : Inv X pins σ' H' { s' with heap := h4 } := J.landed nb fl4.1 ((up.trans up3).trans up4) os ag
      obtain ⟨oe4, vs4, he4, hz4, hd4⟩ := fl4.there
      have S4 := J4.suite he4 hd4 na nL nF
      refine store_ok (X := X.suite a ((a, oe4) :: (X.pn ++ pins))) (v := .ref a) S4 hN hi hloc rfl (fun s5 S5 => ?_) (.inr hln)
      refine wpAny_mono ((hsu a oe4 cls (X.pn ++ pins)).run [] s5 _ H' _ S5 (hyes2 a na)) (fun f s6 hsp => ?_) (fun _ _ z => False.elim z)
      cases f with
      | next =>
        obtain ⟨σ6, H6, S6, q6⟩ := hsp
        refine gone_ok (S6.unsuiteK ok) hN hi hln fun s7 J7 => ?_
        have na6 : H6 a = none := (J7.pin (a, oe4) (List.mem_append_right _ List.mem_cons_self)).2.1
        exact ⟨_, _, J7.track n0 hz4 ⟨_, hd4⟩ hpin, q6 na6⟩
      | brk =>
        obtain ⟨σ6, H6, S6, q6⟩ := hsp
        exact q6.elim
      | cont =>
        obtain ⟨σ6, H6, S6, q6⟩ := hsp
        exact q6.elim
      | ret u =>
        obtain ⟨v6, σ6, H6, S6, r6, q6⟩ := hsp
        exact q6.elim
    | false =>
      show wpAny _ X.A (handleBy (.ref a) X.env []) _ _ _
      refine wpAny_handleBy_nil ?_
      obtain ⟨k1, k2, k3, oe, vs, T, oT, ts', he, hz, hd, h1, hr⟩ := id fl3
      unfold PySem.passOn
      refine wpAny_bind (wpAny_field he hd h1 ?_)
      rw [if_neg (show ¬ ((Value.ref T == Value.none) = true) from by simp)]
      have fin : wpAny (model X.prog X.w) X.A (setFlight (.ref a) X.env.frame) (fun _ s4 => wpAny (model X.prog X.w) X.A (throw (.ref a) : Sem Flow) (SP X pins D) X.xe s4) X.xe { s' with heap := h3 } := by
        rw [hf]
        refine HandSPX.setFlight_upZ fl3 fun h4 hh4 up4 => wpAny_throw (tk _ _ ?_)
        exact ⟨a, B, sI, pins, σ', H', cls, d, rfl, J, nb, (up.trans up3).trans up4, .inr (.inr (by rw [hs]; exact hh4)), na, os, ag, hno rfl⟩
      first
        | exact wpAny_bind (wpAny_pure (wpAny_bind fin))
        | exact wpAny_bind fin
  · cases f with
    | next =>
      obtain ⟨σ', H', J', q⟩ := hsp
      exact wpAny_execs_nil ⟨σ', H', J'.ofTry ok, q⟩
    | brk =>
      obtain ⟨σ', H', J', q⟩ := hsp
      exact ⟨σ', H', J'.ofTry ok, q⟩
    | cont =>
      obtain ⟨σ', H', J', q⟩ := hsp
      exact ⟨σ', H', J'.ofTry ok, q⟩
    | ret u =>
      obtain ⟨v, σ', H', J', r, q⟩ := hsp
      exact ⟨v, σ', H', J'.ofTry ok, r, q⟩
/-- isinstance(e, c) of a held exception e: c one class, or a tuple of classes -/
def rIsH (K : PySem.W.Frag) (D : Addr) : List V → Hp → VK → Prop := fun xs H Q => ∃ (a : Addr) (c : V) (b : Bool), xs = [.ref a, c] ∧ H a = some (ExH (.ref D) a) ∧
  ((∃ cv, (∀ u, RelV c u → u = cv) ∧ PySem.W.kitOne K (.ref D) cv = some b) ∨ (∃ p vs its, c = .ref p ∧ H p = some (.tup vs) ∧ (∀ us, Vals vs us → us = its) ∧ PySem.W.kitAny K (.ref D) its = some b)) ∧ Q (.bl b) H
theorem call_isH {D : Addr} (C : ExcC X.K D) : CallR X (.builtin "isinstance") (rIsH X.K D) := by
  intro pins s σ H xs us Q I r h
  obtain ⟨a, c, b, rfl, hH, hc, q⟩ := h
  cases r with
  | cons rx rr =>
    cases rr with
    | cons rt rr =>
      cases rr
      cases rx
      obtain ⟨⟨oe, hget, ⟨h1, h2⟩, vs, hv⟩, _, _⟩ := I.hok a _ hH
      have J : PySem.W.InstAt s.heap a oe D none := by
        obtain ⟨oc, od, oda, osl⟩ := oe
        dsimp only at h1 h2 hv
        subst h1 h2 hv
        exact ⟨hget, rfl, rfl, trivial⟩
      have fin : ∀ tk, EP X pins σ Q (.bool b) { s with toks := tk } := fun tk => ⟨.bl b, H, I.kept (t' := tk) fun _ _ z => z, rfl, q⟩
      rcases hc with ⟨cv, hcv, e⟩ | ⟨p, vs, its, rfl, hp, hu, e⟩
      · have ec := hcv _ rt
        subst ec
        exact PySem.W.kia_one (PySem.W.handS_kitx_exc C.hg C.hk C.hs C.hd C.ha C.hn C.ht C.hm) I.kIn J e (fun z => nomatch z) fin
      · cases rt
        obtain ⟨_, its', r', ob, ho, hob1, n, hob2⟩ := I.hok p _ hp
        have := hu _ r'
        subst this
        obtain ⟨oc, od, oda, osl⟩ := ob
        dsimp only at hob1 hob2
        subst hob1 hob2
        exact PySem.W.kia_tup (PySem.W.handS_kitx_exc C.hg C.hk C.hs C.hd C.ha C.hn C.ht C.hm) I.kIn J ho e (fun z => nomatch z) fin
theorem call_isH' : CallR X (.builtin "isinstance") (fun xs H Q => ∃ D, ExcC X.K D ∧ rIsH X.K D xs H Q) := fun pins s σ H xs us Q I r ⟨_, C, h⟩ => call_isH C pins s σ H xs us Q I r h
theorem call_isHK {K : PySem.W.Frag} (hK : X.K = K) : CallR X (.builtin "isinstance") (fun xs H Q => ∃ D, ExcC K D ∧ rIsH K D xs H Q) := by
  subst hK
  exact call_isH'
end
end L2
namespace Z
open PySem L2
open Rep (rep)
/-- the class that a name of the text names -/
def Nm (K : Fg) (x : Str) (C : Addr) : Prop := PySem.W.nsIn K mainGlobals x = some (some (.ref C))
theorem Nm.uniq {K : Fg} {x : Str} {C D : Addr} (a : Nm K x C) (b : Nm K x D) : C = D := by
  have h := a.symm.trans b
  injection h with h
  injection h with h
  injection h
instance repExn : Rep Exn := ⟨fun K F v e => ∃ a C, v = .ref a ∧ Nm K e.cls C ∧ F a = some (ExH (.ref C) a), fun s ⟨a, C, h, n, q⟩ => ⟨a, C, h, n, s _ _ q⟩⟩
/-- what a call that lets an error out leaves -/
def RetX (K : Fg) (F : Hp) (os : List (Addr × HO)) (E : XK) : Exn → Prop := fun e => ∀ C F' H', Nm K e.cls C → W F' H' os → Same F F' → E (.ref C) none H'
/-- all that the body lets out is caught -/
def tryR {α : Type} (names : List Str) (b : R α) : R (Option Exn) := match b with
  | .ok _ => .ok none
  | .exc e => if e.cls ∈ names then .ok (some e) else .bad
  | .bad => .bad
theorem post_try {α : Type} {names : List Str} {b : R α} {P : Option Exn → Prop} {X : Exn → Prop} (h : Post (tryR names b) P X) : Post b (fun _ => P none) (fun e => e.cls ∈ names ∧ P (some e)) := by
  cases b with
  | ok a => exact h
  | exc e =>
    have h' : Post (if e.cls ∈ names then R.ok (some e) else R.bad) P X := h
    by_cases c : e.cls ∈ names
    · rw [if_pos c] at h'
      exact ⟨c, h'⟩
    · rw [if_neg c] at h'
      exact (show False from h').elim
  | bad => exact h
/-- isinstance of a caught error: tn, the names under the classes asked -/
def isC (names tn : List Str) (e : Exn) : R Bool := if e.cls ∈ names then .ok (decide (e.cls ∈ tn)) else .bad
theorem pb_isC {δ : Type} {names tn : List Str} {e : Exn} {f : Bool → R δ} {P : δ → Prop} {X : Exn → Prop} (h : Post (isC names tn e >>= f) P X) : e.cls ∈ names ∧ Post (f (decide (e.cls ∈ tn))) P X := by
  unfold isC at h
  by_cases c : e.cls ∈ names
  · rw [if_pos c] at h
    exact ⟨c, h⟩
  · rw [if_neg c] at h
    exact (show False from h).elim
def raiseR {α : Type} (x : Str) : R α := .exc ⟨x, 0⟩
/-- a call that lets no error out -/
def nx {α : Type} (m : R α) : R α := match m with
  | .ok a => .ok a
  | .exc _ => .bad
  | .bad => .bad
theorem post_nx {α δ : Type} {m : R α} {k : α → R δ} {P : δ → Prop} {X : Exn → Prop} (h : Post (nx m >>= k) P X) : Post m (fun a => Post (k a) P X) noX := by
  cases m with
  | ok a => exact h
  | exc e => exact (show False from h).elim
  | bad => exact (show False from h).elim
theorem kit_ref {K : Fg} {x y : Addr} {b : Bool} (h1 : PySem.W.isClsIn K y = true) (h2 : PySem.W.typeIn K (.ref y) = some (.type "type")) (h3 : PySem.W.subIn K (.ref x) (.ref y) = some b) (h4 : b = true ∨ (Value.ref x == Value.ref y) = false) : PySem.W.kitOne K (.ref x) (.ref y) = some b := by
  have e : PySem.W.kitCls K (.ref x) (.ref y) = some b := by
    have h1' : (PySem.W.clsIn K y).isSome = true := h1
    have e2 : ((PySem.W.clsIn K y).isSome && PySem.W.typeIn K (.ref y) == some (.type "type")) = true := by rw [h1', h2] <;> rfl
    show (if ((PySem.W.clsIn K y).isSome && PySem.W.typeIn K (.ref y) == some (.type "type")) = true then PySem.W.subIn K (.ref x) (.ref y) else none) = some b
    rw [if_pos e2]
    exact h3
  unfold PySem.W.kitOne
  rcases h4 with rfl | h4
  · rw [e]
    split <;> rfl
  · rw [h4, if_neg (by decide)]
    exact e
theorem kit_ty {K : Fg} {x : Addr} {T : String} {b : Bool} (h1 : PySem.W.kitMeta T = true) (h3 : PySem.W.subIn K (.ref x) (.type T) = some b) : PySem.W.kitOne K (.ref x) (.type T) = some b := by
  have e : PySem.W.kitCls K (.ref x) (.type T) = some b := by
    show (if PySem.W.kitMeta T = true then PySem.W.subIn K (.ref x) (.type T) else none) = some b
    rw [if_pos h1]
    exact h3
  unfold PySem.W.kitOne
  have h4 : (Value.ref x == Value.type T) = false := rfl
  rw [h4, if_neg (by decide)]
  exact e
/-- what is known of an own error class -/
structure XC (K : Fg) (mg : Str → Option Value) (x : Str) (C : Addr) : Prop where
  ns : Nm K x C
  gm : mg x = some (.ref C)
  xc : PySem.W.excIn K C [.type "ValueError", .type "Exception", .type "BaseException", .type "object"] "ValueError.__new__" = true
  kp : PySem.W.keepIn K (.ref C) = true
  b : PySem.W.subIn K (.ref C) (.type "BaseException") = some true
  t : PySem.W.typeIn K (.ref C) = some (.type "type")
  ex : ExcC K C
end Z
/-! ZM: lemmas about mirrors -/
namespace Z
open PySem L2
section
variable {α β γ : Type}
theorem foldR_inv {f : β → α → R β} (I : β → Prop) : ∀ {xs : List α} {s : β}, I s → (∀ s x, I s → x ∈ xs → ∃ s', f s x = R.ok s' ∧ I s') → ∃ s', foldR f s xs = R.ok s' ∧ I s'
  | [], s, h, _ => ⟨s, rfl, h⟩
  | x :: xs, s, h, hf => by
    obtain ⟨s', e, h'⟩ := hf s x h List.mem_cons_self
    obtain ⟨s2, e2, h2⟩ := foldR_inv I (xs := xs) (s := s') h' fun s y hs hy => hf s y hs (List.mem_cons_of_mem _ hy)
    exact ⟨s2, by show (f s x >>= fun s' => foldR f s' xs) = _; rw [e]; exact e2, h2⟩
/-- with how many items are gone through -/
theorem foldR_invN {f : β → α → R β} (I : Nat → β → Prop) : ∀ {xs : List α} {n : Nat} {s : β}, I n s → (∀ n s x, I n s → x ∈ xs → ∃ s', f s x = R.ok s' ∧ I (n + 1) s') → ∃ s', foldR f s xs = R.ok s' ∧ I (n + xs.length) s'
  | [], n, s, h, _ => ⟨s, rfl, h⟩
  | x :: xs, n, s, h, hf => by
    obtain ⟨s', e, h'⟩ := hf n s x h List.mem_cons_self
    obtain ⟨s2, e2, h2⟩ := foldR_invN I (xs := xs) (n := n + 1) (s := s') h' fun n s y hs hy => hf n s y hs (List.mem_cons_of_mem _ hy)
    refine ⟨s2, by show (f s x >>= fun s' => foldR f s' xs) = _; rw [e]; exact e2, ?_⟩
    rw [List.length_cons, show n + (xs.length + 1) = n + 1 + xs.length by omega]
    exact h2
theorem foldX_inv {ρ : Type} {f : β → α → R (Sum ρ (Bool × β))} (I : β → Prop) : ∀ {xs : List α} {s : β}, I s → (∀ s x, I s → x ∈ xs → ∃ s', f s x = R.ok (.inr (true, s')) ∧ I s') → ∃ s', foldX f s xs = R.ok (.inr s') ∧ I s'
  | [], s, h, _ => ⟨s, rfl, h⟩
  | x :: xs, s, h, hf => by
    obtain ⟨s', e, h'⟩ := hf s x h List.mem_cons_self
    obtain ⟨s2, e2, h2⟩ := foldX_inv I (xs := xs) (s := s') h' fun s y hs hy => hf s y hs (List.mem_cons_of_mem _ hy)
    refine ⟨s2, ?_, h2⟩
    show (f s x >>= fun r => match r with
      | .inl z => R.ok (.inl z)
      | .inr (true, s') => foldX f s' xs
      | .inr (false, s') => R.ok (.inr s')) = _
    rw [e]
    exact e2
/-- a search that never ends the whole -/
theorem foldX_unit {ρ : Type} {f : Unit → α → R (Sum ρ (Bool × Unit))} {xs : List α} (hf : ∀ x ∈ xs, f () x = R.ok (.inr (true, ()))) : foldX f () xs = R.ok (.inr ()) := by
  obtain ⟨s, e, _⟩ := foldX_inv (fun _ => True) (f := f) (xs := xs) (s := ()) trivial fun s x _ hx => ⟨(), hf x hx, trivial⟩
  exact e
theorem mapR_ok {f : α → R β} {g : α → β} : ∀ {xs : List α}, (∀ x ∈ xs, f x = R.ok (g x)) → mapR f xs = R.ok (xs.map g)
  | [], _ => rfl
  | x :: xs, h => by
    show (f x >>= fun y => mapR f xs >>= fun ys => R.ok (y :: ys)) = _
    rw [h x List.mem_cons_self, mapR_ok fun y hy => h y (List.mem_cons_of_mem _ hy)]
    rfl
theorem mapG_ok {f : α → R β} {g : α → β} {xs : List α} (hl : xs.length < 100000) (h : ∀ x ∈ xs, f x = R.ok (g x)) : mapG f xs = R.ok (xs.map g) := by
  unfold mapG
  rw [grd_t (decide_eq_true hl)]
  exact mapR_ok h
theorem mapR_ex {f : α → R β} (p : β → Prop) : ∀ {xs : List α}, (∀ x ∈ xs, ∃ y, f x = R.ok y ∧ p y) → ∃ ys, mapR f xs = R.ok ys ∧ ys.length = xs.length ∧ ∀ y ∈ ys, p y
  | [], _ => ⟨[], rfl, rfl, fun _ h => nomatch h⟩
  | x :: xs, h => by
    obtain ⟨y, e, hy⟩ := h x List.mem_cons_self
    obtain ⟨ys, e2, hl, hp⟩ := mapR_ex p fun y hy => h y (List.mem_cons_of_mem _ hy)
    refine ⟨y :: ys, ?_, by rw [List.length_cons, List.length_cons, hl], fun z hz => ?_⟩
    · show (f x >>= fun y => mapR f xs >>= fun ys => R.ok (y :: ys)) = _
      rw [e, e2]
      rfl
    · rcases List.mem_cons.mp hz with rfl | hz
      · exact hy
      · exact hp z hz
theorem mapG_ex {f : α → R β} (p : β → Prop) {xs : List α} (hl : xs.length < 100000) (h : ∀ x ∈ xs, ∃ y, f x = R.ok y ∧ p y) : ∃ ys, mapG f xs = R.ok ys ∧ ys.length = xs.length ∧ ∀ y ∈ ys, p y := by
  unfold mapG
  rw [grd_t (decide_eq_true hl)]
  exact mapR_ex p h
theorem filR_ok {f : α → R (Option β)} {g : α → Option β} : ∀ {xs : List α}, (∀ x ∈ xs, f x = R.ok (g x)) → filR f xs = R.ok (xs.filterMap g)
  | [], _ => rfl
  | x :: xs, h => by
    show (f x >>= fun o => filR f xs >>= fun ys => match o with
      | some y => R.ok (y :: ys)
      | none => R.ok ys) = _
    rw [h x List.mem_cons_self, filR_ok fun y hy => h y (List.mem_cons_of_mem _ hy)]
    show (match g x with
      | some y => R.ok (y :: xs.filterMap g)
      | none => R.ok (xs.filterMap g)) = R.ok ((x :: xs).filterMap g)
    rw [List.filterMap_cons]
    cases g x <;> rfl
theorem filG_ok {f : α → R (Option β)} {g : α → Option β} {xs : List α} (hl : xs.length < 100000) (h : ∀ x ∈ xs, f x = R.ok (g x)) : filG f xs = R.ok (xs.filterMap g) := by
  unfold filG
  rw [grd_t (decide_eq_true hl)]
  exact filR_ok h
theorem getI_nat {xs : List α} {i : Int} (h0 : 0 ≤ i) (h1 : i < xs.length) : ∃ x, getI xs i = R.ok x ∧ x ∈ xs ∧ xs[i.toNat]? = some x := by
  have hj : i.toNat < xs.length := by omega
  refine ⟨xs[i.toNat], ?_, List.getElem_mem hj, List.getElem?_eq_getElem hj⟩
  unfold getI
  have e : atI xs i = some xs[i.toNat] := by
    have := atI_nat (xs := xs) (j := i.toNat) (v := xs[i.toNat]) (List.getElem?_eq_getElem hj)
    rw [Int.toNat_of_nonneg h0] at this
    exact this
  rw [e]
  rfl
theorem getI_eq {xs : List α} {i : Int} {x : α} (h0 : 0 ≤ i) (h : xs[i.toNat]? = some x) : getI xs i = R.ok x := by
  have h1 := (List.getElem?_eq_some_iff.mp h).1
  obtain ⟨y, e, _, e2⟩ := getI_nat (xs := xs) (i := i) h0 (by omega)
  rw [h] at e2
  cases e2
  exact e
theorem getI_last {xs : List α} (x : α) : getI (xs ++ [x]) (-1) = R.ok x := by
  unfold getI
  rw [atI_last]
  rfl
theorem setI_nat {xs : List α} {i : Int} {x : α} (h0 : 0 ≤ i) (h1 : i < xs.length) : setI xs i x = R.ok (xs.set i.toNat x) := by
  have e : ixN xs.length i = some i.toNat := by
    unfold ixN
    rw [if_pos h0, if_pos h1]
  unfold setI
  rw [e]
theorem app_ok {xs : List α} {x : α} (h : xs.length < 100000) : app xs x = R.ok (xs ++ [x]) := by
  unfold app
  rw [if_pos h]
theorem extend_ok {xs ys : List α} (h : xs.length + ys.length < 100000) : extend xs ys = R.ok (xs ++ ys) := by
  unfold extend
  rw [if_pos h]
theorem modI_ok {i j : Int} (h : 0 < j) : modI i j = R.ok (i % j) := by
  unfold modI
  rw [if_pos h]
theorem divI_ok {i j : Int} (h : 0 < j) (h2 : j < 1073741824) : divI i j = R.ok (i / j) := by
  unfold divI
  rw [if_pos ⟨h, h2⟩]
theorem mulI_ok {i j : Int} (h : (-(2 ^ 64) < i ∧ i < 2 ^ 64) ∨ (-(2 ^ 64) < j ∧ j < 2 ^ 64)) : mulI i j = R.ok (i * j) := by
  unfold mulI
  rw [if_pos h]
theorem rngI_ok {i j : Int} (h1 : -(2 ^ 62) ≤ i) (h2 : i < 2 ^ 62) (h3 : -(2 ^ 62) ≤ j) (h4 : j < 2 ^ 62) : rngI i j = R.ok (rng i j) := by
  unfold rngI
  rw [if_pos ⟨h1, h2, h3, h4⟩]
theorem rng_mem {i j k : Int} : k ∈ rng i j ↔ i ≤ k ∧ k < j := by
  unfold rng
  rw [List.mem_map]
  constructor
  · rintro ⟨n, hn, rfl⟩
    have := List.mem_range.mp hn
    omega
  · intro h
    exact ⟨(k - i).toNat, List.mem_range.mpr (by omega), by omega⟩
/-! ### what holds of a result, step by step -/
section
variable {P Q : α → Prop} {S : β → Prop} {X : Exn → Prop}
theorem po_bind {m : R α} {k : α → R β} (h : Post m Q X) (hk : ∀ a, Q a → Post (k a) S X) : Post (m >>= k) S X := by
  cases m with
  | ok a => exact hk a h
  | exc e => exact h
  | bad => exact h
theorem po_ok {a : α} (h : P a) : Post (R.ok a) P X := h
theorem po_eq {m : R α} {a : α} (h : m = R.ok a) (hp : P a) : Post m P X := by
  rw [h]
  exact hp
theorem po_if {c : Prop} [Decidable c] {m n : R α} (h1 : c → Post m P X) (h2 : ¬ c → Post n P X) : Post (if c then m else n) P X := by
  by_cases h : c
  · rw [if_pos h]
    exact h1 h
  · rw [if_neg h]
    exact h2 h
theorem po_ex {m : R α} (h : Post m P noX) : ∃ a, m = R.ok a ∧ P a := by
  cases m with
  | ok a => exact ⟨a, rfl, h⟩
  | exc e => exact (show False from h).elim
  | bad => exact (show False from h).elim
theorem po_iff {m : R α} {a : α} (h : Post m (· = a) noX) : m = R.ok a := by
  obtain ⟨b, e, rfl⟩ := po_ex h
  exact e
theorem po_grd {b : Bool} {k : Unit → R β} (h : b = true) (hk : Post (k ()) S X) : Post (grd b >>= k) S X := by
  rw [grd_t h]
  exact hk
theorem po_get {xs : List α} {i : Int} {k : α → R β} (h0 : 0 ≤ i) (h1 : i < xs.length) (hk : ∀ x, x ∈ xs → xs[i.toNat]? = some x → Post (k x) S X) : Post (getI xs i >>= k) S X := by
  obtain ⟨x, e, h2, h3⟩ := getI_nat h0 h1
  rw [e]
  exact hk x h2 h3
theorem po_getE {xs : List α} {i : Int} {x : α} {k : α → R β} (h : getI xs i = R.ok x) (hk : Post (k x) S X) : Post (getI xs i >>= k) S X := by
  rw [h]
  exact hk
theorem po_last {xs : List α} {k : α → R β} (h : xs ≠ []) (hk : ∀ x, x ∈ xs → Post (k x) S X) : Post (getI xs (-1) >>= k) S X := by
  obtain ⟨ys, y, rfl⟩ : ∃ ys y, xs = ys ++ [y] := ⟨xs.dropLast, xs.getLast h, (List.dropLast_concat_getLast h).symm⟩
  rw [getI_last]
  exact hk y (List.mem_append_right _ List.mem_cons_self)
theorem po_set {xs : List α} {i : Int} {x : α} {k : List α → R β} (h0 : 0 ≤ i) (h1 : i < xs.length) (hk : Post (k (xs.set i.toNat x)) S X) : Post (setI xs i x >>= k) S X := by
  rw [setI_nat h0 h1]
  exact hk
theorem po_app {xs : List α} {x : α} {k : List α → R β} (h : xs.length < 100000) (hk : Post (k (xs ++ [x])) S X) : Post (app xs x >>= k) S X := by
  rw [app_ok h]
  exact hk
theorem po_extend {xs ys : List α} {k : List α → R β} (h : xs.length + ys.length < 100000) (hk : Post (k (xs ++ ys)) S X) : Post (extend xs ys >>= k) S X := by
  rw [extend_ok h]
  exact hk
theorem po_mod {i j : Int} {k : Int → R β} (h : 0 < j) (hk : 0 ≤ i % j → i % j < j → Post (k (i % j)) S X) : Post (modI i j >>= k) S X := by
  rw [modI_ok h]
  exact hk (Int.emod_nonneg _ (by omega)) (Int.emod_lt_of_pos _ h)
theorem po_div {i j : Int} {k : Int → R β} (h : 0 < j) (h2 : j < 1073741824) (hk : Post (k (i / j)) S X) : Post (divI i j >>= k) S X := by
  rw [divI_ok h h2]
  exact hk
theorem po_mul {i j : Int} {k : Int → R β} (h : (-(2 ^ 64) < i ∧ i < 2 ^ 64) ∨ (-(2 ^ 64) < j ∧ j < 2 ^ 64)) (hk : Post (k (i * j)) S X) : Post (mulI i j >>= k) S X := by
  rw [mulI_ok h]
  exact hk
theorem po_rng {i j : Int} {k : List Int → R β} (h1 : -(2 ^ 62) ≤ i) (h2 : i < 2 ^ 62) (h3 : -(2 ^ 62) ≤ j) (h4 : j < 2 ^ 62) (hk : Post (k (rng i j)) S X) : Post (rngI i j >>= k) S X := by
  rw [rngI_ok h1 h2 h3 h4]
  exact hk
theorem po_fold {f : β → α → R β} {s : β} {xs : List α} (I : β → Prop) (h0 : I s) (hf : ∀ s x, I s → x ∈ xs → Post (f s x) I X) : Post (foldR f s xs) I X := by
  induction xs generalizing s with
  | nil => exact h0
  | cons x xs ih =>
    show Post (f s x >>= fun s' => foldR f s' xs) I X
    exact po_bind (hf s x h0 List.mem_cons_self) fun s' h' => ih h' fun s y hs hy => hf s y hs (List.mem_cons_of_mem _ hy)
/-- .. with the number of turns gone -/
theorem po_foldN {f : β → α → R β} {s : β} {xs : List α} (I : Nat → β → Prop) (h0 : I 0 s) (hf : ∀ n s x, n < xs.length → I n s → xs[n]? = some x → Post (f s x) (I (n + 1)) X) : Post (foldR f s xs) (I xs.length) X := by
  have key : ∀ (l : List α) (n : Nat) (s : β), xs.drop n = l → n ≤ xs.length → I n s → Post (foldR f s l) (I xs.length) X := by
    intro l
    induction l with
    | nil =>
      intro n s e hn h
      have : xs.length ≤ n := by
        have := congrArg List.length e
        rw [List.length_drop, List.length_nil] at this
        omega
      rw [show xs.length = n by omega]
      exact h
    | cons x l ih =>
      intro n s e hn h
      have hlt : n < xs.length := by
        have := congrArg List.length e
        rw [List.length_drop, List.length_cons] at this
        omega
      have e1 : xs[n] :: xs.drop (n + 1) = x :: l := (List.drop_eq_getElem_cons hlt).symm.trans e
      injection e1 with e2 e3
      show Post (f s x >>= fun s' => foldR f s' l) _ X
      exact po_bind (hf n s x hlt h (by rw [List.getElem?_eq_getElem hlt, e2])) fun s' h' => ih (n + 1) s' e3 (by omega) h'
  exact key xs 0 s rfl (Nat.zero_le _) h0
theorem po_foldX {ρ : Type} {f : β → α → R (Sum ρ (Bool × β))} {s : β} {xs : List α} (I : β → Prop) (h0 : I s) (hf : ∀ s x, I s → x ∈ xs → Post (f s x) (fun r => ∃ s', r = .inr (true, s') ∧ I s') X) : Post (foldX f s xs) (fun r => ∃ s', r = .inr s' ∧ I s') X := by
  induction xs generalizing s with
  | nil => exact ⟨s, rfl, h0⟩
  | cons x xs ih =>
    refine po_bind (S := fun r => ∃ s', r = Sum.inr s' ∧ I s') (k := fun r => match r with
      | .inl z => (R.ok (.inl z) : R (Sum ρ β))
      | .inr (true, s') => foldX f s' xs
      | .inr (false, s') => R.ok (.inr s')) (hf s x h0 List.mem_cons_self) fun r hr => ?_
    obtain ⟨s', rfl, h'⟩ := hr
    exact ih h' fun s y hs hy => hf s y hs (List.mem_cons_of_mem _ hy)
theorem po_mapG {f : α → R β} {xs : List α} (p : β → Prop) (hl : xs.length < 100000) (hf : ∀ x ∈ xs, Post (f x) p X) : Post (mapG f xs) (fun ys => ys.length = xs.length ∧ ∀ y ∈ ys, p y) X := by
  unfold mapG
  rw [grd_t (decide_eq_true hl)]
  show Post (mapR f xs) _ X
  clear hl
  induction xs with
  | nil => exact ⟨rfl, fun _ h => nomatch h⟩
  | cons x xs ih =>
    show Post (f x >>= fun y => mapR f xs >>= fun ys => R.ok (y :: ys)) _ X
    refine po_bind (hf x List.mem_cons_self) fun y hy => po_bind (ih fun z hz => hf z (List.mem_cons_of_mem _ hz)) fun ys ⟨h1, h2⟩ => ?_
    refine ⟨by rw [List.length_cons, List.length_cons, h1], fun z hz => ?_⟩
    rcases List.mem_cons.mp hz with rfl | hz
    · exact hy
    · exact h2 z hz
end
theorem cut_head (xs : List α) : cutL xs none (some 1) = xs.take 1 := by
  unfold cutL
  have e : HT.sIx xs.length xs.length (some 1) = min 1 xs.length := HT.sIx_nat xs.length xs.length 1
  have e0 : HT.sIx xs.length 0 none = 0 := rfl
  rw [e, e0, List.drop_zero]
  cases xs with
  | nil => rfl
  | cons x xs => simp
theorem cut_last (xs : List α) : cutL xs (some (-1)) none = xs.drop (xs.length - 1) := by
  unfold cutL
  have e : HT.sIx xs.length 0 (some (-1)) = xs.length - 1 := by
    unfold HT.sIx
    simp only [show ((-1 : Int) < 0) = True from eq_true (by decide), if_true]
    omega
  have e0 : HT.sIx xs.length xs.length none = xs.length := rfl
  rw [e, e0]
  refine List.take_of_length_le ?_
  rw [List.length_drop]
  exact Nat.le_refl _
end
section
variable {α β γ : Type} {X : Exn → Prop}
theorem po_mapStN {f : γ → α → R (β × γ)} {s : γ} {xs : List α} (I : Nat → γ → Prop) (p : β → Prop) (hl : xs.length < 100000) (h0 : I 0 s) (hf : ∀ n s x, n < xs.length → I n s → xs[n]? = some x → Post (f s x) (fun r => p r.1 ∧ I (n + 1) r.2) X) :
    Post (mapStG f s xs) (fun r => r.1.length = xs.length ∧ (∀ y ∈ r.1, p y) ∧ I xs.length r.2) X := by
  unfold mapStG
  rw [grd_t (decide_eq_true hl), ok_bind]
  clear hl
  have key : ∀ (l : List α) (n : Nat) (s : γ), xs.drop n = l → n ≤ xs.length → I n s → Post (mapSt f s l) (fun r => r.1.length = l.length ∧ (∀ y ∈ r.1, p y) ∧ I xs.length r.2) X := by
    intro l
    induction l with
    | nil =>
      intro n s e hn h
      have : xs.length ≤ n := by
        have := congrArg List.length e
        rw [List.length_drop, List.length_nil] at this
        omega
      rw [show n = xs.length by omega] at h
      exact ⟨rfl, by intro y hy; exact absurd hy List.not_mem_nil, h⟩
    | cons x l ih =>
      intro n s e hn h
      have hlt : n < xs.length := by
        have := congrArg List.length e
        rw [List.length_drop, List.length_cons] at this
        omega
      have e1 : xs[n] :: xs.drop (n + 1) = x :: l := (List.drop_eq_getElem_cons hlt).symm.trans e
      injection e1 with e2 e3
      refine po_bind (hf n s x hlt h (by rw [List.getElem?_eq_getElem hlt, e2])) fun r ⟨h1, h2⟩ => po_bind (ih (n + 1) r.2 e3 (by omega) h2) fun q ⟨h3, h4, h5⟩ => ?_
      refine ⟨by rw [List.length_cons, List.length_cons, h3], fun y hy => ?_, h5⟩
      rcases List.mem_cons.mp hy with rfl | hy
      · exact h1
      · exact h4 y hy
  exact key xs 0 s rfl (Nat.zero_le _) h0
end
section
variable {α : Type}
theorem cut_take (xs : List α) (n : Nat) : cutL xs none (some (n : Int)) = xs.take n := by
  unfold cutL
  have e : HT.sIx xs.length xs.length (some (n : Int)) = min n xs.length := HT.sIx_nat xs.length xs.length n
  have e0 : HT.sIx xs.length 0 none = 0 := rfl
  rw [e, e0, List.drop_zero, Nat.sub_zero]
  by_cases h : n ≤ xs.length
  · rw [Nat.min_eq_left h]
  · rw [Nat.min_eq_right (by omega), List.take_of_length_le (Nat.le_refl _), List.take_of_length_le (by omega)]
theorem cut_mid (xs : List α) (m n : Nat) : cutL xs (some (m : Int)) (some (n : Int)) = (xs.drop m).take (n - m) := by
  unfold cutL
  have e : HT.sIx xs.length xs.length (some (n : Int)) = min n xs.length := HT.sIx_nat xs.length xs.length n
  have e0 : HT.sIx xs.length 0 (some (m : Int)) = min m xs.length := HT.sIx_nat xs.length 0 m
  rw [e, e0]
  by_cases h : m ≤ xs.length
  · rw [Nat.min_eq_left h]
    by_cases h2 : n ≤ xs.length
    · rw [Nat.min_eq_left h2]
    · rw [Nat.min_eq_right (by omega), List.take_of_length_le (by rw [List.length_drop]; exact Nat.le_refl _), List.take_of_length_le (by rw [List.length_drop]; omega)]
  · rw [List.drop_of_length_le (by omega), List.drop_of_length_le (by omega), List.take_nil, List.take_nil]
end
/-! ### dicts -/
section
variable {κ β : Type} [DecidableEq κ]
theorem mhas_iff {m : List (κ × β)} {k : κ} : mhas m k = true ↔ ∃ p ∈ m, p.1 = k := by
  unfold mhas
  rw [List.any_eq_true]
  constructor
  · rintro ⟨p, h, e⟩
    exact ⟨p, h, of_decide_eq_true e⟩
  · rintro ⟨p, h, e⟩
    exact ⟨p, h, decide_eq_true e⟩
theorem mput_new {m : List (κ × β)} {k : κ} {v : β} (h : mhas m k = false) : mput m k v = m ++ [(k, v)] := by
  unfold mput
  have h' : (m.any fun p => decide (p.1 = k)) = false := h
  rw [h', if_neg (by decide)]
theorem mput_old {m : List (κ × β)} {k : κ} {v : β} (h : mhas m k = true) : mput m k v = m.map (fun p => if p.1 = k then (p.1, v) else p) := by
  unfold mput
  have h' : (m.any fun p => decide (p.1 = k)) = true := h
  rw [h', if_pos rfl]
theorem mput_keys {m : List (κ × β)} {k j : κ} {v : β} : (∃ p ∈ mput m k v, p.1 = j) ↔ (j = k ∨ ∃ p ∈ m, p.1 = j) := by
  cases h : mhas m k with
  | false =>
    rw [mput_new h]
    constructor
    · rintro ⟨p, hp, rfl⟩
      rcases List.mem_append.mp hp with hp | hp
      · exact .inr ⟨p, hp, rfl⟩
      · rw [List.mem_singleton] at hp
        exact .inl (by rw [hp])
    · rintro (rfl | ⟨p, hp, rfl⟩)
      · exact ⟨(j, v), List.mem_append_right _ List.mem_cons_self, rfl⟩
      · exact ⟨p, List.mem_append_left _ hp, rfl⟩
  | true =>
    rw [mput_old h]
    have fst : ∀ p : κ × β, (if p.1 = k then (p.1, v) else p).1 = p.1 := fun p => by split <;> rfl
    constructor
    · rintro ⟨p, hp, rfl⟩
      obtain ⟨q, hq, rfl⟩ := List.mem_map.mp hp
      rw [fst]
      exact .inr ⟨q, hq, rfl⟩
    · rintro (rfl | ⟨p, hp, rfl⟩)
      · obtain ⟨p, hp, e⟩ := mhas_iff.mp h
        exact ⟨_, List.mem_map.mpr ⟨p, hp, rfl⟩, by rw [fst]; exact e⟩
      · exact ⟨_, List.mem_map.mpr ⟨p, hp, rfl⟩, fst p⟩
theorem mput_length {m : List (κ × β)} {k : κ} {v : β} : (mput m k v).length = m.length + if mhas m k = true then 0 else 1 := by
  cases h : mhas m k with
  | false =>
    rw [mput_new h, List.length_append]
    rfl
  | true =>
    rw [mput_old h, List.length_map]
    rfl
theorem po_mput {δ : Type} {m : List (κ × β)} {k : κ} {v : β} {f : List (κ × β) → R δ} {S : δ → Prop} {X : Exn → Prop} (h : m.length < 100000) (hk : Post (f (mput m k v)) S X) : Post (mputR m k v >>= f) S X := by
  unfold mputR
  rw [if_pos h]
  exact hk
end
end Z
namespace G
open PySem L2 Z
open Rep (rep)
def top (i : Nat) : Stmt := PySem.Challenge.pw_farhail_k29_choices_of_no_trees.main.body.getD i (.Pass ⟨0, 0, 0, 0⟩)
abbrev s_is_tree : Stmt := top 13
abbrev s_grown_asked : Stmt := top 15
abbrev s_tree_fewest : Stmt := top 23
abbrev s_tree_choices : Stmt := top 24
abbrev s_choice_by : Stmt := top 25
abbrev s_choice_number : Stmt := top 27
abbrev s_law_cells : Stmt := top 29
abbrev s_law_pool : Stmt := top 30
abbrev s_law_take : Stmt := top 31
abbrev s_law_some : Stmt := top 32
abbrev s_law_named : Stmt := top 33
abbrev s_law_ringed : Stmt := top 34
abbrev s_law_refused : Stmt := top 35
abbrev s_law : Stmt := top 36
abbrev names : List Str := ["NoTree"]
/-! ### the mirrors -/
/-! is_tree -/
def is_tree (x_web : (Int × (Tup (Int × Int)))) : R Bool := do
  R.ok (decide ((x_web.2.l.length : Int) = (x_web.1 - (1 : Int))))
/-! grown_asked -/
def grown_asked (x_web : (Int × (Tup (Int × Int)))) : R Unit := do
  let y3 ← nx (is_tree x_web)
  if (!y3) = true then do
    raiseR "NoTree"
  else do
    R.ok ()
/-! tree_fewest -/
def tree_fewest (x_web : (Int × (Tup (Int × Int)))) (x_kind : Str) : R Int := do
  let y3 ← grown_asked x_web
  R.bad
/-! tree_choices -/
def tree_choices (x_web : (Int × (Tup (Int × Int)))) (x_kind : Str) : R Int := do
  let y3 ← grown_asked x_web
  R.bad
/-! choice_by -/
def choice_by (x_web : (Int × (Tup (Int × Int)))) (x_kind : Str) (x_number : Int) : R (List Int) := do
  let y3 ← grown_asked x_web
  R.bad
/-! choice_number -/
def choice_number (x_web : (Int × (Tup (Int × Int)))) (x_kind : Str) (x_looks : (List Int)) : R Int := do
  let y4 ← grown_asked x_web
  R.bad
/-! _law_cells -/
def law_cells (x_script : Scr) (x_many : Int) : R (List Int) := do
  let g7 ← foldR (fun (g7 : (List Int)) (b7 : (Int × Int)) => do
      let t12 ← modI b7.1 x_many
      let t13 ← getI g7 t12
      let t15 ← modI b7.1 x_many
      let l16 ← setI g7 t15 ((t13 * (31 : Int)) + b7.2)
      R.ok l16) (cutL x_script.l none (some x_many)) (enum (cutL x_script.l (some x_many) (some (63 : Int))))
  R.ok g7
/-! _law_pool -/
def law_pool (x_cells : (List Int)) (x_k : Int) : R (List Int) := do
  let g2 ← (do
    if (decide ((0 : Int) < (x_cells.length : Int))) = true then do
      let t4 ← modI x_k (x_cells.length : Int)
      let t5 ← getI x_cells t4
      let t6 ← divI x_k (x_cells.length : Int)
      R.ok (t5 + t6)
    else do
      R.ok (0 : Int) : R (Int))
  let g7 ← (do
    let j8 ← (do
      if (decide (g2 < (0 : Int))) = true then do
        R.ok true
      else do
        R.ok (decide (((10 : Int) ^ ((18 : Int) : Int).toNat) ≤ g2)) : R (Bool))
    if j8 = true then do
      R.ok (absI g2)
    else do
      R.ok (0 : Int) : R (Int))
  let t17 ← mulI ((40009 : Int) * (x_k + (1 : Int))) (x_k + (3 : Int))
  R.ok ([g7, ((((g2 % (2147483629 : Int)) * (69621 : Int)) + t17) % (2147483629 : Int))] : (List Int))
/-! _law_take -/
def law_take (x_pool : (List Int)) (x_many : Int) : R (Int × (List Int)) := do
  let t2 ← getI x_pool (0 : Int)
  if (decide ((0 : Int) < t2)) = true then do
    let t4 ← getI x_pool (0 : Int)
    let t5 ← modI t4 x_many
    let t6 ← getI x_pool (0 : Int)
    let t7 ← divI t6 x_many
    let l8 ← setI x_pool (0 : Int) t7
    R.ok (t5, l8)
  else do
    let t10 ← getI x_pool (1 : Int)
    let l13 ← setI x_pool (1 : Int) (((t10 * (48271 : Int)) + (12820163 : Int)) % (2147483647 : Int))
    let t15 ← getI l13 (1 : Int)
    let t16 ← getI l13 (1 : Int)
    let t17 ← mulI t15 t16
    let t22 ← modI ((((t17 % (2147483629 : Int)) * (69621 : Int)) % (2147483587 : Int)) / (8 : Int)) x_many
    R.ok (t22, l13)
/-! _law_some -/
def law_some (x_pool : (List Int)) (x_menu : (List Int)) (x_many : Int) : R ((List Int) × (List Int)) := do
  let l5 ← rngI 0 x_many
  let l6 ← mapStG (fun (g6 : (List Int) × (List Int)) (b6 : Int) => do
      let y10 ← law_take g6.2 (g6.1.length : Int)
      let l8 ← popB g6.1 y10.1
      R.ok (l8.1, (l8.2, y10.2))) (x_menu, x_pool) l5
  R.ok (l6.1, l6.2.2)
/-! _law_named -/
def law_named (x_pool : (List Int)) (x_many : Int) (x_ties : (List (Int × Int))) : R ((Int × (Tup (Int × Int))) × (List Int)) := do
  let l3 ← listRng 0 x_many
  let y6 ← law_some x_pool l3 x_many
  let l9 ← mapG (fun (b9 : (Int × Int)) => do
      let t13 ← getI y6.1 b9.1
      let t14 ← getI y6.1 b9.2
      let t15 ← getI y6.1 b9.1
      let t16 ← getI y6.1 b9.2
      R.ok ((min2 t13 t14), (max2 t15 t16))) x_ties
  R.ok ((x_many, (Tup.mk (sortP l9))), y6.2)
/-! _law_ringed -/
def law_ringed (x_pool : (List Int)) : R ((Int × (Tup (Int × Int))) × (List Int)) := do
  let y2 ← law_take x_pool (10 : Int)
  let l5 ← rngI (1 : Int) ((3 : Int) + y2.1)
  let g4 ← foldR (fun (g4 : (List ((Int × Int) × Bool)) × (List Int)) (b4 : Int) => do
      let y7 ← law_take g4.2 b4
      let l9 ← mputR g4.1 (y7.1, b4) true
      R.ok (l9, y7.2)) (([] : (List ((Int × Int) × Bool))), y2.2) l5
  let l15 ← rngI 0 ((3 : Int) + y2.1)
  let g14 ← foldR (fun (g14 : (List (Int × Int))) (b14 : Int) => do
      let l16 ← rngI 0 b14
      let l17 ← filG (fun (b17 : Int) => do
          if (!mhas g4.1 (b17, b14)) = true then do
            R.ok (some (b17, b14))
          else
            R.ok none) l16
      let l23 ← extend g14 l17
      R.ok l23) ([] : (List (Int × Int))) l15
  let y30 ← law_take g4.2 (5 : Int)
  let t31 ← getI ([(1 : Int), (1 : Int), (2 : Int), (4 : Int), (g14.length : Int)] : (List Int)) y30.1
  let l32 ← rngI 0 t31
  let g26 ← foldR (fun (g26 : (List Int) × (List ((Int × Int) × Bool))) (b26 : Int) => do
      let y34 ← law_take g26.1 (g14.length : Int)
      let t35 ← getI g14 y34.1
      let l37 ← mputR g26.2 t35 true
      R.ok (y34.2, l37)) (y30.2, g4.1) l32
  let y43 ← law_named g26.1 ((3 : Int) + y2.1) (g26.2.map (·.1))
  R.ok (y43.1, y43.2)
/-! _law_refused -/
def law_refused (x_way : Int) (x_web : (Int × (Tup (Int × Int)))) (x_kind : Str) (x_number : Int) (x_looks : (List Int)) : R Bool := do
  let g4 ← tryR names (do
    if (decide (x_way = (0 : Int))) = true then do
      let y6 ← tree_fewest x_web x_kind
      R.ok ()
    else do
      if (decide (x_way = (1 : Int))) = true then do
        let y8 ← tree_choices x_web x_kind
        R.ok ()
      else do
        if (decide (x_way = (2 : Int))) = true then do
          let y10 ← choice_by x_web x_kind x_number
          R.ok ()
        else do
          let y12 ← choice_number x_web x_kind x_looks
          R.ok () : R Unit)
  let t14 ← ofO g4
  let b14 ← isC names [] t14
  if b14 = true then do
    R.ok false
  else do
    let j17 ← (do
      let b18 ← isC names [("NoTree" : Str)] t14
      if b18 = true then do
        let b20 ← isC names [("NoTree" : Str)] t14
        R.ok b20
      else do
        R.ok false : R (Bool))
    R.ok j17
/-! law -/
def law (x_script : Scr) : R Bool := do
  let y2 ← law_cells x_script (6 : Int)
  let l6 ← rngI 0 (max2 (1 : Int) (y2.length : Int))
  let r5 ← foldX (fun (g5 : Unit) (b5 : Int) => do
      let y7 ← law_pool y2 b5
      let y9 ← law_ringed y7
      let y16 ← law_take y9.2 (4 : Int)
      let t17 ← getI ([(-(1 : Int)), (0 : Int), (1 : Int), ((10 : Int) ^ ((18 : Int) : Int).toNat)] : (List Int)) y16.1
      let y19 ← law_take y16.2 (4 : Int)
      let l20 ← rngI 0 y19.1
      let l21 ← mapStG (fun (g21 : (List Int)) (b21 : Int) => do
          let y24 ← law_take g21 (15 : Int)
          R.ok ((y24.1 - (1 : Int)), y24.2)) y19.2 l20
      let r28 ← foldX (fun (g28 : Unit) (b28 : Str) => do
          let l33 ← mapG (fun (b33 : Int) => do
              let y38 ← law_refused b33 y9.1 b28 t17 l21.1
              R.ok y38) (rng 0 (4 : Int))
          if (!(l33.all id)) = true then do
            R.ok (.inl false)
          else do
            R.ok (.inr (true, ()))) () ([("places" : Str), ("ties" : Str), ("all" : Str)] : (List Str))
      match r28 with
      | .inl z => R.ok (.inl z)
      | .inr g28 => do
        R.ok (.inr (true, ()))) () l6
  match r5 with
  | .inl z => R.ok z
  | .inr g5 => do
    R.ok true
/-! ### what the top has written -/
structure Dn (K : Fg) (mg : Str → Option Value) (x : Str) (st : Stmt) (ps : List Str) (f : Addr) (fd : FuncData) : Prop where
  fn : Fun K x x st f fd
  mg : mg x = some (.ref f)
  b : Binds K fd ps []
structure Tx (K : Fg) (mg : Str → Option Value) (A : Nat → Addr) (FD : Nat → FuncData) : Prop where
  d13 : Dn K mg "is_tree" s_is_tree ["web"] (A 13) (FD 13)
  d15 : Dn K mg "grown_asked" s_grown_asked ["web"] (A 15) (FD 15)
  d23 : Dn K mg "tree_fewest" s_tree_fewest ["web", "kind"] (A 23) (FD 23)
  d24 : Dn K mg "tree_choices" s_tree_choices ["web", "kind"] (A 24) (FD 24)
  d25 : Dn K mg "choice_by" s_choice_by ["web", "kind", "number"] (A 25) (FD 25)
  d27 : Dn K mg "choice_number" s_choice_number ["web", "kind", "looks"] (A 27) (FD 27)
  d29 : Dn K mg "_law_cells" s_law_cells ["script", "many"] (A 29) (FD 29)
  d30 : Dn K mg "_law_pool" s_law_pool ["cells", "k"] (A 30) (FD 30)
  d31 : Dn K mg "_law_take" s_law_take ["pool", "many"] (A 31) (FD 31)
  d32 : Dn K mg "_law_some" s_law_some ["pool", "menu", "many"] (A 32) (FD 32)
  d33 : Dn K mg "_law_named" s_law_named ["pool", "many", "ties"] (A 33) (FD 33)
  d34 : Dn K mg "_law_ringed" s_law_ringed ["pool"] (A 34) (FD 34)
  d35 : Dn K mg "_law_refused" s_law_refused ["way", "web", "kind", "number", "looks"] (A 35) (FD 35)
  d36 : Dn K mg "law" s_law ["script"] (A 36) (FD 36)
  n_ValueError : mg "ValueError" = none
  n_abs : mg "abs" = none
  n_all : mg "all" = none
  n_enumerate : mg "enumerate" = none
  n_isinstance : mg "isinstance" = none
  n_len : mg "len" = none
  n_list : mg "list" = none
  n_max : mg "max" = none
  n_min : mg "min" = none
  n_range : mg "range" = none
  n_sorted : mg "sorted" = none
  n_tuple : mg "tuple" = none
  x_NoTree : XC K mg "NoTree" (A 5)
  g_HailError : mg "HailError" = some (.ref (A 1))
  g_NoLooks : mg "NoLooks" = some (.ref (A 4))
  g_NoSuch : mg "NoSuch" = some (.ref (A 7))
  g_NoTree : mg "NoTree" = some (.ref (A 5))
  g_NoWeb : mg "NoWeb" = some (.ref (A 2))
  g_NotOne : mg "NotOne" = some (.ref (A 6))
  eh_NoTree : PySem.W.exmOne K (.ref (A 5)) (.ref (A 1)) = some true
  kt_NoTree_NoLooks : PySem.W.kitOne K (.ref (A 5)) (.ref (A 4)) = some false
  kt_NoTree_NoSuch : PySem.W.kitOne K (.ref (A 5)) (.ref (A 7)) = some false
  kt_NoTree_NoTree : PySem.W.kitOne K (.ref (A 5)) (.ref (A 5)) = some true
  kt_NoTree_NoWeb : PySem.W.kitOne K (.ref (A 5)) (.ref (A 2)) = some false
  kt_NoTree_NotOne : PySem.W.kitOne K (.ref (A 5)) (.ref (A 6)) = some false
  kt_NoTree_ValueError : PySem.W.kitOne K (.ref (A 5)) (.type "ValueError") = some true
theorem Tx.exc {K : Fg} {mg : Str → Option Value} {A : Nat → Addr} {FD : Nat → FuncData} (T : Tx K mg A FD) {x : Str} {C : Addr} (h : x ∈ names) (n : Nm K x C) : ExcC K C := by
  simp only [names, List.mem_cons, List.mem_nil_iff, or_false] at h
  rcases h with rfl
  · obtain rfl := n.uniq T.x_NoTree.ns; exact T.x_NoTree.ex
theorem Tx.exm {K : Fg} {mg : Str → Option Value} {A : Nat → Addr} {FD : Nat → FuncData} (T : Tx K mg A FD) {x : Str} {C : Addr} (h : x ∈ names) (n : Nm K x C) : PySem.W.exmOne K (.ref C) (.ref (A 1)) = some true := by
  simp only [names, List.mem_cons, List.mem_nil_iff, or_false] at h
  rcases h with rfl
  · obtain rfl := n.uniq T.x_NoTree.ns; exact T.eh_NoTree
theorem Tx.ki0 {K : Fg} {mg : Str → Option Value} {A : Nat → Addr} {FD : Nat → FuncData} (T : Tx K mg A FD) {x : Str} {C : Addr} (h : x ∈ names) (n : Nm K x C) : PySem.W.kitAny K (.ref C) [.ref (A 4), .ref (A 7), .ref (A 2), .ref (A 6)] = some (decide (x ∈ ([] : List Str))) := by
  simp only [names, List.mem_cons, List.mem_nil_iff, or_false] at h
  rcases h with rfl
  · obtain rfl := n.uniq T.x_NoTree.ns; simp only [PySem.W.kitAny, T.kt_NoTree_NoLooks, T.kt_NoTree_NoSuch, T.kt_NoTree_NoWeb, T.kt_NoTree_NotOne]; decide +kernel
theorem Tx.ki1 {K : Fg} {mg : Str → Option Value} {A : Nat → Addr} {FD : Nat → FuncData} (T : Tx K mg A FD) {x : Str} {C : Addr} (h : x ∈ names) (n : Nm K x C) : PySem.W.kitOne K (.ref C) (.ref (A 5)) = some (decide (x ∈ ([("NoTree" : Str)] : List Str))) := by
  simp only [names, List.mem_cons, List.mem_nil_iff, or_false] at h
  rcases h with rfl
  · obtain rfl := n.uniq T.x_NoTree.ns; exact T.kt_NoTree_NoTree.trans (by decide +kernel)
theorem Tx.ki2 {K : Fg} {mg : Str → Option Value} {A : Nat → Addr} {FD : Nat → FuncData} (T : Tx K mg A FD) {x : Str} {C : Addr} (h : x ∈ names) (n : Nm K x C) : PySem.W.kitOne K (.ref C) (.type "ValueError") = some (decide (x ∈ ([("NoTree" : Str)] : List Str))) := by
  simp only [names, List.mem_cons, List.mem_nil_iff, or_false] at h
  rcases h with rfl
  · obtain rfl := n.uniq T.x_NoTree.ns; exact T.kt_NoTree_ValueError.trans (by decide +kernel)
section
variable {P : Program} {w : World} {K : PySem.W.Frag} {mg : Str → Option Value} {base : Heap} {A : Nat → Addr} {FD : Nat → FuncData}
def sp_is_tree (K : Fg) : Sp := fun vs H Q E => ∃ (F : Hp) (os : List (Addr × HO)) (v_web : V) (x_web : (Int × (Tup (Int × Int)))), vs = [v_web] ∧ W F H (os) ∧ rep K F v_web x_web ∧ Post (is_tree x_web) (Ret K F os Q) noX
theorem sc_is_tree : FnScope ["web"] ["web"] (defScope s_is_tree) := ⟨rfl, rfl, rfl, by decide +kernel, rfl, by decide +kernel, by decide +kernel⟩
theorem ok_is_tree (T : Tx K mg A FD) : FnOk P w K mg base CX0 1 (A 13) (FD 13) ["web"] (sp_is_tree K) := by
  refine T.d13.fn.ok sc_is_tree (fun vs H Q E h => ?_) (fun cdv Ar outer s H vs Q E hr h => ?_)
  · obtain ⟨F, os, v_web, x_web, rfl, _⟩ := h
    rfl
  · obtain ⟨F0, os, v_web, x_web, rfl, w0, r_web, hm⟩ := h
    have sF : Same F0 F0 := Same.refl _
    obtain ⟨a1, u1, z1, rfl, q1, r1a, r1b⟩ := r_web
    obtain rfl : u1 = V.int x_web.1 := r1a
    obtain ⟨a2, vs2, rfl, q2, h2⟩ := r1b
    refine ⟨_, (pss_one (ps_ret (pe_cmp (pc_eqI (pe_callB (call_lenN (K := K) rfl) (by rfl) T.n_len (by decide +kernel) (pa_cons (pe_ix (ix_tupK (K := K) rfl) (pv 0) pe_int (fun _ _ => rfl)) pa_nil)) (pe_op op_sub (pe_ix (ix_tupK (K := K) rfl) (pv 0) pe_int (fun _ _ => rfl)) pe_int))))), ?_⟩
    exact ⟨_, rfl, _, _, _, _, rfl, rfl, SqT.of (w0.same _ _ q1), rfl, _, _, _, rfl, .inr (SqT.of (w0.same _ _ q2)), h2.length, _, rfl, _, _, _, _, rfl, rfl, SqT.of (w0.same _ _ q1), rfl, _, _, rfl, rfl, _, _, rfl, rfl, (post_ok hm) _ _ _ w0 sF rep_b⟩
def sp_grown_asked (K : Fg) : Sp := fun vs H Q E => ∃ (F : Hp) (os : List (Addr × HO)) (v_web : V) (x_web : (Int × (Tup (Int × Int)))), vs = [v_web] ∧ W F H (os) ∧ rep K F v_web x_web ∧ Post (grown_asked x_web) (Ret K F os Q) (RetX K F os E)
theorem sc_grown_asked : FnScope ["web"] ["web"] (defScope s_grown_asked) := ⟨rfl, rfl, rfl, by decide +kernel, rfl, by decide +kernel, by decide +kernel⟩
theorem ok_grown_asked (T : Tx K mg A FD) : FnOk P w K mg base (L2.CX P w) 2 (A 15) (FD 15) ["web"] (sp_grown_asked K) := by
  refine T.d15.fn.okX sc_grown_asked (fun vs H Q E h => ?_) (fun cdv Ar outer s H vs Q E hr h => ?_)
  · obtain ⟨F, os, v_web, x_web, rfl, _⟩ := h
    rfl
  · obtain ⟨F0, os, v_web, x_web, rfl, w0, r_web, hm⟩ := h
    have sF : Same F0 F0 := Same.refl _
    obtain ⟨a1, u1, z1, rfl, q1, r1a, r1b⟩ := r_web
    obtain rfl : u1 = V.int x_web.1 := r1a
    obtain ⟨a2, vs2, rfl, q2, h2⟩ := r1b
    refine ⟨_, (pss_one (ps_if (pt_not (pt_val (pe_call (ok_is_tree T) (hr.mono (by decide)) (by rfl) T.d13.mg T.d13.fn.kp T.d13.b .nil pass0 (pa_cons (pv 0) pa_nil)))) (pss_one (ps_raise rfl (takes_of rfl rfl rfl rfl) (pmk_own PySem.F.excBase_ValueError T.x_NoTree.xc T.x_NoTree.gm T.x_NoTree.kp (raises_own T.x_NoTree.b T.x_NoTree.t) (by exact rfl)))) pss_nil)), ?_⟩
    refine ⟨_, rfl, _, _, _, (x_web : (Int × (Tup (Int × Int)))), rfl, w0, (rep_pair q1 rep_i (rep_tup q2 h2)), ?_⟩
    refine (post_nx hm).mono (fun y3 hm v3 F3 H3 w3 s3 r3 => ?_) (fun _ z => z)
    replace q1 := s3 _ _ q1
    replace q2 := s3 _ _ q2
    replace h2 := A2.mono s3 h2
    replace sF := sF.trans s3
    obtain rfl : v3 = V.bl y3 := r3
    refine ⟨_, rfl, ?_⟩
    refine post_ite hm (fun k4 hm => ?_) (fun k4 hm => ?_)
    · skip
      try dsimp only
      exact hm _ _ _ T.x_NoTree.ns w3 sF
    · skip
      exact (post_ok hm) _ _ _ w3 sF rep_n
def sp_tree_fewest (K : Fg) : Sp := fun vs H Q E => ∃ (F : Hp) (os : List (Addr × HO)) (v_web : V) (x_web : (Int × (Tup (Int × Int)))) (x_kind : Str), vs = [v_web, .str x_kind] ∧ W F H (os) ∧ rep K F v_web x_web ∧ Post (tree_fewest x_web x_kind) (Ret K F os Q) (RetX K F os E)
theorem sc_tree_fewest : FnScope ["web", "kind"] ["web", "kind"] (defScope s_tree_fewest) := ⟨rfl, rfl, rfl, by decide +kernel, rfl, by decide +kernel, by decide +kernel⟩
theorem ok_tree_fewest (T : Tx K mg A FD) : FnOk P w K mg base (L2.CX P w) 3 (A 23) (FD 23) ["web", "kind"] (sp_tree_fewest K) := by
  refine T.d23.fn.okX sc_tree_fewest (fun vs H Q E h => ?_) (fun cdv Ar outer s H vs Q E hr h => ?_)
  · obtain ⟨F, os, v_web, x_web, x_kind, rfl, _⟩ := h
    rfl
  · obtain ⟨F0, os, v_web, x_web, x_kind, rfl, w0, r_web, hm⟩ := h
    have sF : Same F0 F0 := Same.refl _
    obtain ⟨a1, u1, z1, rfl, q1, r1a, r1b⟩ := r_web
    obtain rfl : u1 = V.int x_web.1 := r1a
    obtain ⟨a2, vs2, rfl, q2, h2⟩ := r1b
    refine ⟨_, (pss_cons (ps_expr (pe_callS (ok_grown_asked T) (hr.mono (by decide)) (by rfl) T.d15.mg T.d15.fn.kp T.d15.b (fun σ => passAt (takes_of rfl rfl rfl rfl) σ) (pa_cons (pv 0) pa_nil))) (pss_one ps_absurd)), ?_⟩
    refine ⟨_, rfl, _, _, _, (x_web : (Int × (Tup (Int × Int)))), rfl, w0, (rep_pair q1 rep_i (rep_tup q2 h2)), ?_⟩
    refine (post_bind hm).mono (fun y3 hm v3 F3 H3 w3 s3 r3 => ?_) (fun _ z C F' H' nC w s => z C F' H' nC w (sF.trans s))
    replace q1 := s3 _ _ q1
    replace q2 := s3 _ _ q2
    replace h2 := A2.mono s3 h2
    replace sF := sF.trans s3
    obtain rfl : v3 = V.non := r3
    try dsimp only
    exact hm
def sp_tree_choices (K : Fg) : Sp := fun vs H Q E => ∃ (F : Hp) (os : List (Addr × HO)) (v_web : V) (x_web : (Int × (Tup (Int × Int)))) (x_kind : Str), vs = [v_web, .str x_kind] ∧ W F H (os) ∧ rep K F v_web x_web ∧ Post (tree_choices x_web x_kind) (Ret K F os Q) (RetX K F os E)
theorem sc_tree_choices : FnScope ["web", "kind"] ["web", "kind"] (defScope s_tree_choices) := ⟨rfl, rfl, rfl, by decide +kernel, rfl, by decide +kernel, by decide +kernel⟩
theorem ok_tree_choices (T : Tx K mg A FD) : FnOk P w K mg base (L2.CX P w) 3 (A 24) (FD 24) ["web", "kind"] (sp_tree_choices K) := by
  refine T.d24.fn.okX sc_tree_choices (fun vs H Q E h => ?_) (fun cdv Ar outer s H vs Q E hr h => ?_)
  · obtain ⟨F, os, v_web, x_web, x_kind, rfl, _⟩ := h
    rfl
  · obtain ⟨F0, os, v_web, x_web, x_kind, rfl, w0, r_web, hm⟩ := h
    have sF : Same F0 F0 := Same.refl _
    obtain ⟨a1, u1, z1, rfl, q1, r1a, r1b⟩ := r_web
    obtain rfl : u1 = V.int x_web.1 := r1a
    obtain ⟨a2, vs2, rfl, q2, h2⟩ := r1b
    refine ⟨_, (pss_cons (ps_expr (pe_callS (ok_grown_asked T) (hr.mono (by decide)) (by rfl) T.d15.mg T.d15.fn.kp T.d15.b (fun σ => passAt (takes_of rfl rfl rfl rfl) σ) (pa_cons (pv 0) pa_nil))) (pss_one ps_absurd)), ?_⟩
    refine ⟨_, rfl, _, _, _, (x_web : (Int × (Tup (Int × Int)))), rfl, w0, (rep_pair q1 rep_i (rep_tup q2 h2)), ?_⟩
    refine (post_bind hm).mono (fun y3 hm v3 F3 H3 w3 s3 r3 => ?_) (fun _ z C F' H' nC w s => z C F' H' nC w (sF.trans s))
    replace q1 := s3 _ _ q1
    replace q2 := s3 _ _ q2
    replace h2 := A2.mono s3 h2
    replace sF := sF.trans s3
    obtain rfl : v3 = V.non := r3
    try dsimp only
    exact hm
def sp_choice_by (K : Fg) : Sp := fun vs H Q E => ∃ (F : Hp) (os : List (Addr × HO)) (v_web : V) (x_web : (Int × (Tup (Int × Int)))) (x_kind : Str) (x_number : Int), vs = [v_web, .str x_kind, .int x_number] ∧ W F H (os) ∧ rep K F v_web x_web ∧ Post (choice_by x_web x_kind x_number) (Ret K F os Q) (RetX K F os E)
theorem sc_choice_by : FnScope ["web", "kind", "number", "lots", "taken", "place", "count"] ["web", "kind", "number"] (defScope s_choice_by) := ⟨rfl, rfl, rfl, by decide +kernel, rfl, by decide +kernel, by decide +kernel⟩
theorem ok_choice_by (T : Tx K mg A FD) : FnOk P w K mg base (L2.CX P w) 3 (A 25) (FD 25) ["web", "kind", "number"] (sp_choice_by K) := by
  refine T.d25.fn.okX sc_choice_by (fun vs H Q E h => ?_) (fun cdv Ar outer s H vs Q E hr h => ?_)
  · obtain ⟨F, os, v_web, x_web, x_kind, x_number, rfl, _⟩ := h
    rfl
  · obtain ⟨F0, os, v_web, x_web, x_kind, x_number, rfl, w0, r_web, hm⟩ := h
    have sF : Same F0 F0 := Same.refl _
    obtain ⟨a1, u1, z1, rfl, q1, r1a, r1b⟩ := r_web
    obtain rfl : u1 = V.int x_web.1 := r1a
    obtain ⟨a2, vs2, rfl, q2, h2⟩ := r1b
    refine ⟨_, (pss_cons (ps_expr (pe_callS (ok_grown_asked T) (hr.mono (by decide)) (by rfl) T.d15.mg T.d15.fn.kp T.d15.b (fun σ => passAt (takes_of rfl rfl rfl rfl) σ) (pa_cons (pv 0) pa_nil))) (pss_cons ps_absurd (pss_cons ps_absurd (pss_cons ps_absurd (pss_cons ps_absurd (pss_one ps_absurd)))))), ?_⟩
    refine ⟨_, rfl, _, _, _, (x_web : (Int × (Tup (Int × Int)))), rfl, w0, (rep_pair q1 rep_i (rep_tup q2 h2)), ?_⟩
    refine (post_bind hm).mono (fun y3 hm v3 F3 H3 w3 s3 r3 => ?_) (fun _ z C F' H' nC w s => z C F' H' nC w (sF.trans s))
    replace q1 := s3 _ _ q1
    replace q2 := s3 _ _ q2
    replace h2 := A2.mono s3 h2
    replace sF := sF.trans s3
    obtain rfl : v3 = V.non := r3
    try dsimp only
    exact hm
def sp_choice_number (K : Fg) : Sp := fun vs H Q E => ∃ (F : Hp) (os : List (Addr × HO)) (v_web : V) (x_web : (Int × (Tup (Int × Int)))) (x_kind : Str) (v_looks : V) (x_looks : (List Int)), vs = [v_web, .str x_kind, v_looks] ∧ W F H (os) ∧ rep K F v_web x_web ∧ rep K F v_looks x_looks ∧ Post (choice_number x_web x_kind x_looks) (Ret K F os Q) (RetX K F os E)
theorem sc_choice_number : FnScope ["web", "kind", "looks", "lots", "number", "at", "look", "place"] ["web", "kind", "looks"] (defScope s_choice_number) := ⟨rfl, rfl, rfl, by decide +kernel, rfl, by decide +kernel, by decide +kernel⟩
theorem ok_choice_number (T : Tx K mg A FD) : FnOk P w K mg base (L2.CX P w) 3 (A 27) (FD 27) ["web", "kind", "looks"] (sp_choice_number K) := by
  refine T.d27.fn.okX sc_choice_number (fun vs H Q E h => ?_) (fun cdv Ar outer s H vs Q E hr h => ?_)
  · obtain ⟨F, os, v_web, x_web, x_kind, v_looks, x_looks, rfl, _⟩ := h
    rfl
  · obtain ⟨F0, os, v_web, x_web, x_kind, v_looks, x_looks, rfl, w0, r_web, r_looks, hm⟩ := h
    have sF : Same F0 F0 := Same.refl _
    obtain ⟨a1, u1, z1, rfl, q1, r1a, r1b⟩ := r_web
    obtain rfl : u1 = V.int x_web.1 := r1a
    obtain ⟨a2, vs2, rfl, q2, h2⟩ := r1b
    obtain ⟨a3, vs3, rfl, q3, h3⟩ := r_looks
    refine ⟨_, (pss_cons (ps_expr (pe_callS (ok_grown_asked T) (hr.mono (by decide)) (by rfl) T.d15.mg T.d15.fn.kp T.d15.b (fun σ => passAt (takes_of rfl rfl rfl rfl) σ) (pa_cons (pv 0) pa_nil))) (pss_cons ps_absurd (pss_cons ps_absurd (pss_cons ps_absurd (pss_cons ps_absurd (pss_one ps_absurd)))))), ?_⟩
    refine ⟨_, rfl, _, _, _, (x_web : (Int × (Tup (Int × Int)))), rfl, w0, (rep_pair q1 rep_i (rep_tup q2 h2)), ?_⟩
    refine (post_bind hm).mono (fun y4 hm v4 F4 H4 w4 s4 r4 => ?_) (fun _ z C F' H' nC w s => z C F' H' nC w (sF.trans s))
    replace q1 := s4 _ _ q1
    replace q2 := s4 _ _ q2
    replace h2 := A2.mono s4 h2
    replace q3 := s4 _ _ q3
    replace h3 := A2.mono s4 h3
    replace sF := sF.trans s4
    obtain rfl : v4 = V.non := r4
    try dsimp only
    exact hm
def sp_law_cells (K : Fg) : Sp := fun vs H Q E => ∃ (F : Hp) (os : List (Addr × HO)) (v_script : V) (x_script : Scr) (x_many : Int), vs = [v_script, .int x_many] ∧ W F H (os) ∧ rep K F v_script x_script ∧ Post (law_cells x_script x_many) (RetL K F os Q) noX
theorem sc_law_cells : FnScope ["script", "many", "cells", "k", "cell"] ["script", "many"] (defScope s_law_cells) := ⟨rfl, rfl, rfl, by decide +kernel, rfl, by decide +kernel, by decide +kernel⟩
theorem ok_law_cells (T : Tx K mg A FD) : FnOk P w K mg base CX0 1 (A 29) (FD 29) ["script", "many"] (sp_law_cells K) := by
  refine T.d29.fn.ok sc_law_cells (fun vs H Q E h => ?_) (fun cdv Ar outer s H vs Q E hr h => ?_)
  · obtain ⟨F, os, v_script, x_script, x_many, rfl, _⟩ := h
    rfl
  · obtain ⟨F0, os, v_script, x_script, x_many, rfl, w0, r_script, hm⟩ := h
    have sF : Same F0 F0 := Same.refl _
    obtain ⟨a1, rfl, q1⟩ := r_script
    have h1 : A2 (rep K F0) (x_script.l.map V.int) x_script.l := A2.of_ints
    refine ⟨_, (pss_cons (ps_set (i := 2) sc_law_cells.nd rfl (Or.inl rfl) (pe_callTy (call_list_ofK (K := K) rfl) (by rfl) T.n_list (by decide +kernel) (pa_cons (pe_slice (sl_listK (K := K) rfl) (pv 0) po_none (po_some (pv 1))) pa_nil))) (pss_cons (ps_for PassesOwn.never rfl (pi_k (K := K) (wi := fun K => iEnum K _) rfl (pi_enum (by rfl) T.n_enumerate (pa_cons (pe_slice (sl_listK (K := K) rfl) (pv 0) (po_some (pv 1)) (po_some pe_int)) pa_nil))) (pg_k (K := K) (t := fun K => gTup K 2 _) rfl (pg_tup (n := 2) rfl (pgs_cons (pg_name (i := 3) sc_law_cells.nd rfl (Or.inl rfl)) (pgs_cons (pg_name (i := 4) sc_law_cells.nd rfl (Or.inl rfl)) pgs_nil)))) (pss_one (ps_asg (pe_op op_add (pe_op op_mul (pe_ix (ix_listK (K := K) rfl) (pv 2) (pe_op op_mod (pv 3) (pv 1)) (fun _ _ => rfl)) pe_int) (pv 4)) (pg_sub (pv 2) (pe_op op_mod (pv 3) (pv 1)) set_list)))) (pss_one (ps_ret (pv 2))))), ?_⟩
    have h2 : A2 (rep K F0) (cutV (x_script.l.map V.int) none (some x_many)) (cutL x_script.l none (some x_many)) := sl_cut h1 _ _
    refine ⟨_, rfl, _, rfl, _, rfl, _, _, rfl, w0.same.seq q1, fun p3 n3 => ?_⟩
    have w3 : W F0 _ ((p3, .lst (cutV (x_script.l.map V.int) none (some x_many))) :: os) := w0.new n3
    have h4 : A2 (rep K F0) (cutV (x_script.l.map V.int) none (some x_many)) (cutL x_script.l none (some x_many)) := h2
    refine ⟨_, _, rfl, .inl (SqL.of (w3.get (pre := []))), fun p5 n5 => ?_⟩
    have w5 : W F0 _ ((p5, .lst (cutV (x_script.l.map V.int) none (some x_many))) :: (p3, .lst (cutV (x_script.l.map V.int) none (some x_many))) :: os) := w3.new n5
    have w6 : W F0 _ ((p5, .lst (cutV (x_script.l.map V.int) none (some x_many))) :: os) := w5.drop (pre := [_])
    have h8 : A2 (rep K F0) (cutV (x_script.l.map V.int) (some x_many) (some (63 : Int))) (cutL x_script.l (some x_many) (some (63 : Int))) := sl_cut h1 _ _
    refine ⟨_, rfl, _, rfl, _, rfl, _, rfl, _, _, rfl, w6.same.seq q1, fun p9 n9 => ?_⟩
    have w9 : W F0 _ ((p9, .lst (cutV (x_script.l.map V.int) (some x_many) (some (63 : Int)))) :: (p5, .lst (cutV (x_script.l.map V.int) none (some x_many))) :: os) := w6.new n9
    obtain ⟨F10, s10, w10, q10⟩ : ∃ F', Same F0 F' ∧ W F' _ ((p5, .lst (cutV (x_script.l.map V.int) none (some x_many))) :: os) ∧ F' p9 = some (.lst (cutV (x_script.l.map V.int) (some x_many) (some (63 : Int)))) := w9.freezeE (pre := [])
    replace h1 := A2.mono s10 h1
    replace q1 := s10.seq q1
    replace h4 := A2.mono s10 h4
    replace h8 := A2.mono s10 h8
    replace sF := sF.trans s10
    refine ⟨_, _, rfl, SqL.of (w10.same _ _ q10), ?_⟩
    refine forS (tw_enum (a := p9) h8) hm (fun (g7 : (List Int)) σ H' => ∃ (F' : Hp) (vs7_0 : List V) (o7_3 : Option V) (o7_4 : Option V), σ = [some (.ref a1), some (.int x_many), some (.ref p5), o7_3, o7_4] ∧ Same F10 F' ∧ W F' H' ((p5, .lst vs7_0) :: os) ∧ A2 (rep K F') vs7_0 g7) ⟨_, _, _, _, rfl, Same.refl _, w10, h4⟩ (fun g σ H' hI => by obtain ⟨F', _, _, _, _, s, w, _⟩ := hI; exact SqL.of (w.same _ _ (s _ _ q10))) ?_ ?_
    · -- a turn
      intro b7 g7 x7 σ7 H7 H7' N7 P7 hI hy hN7 hm
      obtain ⟨F7, vs7_0, o7_3, o7_4, rfl, s7, w7, h7_0⟩ := hI
      replace h1 := A2.mono s7 h1
      replace q1 := s7.seq q1
      replace h8 := A2.mono s7 h8
      replace q10 := s7 _ _ q10
      replace sF := sF.trans s7
      obtain ⟨T11, u11, rfl, n11, rfl, r11⟩ := hy
      obtain ⟨F11, s11, w11, q11⟩ := w7.frzE (o := .tup [.int b7.1, u11]) n11
      replace r11 := Rep.mono s7 r11
      replace h1 := A2.mono s11 h1
      replace q1 := s11.seq q1
      replace h8 := A2.mono s11 h8
      replace q10 := s11 _ _ q10
      replace h7_0 := A2.mono s11 h7_0
      replace sF := sF.trans s11
      replace r11 := Rep.mono s11 r11
      obtain rfl : u11 = V.int b7.2 := r11
      obtain ⟨c12, hm⟩ := pb_mod hm
      obtain ⟨t13, e13, hm⟩ := pb_get hm
      obtain ⟨u13, f13, r13⟩ := A2.at h7_0 e13
      obtain rfl : u13 = V.int t13 := r13
      obtain ⟨c15, hm⟩ := pb_mod hm
      obtain ⟨j16, l16, z16, e16, hm⟩ := pn_set hm
      refine ⟨_, _, rfl, SqT.of (w11.same _ _ q11), rfl, _, _, rfl, _, _, rfl, rfl, _, rfl, _, rfl, _, rfl, _, _, rfl, rfl, c12, _, _, _, _, rfl, rfl, SqL.of (w11.get (pre := [])), f13, _, _, rfl, rfl, (.inr (by constructor <;> decide)), _, rfl, _, _, rfl, rfl, _, rfl, _, rfl, _, rfl, _, _, rfl, rfl, c15, _, _, _, _, rfl, rfl, (w11.get (pre := [])), (A2.ix h7_0 z16), ?_⟩
      have h16 : A2 (rep K F11) (vs7_0.set j16 (.int ((t13 * (31 : Int)) + b7.2))) l16 := e16 ▸ A2.set rep_i j16 h7_0
      have w17 : W F11 _ ((p5, .lst (vs7_0.set j16 (.int ((t13 * (31 : Int)) + b7.2)))) :: os) := w11.set (pre := [])
      exact hN7 _ (post_ok hm) _ _ ⟨_, _, _, _, rfl, (s7.trans s11), w17, h16⟩
    intro g7 σ7 H7 hI hm
    obtain ⟨F7, vs7_0, o7_3, o7_4, rfl, s7, w7, h7_0⟩ := hI
    replace h1 := A2.mono s7 h1
    replace q1 := s7.seq q1
    replace h8 := A2.mono s7 h8
    replace q10 := s7 _ _ q10
    replace sF := sF.trans s7
    exact ⟨_, rfl, (post_ok hm) _ _ _ _ w7 sF h7_0⟩
def sp_law_pool (K : Fg) : Sp := fun vs H Q E => ∃ (F : Hp) (os : List (Addr × HO)) (v_cells : V) (x_cells : (List Int)) (x_k : Int), vs = [v_cells, .int x_k] ∧ W F H (os) ∧ rep K F v_cells x_cells ∧ Post (law_pool x_cells x_k) (RetL K F os Q) noX
theorem sc_law_pool : FnScope ["cells", "k", "cell", "rest"] ["cells", "k"] (defScope s_law_pool) := ⟨rfl, rfl, rfl, by decide +kernel, rfl, by decide +kernel, by decide +kernel⟩
theorem ok_law_pool (T : Tx K mg A FD) : FnOk P w K mg base CX0 1 (A 30) (FD 30) ["cells", "k"] (sp_law_pool K) := by
  refine T.d30.fn.ok sc_law_pool (fun vs H Q E h => ?_) (fun cdv Ar outer s H vs Q E hr h => ?_)
  · obtain ⟨F, os, v_cells, x_cells, x_k, rfl, _⟩ := h
    rfl
  · obtain ⟨F0, os, v_cells, x_cells, x_k, rfl, w0, r_cells, hm⟩ := h
    have sF : Same F0 F0 := Same.refl _
    obtain ⟨a1, vs1, rfl, q1, h1⟩ := r_cells
    refine ⟨_, (pss_cons (ps_set (i := 2) sc_law_pool.nd rfl (Or.inl rfl) pe_int1) (pss_cons (ps_if (pt_cmp (pc_gt (pe_callB (call_lenN (K := K) rfl) (by rfl) T.n_len (by decide +kernel) (pa_cons (pv 0) pa_nil)) pe_int)) (pss_one (ps_set (i := 2) sc_law_pool.nd rfl (Or.inl rfl) (pe_op op_add (pe_ix (ix_listK (K := K) rfl) (pv 0) (pe_op op_mod (pv 1) (pe_callB (call_lenN (K := K) rfl) (by rfl) T.n_len (by decide +kernel) (pa_cons (pv 0) pa_nil))) (fun _ _ => rfl)) (pe_op op_fdiv (pv 1) (pe_callB (call_lenN (K := K) rfl) (by rfl) T.n_len (by decide +kernel) (pa_cons (pv 0) pa_nil)))))) pss_nil) (pss_cons (ps_set (i := 3) sc_law_pool.nd rfl (Or.inl rfl) pe_int1) (pss_cons (ps_if (PW.pt (pw_or (pt_cmp (pc_lt (pv 2) pe_int)) (pw_or1 (pt_cmp (pc_ge (pv 2) (pe_op op_pow pe_int pe_int)))))) (pss_one (ps_set (i := 3) sc_law_pool.nd rfl (Or.inl rfl) (pe_callB call_abs (by rfl) T.n_abs (by decide +kernel) (pa_cons (pv 2) pa_nil)))) pss_nil) (pss_one (ps_ret (pe_lst (pa_cons (pv 3) (pa_cons (pe_op op_mod (pe_op op_add (pe_op op_mul (pe_op op_mod (pv 2) pe_int) pe_int) (pe_op op_mul (pe_op op_mul pe_int (pe_op op_add (pv 1) pe_int)) (pe_op op_add (pv 1) pe_int))) pe_int) pa_nil))))))))), ?_⟩
    refine ⟨trivial, ?_⟩
    refine stepN ?_
    try dsimp only
    refine joinS hm (fun (g2 : Int) σ H' => ∃ (F' : Hp), σ = [some (.ref a1), some (.int x_k), some (.int g2), none] ∧ Same F0 F' ∧ W F' H' (os)) ?_ ?_
    · intro N2 P2 hN2 hm
      refine ⟨_, rfl, _, _, _, rfl, .inl (SqL.of (w0.same _ _ q1)), h1.length, _, _, rfl, rfl, _, rfl, ?_⟩
      refine post_ite hm (fun k3 hm => ?_) (fun k3 hm => ?_)
      · skip
        obtain ⟨c4, hm⟩ := pb_mod hm
        obtain ⟨t5, e5, hm⟩ := pb_get hm
        obtain ⟨u5, f5, r5⟩ := A2.at h1 e5
        obtain rfl : u5 = V.int t5 := r5
        obtain ⟨c6, hm⟩ := pb_div hm
        exact ⟨_, rfl, _, rfl, _, rfl, _, _, _, rfl, .inl (SqL.of (w0.same _ _ q1)), h1.length, _, _, rfl, rfl, c4, _, _, _, _, rfl, rfl, SqL.of (w0.same _ _ q1), f5, _, rfl, _, rfl, _, _, _, rfl, .inl (SqL.of (w0.same _ _ q1)), h1.length, _, _, rfl, rfl, c6, _, _, rfl, rfl, hN2 _ (post_ok hm) _ _ ⟨_, rfl, Same.refl _, w0⟩⟩
      · skip
        exact hN2 _ (post_ok hm) _ _ ⟨_, rfl, Same.refl _, w0⟩
    intro g2 σ2 H2 hI hm
    obtain ⟨F2, rfl, s2, w2⟩ := hI
    replace h1 := A2.mono s2 h1
    replace q1 := s2 _ _ q1
    replace sF := sF.trans s2
    refine ⟨trivial, ?_⟩
    refine stepN ?_
    try dsimp only
    refine joinS hm (fun (g7 : Int) σ H' => ∃ (F' : Hp), σ = [some (.ref a1), some (.int x_k), some (.int g2), some (.int g7)] ∧ Same F2 F' ∧ W F' H' (os)) ?_ ?_
    · intro N7 P7 hN7 hm
      refine stepIf ?_
      refine joinT hm (fun (j8 : Bool) c H' => c = j8 ∧ ∃ (F' : Hp), Same F2 F' ∧ W F' H' (os)) ?_ ?_
      · intro Q8 P8 q8 hm
        refine ⟨_, rfl, _, _, rfl, rfl, _, rfl, ?_⟩
        refine post_ite hm (fun k9 hm => ?_) (fun k9 hm => ?_)
        · skip
          exact q8 _ (post_ok hm) _ _ ⟨rfl, _, Same.refl _, w2⟩
        · skip
          exact ⟨_, rfl, _, _, rfl, rfl, (by refine ⟨?_, ?_, ?_⟩ <;> decide), _, _, rfl, rfl, _, rfl, q8 _ (post_ok hm) _ _ ⟨rfl, _, Same.refl _, w2⟩⟩
      intro j8 c8 H8 hc8 hm
      obtain ⟨rfl, F8, s8, w8⟩ := hc8
      replace h1 := A2.mono s8 h1
      replace q1 := s8 _ _ q1
      replace sF := sF.trans s8
      refine post_ite hm (fun k13 hm => ?_) (fun k13 hm => ?_)
      · skip
        exact ⟨_, rfl, _, rfl, hN7 _ (post_ok hm) _ _ ⟨_, rfl, s8, w8⟩⟩
      · skip
        exact hN7 _ (post_ok hm) _ _ ⟨_, rfl, s8, w8⟩
    intro g7 σ7 H7 hI hm
    obtain ⟨F7, rfl, s7, w7⟩ := hI
    replace h1 := A2.mono s7 h1
    replace q1 := s7 _ _ q1
    replace sF := sF.trans s7
    obtain ⟨c17, hm⟩ := pb_mul hm
    have h19 : A2 (rep K F7) [(.int g7), (.int ((((g2 % (2147483629 : Int)) * (69621 : Int)) + (((40009 : Int) * (x_k + (1 : Int))) * (x_k + (3 : Int)))) % (2147483629 : Int)))] ([g7, ((((g2 % (2147483629 : Int)) * (69621 : Int)) + (((40009 : Int) * (x_k + (1 : Int))) * (x_k + (3 : Int)))) % (2147483629 : Int))] : (List Int)) := .cons rep_i (.cons rep_i (.nil))
    refine ⟨_, rfl, _, rfl, _, _, rfl, rfl, (by show (0 : Int) < (2147483629 : Int); decide), _, _, rfl, rfl, (.inr (by constructor <;> decide)), _, rfl, _, _, rfl, rfl, _, _, rfl, rfl, (.inl (by constructor <;> decide)), _, rfl, _, _, rfl, rfl, _, _, rfl, rfl, c17, _, _, rfl, rfl, _, _, rfl, rfl, (by show (0 : Int) < (2147483629 : Int); decide), (by show 2 ≤ sizeLine; decide), fun p20 n20 => ?_⟩
    have w20 : W F7 _ ((p20, .lst [(.int g7), (.int ((((g2 % (2147483629 : Int)) * (69621 : Int)) + (((40009 : Int) * (x_k + (1 : Int))) * (x_k + (3 : Int)))) % (2147483629 : Int)))]) :: os) := w7.new n20
    exact (post_ok hm) _ _ _ _ w20 sF h19
def sp_law_take (K : Fg) : Sp := fun vs H Q E => ∃ (F : Hp) (os : List (Addr × HO)) (a_pool : Addr) (vs_pool : List V) (x_pool : (List Int)) (x_many : Int), vs = [.ref a_pool, .int x_many] ∧ W F H ((a_pool, .lst vs_pool) :: os) ∧ A2 (rep K F) vs_pool x_pool ∧ Post (law_take x_pool x_many) (RetM K F a_pool os Q) noX
theorem sc_law_take : FnScope ["pool", "many", "found"] ["pool", "many"] (defScope s_law_take) := ⟨rfl, rfl, rfl, by decide +kernel, rfl, by decide +kernel, by decide +kernel⟩
theorem ok_law_take (T : Tx K mg A FD) : FnOk P w K mg base CX0 1 (A 31) (FD 31) ["pool", "many"] (sp_law_take K) := by
  refine T.d31.fn.ok sc_law_take (fun vs H Q E h => ?_) (fun cdv Ar outer s H vs Q E hr h => ?_)
  · obtain ⟨F, os, a_pool, vs_pool, x_pool, x_many, rfl, _⟩ := h
    rfl
  · obtain ⟨F0, os, a_pool, vs_pool, x_pool, x_many, rfl, w0, h_pool, hm⟩ := h
    have sF : Same F0 F0 := Same.refl _
    refine ⟨_, (pss_cons (ps_if (pt_cmp (pc_gt (pe_ix (ix_listK (K := K) rfl) (pv 0) pe_int (fun _ _ => rfl)) pe_int)) (pss_cons (ps_set (i := 2) sc_law_take.nd rfl (Or.inl rfl) (pe_op op_mod (pe_ix (ix_listK (K := K) rfl) (pv 0) pe_int (fun _ _ => rfl)) (pv 1))) (pss_cons (ps_asg (pe_op op_fdiv (pe_ix (ix_listK (K := K) rfl) (pv 0) pe_int (fun _ _ => rfl)) (pv 1)) (pg_sub (pv 0) pe_int set_list)) (pss_one (ps_ret (pv 2))))) pss_nil) (pss_cons (ps_asg (pe_op op_mod (pe_op op_add (pe_op op_mul (pe_ix (ix_listK (K := K) rfl) (pv 0) pe_int (fun _ _ => rfl)) pe_int) pe_int) pe_int) (pg_sub (pv 0) pe_int set_list)) (pss_one (ps_ret (pe_op op_mod (pe_op op_fdiv (pe_op op_mod (pe_op op_mul (pe_op op_mod (pe_op op_mul (pe_ix (ix_listK (K := K) rfl) (pv 0) pe_int (fun _ _ => rfl)) (pe_ix (ix_listK (K := K) rfl) (pv 0) pe_int (fun _ _ => rfl))) pe_int) pe_int) pe_int) pe_int) (pv 1)))))), ?_⟩
    obtain ⟨t2, e2, hm⟩ := pb_get hm
    obtain ⟨u2, f2, r2⟩ := A2.at h_pool e2
    obtain rfl : u2 = V.int t2 := r2
    refine ⟨_, rfl, _, _, _, _, rfl, rfl, SqL.of (w0.get (pre := [])), f2, _, _, rfl, rfl, _, rfl, ?_⟩
    refine post_ite hm (fun k3 hm => ?_) (fun k3 hm => ?_)
    · skip
      obtain ⟨t4, e4, hm⟩ := pb_get hm
      obtain ⟨u4, f4, r4⟩ := A2.at h_pool e4
      obtain rfl : u4 = V.int t4 := r4
      obtain ⟨c5, hm⟩ := pb_mod hm
      obtain ⟨t6, e6, hm⟩ := pb_get hm
      obtain ⟨u6, f6, r6⟩ := A2.at h_pool e6
      obtain rfl : u6 = V.int t6 := r6
      obtain ⟨c7, hm⟩ := pb_div hm
      obtain ⟨j8, l8, z8, e8, hm⟩ := pn_set hm
      refine ⟨_, rfl, _, _, _, _, rfl, rfl, SqL.of (w0.get (pre := [])), f4, _, rfl, _, _, rfl, rfl, c5, _, rfl, _, _, _, _, rfl, rfl, SqL.of (w0.get (pre := [])), f6, _, rfl, _, _, rfl, rfl, c7, _, rfl, _, _, _, _, rfl, rfl, (w0.get (pre := [])), (A2.ix h_pool z8), ?_⟩
      have h8 : A2 (rep K F0) (vs_pool.set j8 (.int (t6 / x_many))) l8 := e8 ▸ A2.set rep_i j8 h_pool
      have w9 : W F0 _ ((a_pool, .lst (vs_pool.set j8 (.int (t6 / x_many)))) :: os) := w0.set (pre := [])
      exact ⟨_, rfl, (post_ok hm) _ _ _ _ w9 sF rep_i h8⟩
    · skip
      obtain ⟨t10, e10, hm⟩ := pb_get hm
      obtain ⟨u10, f10, r10⟩ := A2.at h_pool e10
      obtain rfl : u10 = V.int t10 := r10
      obtain ⟨j13, l13, z13, e13, hm⟩ := pn_set hm
      refine ⟨_, rfl, _, _, _, _, rfl, rfl, SqL.of (w0.get (pre := [])), f10, _, _, rfl, rfl, (.inr (by constructor <;> decide)), _, _, rfl, rfl, _, _, rfl, rfl, (by show (0 : Int) < (2147483647 : Int); decide), _, rfl, _, _, _, _, rfl, rfl, (w0.get (pre := [])), (A2.ix h_pool z13), ?_⟩
      have h13 : A2 (rep K F0) (vs_pool.set j13 (.int (((t10 * (48271 : Int)) + (12820163 : Int)) % (2147483647 : Int)))) l13 := e13 ▸ A2.set rep_i j13 h_pool
      have w14 : W F0 _ ((a_pool, .lst (vs_pool.set j13 (.int (((t10 * (48271 : Int)) + (12820163 : Int)) % (2147483647 : Int))))) :: os) := w0.set (pre := [])
      obtain ⟨t15, e15, hm⟩ := pb_get hm
      obtain ⟨u15, f15, r15⟩ := A2.at h13 e15
      obtain rfl : u15 = V.int t15 := r15
      obtain ⟨t16, e16, hm⟩ := pb_get hm
      obtain ⟨u16, f16, r16⟩ := A2.at h13 e16
      obtain rfl : u16 = V.int t16 := r16
      obtain ⟨c17, hm⟩ := pb_mul hm
      obtain ⟨c22, hm⟩ := pb_mod hm
      exact ⟨_, rfl, _, _, _, _, rfl, rfl, SqL.of (w14.get (pre := [])), f15, _, rfl, _, _, _, _, rfl, rfl, SqL.of (w14.get (pre := [])), f16, _, _, rfl, rfl, c17, _, _, rfl, rfl, (by show (0 : Int) < (2147483629 : Int); decide), _, _, rfl, rfl, (.inr (by constructor <;> decide)), _, _, rfl, rfl, (by show (0 : Int) < (2147483587 : Int); decide), _, _, rfl, rfl, (by constructor <;> decide), _, rfl, _, _, rfl, rfl, c22, (post_ok hm) _ _ _ _ w14 sF rep_i h13⟩
def sp_law_some (K : Fg) : Sp := fun vs H Q E => ∃ (F : Hp) (os : List (Addr × HO)) (a_pool : Addr) (vs_pool : List V) (x_pool : (List Int)) (v_menu : V) (x_menu : (List Int)) (x_many : Int), vs = [.ref a_pool, v_menu, .int x_many] ∧ W F H ((a_pool, .lst vs_pool) :: os) ∧ A2 (rep K F) vs_pool x_pool ∧ rep K F v_menu x_menu ∧ Post (law_some x_pool x_menu x_many) (RetLM K F a_pool os Q) noX
theorem sc_law_some : FnScope ["pool", "menu", "many", "rest", "k"] ["pool", "menu", "many"] (defScope s_law_some) := ⟨rfl, rfl, rfl, by decide +kernel, rfl, by decide +kernel, by decide +kernel⟩
theorem ok_law_some (T : Tx K mg A FD) : FnOk P w K mg base CX0 2 (A 32) (FD 32) ["pool", "menu", "many"] (sp_law_some K) := by
  refine T.d32.fn.ok sc_law_some (fun vs H Q E h => ?_) (fun cdv Ar outer s H vs Q E hr h => ?_)
  · obtain ⟨F, os, a_pool, vs_pool, x_pool, v_menu, x_menu, x_many, rfl, _⟩ := h
    rfl
  · obtain ⟨F0, os, a_pool, vs_pool, x_pool, v_menu, x_menu, x_many, rfl, w0, h_pool, r_menu, hm⟩ := h
    have sF : Same F0 F0 := Same.refl _
    obtain ⟨a2, vs2, rfl, q2, h2⟩ := r_menu
    refine ⟨_, (pss_cons (ps_set (i := 3) sc_law_some.nd rfl (Or.inr rfl) (pe_callTy (call_list_ofK (K := K) rfl) (by rfl) T.n_list (by decide +kernel) (pa_cons (pv 1) pa_nil))) (pss_one (ps_ret (pe_lc (own := [("k", 4)]) (g := gName 4) (by rfl) sc_law_some.nd (pi_range1 (by rfl) T.n_range (pa_cons (pv 2) pa_nil)) (blkOk_by (own := [("k", 4)]) (N := ["pool", "menu", "many", "rest", "k"]) (sc := defScope s_law_some) (by decide +kernel)) (fun _ _ _ _ _ => (pg_name (i := 4) sc_law_some.nd rfl (Or.inl rfl))) (fun _ _ _ _ _ => pts_nil) (fun _ _ _ _ _ => (pe_k (K := K) (t := fun K => tBM K _ _ _ _) rfl (pe_bm PySem.F.plainAttrs_list PySem.F.slot_list_pop PySem.F.type_list_pop mt_popAt (pv 3) (pa_cons (pe_call (ok_law_take T) (hr.mono (by decide)) (by rfl) T.d31.mg T.d31.fn.kp T.d31.b .nil pass0 (pa_cons (pv 0) (pa_cons (pe_callB (call_lenN (K := K) rfl) (by rfl) T.n_len (by decide +kernel) (pa_cons (pv 3) pa_nil)) pa_nil))) pa_nil)))))))), ?_⟩
    have h3 : A2 (rep K F0) vs2 x_menu := h2
    refine ⟨_, rfl, _, _, rfl, .inl (SqL.of (w0.same _ _ q2)), fun p4 n4 => ?_⟩
    have w4 : W F0 _ ((p4, .lst vs2) :: (a_pool, .lst vs_pool) :: os) := w0.new n4
    obtain ⟨c5, hm⟩ := pb_rng hm
    refine ⟨_, rfl, _, rfl, c5.2.2.1, c5.2.2.2, fun D6 nD6 => ?_⟩
    refine lcMap (K := K) (tw_rng0 (j := x_many)) hm (fun (g6 : (List Int) × (List Int)) F' os' => ∃ (vs6_0 : List V) (vs6_1 : List V), os' = (p4, .lst vs6_0) :: (a_pool, .lst vs6_1) :: os ∧ A2 (rep K F') vs6_0 g6.1 ∧ A2 (rep K F') vs6_1 g6.2) w4 ⟨_, _, rfl, h3, h_pool⟩ nD6 (fun g F' H' os' acc s w o => by obtain ⟨_, _, rfl, _, _⟩ := o; exact trivial) ?_ ?_
    · -- one turn
      intro b6 g6 x6 F6 H6 H6' os6 acc6 N6 P6 s6 w6 o6 y6 hN6 hm
      obtain ⟨vs6_0, vs6_1, rfl, h6_0, h6_1⟩ := o6
      replace h2 := A2.mono s6 h2
      replace q2 := s6 _ _ q2
      replace sF := sF.trans s6
      obtain ⟨rfl, rfl⟩ := y6
      have w9 : W F6 _ ((a_pool, .lst vs6_1) :: (D6, .lst acc6) :: (p4, .lst vs6_0) :: os) := w6.front (pre := [_, _])
      refine ⟨rfl, _, rfl, .inl ⟨rfl, _, SqL.of (w6.get (pre := [_]))⟩, _, rfl, _, rfl, _, _, _, rfl, .inl (SqL.of (w6.get (pre := [_]))), h6_0.length, _, _, _, _, _, _, rfl, w9, h6_1, ?_⟩
      refine (post_bind hm).mono (fun y10 hm v10 vs10 F10 H10 w10 s10 r10 h10 => ?_) (fun _ z => z)
      replace h2 := A2.mono s10 h2
      replace q2 := s10 _ _ q2
      replace h6_0 := A2.mono s10 h6_0
      replace sF := sF.trans s10
      obtain rfl : v10 = V.int y10.1 := r10
      obtain ⟨j8, x8, l8, z8, i8, y8, e8, hm⟩ := pn_popB hm
      obtain ⟨u8, f8, r8⟩ := A2.get h6_0 y8
      refine ⟨_, _, _, _, _, rfl, rfl, (w10.get (pre := [_, _])), z8.1, z8.2, (ixN_seq (A2.ix h6_0 i8)).1, f8, ?_⟩
      have h8 : A2 (rep K F10) (vs6_0.eraseIdx j8) l8 := e8 ▸ A2.eraseIdx j8 h6_0
      obtain rfl : u8 = V.int x8 := r8
      have w11 : W F10 _ ((a_pool, .lst vs10) :: (D6, .lst acc6) :: (p4, .lst (vs6_0.eraseIdx j8)) :: os) := w10.set (pre := [_, _])
      have w12 : W F10 _ ((p4, .lst (vs6_0.eraseIdx j8)) :: (a_pool, .lst vs10) :: (D6, .lst acc6) :: os) := w11.front (pre := [_, _])
      have w13 : W F10 _ ((D6, .lst acc6) :: (p4, .lst (vs6_0.eraseIdx j8)) :: (a_pool, .lst vs10) :: os) := w12.front (pre := [_, _])
      exact hN6 _ _ (post_ok hm) _ _ _ _ w13 s10 ⟨_, _, rfl, h8, h10⟩ rep_i
    intro g6 us6 F6 H6 os6 ys6 s6 w6 o6 gg6 hm
    obtain ⟨vs6_0, vs6_1, rfl, h6_0, h6_1⟩ := o6
    replace h2 := A2.mono s6 h2
    replace q2 := s6 _ _ q2
    replace sF := sF.trans s6
    have w15 : W F6 _ ((D6, .lst us6) :: (a_pool, .lst vs6_1) :: os) := w6.drop (pre := [_])
    exact (post_ok hm) _ _ _ _ _ w15 sF gg6 h6_1
def sp_law_named (K : Fg) : Sp := fun vs H Q E => ∃ (F : Hp) (os : List (Addr × HO)) (a_pool : Addr) (vs_pool : List V) (x_pool : (List Int)) (x_many : Int) (v_ties : V) (x_ties : (List (Int × Int))), vs = [.ref a_pool, .int x_many, v_ties] ∧ W F H ((a_pool, .lst vs_pool) :: os) ∧ A2 (rep K F) vs_pool x_pool ∧ rep K F v_ties x_ties ∧ Post (law_named x_pool x_many x_ties) (RetM K F a_pool os Q) noX
theorem sc_law_named : FnScope ["pool", "many", "ties", "names", "a", "b"] ["pool", "many", "ties"] (defScope s_law_named) := ⟨rfl, rfl, rfl, by decide +kernel, rfl, by decide +kernel, by decide +kernel⟩
theorem ok_law_named (T : Tx K mg A FD) : FnOk P w K mg base CX0 3 (A 33) (FD 33) ["pool", "many", "ties"] (sp_law_named K) := by
  refine T.d33.fn.ok sc_law_named (fun vs H Q E h => ?_) (fun cdv Ar outer s H vs Q E hr h => ?_)
  · obtain ⟨F, os, a_pool, vs_pool, x_pool, x_many, v_ties, x_ties, rfl, _⟩ := h
    rfl
  · obtain ⟨F0, os, a_pool, vs_pool, x_pool, x_many, v_ties, x_ties, rfl, w0, h_pool, r_ties, hm⟩ := h
    have sF : Same F0 F0 := Same.refl _
    obtain ⟨a2, vs2, rfl, q2, h2⟩ := r_ties
    refine ⟨_, (pss_cons (ps_set (i := 3) sc_law_named.nd rfl (Or.inr rfl) (pe_call (ok_law_some T) (hr.mono (by decide)) (by rfl) T.d32.mg T.d32.fn.kp T.d32.b .nil pass0 (pa_cons (pv 0) (pa_cons (pe_listRg rfl (by rfl) T.n_list (prg_1 (by rfl) T.n_range (pv 1))) (pa_cons (pv 1) pa_nil))))) (pss_one (ps_ret (pe_tup (pa_cons (pv 1) (pa_cons (pe_callTy (call_tuple_ofK (K := K) rfl) (by rfl) T.n_tuple (by decide +kernel) (pa_cons (pe_callB (cr_sortP (K := K) rfl) (by rfl) T.n_sorted (by decide +kernel) (pa_cons (pe_lc (own := [("a", 4), ("b", 5)]) (g := _) (by rfl) sc_law_named.nd (pi_listK (K := K) rfl (pv 2)) (blkOk_by (own := [("a", 4), ("b", 5)]) (N := ["pool", "many", "ties", "names", "a", "b"]) (sc := defScope s_law_named) (by decide +kernel)) (fun _ _ _ _ _ => (pg_k (K := K) (t := fun K => gTup K 2 _) rfl (pg_tup (n := 2) rfl (pgs_cons (pg_name (i := 4) sc_law_named.nd rfl (Or.inl rfl)) (pgs_cons (pg_name (i := 5) sc_law_named.nd rfl (Or.inl rfl)) pgs_nil))))) (fun _ _ _ _ _ => pts_nil) (fun _ _ _ _ _ => (pe_tup (pa_cons (pe_callB (call_min2 rfl) (by rfl) T.n_min (by decide +kernel) (pa_cons (pe_ix (ix_listK (K := K) rfl) (pv 3) (pv 4) (fun _ _ => rfl)) (pa_cons (pe_ix (ix_listK (K := K) rfl) (pv 3) (pv 5) (fun _ _ => rfl)) pa_nil))) (pa_cons (pe_callB (call_max2 rfl) (by rfl) T.n_max (by decide +kernel) (pa_cons (pe_ix (ix_listK (K := K) rfl) (pv 3) (pv 4) (fun _ _ => rfl)) (pa_cons (pe_ix (ix_listK (K := K) rfl) (pv 3) (pv 5) (fun _ _ => rfl)) pa_nil))) pa_nil))))) pa_nil)) pa_nil)) pa_nil)))))), ?_⟩
    obtain ⟨l3, z3, e3, hm⟩ := pb_lrng hm
    have h3 : A2 (rep K F0) (rgV 0 x_many) l3 := by rw [e3, rgV_eq]; exact A2.of_ints
    refine ⟨_, rfl, _, rfl, _, rfl, z3, fun p4 n4 => ?_⟩
    have w4 : W F0 _ ((p4, .lst (rgV 0 x_many)) :: (a_pool, .lst vs_pool) :: os) := w0.new n4
    obtain ⟨F5, s5, w5, q5⟩ : ∃ F', Same F0 F' ∧ W F' _ ((a_pool, .lst vs_pool) :: os) ∧ F' p4 = some (.lst (rgV 0 x_many)) := w4.freezeE (pre := [])
    replace h_pool := A2.mono s5 h_pool
    replace q2 := s5 _ _ q2
    replace h2 := A2.mono s5 h2
    replace h3 := A2.mono s5 h3
    replace sF := sF.trans s5
    refine ⟨_, rfl, _, _, _, _, _, _, (l3 : (List Int)), _, rfl, w5, h_pool, (rep_lst q5 h3), ?_⟩
    refine (post_bind hm).mono (fun y6 hm p6 us6 vs6 F6 H6 w6 s6 g6 h6 => ?_) (fun _ z => z)
    replace q2 := s6 _ _ q2
    replace h2 := A2.mono s6 h2
    replace h3 := A2.mono s6 h3
    replace q5 := s6 _ _ q5
    replace sF := sF.trans s6
    obtain ⟨F8, s8, w8, q8⟩ : ∃ F', Same F6 F' ∧ W F' _ ((a_pool, .lst vs6) :: os) ∧ F' p6 = some (.lst us6) := w6.freezeE (pre := [])
    replace q2 := s8 _ _ q2
    replace h2 := A2.mono s8 h2
    replace h3 := A2.mono s8 h3
    replace q5 := s8 _ _ q5
    replace h6 := A2.mono s8 h6
    replace g6 := A2.mono s8 g6
    replace sF := sF.trans s8
    refine ⟨_, rfl, _, rfl, _, rfl, ⟨_, SqL.of (w8.same _ _ q2)⟩, fun D9 nD9 => ?_⟩
    refine lcM (K := K) (tw_list (a := a2) h2) hm w8 nD9 (fun F' H' acc s w => SqL.of (w.same _ _ (s _ _ q2))) ?_ ?_
    · -- one turn
      intro b9 x9 F9 H9 H9' acc9 N9 P9 s9 w9 y9 hN9 hm
      replace h2 := A2.mono s9 h2
      replace q2 := s9 _ _ q2
      replace g6 := A2.mono s9 g6
      replace q8 := s9 _ _ q8
      replace h6 := A2.mono s9 h6
      replace sF := sF.trans s9
      obtain ⟨rfl, r11⟩ := y9
      replace r11 := Rep.mono s9 r11
      obtain ⟨a12, u12, z12, rfl, q12, r12a, r12b⟩ := r11
      obtain rfl : u12 = V.int b9.1 := r12a
      obtain rfl : z12 = V.int b9.2 := r12b
      obtain ⟨t13, e13, hm⟩ := pb_get hm
      obtain ⟨u13, f13, r13⟩ := A2.at g6 e13
      obtain rfl : u13 = V.int t13 := r13
      obtain ⟨t14, e14, hm⟩ := pb_get hm
      obtain ⟨u14, f14, r14⟩ := A2.at g6 e14
      obtain rfl : u14 = V.int t14 := r14
      obtain ⟨t15, e15, hm⟩ := pb_get hm
      obtain ⟨u15, f15, r15⟩ := A2.at g6 e15
      obtain rfl : u15 = V.int t15 := r15
      obtain ⟨t16, e16, hm⟩ := pb_get hm
      obtain ⟨u16, f16, r16⟩ := A2.at g6 e16
      obtain rfl : u16 = V.int t16 := r16
      refine ⟨_, _, rfl, SqT.of (w9.same _ _ q12), rfl, _, _, rfl, _, _, rfl, rfl, rfl, _, rfl, _, rfl, _, _, _, _, rfl, rfl, SqL.of (w9.same _ _ q8), f13, _, rfl, _, rfl, _, _, _, _, rfl, rfl, SqL.of (w9.same _ _ q8), f14, _, _, rfl, _, rfl, _, rfl, _, _, _, _, rfl, rfl, SqL.of (w9.same _ _ q8), f15, _, rfl, _, rfl, _, _, _, _, rfl, rfl, SqL.of (w9.same _ _ q8), f16, _, _, rfl, (by show 2 ≤ sizeLine; decide), fun p17 n17 => ?_⟩
      obtain ⟨F17, s17, w17, q17⟩ := w9.frzE (o := .tup [(.int (min2 t13 t14)), (.int (max2 t15 t16))]) n17
      replace h2 := A2.mono s17 h2
      replace q2 := s17 _ _ q2
      replace g6 := A2.mono s17 g6
      replace q8 := s17 _ _ q8
      replace h6 := A2.mono s17 h6
      replace q12 := s17 _ _ q12
      replace sF := sF.trans s17
      exact hN9 _ (post_ok hm) _ _ _ w17 s17 (rep_pair q17 rep_i rep_i)
    intro us9 F9 H9 ys9 s9 w9 gg9 hm
    replace h2 := A2.mono s9 h2
    replace q2 := s9 _ _ q2
    replace g6 := A2.mono s9 g6
    replace q8 := s9 _ _ q8
    replace h6 := A2.mono s9 h6
    replace sF := sF.trans s9
    refine ⟨_, _, F9, ys9, rfl, SqL.of (w9.get (pre := [])), w9.same, gg9, fun p19 us19 n19 h19 => ?_⟩
    have w19 : W F9 _ ((p19, .lst us19) :: (D9, .lst us9) :: (a_pool, .lst vs6) :: os) := w9.new n19
    have h21 : A2 (rep K F9) us19 (sortP ys9) := h19
    refine ⟨_, _, rfl, .inl ⟨SqL.of (w19.get (pre := [])), fun p22 n22 => ?_⟩⟩
    obtain ⟨F22, s22, w22, q22⟩ := w19.frzE (o := .tup us19) n22
    replace h2 := A2.mono s22 h2
    replace q2 := s22 _ _ q2
    replace g6 := A2.mono s22 g6
    replace q8 := s22 _ _ q8
    replace h6 := A2.mono s22 h6
    replace gg9 := A2.mono s22 gg9
    replace h19 := A2.mono s22 h19
    replace h21 := A2.mono s22 h21
    replace sF := sF.trans s22
    refine ⟨(by show 2 ≤ sizeLine; decide), fun p23 n23 => ?_⟩
    obtain ⟨F23, s23, w23, q23⟩ := w22.frzE (o := .tup [(.int x_many), (.ref p22)]) n23
    replace h2 := A2.mono s23 h2
    replace q2 := s23 _ _ q2
    replace g6 := A2.mono s23 g6
    replace q8 := s23 _ _ q8
    replace h6 := A2.mono s23 h6
    replace gg9 := A2.mono s23 gg9
    replace h19 := A2.mono s23 h19
    replace h21 := A2.mono s23 h21
    replace q22 := s23 _ _ q22
    replace sF := sF.trans s23
    have w24 : W F23 _ ((D9, .lst us9) :: (a_pool, .lst vs6) :: os) := w23.drop (pre := [])
    have w25 : W F23 _ ((a_pool, .lst vs6) :: os) := w24.drop (pre := [])
    exact (post_ok hm) _ _ _ _ w25 sF (rep_pair q23 rep_i (rep_tup q22 h21)) h6
def sp_law_ringed (K : Fg) : Sp := fun vs H Q E => ∃ (F : Hp) (os : List (Addr × HO)) (a_pool : Addr) (vs_pool : List V) (x_pool : (List Int)), vs = [.ref a_pool] ∧ W F H ((a_pool, .lst vs_pool) :: os) ∧ A2 (rep K F) vs_pool x_pool ∧ Post (law_ringed x_pool) (RetM K F a_pool os Q) noX
theorem sc_law_ringed : FnScope ["pool", "many", "ties", "k", "lacking", "other", "turn", "one"] ["pool"] (defScope s_law_ringed) := ⟨rfl, rfl, rfl, by decide +kernel, rfl, by decide +kernel, by decide +kernel⟩
theorem ok_law_ringed (T : Tx K mg A FD) : FnOk P w K mg base CX0 4 (A 34) (FD 34) ["pool"] (sp_law_ringed K) := by
  refine T.d34.fn.ok sc_law_ringed (fun vs H Q E h => ?_) (fun cdv Ar outer s H vs Q E hr h => ?_)
  · obtain ⟨F, os, a_pool, vs_pool, x_pool, rfl, _⟩ := h
    rfl
  · obtain ⟨F0, os, a_pool, vs_pool, x_pool, rfl, w0, h_pool, hm⟩ := h
    have sF : Same F0 F0 := Same.refl _
    refine ⟨_, (pss_cons (ps_set (i := 1) sc_law_ringed.nd rfl (Or.inl rfl) (pe_op op_add pe_int (pe_call (ok_law_take T) (hr.mono (by decide)) (by rfl) T.d31.mg T.d31.fn.kp T.d31.b .nil pass0 (pa_cons (pv 0) (pa_cons pe_int pa_nil))))) (pss_cons (ps_set (i := 2) sc_law_ringed.nd rfl (Or.inr rfl) pe_dnewT) (pss_cons (ps_for PassesOwn.never rfl (pi_range2 (by rfl) T.n_range (pa_cons pe_int (pa_cons (pv 1) pa_nil))) (pg_name (i := 3) sc_law_ringed.nd rfl (Or.inl rfl)) (pss_one (ps_dput (Room.units1 hr) (pv 2) (pe_tup (pa_cons (pe_call (ok_law_take T) (hr.mono (by decide)) (by rfl) T.d31.mg T.d31.fn.kp T.d31.b .nil pass0 (pa_cons (pv 0) (pa_cons (pv 3) pa_nil))) (pa_cons (pv 3) pa_nil))) pe_bl (by rfl)))) (pss_cons (ps_set (i := 4) sc_law_ringed.nd rfl (Or.inl rfl) (pe_lst pa_nil)) (pss_cons (ps_for PassesOwn.never rfl (pi_range1 (by rfl) T.n_range (pa_cons (pv 1) pa_nil)) (pg_name (i := 5) sc_law_ringed.nd rfl (Or.inr rfl)) (pss_one (ps_expr (pe_bm PySem.F.plainAttrs_list PySem.F.slot_list_extend PySem.F.type_list_extend mt_extend (pv 4) (pa_cons (pe_lc (own := [("one", 7)]) (g := gName 7) (by rfl) sc_law_ringed.nd (pi_range1 (by rfl) T.n_range (pa_cons (pv 5) pa_nil)) (blkOk_by (own := [("one", 7)]) (N := ["pool", "many", "ties", "k", "lacking", "other", "turn", "one"]) (sc := defScope s_law_ringed) (by decide +kernel)) (fun _ _ _ _ _ => (pg_name (i := 7) sc_law_ringed.nd rfl (Or.inl rfl))) (fun _ _ _ _ _ => (pts_one (pt_cmp (pc_dnotinH (Room.units1 hr) (pe_tup (pa_cons (pv 7) (pa_cons (pv 5) pa_nil))) (pv 2))))) (fun _ _ _ _ _ => (pe_tup (pa_cons (pv 7) (pa_cons (pv 5) pa_nil))))) pa_nil))))) (pss_cons (ps_for PassesOwn.never rfl (pi_range1 (by rfl) T.n_range (pa_cons (pe_ix (ix_listK (K := K) rfl) (pe_lst (pa_cons pe_int (pa_cons pe_int (pa_cons pe_int (pa_cons pe_int (pa_cons (pe_callB (call_lenN (K := K) rfl) (by rfl) T.n_len (by decide +kernel) (pa_cons (pv 4) pa_nil)) pa_nil)))))) (pe_call (ok_law_take T) (hr.mono (by decide)) (by rfl) T.d31.mg T.d31.fn.kp T.d31.b .nil pass0 (pa_cons (pv 0) (pa_cons pe_int pa_nil))) (fun _ _ => rfl)) pa_nil)) (pg_name (i := 6) sc_law_ringed.nd rfl (Or.inl rfl)) (pss_one (ps_dput (Room.units1 hr) (pv 2) (pe_ix (ix_listK (K := K) rfl) (pv 4) (pe_call (ok_law_take T) (hr.mono (by decide)) (by rfl) T.d31.mg T.d31.fn.kp T.d31.b .nil pass0 (pa_cons (pv 0) (pa_cons (pe_callB (call_lenN (K := K) rfl) (by rfl) T.n_len (by decide +kernel) (pa_cons (pv 4) pa_nil)) pa_nil))) (fun _ _ => rfl)) pe_bl (by rfl)))) (pss_one (ps_ret (pe_call (ok_law_named T) (hr.mono (by decide)) (by rfl) T.d33.mg T.d33.fn.kp T.d33.b .nil pass0 (pa_cons (pv 0) (pa_cons (pv 1) (pa_cons (pe_callTy (call_list_dT rfl) (by rfl) T.n_list (by decide +kernel) (pa_cons (pv 2) pa_nil)) pa_nil)))))))))))), ?_⟩
    refine ⟨_, rfl, _, _, _, _, _, _, rfl, w0, h_pool, ?_⟩
    refine (post_bind hm).mono (fun y2 hm v2 vs2 F2 H2 w2 s2 r2 h2 => ?_) (fun _ z => z)
    replace sF := sF.trans s2
    obtain rfl : v2 = V.int y2.1 := r2
    refine ⟨_, _, rfl, rfl, fun p3 n3 => ?_⟩
    have w3 : W F2 _ ((p3, .dT []) :: (a_pool, .lst vs2) :: os) := w2.new n3
    have h3 : [] = encM kP V.bl ([] : (List ((Int × Int) × Bool))) := rfl
    obtain ⟨c5, hm⟩ := pb_rng hm
    refine ⟨_, rfl, _, _, rfl, c5, ?_⟩
    refine forS (tw_rng (i := (1 : Int)) (j := ((3 : Int) + y2.1))) hm (fun (g4 : (List ((Int × Int) × Bool)) × (List Int)) σ H' => ∃ (F' : Hp) (vs4_0 : List (List Key × V)) (vs4_1 : List V) (o4_3 : Option V), σ = [some (.ref a_pool), some (.int ((3 : Int) + y2.1)), some (.ref p3), o4_3, none, none, none, none] ∧ Same F2 F' ∧ W F' H' ((p3, .dT vs4_0) :: (a_pool, .lst vs4_1) :: os) ∧ vs4_0 = encM kP V.bl g4.1 ∧ A2 (rep K F') vs4_1 g4.2) ⟨_, _, _, _, rfl, Same.refl _, w3, h3, h2⟩ (fun _ _ _ _ => trivial) ?_ ?_
    · -- a turn
      intro b4 g4 x4 σ4 H4 H4' N4 P4 hI hy hN4 hm
      obtain ⟨F4, vs4_0, vs4_1, o4_3, rfl, s4, w4, h4_0, h4_1⟩ := hI
      replace sF := sF.trans s4
      obtain ⟨rfl, rfl⟩ := hy
      have w6 : W F4 _ ((a_pool, .lst vs4_1) :: (p3, .dT vs4_0) :: os) := w4.front (pre := [_])
      refine ⟨_, rfl, _, rfl, _, rfl, _, _, _, _, _, _, rfl, w6, h4_1, ?_⟩
      refine (post_bind hm).mono (fun y7 hm v7 vs7 F7 H7 w7 s7 r7 h7 => ?_) (fun _ z => z)
      replace sF := sF.trans s7
      obtain rfl : v7 = V.int y7.1 := r7
      refine ⟨_, rfl, (by show 2 ≤ sizeLine; decide), fun p8 n8 => ?_⟩
      obtain ⟨F8, s8, w8, q8⟩ := w7.frzE (o := .tup [(.int y7.1), (.int b4)]) n8
      replace h7 := A2.mono s8 h7
      replace sF := sF.trans s8
      obtain ⟨l9, z9, e9, hm⟩ := pn_mput hm
      refine ⟨_, _, rfl, dput_p (ev := V.bl) (m := g4.1) (k := (y7.1, b4)) (v := true) ((w8.get (pre := [_])).trans (congrArg (fun z => some (HO.dT z)) h4_0)) (w8.same _ _ q8) z9, ?_⟩
      have h9 : (encM kP V.bl (mput g4.1 (y7.1, b4) true)) = encM kP V.bl l9 := by rw [e9]
      have w10 : W F8 _ ((a_pool, .lst vs7) :: (p3, .dT (encM kP V.bl (mput g4.1 (y7.1, b4) true))) :: os) := w8.set (pre := [_])
      have w11 : W F8 _ ((p3, .dT (encM kP V.bl (mput g4.1 (y7.1, b4) true))) :: (a_pool, .lst vs7) :: os) := w10.front (pre := [_])
      exact hN4 _ (post_ok hm) _ _ ⟨_, _, _, _, rfl, (s4.trans (s7.trans s8)), w11, h9, h7⟩
    intro g4 σ4 H4 hI hm
    obtain ⟨F4, vs4_0, vs4_1, o4_3, rfl, s4, w4, h4_0, h4_1⟩ := hI
    replace sF := sF.trans s4
    have h12 : A2 (rep K F4) [] ([] : (List (Int × Int))) := .nil
    refine ⟨(by show 0 ≤ sizeLine; decide), fun p13 n13 => ?_⟩
    have w13 : W F4 _ ((p13, .lst []) :: (p3, .dT vs4_0) :: (a_pool, .lst vs4_1) :: os) := w4.new n13
    obtain ⟨c15, hm⟩ := pb_rng hm
    refine ⟨_, rfl, _, rfl, c15.2.2.1, c15.2.2.2, ?_⟩
    refine forS (tw_rng0 (j := ((3 : Int) + y2.1))) hm (fun (g14 : (List (Int × Int))) σ H' => ∃ (F' : Hp) (vs14_0 : List V) (o14_5 : Option V), σ = [some (.ref a_pool), some (.int ((3 : Int) + y2.1)), some (.ref p3), o4_3, some (.ref p13), o14_5, none, none] ∧ Same F4 F' ∧ W F' H' ((p13, .lst vs14_0) :: (p3, .dT vs4_0) :: (a_pool, .lst vs4_1) :: os) ∧ A2 (rep K F') vs14_0 g14) ⟨_, _, _, rfl, Same.refl _, w13, h12⟩ (fun _ _ _ _ => trivial) ?_ ?_
    · -- a turn
      intro b14 g14 x14 σ14 H14 H14' N14 P14 hI hy hN14 hm
      obtain ⟨F14, vs14_0, o14_5, rfl, s14, w14, h14_0⟩ := hI
      replace h4_1 := A2.mono s14 h4_1
      replace sF := sF.trans s14
      obtain ⟨rfl, rfl⟩ := hy
      obtain ⟨c16, hm⟩ := pb_rng hm
      refine ⟨_, rfl, .inl ⟨rfl, _, SqL.of (w14.get (pre := []))⟩, _, rfl, _, rfl, c16.2.2.1, c16.2.2.2, fun D17 nD17 => ?_⟩
      refine lcF (K := K) (tw_rng0 (j := b14)) hm w14 nD17 (fun F' H' acc s w => trivial) ?_ ?_
      · -- one turn
        intro b17 x17 F17 H17 H17' acc17 N17 M17 P17 s17 w17 y17 hN17 hM17 hm
        replace h14_0 := A2.mono s17 h14_0
        replace h4_1 := A2.mono s17 h4_1
        replace sF := sF.trans s17
        obtain ⟨rfl, rfl⟩ := y17
        refine ⟨rfl, _, rfl, _, rfl, (by show 2 ≤ sizeLine; decide), fun p19 n19 => ?_⟩
        obtain ⟨F19, s19, w19, q19⟩ := w17.frzE (o := .tup [(.int b17), (.int b14)]) n19
        replace h14_0 := A2.mono s19 h14_0
        replace h4_1 := A2.mono s19 h4_1
        replace sF := sF.trans s19
        refine ⟨_, rfl, _, _, _, rfl, dget_p (ev := V.bl) (m := g4.1) (k := (b17, b14)) ((w19.get (pre := [_, _])).trans (congrArg (fun z => some (HO.dT z)) h4_0)) (w19.same _ _ q19), get_has _ _ _, _, rfl, ?_⟩
        refine post_ite hm (fun k20 hm => ?_) (fun k20 hm => ?_)
        · skip
          refine ⟨_, rfl, _, rfl, (by show 2 ≤ sizeLine; decide), fun p21 n21 => ?_⟩
          obtain ⟨F21, s21, w21, q21⟩ := w19.frzE (o := .tup [(.int b17), (.int b14)]) n21
          replace h14_0 := A2.mono s21 h14_0
          replace h4_1 := A2.mono s21 h4_1
          replace q19 := s21 _ _ q19
          replace sF := sF.trans s21
          exact hN17 _ (post_ok hm) _ _ _ w21 (s19.trans s21) (rep_pair q21 rep_i rep_i)
        · skip
          exact hM17 (post_ok hm) _ _ w19 s19
      intro us17 F17 H17 ys17 s17 w17 gg17 hm
      replace h14_0 := A2.mono s17 h14_0
      replace h4_1 := A2.mono s17 h4_1
      replace sF := sF.trans s17
      obtain ⟨l23, z23, e23, hm⟩ := pn_extend hm
      refine ⟨_, _, _, _, rfl, rfl, (w17.get (pre := [_])), (w17.get (pre := [])), (A2.le2 h14_0 gg17 z23), ?_⟩
      have h23 : A2 (rep K F17) (vs14_0 ++ us17) l23 := e23 ▸ A2.append h14_0 gg17
      have w24 : W F17 _ ((D17, .lst us17) :: (p13, .lst (vs14_0 ++ us17)) :: (p3, .dT vs4_0) :: (a_pool, .lst vs4_1) :: os) := w17.set (pre := [_])
      have w25 : W F17 _ ((p13, .lst (vs14_0 ++ us17)) :: (p3, .dT vs4_0) :: (a_pool, .lst vs4_1) :: os) := w24.drop (pre := [])
      exact hN14 _ (post_ok hm) _ _ ⟨_, _, _, rfl, (s14.trans s17), w25, h23⟩
    intro g14 σ14 H14 hI hm
    obtain ⟨F14, vs14_0, o14_5, rfl, s14, w14, h14_0⟩ := hI
    replace h4_1 := A2.mono s14 h4_1
    replace sF := sF.trans s14
    have h27 : A2 (rep K F14) [(.int 1), (.int 1), (.int 2), (.int 4), (.int (g14.length : Int))] ([(1 : Int), (1 : Int), (2 : Int), (4 : Int), (g14.length : Int)] : (List Int)) := .cons rep_i (.cons rep_i (.cons rep_i (.cons rep_i (.cons rep_i (.nil)))))
    refine ⟨_, rfl, _, _, _, rfl, .inl (SqL.of (w14.get (pre := []))), h14_0.length, (by show 5 ≤ sizeLine; decide), fun p28 n28 => ?_⟩
    have w28 : W F14 _ ((p28, .lst [(.int 1), (.int 1), (.int 2), (.int 4), (.int (g14.length : Int))]) :: (p13, .lst vs14_0) :: (p3, .dT vs4_0) :: (a_pool, .lst vs4_1) :: os) := w14.new n28
    have w29 : W F14 _ ((a_pool, .lst vs4_1) :: (p28, .lst [(.int 1), (.int 1), (.int 2), (.int 4), (.int (g14.length : Int))]) :: (p13, .lst vs14_0) :: (p3, .dT vs4_0) :: os) := w28.front (pre := [_, _, _])
    refine ⟨_, rfl, _, _, _, _, _, _, rfl, w29, h4_1, ?_⟩
    refine (post_bind hm).mono (fun y30 hm v30 vs30 F30 H30 w30 s30 r30 h30 => ?_) (fun _ z => z)
    replace h14_0 := A2.mono s30 h14_0
    replace h27 := A2.mono s30 h27
    replace sF := sF.trans s30
    obtain rfl : v30 = V.int y30.1 := r30
    obtain ⟨t31, e31, hm⟩ := pb_get hm
    obtain ⟨u31, f31, r31⟩ := A2.at h27 e31
    obtain rfl : u31 = V.int t31 := r31
    obtain ⟨c32, hm⟩ := pb_rng hm
    refine ⟨_, _, _, _, rfl, rfl, SqL.of (w30.get (pre := [_])), f31, _, rfl, c32.2.2.1, c32.2.2.2, ?_⟩
    have w33 : W F30 _ ((a_pool, .lst vs30) :: (p13, .lst vs14_0) :: (p3, .dT vs4_0) :: os) := w30.drop (pre := [_])
    refine forS (tw_rng0 (j := t31)) hm (fun (g26 : (List Int) × (List ((Int × Int) × Bool))) σ H' => ∃ (F' : Hp) (vs26_0 : List V) (vs26_1 : List (List Key × V)) (o26_6 : Option V), σ = [some (.ref a_pool), some (.int ((3 : Int) + y2.1)), some (.ref p3), o4_3, some (.ref p13), o14_5, o26_6, none] ∧ Same F30 F' ∧ W F' H' ((a_pool, .lst vs26_0) :: (p13, .lst vs14_0) :: (p3, .dT vs26_1) :: os) ∧ A2 (rep K F') vs26_0 g26.1 ∧ vs26_1 = encM kP V.bl g26.2) ⟨_, _, _, _, rfl, Same.refl _, w33, h30, h4_0⟩ (fun _ _ _ _ => trivial) ?_ ?_
    · -- a turn
      intro b26 g26 x26 σ26 H26 H26' N26 P26 hI hy hN26 hm
      obtain ⟨F26, vs26_0, vs26_1, o26_6, rfl, s26, w26, h26_0, h26_1⟩ := hI
      replace h14_0 := A2.mono s26 h14_0
      replace sF := sF.trans s26
      obtain ⟨rfl, rfl⟩ := hy
      refine ⟨_, rfl, _, rfl, _, rfl, _, rfl, _, _, _, rfl, .inl (SqL.of (w26.get (pre := [_]))), h14_0.length, _, _, _, _, _, _, rfl, w26, h26_0, ?_⟩
      refine (post_bind hm).mono (fun y34 hm v34 vs34 F34 H34 w34 s34 r34 h34 => ?_) (fun _ z => z)
      replace h14_0 := A2.mono s34 h14_0
      replace sF := sF.trans s34
      obtain rfl : v34 = V.int y34.1 := r34
      obtain ⟨t35, e35, hm⟩ := pb_get hm
      obtain ⟨u35, f35, r35⟩ := A2.at h14_0 e35
      obtain ⟨a36, u36, z36, rfl, q36, r36a, r36b⟩ := r35
      obtain rfl : u36 = V.int t35.1 := r36a
      obtain rfl : z36 = V.int t35.2 := r36b
      obtain ⟨l37, z37, e37, hm⟩ := pn_mput hm
      refine ⟨_, _, _, _, rfl, rfl, SqL.of (w34.get (pre := [_])), f35, _, _, rfl, dput_p (ev := V.bl) (m := g26.2) (k := t35) (v := true) ((w34.get (pre := [_, _])).trans (congrArg (fun z => some (HO.dT z)) h26_1)) (w34.same _ _ q36) z37, ?_⟩
      have h37 : (encM kP V.bl (mput g26.2 t35 true)) = encM kP V.bl l37 := by rw [e37]
      have w38 : W F34 _ ((a_pool, .lst vs34) :: (p13, .lst vs14_0) :: (p3, .dT (encM kP V.bl (mput g26.2 t35 true))) :: os) := w34.set (pre := [_, _])
      exact hN26 _ (post_ok hm) _ _ ⟨_, _, _, _, rfl, (s26.trans s34), w38, h34, h37⟩
    intro g26 σ26 H26 hI hm
    obtain ⟨F26, vs26_0, vs26_1, o26_6, rfl, s26, w26, h26_0, h26_1⟩ := hI
    replace h14_0 := A2.mono s26 h14_0
    replace sF := sF.trans s26
    refine ⟨_, rfl, _, rfl, _, rfl, _, _, rfl, .inl ((w26.get (pre := [_, _]))), fun p39 bs39 n39 k39 => ?_⟩
    rw [h26_1] at k39
    obtain ⟨F39, s39, w39, t39⟩ := (w26).tups
    replace h26_0 := A2.mono s39 h26_0
    replace h14_0 := A2.mono s39 h14_0
    replace sF := sF.trans s39
    have h39 : A2 (rep K F39) (bs39.map V.ref) (g26.2.map (·.1)) := keys_rep t39 k39
    have w41 : W F39 _ ((p39, .lst (bs39.map V.ref)) :: (a_pool, .lst vs26_0) :: (p13, .lst vs14_0) :: (p3, .dT vs26_1) :: os) := w39.new n39
    obtain ⟨F42, s42, w42, q42⟩ : ∃ F', Same F39 F' ∧ W F' _ ((a_pool, .lst vs26_0) :: (p13, .lst vs14_0) :: (p3, .dT vs26_1) :: os) ∧ F' p39 = some (.lst (bs39.map V.ref)) := w41.freezeE (pre := [])
    replace h26_0 := A2.mono s42 h26_0
    replace h14_0 := A2.mono s42 h14_0
    replace h39 := A2.mono s42 h39
    replace sF := sF.trans s42
    refine ⟨_, _, _, _, _, _, _, ((g26.2.map (·.1)) : (List (Int × Int))), rfl, w42, h26_0, (rep_lst q42 h39), ?_⟩
    refine (post_bind hm).mono (fun y43 hm v43 vs43 F43 H43 w43 s43 r43 h43 => ?_) (fun _ z => z)
    replace h14_0 := A2.mono s43 h14_0
    replace h39 := A2.mono s43 h39
    replace q42 := s43 _ _ q42
    replace sF := sF.trans s43
    obtain ⟨a44, u44, z44, rfl, q44, r44a, r44b⟩ := r43
    obtain rfl : u44 = V.int y43.1.1 := r44a
    obtain ⟨a45, vs45, rfl, q45, h45⟩ := r44b
    have w46 : W F43 _ ((a_pool, .lst vs43) :: (p3, .dT vs26_1) :: os) := w43.drop (pre := [_])
    have w47 : W F43 _ ((a_pool, .lst vs43) :: os) := w46.drop (pre := [_])
    exact (post_ok hm) _ _ _ _ w47 sF (rep_pair q44 rep_i (rep_tup q45 h45)) h43
def sp_law_refused (K : Fg) : Sp := fun vs H Q E => ∃ (F : Hp) (os : List (Addr × HO)) (x_way : Int) (v_web : V) (x_web : (Int × (Tup (Int × Int)))) (x_kind : Str) (x_number : Int) (v_looks : V) (x_looks : (List Int)), vs = [.int x_way, v_web, .str x_kind, .int x_number, v_looks] ∧ W F H (os) ∧ rep K F v_web x_web ∧ rep K F v_looks x_looks ∧ Post (law_refused x_way x_web x_kind x_number x_looks) (Ret K F os Q) noX
theorem sc_law_refused : FnScope ["way", "web", "kind", "number", "looks", "caught", "e"] ["way", "web", "kind", "number", "looks"] (defScope s_law_refused) := ⟨rfl, rfl, rfl, by decide +kernel, rfl, by decide +kernel, by decide +kernel⟩
theorem ok_law_refused (T : Tx K mg A FD) : FnOk P w K mg base CX0 4 (A 35) (FD 35) ["way", "web", "kind", "number", "looks"] (sp_law_refused K) := by
  refine T.d35.fn.ok sc_law_refused (fun vs H Q E h => ?_) (fun cdv Ar outer s H vs Q E hr h => ?_)
  · obtain ⟨F, os, x_way, v_web, x_web, x_kind, x_number, v_looks, x_looks, rfl, _⟩ := h
    rfl
  · obtain ⟨F0, os, x_way, v_web, x_web, x_kind, x_number, v_looks, x_looks, rfl, w0, r_web, r_looks, hm⟩ := h
    have sF : Same F0 F0 := Same.refl _
    obtain ⟨a1, u1, z1, rfl, q1, r1a, r1b⟩ := r_web
    obtain rfl : u1 = V.int x_web.1 := r1a
    obtain ⟨a2, vs2, rfl, q2, h2⟩ := r1b
    obtain ⟨a3, vs3, rfl, q3, h3⟩ := r_looks
    refine ⟨_, (pss_cons (ps_set (i := 5) sc_law_refused.nd rfl (Or.inl rfl) pe_non1) (pss_cons (ps_try_hold (i := 6) rfl rfl rfl sc_law_refused.nd rfl rfl ⟨rfl, by decide, .inl T.g_HailError⟩ takes0 (fun W pn xe tk _ => (pss_one (ps_if (pt_cmp (pc_eqI (pv 0) pe_int)) (pss_one (ps_expr (pe_callS (ok_tree_fewest T) (hr.mono (by decide)) (by rfl) T.d23.mg T.d23.fn.kp T.d23.b (fun σ => passAt tk σ) (pa_cons (pv 1) (pa_cons (pv 2) pa_nil))))) (pss_one (ps_if (pt_cmp (pc_eqI (pv 0) pe_int)) (pss_one (ps_expr (pe_callS (ok_tree_choices T) (hr.mono (by decide)) (by rfl) T.d24.mg T.d24.fn.kp T.d24.b (fun σ => passAt tk σ) (pa_cons (pv 1) (pa_cons (pv 2) pa_nil))))) (pss_one (ps_if (pt_cmp (pc_eqI (pv 0) pe_int)) (pss_one (ps_expr (pe_callS (ok_choice_by T) (hr.mono (by decide)) (by rfl) T.d25.mg T.d25.fn.kp T.d25.b (fun σ => passAt tk σ) (pa_cons (pv 1) (pa_cons (pv 2) (pa_cons (pv 3) pa_nil)))))) (pss_one (ps_expr (pe_callS (ok_choice_number T) (hr.mono (by decide)) (by rfl) T.d27.mg T.d27.fn.kp T.d27.b (fun σ => passAt tk σ) (pa_cons (pv 1) (pa_cons (pv 2) (pa_cons (pv 4) pa_nil))))))))))))) (fun _ _ _ _ => (pss_one (ps_set (i := 5) sc_law_refused.nd rfl (Or.inl rfl) (pv 6))))) (pss_cons (ps_if (pt_val (pe_callB (call_isHK (K := K) rfl) (by rfl) T.n_isinstance (by decide +kernel) (pa_cons (pv 5) (pa_cons (pe_tup (pa_cons (pe_glob (v := .ref (A 4)) (by rfl) T.g_NoLooks rfl) (pa_cons (pe_glob (v := .ref (A 7)) (by rfl) T.g_NoSuch rfl) (pa_cons (pe_glob (v := .ref (A 2)) (by rfl) T.g_NoWeb rfl) (pa_cons (pe_glob (v := .ref (A 6)) (by rfl) T.g_NotOne rfl) pa_nil))))) pa_nil)))) (pss_one (ps_ret pe_bl)) pss_nil) (pss_one (ps_ret (pe_and (pe_callB (call_isHK (K := K) rfl) (by rfl) T.n_isinstance (by decide +kernel) (pa_cons (pv 5) (pa_cons (pe_glob (v := .ref (A 5)) (by rfl) T.g_NoTree rfl) pa_nil))) (pe_one (pe_callB (call_isHK (K := K) rfl) (by rfl) T.n_isinstance (by decide +kernel) (pa_cons (pv 5) (pa_cons (pe_bltn (v := .ty "ValueError") (by rfl) T.n_ValueError (by decide +kernel) rfl) pa_nil)))))))))), ?_⟩
    refine ⟨trivial, ?_⟩
    refine stepN ?_
    try dsimp only
    refine joinS hm (fun (g4 : (Option Exn)) σ H' => ∃ (F' : Hp) (v4_5 : V), σ = [some (.int x_way), some (.ref a1), some (.str x_kind), some (.int x_number), some (.ref a3), some v4_5, none] ∧ Same F0 F' ∧ W F' H' (os) ∧ rep K F' v4_5 (g4 : (Option Exn))) ?_ ?_
    · intro N4 P4 hN4 hm
      replace hm := post_try hm
      refine ⟨_, rfl, _, _, rfl, rfl, _, rfl, ?_⟩
      refine post_ite hm (fun k5 hm => ?_) (fun k5 hm => ?_)
      · skip
        refine ⟨_, rfl, _, rfl, _, _, _, (x_web : (Int × (Tup (Int × Int)))), _, rfl, w0, (rep_pair q1 rep_i (rep_tup q2 h2)), ?_⟩
        refine (post_bind hm).mono (fun y6 hm v6 F6 H6 w6 s6 r6 => ?_) (fun e z C F' H' nC w s => ?_)
        rotate_left 1
        · skip
          obtain ⟨em, hp⟩ := z
          refine ⟨true, T.exm em nC, fun _ => ⟨rfl, fun a na => ?_⟩, fun z => nomatch z⟩
          refine ⟨_, rfl, ?_⟩
          refine stepN ?_
          intro na2
          obtain ⟨FX, sX, wX, qX⟩ := w.frzE (o := ExH (.ref C) a) na
          replace q1 := s _ _ q1
          replace h2 := A2.mono s h2
          replace q2 := s _ _ q2
          replace h3 := A2.mono s h3
          replace q3 := s _ _ q3
          replace sF := sF.trans s
          replace q1 := sX _ _ q1
          replace h2 := A2.mono sX h2
          replace q2 := sX _ _ q2
          replace h3 := A2.mono sX h3
          replace q3 := sX _ _ q3
          replace sF := sF.trans sX
          exact hN4 _ hp _ _ ⟨_, _, rfl, (s.trans sX), wX, (⟨a, C, rfl, nC, qX⟩ : rep K FX (.ref a) (some e))⟩
        replace q1 := s6 _ _ q1
        replace h2 := A2.mono s6 h2
        replace q2 := s6 _ _ q2
        replace h3 := A2.mono s6 h3
        replace q3 := s6 _ _ q3
        replace sF := sF.trans s6
        obtain rfl : v6 = V.int y6 := r6
        exact hN4 none (show P4 none from hm) _ _ ⟨_, _, rfl, s6, w6, rep_none⟩
      · skip
        refine ⟨_, rfl, _, _, rfl, rfl, _, rfl, ?_⟩
        refine post_ite hm (fun k7 hm => ?_) (fun k7 hm => ?_)
        · skip
          refine ⟨_, rfl, _, rfl, _, _, _, (x_web : (Int × (Tup (Int × Int)))), _, rfl, w0, (rep_pair q1 rep_i (rep_tup q2 h2)), ?_⟩
          refine (post_bind hm).mono (fun y8 hm v8 F8 H8 w8 s8 r8 => ?_) (fun e z C F' H' nC w s => ?_)
          rotate_left 1
          · skip
            obtain ⟨em, hp⟩ := z
            refine ⟨true, T.exm em nC, fun _ => ⟨rfl, fun a na => ?_⟩, fun z => nomatch z⟩
            refine ⟨_, rfl, ?_⟩
            refine stepN ?_
            intro na2
            obtain ⟨FX, sX, wX, qX⟩ := w.frzE (o := ExH (.ref C) a) na
            replace q1 := s _ _ q1
            replace h2 := A2.mono s h2
            replace q2 := s _ _ q2
            replace h3 := A2.mono s h3
            replace q3 := s _ _ q3
            replace sF := sF.trans s
            replace q1 := sX _ _ q1
            replace h2 := A2.mono sX h2
            replace q2 := sX _ _ q2
            replace h3 := A2.mono sX h3
            replace q3 := sX _ _ q3
            replace sF := sF.trans sX
            exact hN4 _ hp _ _ ⟨_, _, rfl, (s.trans sX), wX, (⟨a, C, rfl, nC, qX⟩ : rep K FX (.ref a) (some e))⟩
          replace q1 := s8 _ _ q1
          replace h2 := A2.mono s8 h2
          replace q2 := s8 _ _ q2
          replace h3 := A2.mono s8 h3
          replace q3 := s8 _ _ q3
          replace sF := sF.trans s8
          obtain rfl : v8 = V.int y8 := r8
          exact hN4 none (show P4 none from hm) _ _ ⟨_, _, rfl, s8, w8, rep_none⟩
        · skip
          refine ⟨_, rfl, _, _, rfl, rfl, _, rfl, ?_⟩
          refine post_ite hm (fun k9 hm => ?_) (fun k9 hm => ?_)
          · skip
            refine ⟨_, rfl, _, rfl, _, rfl, _, _, _, (x_web : (Int × (Tup (Int × Int)))), _, _, rfl, w0, (rep_pair q1 rep_i (rep_tup q2 h2)), ?_⟩
            refine (post_bind hm).mono (fun y10 hm v10 F10 H10 w10 s10 r10 => ?_) (fun e z C F' H' nC w s => ?_)
            rotate_left 1
            · skip
              obtain ⟨em, hp⟩ := z
              refine ⟨true, T.exm em nC, fun _ => ⟨rfl, fun a na => ?_⟩, fun z => nomatch z⟩
              refine ⟨_, rfl, ?_⟩
              refine stepN ?_
              intro na2
              obtain ⟨FX, sX, wX, qX⟩ := w.frzE (o := ExH (.ref C) a) na
              replace q1 := s _ _ q1
              replace h2 := A2.mono s h2
              replace q2 := s _ _ q2
              replace h3 := A2.mono s h3
              replace q3 := s _ _ q3
              replace sF := sF.trans s
              replace q1 := sX _ _ q1
              replace h2 := A2.mono sX h2
              replace q2 := sX _ _ q2
              replace h3 := A2.mono sX h3
              replace q3 := sX _ _ q3
              replace sF := sF.trans sX
              exact hN4 _ hp _ _ ⟨_, _, rfl, (s.trans sX), wX, (⟨a, C, rfl, nC, qX⟩ : rep K FX (.ref a) (some e))⟩
            replace q1 := s10 _ _ q1
            replace h2 := A2.mono s10 h2
            replace q2 := s10 _ _ q2
            replace h3 := A2.mono s10 h3
            replace q3 := s10 _ _ q3
            replace sF := sF.trans s10
            obtain ⟨a11, vs11, rfl, q11, h11⟩ := r10
            exact hN4 none (show P4 none from hm) _ _ ⟨_, _, rfl, s10, w10, rep_none⟩
          · skip
            refine ⟨_, rfl, _, rfl, _, rfl, _, _, _, (x_web : (Int × (Tup (Int × Int)))), _, _, (x_looks : (List Int)), rfl, w0, (rep_pair q1 rep_i (rep_tup q2 h2)), (rep_lst q3 h3), ?_⟩
            refine (post_bind hm).mono (fun y12 hm v12 F12 H12 w12 s12 r12 => ?_) (fun e z C F' H' nC w s => ?_)
            rotate_left 1
            · skip
              obtain ⟨em, hp⟩ := z
              refine ⟨true, T.exm em nC, fun _ => ⟨rfl, fun a na => ?_⟩, fun z => nomatch z⟩
              refine ⟨_, rfl, ?_⟩
              refine stepN ?_
              intro na2
              obtain ⟨FX, sX, wX, qX⟩ := w.frzE (o := ExH (.ref C) a) na
              replace q1 := s _ _ q1
              replace h2 := A2.mono s h2
              replace q2 := s _ _ q2
              replace h3 := A2.mono s h3
              replace q3 := s _ _ q3
              replace sF := sF.trans s
              replace q1 := sX _ _ q1
              replace h2 := A2.mono sX h2
              replace q2 := sX _ _ q2
              replace h3 := A2.mono sX h3
              replace q3 := sX _ _ q3
              replace sF := sF.trans sX
              exact hN4 _ hp _ _ ⟨_, _, rfl, (s.trans sX), wX, (⟨a, C, rfl, nC, qX⟩ : rep K FX (.ref a) (some e))⟩
            replace q1 := s12 _ _ q1
            replace h2 := A2.mono s12 h2
            replace q2 := s12 _ _ q2
            replace h3 := A2.mono s12 h3
            replace q3 := s12 _ _ q3
            replace sF := sF.trans s12
            obtain rfl : v12 = V.int y12 := r12
            exact hN4 none (show P4 none from hm) _ _ ⟨_, _, rfl, s12, w12, rep_none⟩
    intro g4 σ4 H4 hI hm
    obtain ⟨F4, v4_5, rfl, s4, w4, r4_5⟩ := hI
    replace q1 := s4 _ _ q1
    replace h2 := A2.mono s4 h2
    replace q2 := s4 _ _ q2
    replace h3 := A2.mono s4 h3
    replace q3 := s4 _ _ q3
    replace sF := sF.trans s4
    obtain ⟨t14, e14, hm⟩ := pb_ofO hm
    obtain ⟨a14, C14, k14, n14, q14⟩ : rep K F4 v4_5 t14 := (e14 ▸ r4_5 : rep K F4 v4_5 (some t14))
    subst k14
    obtain ⟨m14, hm⟩ := pb_isC hm
    refine ⟨_, rfl, (by show 4 ≤ sizeLine; decide), fun p15 n15 => ?_⟩
    obtain ⟨F15, s15, w15, q15⟩ := w4.frzE (o := .tup [V.ref (A 4), V.ref (A 7), V.ref (A 2), V.ref (A 6)]) n15
    replace q1 := s15 _ _ q1
    replace h2 := A2.mono s15 h2
    replace q2 := s15 _ _ q2
    replace h3 := A2.mono s15 h3
    replace q3 := s15 _ _ q3
    replace r4_5 := Rep.mono s15 r4_5
    replace q14 := s15 _ _ q14
    replace sF := sF.trans s15
    refine ⟨_, T.exc m14 n14, _, _, _, rfl, (w15.same _ _ q14), .inr ⟨p15, _, [.ref (A 4), .ref (A 7), .ref (A 2), .ref (A 6)], rfl, w15.same _ _ q15, fun us h => refs_at (ps := [A 4, A 7, A 2, A 6]) h, T.ki0 m14 n14⟩, _, rfl, ?_⟩
    refine post_ite hm (fun k16 hm => ?_) (fun k16 hm => ?_)
    · skip
      exact (post_ok hm) _ _ _ w15 sF rep_b
    · skip
      refine stepX ?_
      try dsimp only
      refine stepRet ?_
      refine joinE hm (fun (j17 : Bool) c H' => c = V.bl j17 ∧ ∃ (F' : Hp), Same F15 F' ∧ W F' H' (os)) ?_ ?_
      · intro Q17 P17 q17 hm
        obtain ⟨m18, hm⟩ := pb_isC hm
        refine ⟨_, rfl, _, T.exc m18 n14, _, _, _, rfl, (w15.same _ _ q14), .inl ⟨.ref (A 5), fun _ h => h, T.ki1 m18 n14⟩, _, rfl, ?_⟩
        refine post_ite hm (fun k19 hm => ?_) (fun k19 hm => ?_)
        · skip
          obtain ⟨m20, hm⟩ := pb_isC hm
          exact ⟨_, rfl, _, T.exc m20 n14, _, _, _, rfl, (w15.same _ _ q14), .inl ⟨.type "ValueError", fun _ h => h, T.ki2 m20 n14⟩, q17 _ (post_ok hm) _ _ ⟨rfl, _, Same.refl _, w15⟩⟩
        · skip
          exact q17 _ (post_ok hm) _ _ ⟨rfl, _, Same.refl _, w15⟩
      intro j17 c17 H17 hc17 hm
      obtain ⟨rfl, F17, s17, w17⟩ := hc17
      replace q1 := s17 _ _ q1
      replace h2 := A2.mono s17 h2
      replace q2 := s17 _ _ q2
      replace h3 := A2.mono s17 h3
      replace q3 := s17 _ _ q3
      replace r4_5 := Rep.mono s17 r4_5
      replace q14 := s17 _ _ q14
      replace q15 := s17 _ _ q15
      replace sF := sF.trans s17
      exact (post_ok hm) _ _ _ w17 sF rep_b
def sp_law (K : Fg) : Sp := fun vs H Q E => ∃ (F : Hp) (os : List (Addr × HO)) (v_script : V) (x_script : Scr), vs = [v_script] ∧ W F H (os) ∧ rep K F v_script x_script ∧ Post (law x_script) (Ret K F os Q) noX
theorem sc_law : FnScope ["script", "cells", "k", "pool", "web", "number", "looks", "kind", "turn", "way"] ["script"] (defScope s_law) := ⟨rfl, rfl, rfl, by decide +kernel, rfl, by decide +kernel, by decide +kernel⟩
theorem ok_law (T : Tx K mg A FD) : FnOk P w K mg base CX0 5 (A 36) (FD 36) ["script"] (sp_law K) := by
  refine T.d36.fn.ok sc_law (fun vs H Q E h => ?_) (fun cdv Ar outer s H vs Q E hr h => ?_)
  · obtain ⟨F, os, v_script, x_script, rfl, _⟩ := h
    rfl
  · obtain ⟨F0, os, v_script, x_script, rfl, w0, r_script, hm⟩ := h
    have sF : Same F0 F0 := Same.refl _
    obtain ⟨a1, rfl, q1⟩ := r_script
    have h1 : A2 (rep K F0) (x_script.l.map V.int) x_script.l := A2.of_ints
    refine ⟨_, (pss_cons (ps_set (i := 1) sc_law.nd rfl (Or.inl rfl) (pe_call (ok_law_cells T) (hr.mono (by decide)) (by rfl) T.d29.mg T.d29.fn.kp T.d29.b .nil pass0 (pa_cons (pv 0) (pa_cons pe_int pa_nil)))) (pss_cons (ps_for PassesOwn.never rfl (pi_range1 (by rfl) T.n_range (pa_cons (pe_callB (call_max2 rfl) (by rfl) T.n_max (by decide +kernel) (pa_cons pe_int (pa_cons (pe_callB (call_lenN (K := K) rfl) (by rfl) T.n_len (by decide +kernel) (pa_cons (pv 1) pa_nil)) pa_nil))) pa_nil)) (pg_name (i := 2) sc_law.nd rfl (Or.inl rfl)) (pss_cons (ps_set (i := 3) sc_law.nd rfl (Or.inr rfl) (pe_call (ok_law_pool T) (hr.mono (by decide)) (by rfl) T.d30.mg T.d30.fn.kp T.d30.b .nil pass0 (pa_cons (pv 1) (pa_cons (pv 2) pa_nil)))) (pss_cons (ps_set (i := 4) sc_law.nd rfl (Or.inr rfl) (pe_call (ok_law_ringed T) (hr.mono (by decide)) (by rfl) T.d34.mg T.d34.fn.kp T.d34.b .nil pass0 (pa_cons (pv 3) pa_nil))) (pss_cons (ps_set (i := 5) sc_law.nd rfl (Or.inr rfl) (pe_ix (ix_listK (K := K) rfl) (pe_lst (pa_cons (pe_un un_neg pe_int) (pa_cons pe_int (pa_cons pe_int (pa_cons (pe_op op_pow pe_int pe_int) pa_nil))))) (pe_call (ok_law_take T) (hr.mono (by decide)) (by rfl) T.d31.mg T.d31.fn.kp T.d31.b .nil pass0 (pa_cons (pv 3) (pa_cons pe_int pa_nil))) (fun _ _ => rfl))) (pss_cons (ps_set (i := 6) sc_law.nd rfl (Or.inr rfl) (pe_lc (own := [("turn", 8)]) (g := gName 8) (by rfl) sc_law.nd (pi_range1 (by rfl) T.n_range (pa_cons (pe_call (ok_law_take T) (hr.mono (by decide)) (by rfl) T.d31.mg T.d31.fn.kp T.d31.b .nil pass0 (pa_cons (pv 3) (pa_cons pe_int pa_nil))) pa_nil)) (blkOk_by (own := [("turn", 8)]) (N := ["script", "cells", "k", "pool", "web", "number", "looks", "kind", "turn", "way"]) (sc := defScope s_law) (by decide +kernel)) (fun _ _ _ _ _ => (pg_name (i := 8) sc_law.nd rfl (Or.inl rfl))) (fun _ _ _ _ _ => pts_nil) (fun _ _ _ _ _ => (pe_op op_sub (pe_call (ok_law_take T) (hr.mono (by decide)) (by rfl) T.d31.mg T.d31.fn.kp T.d31.b .nil pass0 (pa_cons (pv 3) (pa_cons pe_int pa_nil))) pe_int)))) (pss_one (ps_for PassesOwn.never rfl (pi_listK (K := K) rfl (pe_lst (pa_cons pe_str (pa_cons pe_str (pa_cons pe_str pa_nil))))) (pg_name (i := 7) sc_law.nd rfl (Or.inr rfl)) (pss_one (ps_if (pt_not (pt_val (pe_callB (cr_allK (K := K) rfl rfl) (by rfl) T.n_all (by decide +kernel) (pa_cons (pe_lc (own := [("way", 9)]) (g := gName 9) (by rfl) sc_law.nd (pi_range1 (by rfl) T.n_range (pa_cons pe_int pa_nil)) (blkOk_by (own := [("way", 9)]) (N := ["script", "cells", "k", "pool", "web", "number", "looks", "kind", "turn", "way"]) (sc := defScope s_law) (by decide +kernel)) (fun _ _ _ _ _ => (pg_name (i := 9) sc_law.nd rfl (Or.inl rfl))) (fun _ _ _ _ _ => pts_nil) (fun _ _ _ _ _ => (pe_call (ok_law_refused T) (hr.mono (by decide)) (by rfl) T.d35.mg T.d35.fn.kp T.d35.b .nil pass0 (pa_cons (pv 9) (pa_cons (pv 4) (pa_cons (pv 7) (pa_cons (pv 5) (pa_cons (pe_callTy (call_list_ofK (K := K) rfl) (by rfl) T.n_list (by decide +kernel) (pa_cons (pv 6) pa_nil)) pa_nil)))))))) pa_nil)))) (pss_one (ps_ret pe_bl)) pss_nil))))))))) (pss_one (ps_ret pe_bl)))), ?_⟩
    refine ⟨_, rfl, _, _, _, (x_script : Scr), _, rfl, w0, ⟨_, rfl, q1⟩, ?_⟩
    refine (post_bind hm).mono (fun y2 hm p2 us2 F2 H2 w2 s2 g2 => ?_) (fun _ z => z)
    replace q1 := s2.seq q1
    replace h1 := A2.mono s2 h1
    replace sF := sF.trans s2
    obtain ⟨F4, s4, w4, q4⟩ : ∃ F', Same F2 F' ∧ W F' _ (os) ∧ F' p2 = some (.lst us2) := w2.freezeE (pre := [])
    replace q1 := s4.seq q1
    replace h1 := A2.mono s4 h1
    replace g2 := A2.mono s4 g2
    replace sF := sF.trans s4
    obtain ⟨c6, hm⟩ := pb_rng hm
    refine ⟨_, rfl, _, _, _, rfl, .inl (SqL.of (w4.same _ _ q4)), g2.length, _, _, rfl, _, rfl, c6.2.2.1, c6.2.2.2, ?_⟩
    refine forX (tw_rng0 (j := (max2 (1 : Int) (y2.length : Int)))) hm (fun (g5 : Unit) σ H' => ∃ (F' : Hp) (o5_3 : Option V) (o5_4 : Option V) (o5_5 : Option V) (o5_6 : Option V) (o5_7 : Option V) (o5_2 : Option V), σ = [some (.ref a1), some (.ref p2), o5_2, o5_3, o5_4, o5_5, o5_6, o5_7, none, none] ∧ Same F4 F' ∧ W F' H' (os)) ⟨_, _, _, _, _, _, _, rfl, Same.refl _, w4⟩ (fun _ _ _ _ => trivial) ?_ ?_
    · -- a turn
      intro b5 g5 x5 σ5 H5 H5' N5 B5 P5 hI hy hN5 hB5 hZ5 hm
      obtain ⟨F5, o5_3, o5_4, o5_5, o5_6, o5_7, o5_2, rfl, s5, w5⟩ := hI
      replace h1 := A2.mono s5 h1
      replace q1 := s5.seq q1
      replace g2 := A2.mono s5 g2
      replace q4 := s5 _ _ q4
      replace sF := sF.trans s5
      obtain ⟨rfl, rfl⟩ := hy
      refine ⟨_, rfl, _, rfl, _, _, _, (y2 : (List Int)), _, rfl, w5, (rep_lst q4 g2), ?_⟩
      refine (post_bind hm).mono (fun y7 hm p7 us7 F7 H7 w7 s7 g7 => ?_) (fun _ z => z)
      replace h1 := A2.mono s7 h1
      replace q1 := s7.seq q1
      replace g2 := A2.mono s7 g2
      replace q4 := s7 _ _ q4
      replace sF := sF.trans s7
      refine ⟨_, rfl, _, _, _, _, _, rfl, w7, g7, ?_⟩
      refine (post_bind hm).mono (fun y9 hm v9 vs9 F9 H9 w9 s9 r9 h9 => ?_) (fun _ z => z)
      replace h1 := A2.mono s9 h1
      replace q1 := s9.seq q1
      replace g2 := A2.mono s9 g2
      replace q4 := s9 _ _ q4
      replace sF := sF.trans s9
      obtain ⟨a10, u10, z10, rfl, q10, r10a, r10b⟩ := r9
      obtain rfl : u10 = V.int y9.1.1 := r10a
      obtain ⟨a11, vs11, rfl, q11, h11⟩ := r10b
      have h13 : A2 (rep K F9) [(.int (-(1 : Int))), (.int 0), (.int 1), (.int ((10 : Int) ^ ((18 : Int) : Int).toNat))] ([(-(1 : Int)), (0 : Int), (1 : Int), ((10 : Int) ^ ((18 : Int) : Int).toNat)] : (List Int)) := .cons rep_i (.cons rep_i (.cons rep_i (.cons rep_i (.nil))))
      refine ⟨_, rfl, _, _, rfl, rfl, (by refine ⟨?_, ?_, ?_⟩ <;> decide), (by show 4 ≤ sizeLine; decide), fun p14 n14 => ?_⟩
      have w14 : W F9 _ ((p14, .lst [(.int (-(1 : Int))), (.int 0), (.int 1), (.int ((10 : Int) ^ ((18 : Int) : Int).toNat))]) :: (p7, .lst vs9) :: os) := w9.new n14
      have w15 : W F9 _ ((p7, .lst vs9) :: (p14, .lst [(.int (-(1 : Int))), (.int 0), (.int 1), (.int ((10 : Int) ^ ((18 : Int) : Int).toNat))]) :: os) := w14.front (pre := [_])
      refine ⟨_, rfl, _, _, _, _, _, _, rfl, w15, h9, ?_⟩
      refine (post_bind hm).mono (fun y16 hm v16 vs16 F16 H16 w16 s16 r16 h16 => ?_) (fun _ z => z)
      replace h1 := A2.mono s16 h1
      replace q1 := s16.seq q1
      replace g2 := A2.mono s16 g2
      replace q4 := s16 _ _ q4
      replace q10 := s16 _ _ q10
      replace h11 := A2.mono s16 h11
      replace q11 := s16 _ _ q11
      replace h13 := A2.mono s16 h13
      replace sF := sF.trans s16
      obtain rfl : v16 = V.int y16.1 := r16
      obtain ⟨t17, e17, hm⟩ := pb_get hm
      obtain ⟨u17, f17, r17⟩ := A2.at h13 e17
      obtain rfl : u17 = V.int t17 := r17
      have w18 : W F16 _ ((p7, .lst vs16) :: os) := w16.drop (pre := [_])
      refine ⟨_, _, _, _, rfl, rfl, SqL.of (w16.get (pre := [_])), f17, _, rfl, _, _, _, _, _, _, rfl, w18, h16, ?_⟩
      refine (post_bind hm).mono (fun y19 hm v19 vs19 F19 H19 w19 s19 r19 h19 => ?_) (fun _ z => z)
      replace h1 := A2.mono s19 h1
      replace q1 := s19.seq q1
      replace g2 := A2.mono s19 g2
      replace q4 := s19 _ _ q4
      replace q10 := s19 _ _ q10
      replace h11 := A2.mono s19 h11
      replace q11 := s19 _ _ q11
      replace sF := sF.trans s19
      obtain rfl : v19 = V.int y19.1 := r19
      obtain ⟨c20, hm⟩ := pb_rng hm
      refine ⟨_, rfl, c20.2.2.1, c20.2.2.2, fun D21 nD21 => ?_⟩
      refine lcMap (K := K) (tw_rng0 (j := y19.1)) hm (fun (g21 : (List Int)) F' os' => ∃ (vs21_0 : List V), os' = (p7, .lst vs21_0) :: os ∧ A2 (rep K F') vs21_0 g21) w19 ⟨_, rfl, h19⟩ nD21 (fun g F' H' os' acc s w o => by obtain ⟨_, rfl, _⟩ := o; exact trivial) ?_ ?_
      · -- one turn
        intro b21 g21 x21 F21 H21 H21' os21 acc21 N21 P21 s21 w21 o21 y21 hN21 hm
        obtain ⟨vs21_0, rfl, h21_0⟩ := o21
        replace h1 := A2.mono s21 h1
        replace q1 := s21.seq q1
        replace g2 := A2.mono s21 g2
        replace q4 := s21 _ _ q4
        replace q10 := s21 _ _ q10
        replace h11 := A2.mono s21 h11
        replace q11 := s21 _ _ q11
        replace sF := sF.trans s21
        obtain ⟨rfl, rfl⟩ := y21
        have w23 : W F21 _ ((p7, .lst vs21_0) :: (D21, .lst acc21) :: os) := w21.front (pre := [_])
        refine ⟨rfl, _, rfl, _, _, _, _, _, _, rfl, w23, h21_0, ?_⟩
        refine (post_bind hm).mono (fun y24 hm v24 vs24 F24 H24 w24 s24 r24 h24 => ?_) (fun _ z => z)
        replace h1 := A2.mono s24 h1
        replace q1 := s24.seq q1
        replace g2 := A2.mono s24 g2
        replace q4 := s24 _ _ q4
        replace q10 := s24 _ _ q10
        replace h11 := A2.mono s24 h11
        replace q11 := s24 _ _ q11
        replace sF := sF.trans s24
        obtain rfl : v24 = V.int y24.1 := r24
        have w25 : W F24 _ ((D21, .lst acc21) :: (p7, .lst vs24) :: os) := w24.front (pre := [_])
        exact ⟨_, _, rfl, rfl, hN21 _ _ (post_ok hm) _ _ _ _ w25 s24 ⟨_, rfl, h24⟩ rep_i⟩
      intro g21 us21 F21 H21 os21 ys21 s21 w21 o21 gg21 hm
      obtain ⟨vs21_0, rfl, h21_0⟩ := o21
      replace h1 := A2.mono s21 h1
      replace q1 := s21.seq q1
      replace g2 := A2.mono s21 g2
      replace q4 := s21 _ _ q4
      replace q10 := s21 _ _ q10
      replace h11 := A2.mono s21 h11
      replace q11 := s21 _ _ q11
      replace sF := sF.trans s21
      obtain ⟨F27, s27, w27, q27⟩ : ∃ F', Same F21 F' ∧ W F' _ ((p7, .lst vs21_0) :: os) ∧ F' D21 = some (.lst us21) := w21.freezeE (pre := [])
      replace h1 := A2.mono s27 h1
      replace q1 := s27.seq q1
      replace g2 := A2.mono s27 g2
      replace q4 := s27 _ _ q4
      replace q10 := s27 _ _ q10
      replace h11 := A2.mono s27 h11
      replace q11 := s27 _ _ q11
      replace h21_0 := A2.mono s27 h21_0
      replace gg21 := A2.mono s27 gg21
      replace sF := sF.trans s27
      have h29 : A2 (rep K F27) [(.str "places"), (.str "ties"), (.str "all")] ([("places" : Str), ("ties" : Str), ("all" : Str)] : (List Str)) := .cons rep_s (.cons rep_s (.cons rep_s (.nil)))
      refine ⟨(by show 3 ≤ sizeLine; decide), fun p30 n30 => ?_⟩
      have w30 : W F27 _ ((p30, .lst [(.str "places"), (.str "ties"), (.str "all")]) :: (p7, .lst vs21_0) :: os) := w27.new n30
      obtain ⟨F31, s31, w31, q31⟩ : ∃ F', Same F27 F' ∧ W F' _ ((p7, .lst vs21_0) :: os) ∧ F' p30 = some (.lst [(.str "places"), (.str "ties"), (.str "all")]) := w30.freezeE (pre := [])
      replace h1 := A2.mono s31 h1
      replace q1 := s31.seq q1
      replace g2 := A2.mono s31 g2
      replace q4 := s31 _ _ q4
      replace q10 := s31 _ _ q10
      replace h11 := A2.mono s31 h11
      replace q11 := s31 _ _ q11
      replace gg21 := A2.mono s31 gg21
      replace q27 := s31 _ _ q27
      replace h21_0 := A2.mono s31 h21_0
      replace h29 := A2.mono s31 h29
      replace sF := sF.trans s31
      refine ⟨_, rfl, ⟨_, SqL.of (w31.same _ _ q31)⟩, ?_⟩
      refine forX (tw_list (a := p30) h29) hm (fun (g28 : Unit) σ H' => ∃ (F' : Hp) (o28_7 : Option V), σ = [some (.ref a1), some (.ref p2), some (.int b5), some (.ref p7), some (.ref a10), some (.int t17), some (.ref D21), o28_7, none, none] ∧ Same F31 F' ∧ W F' H' ((p7, .lst vs21_0) :: os)) ⟨_, _, rfl, Same.refl _, w31⟩ (fun g σ H' hI => by obtain ⟨F', _, _, s, w⟩ := hI; exact SqL.of (w.same _ _ (s _ _ q31))) ?_ ?_
      · -- a turn
        intro b28 g28 x28 σ28 H28 H28' N28 B28 P28 hI hy hN28 hB28 hZ28 hm
        obtain ⟨F28, o28_7, rfl, s28, w28⟩ := hI
        replace h1 := A2.mono s28 h1
        replace q1 := s28.seq q1
        replace g2 := A2.mono s28 g2
        replace q4 := s28 _ _ q4
        replace q10 := s28 _ _ q10
        replace h11 := A2.mono s28 h11
        replace q11 := s28 _ _ q11
        replace gg21 := A2.mono s28 gg21
        replace q27 := s28 _ _ q27
        replace h21_0 := A2.mono s28 h21_0
        replace h29 := A2.mono s28 h29
        replace q31 := s28 _ _ q31
        replace sF := sF.trans s28
        obtain ⟨rfl, r32⟩ := hy
        obtain rfl : x28 = V.str b28 := r32
        refine ⟨_, rfl, (by decide), (by decide), fun D33 nD33 => ?_⟩
        refine lcM (K := K) (tw_rng0 (j := (4 : Int))) hm w28 nD33 (fun F' H' acc s w => trivial) ?_ ?_
        · -- one turn
          intro b33 x33 F33 H33 H33' acc33 N33 P33 s33 w33 y33 hN33 hm
          replace h1 := A2.mono s33 h1
          replace q1 := s33.seq q1
          replace g2 := A2.mono s33 g2
          replace q4 := s33 _ _ q4
          replace q10 := s33 _ _ q10
          replace h11 := A2.mono s33 h11
          replace q11 := s33 _ _ q11
          replace gg21 := A2.mono s33 gg21
          replace q27 := s33 _ _ q27
          replace h21_0 := A2.mono s33 h21_0
          replace sF := sF.trans s33
          obtain ⟨rfl, rfl⟩ := y33
          have h35 : A2 (rep K F33) us21 ys21 := gg21
          refine ⟨rfl, _, rfl, _, rfl, _, rfl, _, rfl, _, rfl, _, _, rfl, .inl (SqL.of (w33.same _ _ q27)), fun p36 n36 => ?_⟩
          have w36 : W F33 _ ((p36, .lst us21) :: (D33, .lst acc33) :: (p7, .lst vs21_0) :: os) := w33.new n36
          obtain ⟨F37, s37, w37, q37⟩ : ∃ F', Same F33 F' ∧ W F' _ ((D33, .lst acc33) :: (p7, .lst vs21_0) :: os) ∧ F' p36 = some (.lst us21) := w36.freezeE (pre := [])
          replace h1 := A2.mono s37 h1
          replace q1 := s37.seq q1
          replace g2 := A2.mono s37 g2
          replace q4 := s37 _ _ q4
          replace q10 := s37 _ _ q10
          replace h11 := A2.mono s37 h11
          replace q11 := s37 _ _ q11
          replace gg21 := A2.mono s37 gg21
          replace q27 := s37 _ _ q27
          replace h21_0 := A2.mono s37 h21_0
          replace h35 := A2.mono s37 h35
          replace sF := sF.trans s37
          refine ⟨_, _, _, _, (y9.1 : (Int × (Tup (Int × Int)))), _, _, _, (ys21 : (List Int)), rfl, w37, (rep_pair q10 rep_i (rep_tup q11 h11)), (rep_lst q37 h35), ?_⟩
          refine (post_bind hm).mono (fun y38 hm v38 F38 H38 w38 s38 r38 => ?_) (fun _ z => z)
          replace h1 := A2.mono s38 h1
          replace q1 := s38.seq q1
          replace g2 := A2.mono s38 g2
          replace q4 := s38 _ _ q4
          replace q10 := s38 _ _ q10
          replace h11 := A2.mono s38 h11
          replace q11 := s38 _ _ q11
          replace gg21 := A2.mono s38 gg21
          replace q27 := s38 _ _ q27
          replace h21_0 := A2.mono s38 h21_0
          replace h35 := A2.mono s38 h35
          replace q37 := s38 _ _ q37
          replace sF := sF.trans s38
          obtain rfl : v38 = V.bl y38 := r38
          exact hN33 _ (post_ok hm) _ _ _ w38 (s37.trans s38) rep_b
        intro us33 F33 H33 ys33 s33 w33 gg33 hm
        replace h1 := A2.mono s33 h1
        replace q1 := s33.seq q1
        replace g2 := A2.mono s33 g2
        replace q4 := s33 _ _ q4
        replace q10 := s33 _ _ q10
        replace h11 := A2.mono s33 h11
        replace q11 := s33 _ _ q11
        replace gg21 := A2.mono s33 gg21
        replace q27 := s33 _ _ q27
        replace h21_0 := A2.mono s33 h21_0
        replace sF := sF.trans s33
        refine ⟨_, _, rfl, bools_q (SqL.of (w33.get (pre := []))) gg33, _, rfl, ?_⟩
        have w40 : W F33 _ ((p7, .lst vs21_0) :: os) := w33.drop (pre := [])
        refine post_ite hm (fun k41 hm => ?_) (fun k41 hm => ?_)
        · skip
          have hm := hZ28 _ (post_ok hm)
          have hm := hZ5 _ (post_ok hm)
          have w42 : W F33 _ (os) := w40.drop (pre := [])
          exact (post_ok hm) _ _ _ w42 sF rep_b
        · skip
          exact hN28 _ (post_ok hm) _ _ ⟨_, _, rfl, (s28.trans s33), w40⟩
      intro g28 σ28 H28 hI hm
      obtain ⟨F28, o28_7, rfl, s28, w28⟩ := hI
      replace h1 := A2.mono s28 h1
      replace q1 := s28.seq q1
      replace g2 := A2.mono s28 g2
      replace q4 := s28 _ _ q4
      replace q10 := s28 _ _ q10
      replace h11 := A2.mono s28 h11
      replace q11 := s28 _ _ q11
      replace gg21 := A2.mono s28 gg21
      replace q27 := s28 _ _ q27
      replace h21_0 := A2.mono s28 h21_0
      replace h29 := A2.mono s28 h29
      replace q31 := s28 _ _ q31
      replace sF := sF.trans s28
      have w43 : W F28 _ (os) := w28.drop (pre := [])
      exact hN5 _ (post_ok hm) _ _ ⟨_, _, _, _, _, _, _, rfl, (s5.trans (s7.trans (s9.trans (s16.trans (s19.trans (s21.trans (s27.trans (s31.trans s28)))))))), w43⟩
    intro g5 σ5 H5 hI hm
    obtain ⟨F5, o5_3, o5_4, o5_5, o5_6, o5_7, o5_2, rfl, s5, w5⟩ := hI
    replace h1 := A2.mono s5 h1
    replace q1 := s5.seq q1
    replace g2 := A2.mono s5 g2
    replace q4 := s5 _ _ q4
    replace sF := sF.trans s5
    exact (post_ok hm) _ _ _ w5 sF rep_b
end
end G
namespace G
open PySem Z L2
/-! ### drawing -/
def OkP (s : List Int) : Prop := ∃ a b, s = [a, b] ∧ 0 ≤ a ∧ 0 ≤ b ∧ b < 2147483647
theorem take_ok {s : List Int} {m : Int} (h : OkP s) (h0 : 0 < m) (h1 : m < 1073741824) : Post (law_take s m) (fun p => 0 ≤ p.1 ∧ p.1 < m ∧ OkP p.2) noX := by
  obtain ⟨a, b, rfl, ha, hb, hb2⟩ := h
  unfold law_take
  refine po_getE (x := a) rfl ?_
  refine po_if (fun c => ?_) (fun c => ?_)
  · have c' : 0 < a := of_decide_eq_true c
    refine po_getE (x := a) rfl (po_mod h0 fun r0 r1 => po_getE (x := a) rfl (po_div h0 h1 (po_set (Int.le_refl 0) (by show (0 : Int) < 2; decide) ?_)))
    exact ⟨r0, r1, _, _, rfl, Int.ediv_nonneg ha (by omega), hb, hb2⟩
  · refine po_getE (x := b) rfl (po_set (by decide) (by show (1 : Int) < 2; decide) ?_)
    refine po_getE (x := (b * 48271 + 12820163) % 2147483647) rfl (po_getE (x := (b * 48271 + 12820163) % 2147483647) rfl ?_)
    have h2 : 0 ≤ (b * 48271 + 12820163) % 2147483647 := Int.emod_nonneg _ (by decide)
    have h3 : (b * 48271 + 12820163) % 2147483647 < 2147483647 := Int.emod_lt_of_pos _ (by decide)
    exact po_mul (by left; omega) (po_mod h0 fun r0 r1 => ⟨r0, r1, _, _, rfl, ha, h2, h3⟩)
theorem pool_ok {c : List Int} {k : Int} (hc : c.length < 1000) (h0 : 0 ≤ k) (h1 : k < 1000) : Post (law_pool c k) OkP noX := by
  unfold law_pool
  refine po_bind (Q := fun _ => True) (po_if (fun p => ?_) fun _ => trivial) fun g _ => ?_
  · have p' : 0 < (c.length : Int) := of_decide_eq_true p
    exact po_mod p' fun r0 r1 => po_get r0 r1 fun _ _ _ => po_div p' (by omega) trivial
  · refine po_bind (Q := fun x => 0 ≤ x) (po_bind (Q := fun _ => True) (po_if (fun _ => trivial) fun _ => trivial) fun j _ => po_if (fun _ => ?_) fun _ => Int.le_refl 0) fun g7 h7 => ?_
    · show 0 ≤ absI g
      unfold absI
      split <;> omega
    · exact po_mul (by right; omega) ⟨_, _, rfl, h7, Int.emod_nonneg _ (by decide), Int.lt_trans (Int.emod_lt_of_pos _ (by decide)) (by decide)⟩
theorem cells_ok {sc : List Int} : Post (law_cells ⟨sc⟩ 6) (fun l => l.length ≤ 6) noX := by
  unfold law_cells
  have e1 : cutL sc none (some 6) = sc.take 6 := cut_take sc 6
  have e2 : cutL sc (some 6) (some 63) = (sc.drop 6).take 57 := cut_mid sc 6 63
  show Post (foldR _ (cutL sc none (some 6)) (enum (cutL sc (some 6) (some 63))) >>= _) _ _
  rw [e1, e2]
  refine po_bind (po_fold (fun g => g.length = (sc.take 6).length) rfl fun g x hg hx => ?_) fun g hg => ?_
  · have hl : 6 < sc.length := by
      have h1 : 0 < (enum ((sc.drop 6).take 57)).length := List.length_pos_of_mem hx
      rw [enum_length, List.length_take, List.length_drop] at h1
      omega
    rw [List.length_take] at hg
    have hg' : g.length = 6 := by omega
    refine po_mod (by decide) fun r0 r1 => po_get r0 (by omega) fun _ _ _ => po_mod (by decide) fun s0 s1 => po_set s0 (by omega) ?_
    show (List.set _ _ _).length = _
    rw [List.length_set, List.length_take]
    exact hg
  · show g.length ≤ 6
    rw [hg, List.length_take]
    omega
theorem some_ok {s : List Int} {menu : List Int} {m : Int} (h : OkP s) (hm : (menu.length : Int) = m) (hb : m < 1000) : Post (law_some s menu m) (fun p => (p.1.length : Int) = m ∧ OkP p.2) noX := by
  unfold law_some
  refine po_rng (by decide) (by decide) (by omega) (by omega) ?_
  have hr : (rng 0 m).length = menu.length := by rw [rng_length]; omega
  refine po_bind (po_mapStN (fun n g => g.1.length + n = menu.length ∧ OkP g.2) (fun _ => True) (by omega) ⟨rfl, h⟩ fun n g x hn ⟨g1, g2⟩ _ => ?_) fun r ⟨r1, _, r2, r3⟩ => ⟨by show (r.1.length : Int) = m; omega, r3⟩
  refine po_bind (take_ok g2 (by omega) (by omega)) fun y ⟨y0, y1, hy⟩ => ?_
  obtain ⟨x', e, hx, hx2⟩ := getI_nat y0 y1
  have hj : y.1.toNat < g.1.length := by omega
  have e2 : popB g.1 y.1 = R.ok (x', g.1.eraseIdx y.1.toNat) := by
    unfold popB popAt
    rw [if_pos (by omega)]
    have ei : ixN g.1.length y.1 = some y.1.toNat := by
      unfold ixN
      rw [if_pos y0, if_pos y1]
    rw [ei]
    dsimp only
    rw [hx2]
  rw [e2, ok_bind]
  refine ⟨trivial, ?_, hy⟩
  show (g.1.eraseIdx y.1.toNat).length + (n + 1) = _
  rw [List.length_eraseIdx_of_lt hj]
  omega
theorem named_ok {s : List Int} {m : Int} {ties : List (Int × Int)} (h : OkP s) (h0 : 0 ≤ m) (hb : m < 1000) (hl : ties.length < 100000) (ht : ∀ p ∈ ties, 0 ≤ p.1 ∧ p.1 < m ∧ 0 ≤ p.2 ∧ p.2 < m) :
    Post (law_named s m ties) (fun r => r.1.1 = m ∧ r.1.2.l.length = ties.length ∧ OkP r.2) noX := by
  unfold law_named
  have e : listRng 0 m = R.ok (rng 0 m) := by
    unfold listRng
    rw [if_pos (by omega)]
  rw [e, ok_bind]
  refine po_bind (some_ok h (by rw [rng_length]; omega) hb) fun y ⟨y1, y2⟩ => ?_
  refine po_bind (po_mapG (fun _ => True) (by omega) fun p hp => ?_) fun l ⟨l1, _⟩ => ⟨rfl, ?_, y2⟩
  · obtain ⟨a, b, c, d⟩ := ht p hp
    exact po_get a (by omega) fun _ _ _ => po_get c (by omega) fun _ _ _ => po_get a (by omega) fun _ _ _ => po_get c (by omega) fun _ _ _ => trivial
  · show (sortP l).length = _
    rw [(sortP_perm l).length_eq, l1]
theorem rng_at {i j x : Int} {n : Nat} (h : (rng i j)[n]? = some x) : x = i + n := by
  unfold rng at h
  rw [List.getElem?_map] at h
  obtain ⟨k, e, rfl⟩ := Option.map_eq_some_iff.mp h
  obtain ⟨_, e⟩ := List.getElem?_eq_some_iff.mp e
  rw [List.getElem_range] at e
  omega
/-- the ties of a tree as drawn: to each place from one on, one tie from a place ahead -/
def Tr (g : List ((Int × Int) × Bool)) (n : Nat) : Prop := g.length = n ∧ (∀ p ∈ g, 0 ≤ p.1.1 ∧ p.1.1 < p.1.2 ∧ p.1.2 < 1 + n) ∧ ∀ p ∈ g, ∀ q ∈ g, p.1.2 = q.1.2 → p.1 = q.1
theorem ringed_ok {s : List Int} (h : OkP s) : Post (law_ringed s) (fun r => (r.1.2.l.length : Int) ≠ r.1.1 - 1 ∧ OkP r.2) noX := by
  unfold law_ringed
  refine po_bind (take_ok h (by decide) (by decide)) fun y2 ⟨m0, m1, h2⟩ => ?_
  refine po_rng (by decide) (by decide) (by omega) (by omega) ?_
  refine po_bind (po_foldN (fun n g => Tr g.1 n ∧ OkP g.2) ⟨⟨rfl, (fun _ z => absurd z List.not_mem_nil), fun _ z => absurd z List.not_mem_nil⟩, h2⟩ fun n g x hn ⟨⟨t1, t2, t3⟩, go⟩ hx => ?_) fun g4 ⟨⟨t1, t2, t3⟩, g4o⟩ => ?_
  · have ex := rng_at hx
    rw [rng_length] at hn
    refine po_bind (take_ok go (by omega) (by omega)) fun y ⟨y0, y1, hy⟩ => ?_
    have hnew : mhas g.1 (y.1, x) = false := by
      rw [← Bool.not_eq_true]
      intro z
      obtain ⟨p, hp, e⟩ := mhas_iff.mp z
      have h3 := (t2 p hp).2.2
      rw [e] at h3
      have h3' : x < 1 + (n : Int) := h3
      omega
    refine po_mput (by omega) ?_
    rw [mput_new hnew]
    refine ⟨⟨?_, fun p hp => ?_, fun p hp q hq e => ?_⟩, hy⟩
    · show (g.1 ++ [((y.1, x), true)]).length = n + 1
      rw [List.length_append, List.length_singleton, t1]
    · rcases List.mem_append.mp hp with hp | hp
      · have := t2 p hp
        omega
      · rw [List.mem_singleton] at hp
        subst hp
        show 0 ≤ y.1 ∧ y.1 < x ∧ x < _
        omega
    · rcases List.mem_append.mp hp with hp | hp <;> rcases List.mem_append.mp hq with hq | hq
      · exact t3 p hp q hq e
      · rw [List.mem_singleton] at hq
        subst hq
        have := (t2 p hp).2.2
        have e' : p.1.2 = x := e
        omega
      · rw [List.mem_singleton] at hp
        subst hp
        have := (t2 q hq).2.2
        have e' : x = q.1.2 := e
        omega
      · rw [List.mem_singleton] at hp hq
        rw [hp, hq]
  · have hlen : (rng 1 (3 + y2.1)).length = (2 + y2.1).toNat := by rw [rng_length]; omega
    rw [hlen] at t1 t2
    refine po_rng (by decide) (by decide) (by omega) (by omega) ?_
    refine po_bind (po_foldN (fun n g => (∀ p ∈ g, mhas g4.1 p = false ∧ 0 ≤ p.1 ∧ p.1 < p.2 ∧ p.2 < 3 + y2.1) ∧ (2 < n → g ≠ []) ∧ g.length ≤ 13 * n) ⟨(fun _ z => absurd z List.not_mem_nil), (fun z => absurd z (by omega)), Nat.le_refl _⟩ fun n g x hn ⟨i1, i2, i3⟩ hx => ?_) fun g14 ⟨i1, i2, i3⟩ => ?_
    · have ex := rng_at hx
      rw [rng_length] at hn
      refine po_rng (by decide) (by decide) (by omega) (by omega) ?_
      have e : filG (fun (b17 : Int) => do
          if (!mhas g4.1 (b17, x)) = true then do
            R.ok (some (b17, x))
          else
            R.ok none) (rng 0 x) = R.ok ((rng 0 x).filterMap fun a => if (!mhas g4.1 (a, x)) = true then some (a, x) else none) := by
        refine filG_ok (by rw [rng_length]; omega) fun a _ => ?_
        split <;> rfl
      rw [e, ok_bind]
      have hlf : ((rng 0 x).filterMap fun a => if (!mhas g4.1 (a, x)) = true then some (a, x) else none).length ≤ 13 := by
        refine Nat.le_trans (List.length_filterMap_le _ _) ?_
        rw [rng_length]
        omega
      refine po_extend (by omega) ⟨fun p hp => ?_, fun h2 => ?_, by rw [List.length_append]; omega⟩
      · rcases List.mem_append.mp hp with hp | hp
        · exact i1 p hp
        · obtain ⟨a, ha, hp⟩ := List.mem_filterMap.mp hp
          have ha := rng_mem.mp ha
          split at hp
          · rename_i c
            cases hp
            exact ⟨by simpa using c, ha.1, ha.2, by omega⟩
          · cases hp
      · intro hnil
        have hg := (List.append_eq_nil_iff.mp hnil).1
        by_cases h3 : 2 < n
        · exact i2 h3 hg
        · have ex2 : x = 2 := by omega
          have hf := (List.append_eq_nil_iff.mp hnil).2
          have none_of : ∀ a, a ∈ rng 0 x → mhas g4.1 (a, x) = true := fun a ha => by
            by_cases c : mhas g4.1 (a, x) = true
            · exact c
            · have : (a, x) ∈ ((rng 0 x).filterMap fun a => if (!mhas g4.1 (a, x)) = true then some (a, x) else none) := List.mem_filterMap.mpr ⟨a, ha, by rw [if_pos (by simpa using c)]⟩
              rw [hf] at this
              exact absurd this List.not_mem_nil
          obtain ⟨p, hp, ep⟩ := mhas_iff.mp (none_of 0 (rng_mem.mpr ⟨by omega, by omega⟩))
          obtain ⟨q, hq, eq⟩ := mhas_iff.mp (none_of 1 (rng_mem.mpr ⟨by omega, by omega⟩))
          have := t3 p hp q hq (by rw [ep, eq])
          rw [ep, eq] at this
          injection this with this
          omega
    · rw [rng_length] at i2 i3
      have hne : g14 ≠ [] := i2 (by omega)
      have hpos : 0 < g14.length := List.length_pos_iff.mpr hne
      refine po_bind (take_ok g4o (by decide) (by decide)) fun y30 ⟨a0, a1, h30⟩ => po_get a0 (by show _ < (5 : Int); omega) fun t31 m31 _ => ?_
      have b31 : 1 ≤ t31 ∧ t31 < 1000 := by
        simp only [List.mem_cons, List.mem_nil_iff, or_false] at m31
        omega
      refine po_rng (by decide) (by decide) (by omega) (by omega) ?_
      refine po_bind (po_foldN (fun n g => OkP g.1 ∧ (n = 0 → g.2 = g4.1) ∧ (0 < n → 3 + y2.1 ≤ g.2.length) ∧ (g.2.length : Int) ≤ 13 + n ∧ ∀ k, (∃ p ∈ g.2, p.1 = k) → 0 ≤ k.1 ∧ k.1 < k.2 ∧ k.2 < 3 + y2.1) ⟨h30, (fun _ => rfl), (fun z => absurd z (by omega)), (by show (g4.1.length : Int) ≤ _; omega), fun k ⟨p, hp, e⟩ => by
          subst e
          have := t2 p hp
          omega⟩ fun n g x hn ⟨j1, j2, j3, j4, j5⟩ hx => ?_) fun g26 ⟨j1, j2, j3, j4, j5⟩ => ?_
      · rw [rng_length] at hn
        refine po_bind (take_ok j1 (by omega) (by omega)) fun y34 ⟨b0, b1, h34⟩ => po_get b0 b1 fun t35 m35 _ => po_mput (by omega) ?_
        obtain ⟨k1, k2, k3, k4⟩ := i1 t35 m35
        refine ⟨h34, (fun z => absurd z (by omega)), fun _ => ?_, ?_, fun k hk => ?_⟩
        · show 3 + y2.1 ≤ ((mput g.2 t35 true).length : Int)
          rw [mput_length]
          by_cases hn0 : n = 0
          · rw [j2 hn0, k1, if_neg (by decide)]
            omega
          · have := j3 (by omega)
            omega
        · show ((mput g.2 t35 true).length : Int) ≤ _
          rw [mput_length]
          split <;> omega
        · rcases mput_keys.mp hk with rfl | hk
          · exact ⟨k2, k3, k4⟩
          · exact j5 k hk
      · rw [rng_length] at j3 j4
        have j3 := j3 (by omega)
        refine po_bind (named_ok j1 (by omega) (by omega) (by rw [List.length_map]; omega) fun p hp => ?_) fun y43 ⟨n1, n2, n3⟩ => ⟨?_, n3⟩
        · obtain ⟨q, hq, rfl⟩ := List.mem_map.mp hp
          have := j5 q.1 ⟨q, hq, rfl⟩
          omega
        · show (y43.1.2.l.length : Int) ≠ y43.1.1 - 1
          rw [n1, n2, List.length_map]
          omega
/-! ### refused -/
theorem asked_exc {w : Int × Tup (Int × Int)} (h : (w.2.l.length : Int) ≠ w.1 - 1) : grown_asked w = R.exc ⟨"NoTree", 0⟩ := by
  unfold grown_asked is_tree
  show (if (!decide ((w.2.l.length : Int) = w.1 - 1)) = true then raiseR "NoTree" else R.ok ()) = _
  rw [decide_eq_false h]
  rfl
theorem refused_ok {w : Int × Tup (Int × Int)} (h : (w.2.l.length : Int) ≠ w.1 - 1) {way number : Int} {kind : Str} {looks : List Int} : law_refused way w kind number looks = R.ok true := by
  unfold law_refused tree_fewest tree_choices choice_by choice_number
  rw [asked_exc h]
  by_cases h0 : way = 0
  · rw [if_pos (decide_eq_true h0)]
    rfl
  · rw [if_neg (by rw [decide_eq_false h0]; decide)]
    by_cases h1 : way = 1
    · rw [if_pos (decide_eq_true h1)]
      rfl
    · rw [if_neg (by rw [decide_eq_false h1]; decide)]
      by_cases h2 : way = 2
      · rw [if_pos (decide_eq_true h2)]
        rfl
      · rw [if_neg (by rw [decide_eq_false h2]; decide)]
        rfl
theorem law_true (ns : List Int) (hl : ns.length ≤ 63) : law ⟨ns⟩ = R.ok true := by
  refine po_iff ?_
  unfold law
  refine po_bind cells_ok fun y2 h2 => ?_
  have hmx : max2 1 (y2.length : Int) ≤ 6 := by unfold max2; split <;> omega
  have hmn : 0 ≤ max2 1 (y2.length : Int) := by unfold max2; split <;> omega
  refine po_rng (by decide) (by decide) (by omega) (by omega) ?_
  refine po_bind (po_foldX (fun _ => True) trivial fun g b hg hb => ?_) fun r ⟨_, e, _⟩ => by subst e; exact po_ok rfl
  have hb := rng_mem.mp hb
  refine po_bind (pool_ok (by omega) hb.1 (by omega)) fun y7 h7 => po_bind (ringed_ok h7) fun y9 ⟨hw, h9⟩ => ?_
  refine po_bind (take_ok h9 (by decide) (by decide)) fun y16 ⟨a0, a1, h16⟩ => po_get a0 (by show _ < (4 : Int); omega) fun t17 _ _ => ?_
  refine po_bind (take_ok h16 (by decide) (by decide)) fun y19 ⟨b0, b1, h19⟩ => po_rng (by decide) (by decide) (by omega) (by omega) ?_
  refine po_bind (po_mapStN (fun _ g => OkP g) (fun _ => True) (by rw [rng_length]; omega) h19 fun n g x _ hg _ => po_bind (take_ok hg (by decide) (by decide)) fun y24 ⟨_, _, h24⟩ => ⟨trivial, h24⟩) fun l21 _ => ?_
  refine po_bind (po_foldX (fun _ => True) trivial fun g b hg hb => ?_) fun r ⟨_, e, _⟩ => by subst e; exact ⟨(), rfl, trivial⟩
  have e : mapG (fun (b33 : Int) => do
              let y38 ← law_refused b33 y9.1 b t17 l21.1
              R.ok y38) (rng 0 (4 : Int)) = R.ok ((rng 0 4).map fun _ => true) := by
    refine mapG_ok (by decide) fun x _ => ?_
    rw [refused_ok hw]
    rfl
  rw [e, ok_bind]
  exact ⟨(), rfl, trivial⟩
end G
namespace G
open PySem L2 Z
open Rep (rep)
theorem dn_mk {K : Fg} {h : Heap} {mg : Str → Option Value} (X : K.In h) (G : h.Ns mainGlobals mg) {x : Str} {st : Stmt} {ps : List Str} {f : Addr} {od an : Option Addr} {sl : Array (Option Value)} {oc kV dc pm cd ct : Value}
    (a : PySem.W.nsIn K mainGlobals x = some (some (.ref f))) (l : K.lookup f = some ⟨oc, od, .func (PySem.W.fnOf x x (defArgs st) (defBody st) (defScope st) .none kV dc pm an cd ct), sl⟩) (c : PySem.W.codeIn K cd x = true) (k : PySem.W.keepIn K (.ref f) = true)
    (b : ∀ (kV doc pm : Value) (an : Option Addr) (cdv ct : Value) (us : List Value), us.length = ps.length → bindArgs (PySem.W.fnOf x x (defArgs st) (defBody st) (defScope st) .none kV doc pm an cdv ct) ⟨us, []⟩ = pure (ps.zip us)) :
    Dn K mg x st ps f (PySem.W.fnOf x x (defArgs st) (defBody st) (defScope st) .none kV dc pm an cd ct) := ⟨fun_mk l c k, PySem.W.mg_of X G a, (fun_mk l c k).binds b⟩
theorem all_mk {l : PySem.W.OpenLaw} {w : World} {K : PySem.W.Frag} {h : Heap} {mg : Str → Option Value} {fa : Addr} (X : K.In h) (G : h.Ns mainGlobals mg) (hfa : mg "law" = some (.ref fa))
    {f13 : Addr} {od13 an13 : Option Addr} {sl13 : Array (Option Value)} {oc13 kV13 dc13 pm13 cd13 ct13 : Value}
    {f15 : Addr} {od15 an15 : Option Addr} {sl15 : Array (Option Value)} {oc15 kV15 dc15 pm15 cd15 ct15 : Value}
    {f23 : Addr} {od23 an23 : Option Addr} {sl23 : Array (Option Value)} {oc23 kV23 dc23 pm23 cd23 ct23 : Value}
    {f24 : Addr} {od24 an24 : Option Addr} {sl24 : Array (Option Value)} {oc24 kV24 dc24 pm24 cd24 ct24 : Value}
    {f25 : Addr} {od25 an25 : Option Addr} {sl25 : Array (Option Value)} {oc25 kV25 dc25 pm25 cd25 ct25 : Value}
    {f27 : Addr} {od27 an27 : Option Addr} {sl27 : Array (Option Value)} {oc27 kV27 dc27 pm27 cd27 ct27 : Value}
    {f29 : Addr} {od29 an29 : Option Addr} {sl29 : Array (Option Value)} {oc29 kV29 dc29 pm29 cd29 ct29 : Value}
    {f30 : Addr} {od30 an30 : Option Addr} {sl30 : Array (Option Value)} {oc30 kV30 dc30 pm30 cd30 ct30 : Value}
    {f31 : Addr} {od31 an31 : Option Addr} {sl31 : Array (Option Value)} {oc31 kV31 dc31 pm31 cd31 ct31 : Value}
    {f32 : Addr} {od32 an32 : Option Addr} {sl32 : Array (Option Value)} {oc32 kV32 dc32 pm32 cd32 ct32 : Value}
    {f33 : Addr} {od33 an33 : Option Addr} {sl33 : Array (Option Value)} {oc33 kV33 dc33 pm33 cd33 ct33 : Value}
    {f34 : Addr} {od34 an34 : Option Addr} {sl34 : Array (Option Value)} {oc34 kV34 dc34 pm34 cd34 ct34 : Value}
    {f35 : Addr} {od35 an35 : Option Addr} {sl35 : Array (Option Value)} {oc35 kV35 dc35 pm35 cd35 ct35 : Value}
    {f36 : Addr} {od36 an36 : Option Addr} {sl36 : Array (Option Value)} {oc36 kV36 dc36 pm36 cd36 ct36 : Value}
    {g1 : Addr}
    {g2 : Addr}
    {g4 : Addr}
    {g5 : Addr}
    {g6 : Addr}
    {g7 : Addr}
    (a13 : PySem.W.nsIn K mainGlobals "is_tree" = some (some (.ref f13))) (l13 : K.lookup f13 = some ⟨oc13, od13, .func (PySem.W.fnOf "is_tree" "is_tree" (defArgs s_is_tree) (defBody s_is_tree) (defScope s_is_tree) .none kV13 dc13 pm13 an13 cd13 ct13), sl13⟩) (c13 : PySem.W.codeIn K cd13 "is_tree" = true) (k13 : PySem.W.keepIn K (.ref f13) = true)
    (a15 : PySem.W.nsIn K mainGlobals "grown_asked" = some (some (.ref f15))) (l15 : K.lookup f15 = some ⟨oc15, od15, .func (PySem.W.fnOf "grown_asked" "grown_asked" (defArgs s_grown_asked) (defBody s_grown_asked) (defScope s_grown_asked) .none kV15 dc15 pm15 an15 cd15 ct15), sl15⟩) (c15 : PySem.W.codeIn K cd15 "grown_asked" = true) (k15 : PySem.W.keepIn K (.ref f15) = true)
    (a23 : PySem.W.nsIn K mainGlobals "tree_fewest" = some (some (.ref f23))) (l23 : K.lookup f23 = some ⟨oc23, od23, .func (PySem.W.fnOf "tree_fewest" "tree_fewest" (defArgs s_tree_fewest) (defBody s_tree_fewest) (defScope s_tree_fewest) .none kV23 dc23 pm23 an23 cd23 ct23), sl23⟩) (c23 : PySem.W.codeIn K cd23 "tree_fewest" = true) (k23 : PySem.W.keepIn K (.ref f23) = true)
    (a24 : PySem.W.nsIn K mainGlobals "tree_choices" = some (some (.ref f24))) (l24 : K.lookup f24 = some ⟨oc24, od24, .func (PySem.W.fnOf "tree_choices" "tree_choices" (defArgs s_tree_choices) (defBody s_tree_choices) (defScope s_tree_choices) .none kV24 dc24 pm24 an24 cd24 ct24), sl24⟩) (c24 : PySem.W.codeIn K cd24 "tree_choices" = true) (k24 : PySem.W.keepIn K (.ref f24) = true)
    (a25 : PySem.W.nsIn K mainGlobals "choice_by" = some (some (.ref f25))) (l25 : K.lookup f25 = some ⟨oc25, od25, .func (PySem.W.fnOf "choice_by" "choice_by" (defArgs s_choice_by) (defBody s_choice_by) (defScope s_choice_by) .none kV25 dc25 pm25 an25 cd25 ct25), sl25⟩) (c25 : PySem.W.codeIn K cd25 "choice_by" = true) (k25 : PySem.W.keepIn K (.ref f25) = true)
    (a27 : PySem.W.nsIn K mainGlobals "choice_number" = some (some (.ref f27))) (l27 : K.lookup f27 = some ⟨oc27, od27, .func (PySem.W.fnOf "choice_number" "choice_number" (defArgs s_choice_number) (defBody s_choice_number) (defScope s_choice_number) .none kV27 dc27 pm27 an27 cd27 ct27), sl27⟩) (c27 : PySem.W.codeIn K cd27 "choice_number" = true) (k27 : PySem.W.keepIn K (.ref f27) = true)
    (a29 : PySem.W.nsIn K mainGlobals "_law_cells" = some (some (.ref f29))) (l29 : K.lookup f29 = some ⟨oc29, od29, .func (PySem.W.fnOf "_law_cells" "_law_cells" (defArgs s_law_cells) (defBody s_law_cells) (defScope s_law_cells) .none kV29 dc29 pm29 an29 cd29 ct29), sl29⟩) (c29 : PySem.W.codeIn K cd29 "_law_cells" = true) (k29 : PySem.W.keepIn K (.ref f29) = true)
    (a30 : PySem.W.nsIn K mainGlobals "_law_pool" = some (some (.ref f30))) (l30 : K.lookup f30 = some ⟨oc30, od30, .func (PySem.W.fnOf "_law_pool" "_law_pool" (defArgs s_law_pool) (defBody s_law_pool) (defScope s_law_pool) .none kV30 dc30 pm30 an30 cd30 ct30), sl30⟩) (c30 : PySem.W.codeIn K cd30 "_law_pool" = true) (k30 : PySem.W.keepIn K (.ref f30) = true)
    (a31 : PySem.W.nsIn K mainGlobals "_law_take" = some (some (.ref f31))) (l31 : K.lookup f31 = some ⟨oc31, od31, .func (PySem.W.fnOf "_law_take" "_law_take" (defArgs s_law_take) (defBody s_law_take) (defScope s_law_take) .none kV31 dc31 pm31 an31 cd31 ct31), sl31⟩) (c31 : PySem.W.codeIn K cd31 "_law_take" = true) (k31 : PySem.W.keepIn K (.ref f31) = true)
    (a32 : PySem.W.nsIn K mainGlobals "_law_some" = some (some (.ref f32))) (l32 : K.lookup f32 = some ⟨oc32, od32, .func (PySem.W.fnOf "_law_some" "_law_some" (defArgs s_law_some) (defBody s_law_some) (defScope s_law_some) .none kV32 dc32 pm32 an32 cd32 ct32), sl32⟩) (c32 : PySem.W.codeIn K cd32 "_law_some" = true) (k32 : PySem.W.keepIn K (.ref f32) = true)
    (a33 : PySem.W.nsIn K mainGlobals "_law_named" = some (some (.ref f33))) (l33 : K.lookup f33 = some ⟨oc33, od33, .func (PySem.W.fnOf "_law_named" "_law_named" (defArgs s_law_named) (defBody s_law_named) (defScope s_law_named) .none kV33 dc33 pm33 an33 cd33 ct33), sl33⟩) (c33 : PySem.W.codeIn K cd33 "_law_named" = true) (k33 : PySem.W.keepIn K (.ref f33) = true)
    (a34 : PySem.W.nsIn K mainGlobals "_law_ringed" = some (some (.ref f34))) (l34 : K.lookup f34 = some ⟨oc34, od34, .func (PySem.W.fnOf "_law_ringed" "_law_ringed" (defArgs s_law_ringed) (defBody s_law_ringed) (defScope s_law_ringed) .none kV34 dc34 pm34 an34 cd34 ct34), sl34⟩) (c34 : PySem.W.codeIn K cd34 "_law_ringed" = true) (k34 : PySem.W.keepIn K (.ref f34) = true)
    (a35 : PySem.W.nsIn K mainGlobals "_law_refused" = some (some (.ref f35))) (l35 : K.lookup f35 = some ⟨oc35, od35, .func (PySem.W.fnOf "_law_refused" "_law_refused" (defArgs s_law_refused) (defBody s_law_refused) (defScope s_law_refused) .none kV35 dc35 pm35 an35 cd35 ct35), sl35⟩) (c35 : PySem.W.codeIn K cd35 "_law_refused" = true) (k35 : PySem.W.keepIn K (.ref f35) = true)
    (a36 : PySem.W.nsIn K mainGlobals "law" = some (some (.ref f36))) (l36 : K.lookup f36 = some ⟨oc36, od36, .func (PySem.W.fnOf "law" "law" (defArgs s_law) (defBody s_law) (defScope s_law) .none kV36 dc36 pm36 an36 cd36 ct36), sl36⟩) (c36 : PySem.W.codeIn K cd36 "law" = true) (k36 : PySem.W.keepIn K (.ref f36) = true)
    (ns_HailError : PySem.W.nsIn K mainGlobals "HailError" = some (some (.ref g1)))
    (ns_NoWeb : PySem.W.nsIn K mainGlobals "NoWeb" = some (some (.ref g2)))
    (ns_NoLooks : PySem.W.nsIn K mainGlobals "NoLooks" = some (some (.ref g4)))
    (ns_NoTree : PySem.W.nsIn K mainGlobals "NoTree" = some (some (.ref g5)))
    (ns_NotOne : PySem.W.nsIn K mainGlobals "NotOne" = some (some (.ref g6)))
    (ns_NoSuch : PySem.W.nsIn K mainGlobals "NoSuch" = some (some (.ref g7)))
    (xc_NoTree : PySem.W.excIn K g5 [.type "ValueError", .type "Exception", .type "BaseException", .type "object"] "ValueError.__new__" = true)
    (kp_NoTree : PySem.W.keepIn K (.ref g5) = true)
    (b_NoTree : PySem.W.subIn K (.ref g5) (.type "BaseException") = some true)
    (t_NoTree : PySem.W.typeIn K (.ref g5) = some (.type "type"))
    (hg_NoTree : PySem.W.findIn K (.ref g5) "__getattribute__" = some (some (.builtin "BaseException.__getattribute__")))
    (hk_NoTree : PySem.W.findIn K (.ref g5) "__getattr__" = some none)
    (hd_NoTree : PySem.W.hasDictIn K g5 = true)
    (ha_NoTree : PySem.W.findIn K (.ref g5) "__class__" = some (some (.builtin "object.__class__")))
    (hm_NoTree : PySem.W.mroIn K g5 (.type "object") = some true)
    (eh_NoTree : PySem.W.subIn K (.ref g5) (.ref g1) = some true)
    (ks_NoTree_NoLooks : PySem.W.subIn K (.ref g5) (.ref g4) = some false)
    (ne_NoTree_NoLooks : (Value.ref g5 == Value.ref g4) = false)
    (ks_NoTree_NoSuch : PySem.W.subIn K (.ref g5) (.ref g7) = some false)
    (ne_NoTree_NoSuch : (Value.ref g5 == Value.ref g7) = false)
    (ks_NoTree_NoTree : PySem.W.subIn K (.ref g5) (.ref g5) = some true)
    (ks_NoTree_NoWeb : PySem.W.subIn K (.ref g5) (.ref g2) = some false)
    (ne_NoTree_NoWeb : (Value.ref g5 == Value.ref g2) = false)
    (ks_NoTree_NotOne : PySem.W.subIn K (.ref g5) (.ref g6) = some false)
    (ne_NoTree_NotOne : (Value.ref g5 == Value.ref g6) = false)
    (ks_NoTree_ValueError : PySem.W.subIn K (.ref g5) (.type "ValueError") = some true)
    (ic_NoLooks : PySem.W.isClsIn K g4 = true)
    (tc_NoLooks : PySem.W.typeIn K (.ref g4) = some (.type "type"))
    (ic_NoSuch : PySem.W.isClsIn K g7 = true)
    (tc_NoSuch : PySem.W.typeIn K (.ref g7) = some (.type "type"))
    (ic_NoTree : PySem.W.isClsIn K g5 = true)
    (tc_NoTree : PySem.W.typeIn K (.ref g5) = some (.type "type"))
    (ic_NoWeb : PySem.W.isClsIn K g2 = true)
    (tc_NoWeb : PySem.W.typeIn K (.ref g2) = some (.type "type"))
    (ic_NotOne : PySem.W.isClsIn K g6 = true)
    (tc_NotOne : PySem.W.typeIn K (.ref g6) = some (.type "type"))
    (hb_HailError : PySem.W.subIn K (.ref g1) (.type "BaseException") = some true)
    (hh_HailError : PySem.W.hasDictIn K g1 = true)
    (ht_HailError : PySem.W.typeIn K (.ref g1) = some (.type "type"))
    (hn_ : PySem.W.specialIn K (.builtin "object.__class__") "__get__" = some (some (.builtin "getset_descriptor.__get__")))
    (ht_ : PySem.W.takesIn K (.builtin "object.__class__") = some true)
    (z_ValueError : PySem.W.nsIn K mainGlobals "ValueError" = some none)
    (z_abs : PySem.W.nsIn K mainGlobals "abs" = some none)
    (z_all : PySem.W.nsIn K mainGlobals "all" = some none)
    (z_enumerate : PySem.W.nsIn K mainGlobals "enumerate" = some none)
    (z_isinstance : PySem.W.nsIn K mainGlobals "isinstance" = some none)
    (z_len : PySem.W.nsIn K mainGlobals "len" = some none)
    (z_list : PySem.W.nsIn K mainGlobals "list" = some none)
    (z_max : PySem.W.nsIn K mainGlobals "max" = some none)
    (z_min : PySem.W.nsIn K mainGlobals "min" = some none)
    (z_range : PySem.W.nsIn K mainGlobals "range" = some none)
    (z_sorted : PySem.W.nsIn K mainGlobals "sorted" = some none)
    (z_tuple : PySem.W.nsIn K mainGlobals "tuple" = some none) :
    ∃ fd : FuncData, (∀ (s : Shared) (v : Value), BindsTo s fd ⟨[v], []⟩ [("script", v)]) ∧ ∀ base : Heap, K.In base → base.Ns mainGlobals mg → FnOk l.prog w K mg base CX0 5 fa fd ["script"] (sp_law K) := by
  have e := hfa.symm.trans (PySem.W.mg_of X G a36)
  cases e
  let A : Nat → Addr := fun i => match i with | 13 => f13 | 15 => f15 | 23 => f23 | 24 => f24 | 25 => f25 | 27 => f27 | 29 => f29 | 30 => f30 | 31 => f31 | 32 => f32 | 33 => f33 | 34 => f34 | 35 => f35 | 36 => fa | 1 => g1 | 2 => g2 | 4 => g4 | 5 => g5 | 6 => g6 | 7 => g7 | _ => fa
  let FD : Nat → FuncData := fun i => match i with | 13 => (PySem.W.fnOf "is_tree" "is_tree" (defArgs s_is_tree) (defBody s_is_tree) (defScope s_is_tree) .none kV13 dc13 pm13 an13 cd13 ct13) | 15 => (PySem.W.fnOf "grown_asked" "grown_asked" (defArgs s_grown_asked) (defBody s_grown_asked) (defScope s_grown_asked) .none kV15 dc15 pm15 an15 cd15 ct15) | 23 => (PySem.W.fnOf "tree_fewest" "tree_fewest" (defArgs s_tree_fewest) (defBody s_tree_fewest) (defScope s_tree_fewest) .none kV23 dc23 pm23 an23 cd23 ct23) | 24 => (PySem.W.fnOf "tree_choices" "tree_choices" (defArgs s_tree_choices) (defBody s_tree_choices) (defScope s_tree_choices) .none kV24 dc24 pm24 an24 cd24 ct24) | 25 => (PySem.W.fnOf "choice_by" "choice_by" (defArgs s_choice_by) (defBody s_choice_by) (defScope s_choice_by) .none kV25 dc25 pm25 an25 cd25 ct25) | 27 => (PySem.W.fnOf "choice_number" "choice_number" (defArgs s_choice_number) (defBody s_choice_number) (defScope s_choice_number) .none kV27 dc27 pm27 an27 cd27 ct27) | 29 => (PySem.W.fnOf "_law_cells" "_law_cells" (defArgs s_law_cells) (defBody s_law_cells) (defScope s_law_cells) .none kV29 dc29 pm29 an29 cd29 ct29) | 30 => (PySem.W.fnOf "_law_pool" "_law_pool" (defArgs s_law_pool) (defBody s_law_pool) (defScope s_law_pool) .none kV30 dc30 pm30 an30 cd30 ct30) | 31 => (PySem.W.fnOf "_law_take" "_law_take" (defArgs s_law_take) (defBody s_law_take) (defScope s_law_take) .none kV31 dc31 pm31 an31 cd31 ct31) | 32 => (PySem.W.fnOf "_law_some" "_law_some" (defArgs s_law_some) (defBody s_law_some) (defScope s_law_some) .none kV32 dc32 pm32 an32 cd32 ct32) | 33 => (PySem.W.fnOf "_law_named" "_law_named" (defArgs s_law_named) (defBody s_law_named) (defScope s_law_named) .none kV33 dc33 pm33 an33 cd33 ct33) | 34 => (PySem.W.fnOf "_law_ringed" "_law_ringed" (defArgs s_law_ringed) (defBody s_law_ringed) (defScope s_law_ringed) .none kV34 dc34 pm34 an34 cd34 ct34) | 35 => (PySem.W.fnOf "_law_refused" "_law_refused" (defArgs s_law_refused) (defBody s_law_refused) (defScope s_law_refused) .none kV35 dc35 pm35 an35 cd35 ct35) | 36 => (PySem.W.fnOf "law" "law" (defArgs s_law) (defBody s_law) (defScope s_law) .none kV36 dc36 pm36 an36 cd36 ct36) | _ => (PySem.W.fnOf "law" "law" (defArgs s_law) (defBody s_law) (defScope s_law) .none kV36 dc36 pm36 an36 cd36 ct36)
  have T : Tx K mg A FD := {
    d13 := dn_mk (st := s_is_tree) (ps := ["web"]) X G a13 l13 c13 k13 fun _ _ _ _ _ _ us hl => match us, hl with | [_], _ => rfl
    d15 := dn_mk (st := s_grown_asked) (ps := ["web"]) X G a15 l15 c15 k15 fun _ _ _ _ _ _ us hl => match us, hl with | [_], _ => rfl
    d23 := dn_mk (st := s_tree_fewest) (ps := ["web", "kind"]) X G a23 l23 c23 k23 fun _ _ _ _ _ _ us hl => match us, hl with | [_, _], _ => rfl
    d24 := dn_mk (st := s_tree_choices) (ps := ["web", "kind"]) X G a24 l24 c24 k24 fun _ _ _ _ _ _ us hl => match us, hl with | [_, _], _ => rfl
    d25 := dn_mk (st := s_choice_by) (ps := ["web", "kind", "number"]) X G a25 l25 c25 k25 fun _ _ _ _ _ _ us hl => match us, hl with | [_, _, _], _ => rfl
    d27 := dn_mk (st := s_choice_number) (ps := ["web", "kind", "looks"]) X G a27 l27 c27 k27 fun _ _ _ _ _ _ us hl => match us, hl with | [_, _, _], _ => rfl
    d29 := dn_mk (st := s_law_cells) (ps := ["script", "many"]) X G a29 l29 c29 k29 fun _ _ _ _ _ _ us hl => match us, hl with | [_, _], _ => rfl
    d30 := dn_mk (st := s_law_pool) (ps := ["cells", "k"]) X G a30 l30 c30 k30 fun _ _ _ _ _ _ us hl => match us, hl with | [_, _], _ => rfl
    d31 := dn_mk (st := s_law_take) (ps := ["pool", "many"]) X G a31 l31 c31 k31 fun _ _ _ _ _ _ us hl => match us, hl with | [_, _], _ => rfl
    d32 := dn_mk (st := s_law_some) (ps := ["pool", "menu", "many"]) X G a32 l32 c32 k32 fun _ _ _ _ _ _ us hl => match us, hl with | [_, _, _], _ => rfl
    d33 := dn_mk (st := s_law_named) (ps := ["pool", "many", "ties"]) X G a33 l33 c33 k33 fun _ _ _ _ _ _ us hl => match us, hl with | [_, _, _], _ => rfl
    d34 := dn_mk (st := s_law_ringed) (ps := ["pool"]) X G a34 l34 c34 k34 fun _ _ _ _ _ _ us hl => match us, hl with | [_], _ => rfl
    d35 := dn_mk (st := s_law_refused) (ps := ["way", "web", "kind", "number", "looks"]) X G a35 l35 c35 k35 fun _ _ _ _ _ _ us hl => match us, hl with | [_, _, _, _, _], _ => rfl
    d36 := dn_mk (st := s_law) (ps := ["script"]) X G a36 l36 c36 k36 fun _ _ _ _ _ _ us hl => match us, hl with | [_], _ => rfl
    n_ValueError := PySem.W.mg_none_of X G z_ValueError
    n_abs := PySem.W.mg_none_of X G z_abs
    n_all := PySem.W.mg_none_of X G z_all
    n_enumerate := PySem.W.mg_none_of X G z_enumerate
    n_isinstance := PySem.W.mg_none_of X G z_isinstance
    n_len := PySem.W.mg_none_of X G z_len
    n_list := PySem.W.mg_none_of X G z_list
    n_max := PySem.W.mg_none_of X G z_max
    n_min := PySem.W.mg_none_of X G z_min
    n_range := PySem.W.mg_none_of X G z_range
    n_sorted := PySem.W.mg_none_of X G z_sorted
    n_tuple := PySem.W.mg_none_of X G z_tuple
    x_NoTree := ⟨ns_NoTree, PySem.W.mg_of X G ns_NoTree, xc_NoTree, kp_NoTree, b_NoTree, t_NoTree, ⟨hg_NoTree, hk_NoTree, b_NoTree, hd_NoTree, ha_NoTree, hn_, ht_, hm_NoTree⟩⟩
    g_HailError := PySem.W.mg_of X G ns_HailError
    g_NoLooks := PySem.W.mg_of X G ns_NoLooks
    g_NoSuch := PySem.W.mg_of X G ns_NoSuch
    g_NoTree := PySem.W.mg_of X G ns_NoTree
    g_NoWeb := PySem.W.mg_of X G ns_NoWeb
    g_NotOne := PySem.W.mg_of X G ns_NotOne
    eh_NoTree := PySem.W.exm_ref hb_HailError hh_HailError ht_HailError eh_NoTree
    kt_NoTree_NoLooks := kit_ref ic_NoLooks tc_NoLooks ks_NoTree_NoLooks (.inr ne_NoTree_NoLooks)
    kt_NoTree_NoSuch := kit_ref ic_NoSuch tc_NoSuch ks_NoTree_NoSuch (.inr ne_NoTree_NoSuch)
    kt_NoTree_NoTree := kit_ref ic_NoTree tc_NoTree ks_NoTree_NoTree (.inl rfl)
    kt_NoTree_NoWeb := kit_ref ic_NoWeb tc_NoWeb ks_NoTree_NoWeb (.inr ne_NoTree_NoWeb)
    kt_NoTree_NotOne := kit_ref ic_NotOne tc_NotOne ks_NoTree_NotOne (.inr ne_NoTree_NotOne)
    kt_NoTree_ValueError := kit_ty (by decide +kernel) ks_NoTree_ValueError }
  exact ⟨(PySem.W.fnOf "law" "law" (defArgs s_law) (defBody s_law) (defScope s_law) .none kV36 dc36 pm36 an36 cd36 ct36), fun s v => .of_eq rfl, fun base _ _ => ok_law (A := A) (FD := FD) T⟩
theorem walk {l : PySem.W.OpenLaw} {q : Program} {loose : List Str} {XP : (Str → Option Value) → Heap → Prop} {YP : World → Heap → Prop} {d : DefRec} {K : Params → PySem.W.Frag} (hn : l.most = some 63) (hdf : d.params.defaults = [])
    (hY : ∀ (w : World) (h : Heap), YP w h → (K w.params).In h)
    (F : ∀ (w : World) (mg : Str → Option Value) (fa : Addr) (h : Heap), (K w.params).In h → h.Ns mainGlobals mg → mg d.name = some (.ref fa) →
      ∃ fd : FuncData, (∀ (s : Shared) (u : Value), BindsTo s fd ⟨[u], []⟩ [("script", u)]) ∧ ∀ base : Heap, (K w.params).In base → base.Ns mainGlobals mg → FnOk l.prog w (K w.params) mg base CX0 5 fa fd ["script"] (sp_law (K w.params))) :
    PySem.W.WalkO q loose XP YP l.row.toRowW d [] (fun f vs => PySem.call f vs) :=
  L2.walk_of (n := 63) (k := 5) (x := "script") (CX := fun _ => CX0) (sp := fun w => sp_law (K w.params)) hn (by decide) hdf ⟨rfl, by decide, by decide⟩ hY F
    (fun _ H a ns hl _ hS => ⟨H, [], .ref a, ⟨ns⟩, rfl, ⟨Same.refl _, (fun _ z => nomatch z), List.Pairwise.nil, (fun _ z => nomatch z)⟩, ⟨a, rfl, hS⟩, by rw [law_true ns hl]; exact fun v F2 H2 w s r => r⟩) fun _ _ _ _ _ z => z
end G
open PySem PySem.W PyProof.Rows
set_option maxRecDepth 100000 in
set_option maxHeartbeats 0 in
theorem PySem.Challenge.cw_farhail_k29_choices_of_no_trees_holds : PySem.Challenge.rw_farhail_k29_choices_of_no_trees.Holds := by
  w_on; o_law; k_head; (case hw => w_witness2)
  k_fill
  refine G.walk (l := PySem.Challenge.rw_farhail_k29_choices_of_no_trees) rfl rfl (fun w h Y => PySem.W.kIn_of Y) ?F
  case F =>
    intro w mg fa h KX Gn hmg
    refine' G.all_mk KX Gn hmg ?a13 ?l13 ?c13 ?k13 ?a15 ?l15 ?c15 ?k15 ?a23 ?l23 ?c23 ?k23 ?a24 ?l24 ?c24 ?k24 ?a25 ?l25 ?c25 ?k25 ?a27 ?l27 ?c27 ?k27 ?a29 ?l29 ?c29 ?k29 ?a30 ?l30 ?c30 ?k30 ?a31 ?l31 ?c31 ?k31 ?a32 ?l32 ?c32 ?k32 ?a33 ?l33 ?c33 ?k33 ?a34 ?l34 ?c34 ?k34 ?a35 ?l35 ?c35 ?k35 ?a36 ?l36 ?c36 ?k36 ?ns_HailError ?ns_NoWeb ?ns_NoLooks ?ns_NoTree ?ns_NotOne ?ns_NoSuch ?xc_NoTree ?kp_NoTree ?b_NoTree ?t_NoTree ?hg_NoTree ?hk_NoTree ?hd_NoTree ?ha_NoTree ?hm_NoTree ?eh_NoTree ?ks_NoTree_NoLooks ?ne_NoTree_NoLooks ?ks_NoTree_NoSuch ?ne_NoTree_NoSuch ?ks_NoTree_NoTree ?ks_NoTree_NoWeb ?ne_NoTree_NoWeb ?ks_NoTree_NotOne ?ne_NoTree_NotOne ?ks_NoTree_ValueError ?ic_NoLooks ?tc_NoLooks ?ic_NoSuch ?tc_NoSuch ?ic_NoTree ?tc_NoTree ?ic_NoWeb ?tc_NoWeb ?ic_NotOne ?tc_NotOne ?hb_HailError ?hh_HailError ?ht_HailError ?hn_ ?ht_ ?z_ValueError ?z_abs ?z_all ?z_enumerate ?z_isinstance ?z_len ?z_list ?z_max ?z_min ?z_range ?z_sorted ?z_tuple
    (case a13 => k_is); (case l13 => k_is); (case c13 => k_is); (case k13 => k_is)
    (case a15 => k_is); (case l15 => k_is); (case c15 => k_is); (case k15 => k_is)
    (case a23 => k_is); (case l23 => k_is); (case c23 => k_is); (case k23 => k_is)
    (case a24 => k_is); (case l24 => k_is); (case c24 => k_is); (case k24 => k_is)
    (case a25 => k_is); (case l25 => k_is); (case c25 => k_is); (case k25 => k_is)
    (case a27 => k_is); (case l27 => k_is); (case c27 => k_is); (case k27 => k_is)
    (case a29 => k_is); (case l29 => k_is); (case c29 => k_is); (case k29 => k_is)
    (case a30 => k_is); (case l30 => k_is); (case c30 => k_is); (case k30 => k_is)
    (case a31 => k_is); (case l31 => k_is); (case c31 => k_is); (case k31 => k_is)
    (case a32 => k_is); (case l32 => k_is); (case c32 => k_is); (case k32 => k_is)
    (case a33 => k_is); (case l33 => k_is); (case c33 => k_is); (case k33 => k_is)
    (case a34 => k_is); (case l34 => k_is); (case c34 => k_is); (case k34 => k_is)
    (case a35 => k_is); (case l35 => k_is); (case c35 => k_is); (case k35 => k_is)
    (case a36 => k_is); (case l36 => k_is); (case c36 => k_is); (case k36 => k_is)
    (case ns_HailError => k_is)
    (case ns_NoWeb => k_is)
    (case ns_NoLooks => k_is)
    (case ns_NoTree => k_is)
    (case ns_NotOne => k_is)
    (case ns_NoSuch => k_is)
    (case xc_NoTree => k_exc)
    (case kp_NoTree => k_is)
    (case b_NoTree => k_is)
    (case t_NoTree => k_is)
    (case hg_NoTree => k_is)
    (case hk_NoTree => k_is)
    (case hd_NoTree => k_is)
    (case ha_NoTree => k_is)
    (case hm_NoTree => k_is)
    (case eh_NoTree => first | rfl | k_is)
    (case ks_NoTree_NoLooks => first | rfl | k_is)
    (case ne_NoTree_NoLooks => first | rfl | decide +kernel)
    (case ks_NoTree_NoSuch => first | rfl | k_is)
    (case ne_NoTree_NoSuch => first | rfl | decide +kernel)
    (case ks_NoTree_NoTree => first | rfl | k_is)
    (case ks_NoTree_NoWeb => first | rfl | k_is)
    (case ne_NoTree_NoWeb => first | rfl | decide +kernel)
    (case ks_NoTree_NotOne => first | rfl | k_is)
    (case ne_NoTree_NotOne => first | rfl | decide +kernel)
    (case ks_NoTree_ValueError => first | rfl | k_is)
    (case ic_NoLooks => k_is)
    (case tc_NoLooks => k_is)
    (case ic_NoSuch => k_is)
    (case tc_NoSuch => k_is)
    (case ic_NoTree => k_is)
    (case tc_NoTree => k_is)
    (case ic_NoWeb => k_is)
    (case tc_NoWeb => k_is)
    (case ic_NotOne => k_is)
    (case tc_NotOne => k_is)
    (case hb_HailError => k_is)
    (case hh_HailError => k_is)
    (case ht_HailError => k_is)
    (case hn_ => k_is)
    (case ht_ => k_is)
    (case z_ValueError => k_is)
    (case z_abs => k_is)
    (case z_all => k_is)
    (case z_enumerate => k_is)
    (case z_isinstance => k_is)
    (case z_len => k_is)
    (case z_list => k_is)
    (case z_max => k_is)
    (case z_min => k_is)
    (case z_range => k_is)
    (case z_sorted => k_is)
    (case z_tuple => k_is)
#print axioms PySem.Challenge.cw_farhail_k29_choices_of_no_trees_holds
