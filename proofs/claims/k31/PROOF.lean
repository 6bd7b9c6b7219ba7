import PyProof.Rows.All
import Wide.All
import OpenK.AllK
import Wide.FinOn
import HandS.ForMost
import HandS.Walk
import HandS.Deep
import HandS.SortInts
import HandS.Flow
import HandS.IsInst
import PyProof.P3In
import HandS.TupSets
import PySem.Challenge.RW_farhail_k31_rings_known_at_once
set_option Elab.async false
set_option linter.all false
set_option maxRecDepth 100000
set_option maxHeartbeats 4000000
/-! Z0: results with refusals, data as it stands in a heap, the heap in a frozen part and cells of one's own -/
namespace Z
open PySem L2

abbrev Fg := PySem.W.Frag

/-! ### results -/
structure Exn where
  cls : Nat
  arg : Int
  deriving DecidableEq

inductive R (α : Type) where
  | ok (a : α)
  | exc (e : Exn)
  | bad

def R.bind {α β : Type} (m : R α) (f : α → R β) : R β :=
  match m with
  | .ok a => f a
  | .exc e => .exc e
  | .bad => .bad
instance : Monad R where
  pure := R.ok
  bind := R.bind
section
variable {α β γ : Type}
theorem ok_bind (a : α) (f : α → R β) : (R.ok a >>= f) = f a := rfl
theorem pure_bind' (a : α) (f : α → R β) : ((pure a : R α) >>= f) = f a := rfl
theorem exc_bind (e : Exn) (f : α → R β) : ((R.exc e : R α) >>= f) = R.exc e := rfl
theorem bad_bind (f : α → R β) : ((R.bad : R α) >>= f) = R.bad := rfl
theorem pure_ok (a : α) : (pure a : R α) = R.ok a := rfl
theorem bind_bind (m : R α) (f : α → R β) (g : β → R γ) : ((m >>= f) >>= g) = (m >>= fun a => f a >>= g) := by
  cases m <;> rfl
theorem bind_ok_iff {m : R α} {f : α → R β} {b : β} : (m >>= f) = R.ok b ↔ ∃ a, m = R.ok a ∧ f a = R.ok b := by
  cases m with
  | ok a => exact ⟨fun h => ⟨a, rfl, h⟩, fun ⟨_, h1, h2⟩ => by cases h1; exact h2⟩
  | exc e => exact ⟨fun h => (nomatch (show R.exc e = R.ok b from h)), fun ⟨_, h1, _⟩ => nomatch h1⟩
  | bad => exact ⟨fun h => (nomatch (show R.bad = R.ok b from h)), fun ⟨_, h1, _⟩ => nomatch h1⟩
def grd (b : Bool) : R Unit := if b = true then .ok () else .bad
theorem grd_t {b : Bool} (h : b = true) : grd b = R.ok () := by rw [h]; rfl
def ofO (o : Option α) : R α :=
  match o with
  | some a => .ok a
  | none => .bad
theorem ofO_some (a : α) : ofO (some a) = R.ok a := rfl
/-- the item at an index of any sign -/
def getI (xs : List α) (i : Int) : R α := ofO (atI xs i)
/-- the list with another item at an index -/
def setI (xs : List α) (i : Int) (x : α) : R (List α) :=
  match ixN xs.length i with
  | some j => .ok (xs.set j x)
  | none => .bad
/-- a list of at most a thousand items grows by one -/
def app (xs : List α) (x : α) : R (List α) := if xs.length < 100000 then .ok (xs ++ [x]) else .bad
def extend (xs ys : List α) : R (List α) := if xs.length + ys.length < 100000 then .ok (xs ++ ys) else .bad
def mulI (i j : Int) : R Int := if (-(2 ^ 64) < i ∧ i < 2 ^ 64) ∨ (-(2 ^ 64) < j ∧ j < 2 ^ 64) then .ok (i * j) else .bad
def modI (i j : Int) : R Int := if 0 < j then .ok (i % j) else .bad
def divI (i j : Int) : R Int := if 0 < j ∧ j < 1073741824 then .ok (i / j) else .bad
def powI (i j : Int) : R Int := if 0 ≤ j ∧ j ≤ 1000000 ∧ i.natAbs < 2 ^ 64 then .ok (i ^ j.toNat) else .bad
/-- the ints from i on below j -/
def rng (i j : Int) : List Int := (List.range (j - i).toNat).map fun (k : Nat) => i + (k : Int)
def rngI (i j : Int) : R (List Int) := if -(2 ^ 62) ≤ i ∧ i < 2 ^ 62 ∧ -(2 ^ 62) ≤ j ∧ j < 2 ^ 62 then .ok (rng i j) else .bad
/-- items for items -/
def mapR (f : α → R β) : List α → R (List β)
  | [] => .ok []
  | x :: xs => do
    let y ← f x
    let ys ← mapR f xs
    pure (y :: ys)
/-- a fold whose turn may leave -/
def foldR (f : β → α → R β) : β → List α → R β
  | s, [] => .ok s
  | s, x :: xs => f s x >>= fun s' => foldR f s' xs
/-- a fold whose turn may end the whole with a value (inl), or the loop alone (inr inl) -/
def foldX {ρ : Type} (f : β → α → R (Sum ρ (Bool × β))) : β → List α → R (Sum ρ β)
  | s, [] => .ok (.inr s)
  | s, x :: xs => f s x >>= fun r =>
    match r with
    | .inl z => .ok (.inl z)
    | .inr (true, s') => foldX f s' xs
    | .inr (false, s') => .ok (.inr s')
/-- what holds of a result -/
def Post (m : R α) (P : α → Prop) (E : Exn → Prop) : Prop :=
  match m with
  | .ok a => P a
  | .exc e => E e
  | .bad => False
variable {P P' : α → Prop} {Q : β → Prop} {E E' : Exn → Prop}
theorem Post.mono {m : R α} (h : Post m P E) (hP : ∀ a, P a → P' a) (hE : ∀ e, E e → E' e) : Post m P' E' := by
  cases m with
  | ok a => exact hP a h
  | exc e => exact hE e h
  | bad => exact h
theorem post_bind {m : R α} {f : α → R β} (h : Post (m >>= f) Q E) : Post m (fun a => Post (f a) Q E) E := by
  cases m <;> exact h
theorem post_ok {a : α} (h : Post (R.ok a) P E) : P a := h
theorem pb_ok {a : α} {f : α → R β} (h : Post (R.ok a >>= f) Q E) : Post (f a) Q E := h
theorem pb_pure {a : α} {f : α → R β} (h : Post ((pure a : R α) >>= f) Q E) : Post (f a) Q E := h
theorem pb_assoc {m : R α} {f : α → R β} {g : β → R γ} {Q : γ → Prop} (h : Post ((m >>= f) >>= g) Q E) : Post (m >>= fun a => f a >>= g) Q E := by
  rw [bind_bind] at h
  exact h
theorem pb_grd {b : Bool} {f : Unit → R β} (h : Post (grd b >>= f) Q E) : b = true ∧ Post (f ()) Q E := by
  cases b with
  | true => exact ⟨rfl, h⟩
  | false => exact (show False from h).elim
theorem pb_ofO {o : Option α} {f : α → R β} (h : Post (ofO o >>= f) Q E) : ∃ a, o = some a ∧ Post (f a) Q E := by
  cases o with
  | some a => exact ⟨a, rfl, h⟩
  | none => exact (show False from h).elim
theorem pb_get {xs : List α} {i : Int} {f : α → R β} (h : Post (getI xs i >>= f) Q E) : ∃ a, atI xs i = some a ∧ Post (f a) Q E := pb_ofO h
theorem pb_set {xs : List α} {i : Int} {x : α} {f : List α → R β} (h : Post (setI xs i x >>= f) Q E) : ∃ j, ixN xs.length i = some j ∧ Post (f (xs.set j x)) Q E := by
  unfold setI at h
  cases e : ixN xs.length i with
  | some j => rw [e] at h; exact ⟨j, rfl, h⟩
  | none => rw [e] at h; exact (show False from h).elim
theorem pb_if {c : Prop} [Decidable c] {a : α} {f : α → R β} (h : Post ((if c then R.ok a else R.bad) >>= f) Q E) : c ∧ Post (f a) Q E := by
  by_cases hc : c
  · rw [if_pos hc] at h
    exact ⟨hc, h⟩
  · rw [if_neg hc] at h
    exact (show False from h).elim
theorem line5 : 100000 ≤ sizeLine := by decide
theorem pb_app {xs : List α} {x : α} {f : List α → R β} (h : Post (app xs x >>= f) Q E) : xs.length < sizeLine ∧ Post (f (xs ++ [x])) Q E :=
  let ⟨a, b⟩ := pb_if h
  ⟨Nat.lt_of_lt_of_le a line5, b⟩
theorem pb_extend {xs ys : List α} {f : List α → R β} (h : Post (extend xs ys >>= f) Q E) : xs.length + ys.length ≤ sizeLine ∧ Post (f (xs ++ ys)) Q E :=
  let ⟨a, b⟩ := pb_if h
  ⟨Nat.le_of_lt (Nat.lt_of_lt_of_le a line5), b⟩
theorem pb_mul {i j : Int} {f : Int → R β} (h : Post (mulI i j >>= f) Q E) : CMul i j ∧ Post (f (i * j)) Q E :=
  let ⟨a, b⟩ := pb_if (c := (-(2 ^ 64) < i ∧ i < 2 ^ 64) ∨ (-(2 ^ 64) < j ∧ j < 2 ^ 64)) h
  ⟨a, b⟩
theorem pb_mod {i j : Int} {f : Int → R β} (h : Post (modI i j >>= f) Q E) : 0 < j ∧ Post (f (i % j)) Q E := pb_if h
theorem pb_div {i j : Int} {f : Int → R β} (h : Post (divI i j >>= f) Q E) : CDiv i j ∧ Post (f (i / j)) Q E :=
  let ⟨a, b⟩ := pb_if (c := 0 < j ∧ j < 1073741824) h
  ⟨a, b⟩
theorem pb_pow {i j : Int} {f : Int → R β} (h : Post (powI i j >>= f) Q E) : CPow i j ∧ Post (f (i ^ j.toNat)) Q E :=
  let ⟨a, b⟩ := pb_if (c := 0 ≤ j ∧ j ≤ 1000000 ∧ i.natAbs < 2 ^ 64) h
  ⟨a, b⟩
theorem pb_rng {i j : Int} {f : List Int → R β} (h : Post (rngI i j >>= f) Q E) : (-(2 ^ 62) ≤ i ∧ i < 2 ^ 62 ∧ -(2 ^ 62) ≤ j ∧ j < 2 ^ 62) ∧ Post (f (rng i j)) Q E := pb_if h
theorem post_ite {c : Bool} {m n : R α} {A B : Prop} (h : Post (if c = true then m else n) P E) (ht : c = true → Post m P E → A) (hf : c = false → Post n P E → B) : if c = true then A else B := by
  cases c with
  | true => exact ht rfl h
  | false => exact hf rfl h
theorem post_ite2 {c : Bool} {m n : R α} {A : Prop} (h : Post (if c = true then m else n) P E) (ht : c = true → Post m P E → A) (hf : c = false → Post n P E → A) : A := by
  cases c with
  | true => exact ht rfl h
  | false => exact hf rfl h
theorem pb_ite {c : Bool} {m n : R α} {f : α → R β} (h : Post ((if c = true then m else n) >>= f) Q E) : Post (if c = true then m >>= f else n >>= f) Q E := by
  cases c <;> exact h
theorem pb_foldR {f : γ → α → R γ} {s : γ} {x : α} {xs : List α} {g : γ → R β} (h : Post (foldR f s (x :: xs) >>= g) Q E) : Post (f s x >>= fun s' => foldR f s' xs >>= g) Q E := by
  have h' : Post ((f s x >>= fun s' => foldR f s' xs) >>= g) Q E := h
  rw [bind_bind] at h'
  exact h'
end

/-! ### lists of values and what they stand for -/
inductive A2 {α : Type} (r : V → α → Prop) : List V → List α → Prop
  | nil : A2 r [] []
  | cons {v : V} {x : α} {vs : List V} {xs : List α} : r v x → A2 r vs xs → A2 r (v :: vs) (x :: xs)
section
variable {α : Type} {r r' : V → α → Prop} {vs us : List V} {xs ys : List α} {v : V} {x : α}
theorem A2.length : ∀ {vs : List V} {xs : List α}, A2 r vs xs → vs.length = xs.length
  | _, _, .nil => rfl
  | _, _, .cons _ t => by rw [List.length_cons, List.length_cons, A2.length t]
theorem A2.imp (f : ∀ v x, r v x → r' v x) : ∀ {vs : List V} {xs : List α}, A2 r vs xs → A2 r' vs xs
  | _, _, .nil => .nil
  | _, _, .cons h t => .cons (f _ _ h) (A2.imp f t)
theorem A2.append : ∀ {vs us : List V} {xs ys : List α}, A2 r vs xs → A2 r us ys → A2 r (vs ++ us) (xs ++ ys)
  | _, _, _, _, .nil, h => h
  | _, _, _, _, .cons a t, h => .cons a (A2.append t h)
theorem A2.snoc (h : A2 r vs xs) (a : r v x) : A2 r (vs ++ [v]) (xs ++ [x]) := h.append (.cons a .nil)
theorem A2.get : ∀ {vs : List V} {xs : List α} {i : Nat} {x : α}, A2 r vs xs → xs[i]? = some x → ∃ v, vs[i]? = some v ∧ r v x
  | _, _, _, _, .nil, e => by simp at e
  | _, _, 0, _, .cons a _, e => by simp at e; subst e; exact ⟨_, rfl, a⟩
  | _, _, i + 1, x, .cons _ t, e => by
    obtain ⟨v, h1, h2⟩ := A2.get (i := i) (x := x) t (by simpa using e)
    exact ⟨v, by simpa using h1, h2⟩
theorem A2.getV : ∀ {vs : List V} {xs : List α} {i : Nat} {v : V}, A2 r vs xs → vs[i]? = some v → ∃ x, xs[i]? = some x ∧ r v x
  | _, _, _, _, .nil, e => by simp at e
  | _, _, 0, _, .cons a _, e => by simp at e; subst e; exact ⟨_, rfl, a⟩
  | _, _, i + 1, x, .cons _ t, e => by
    obtain ⟨v, h1, h2⟩ := A2.getV (i := i) (v := x) t (by simpa using e)
    exact ⟨v, by simpa using h1, h2⟩
theorem A2.at {i : Int} (h : A2 r vs xs) (e : atI xs i = some x) : ∃ v, atI vs i = some v ∧ r v x := by
  unfold atI at e ⊢
  rw [h.length]
  cases q : ixN xs.length i with
  | none => rw [q] at e; cases e
  | some j =>
    rw [q] at e
    exact h.get e
theorem A2.set (a : r v x) : ∀ {vs : List V} {xs : List α} (i : Nat), A2 r vs xs → A2 r (vs.set i v) (xs.set i x)
  | _, _, _, .nil => .nil
  | _, _, 0, .cons _ t => .cons a t
  | _, _, i + 1, .cons q t => .cons q (A2.set a i t)
theorem A2.take : ∀ {vs : List V} {xs : List α} (n : Nat), A2 r vs xs → A2 r (vs.take n) (xs.take n)
  | _, _, 0, _ => .nil
  | _, _, _ + 1, .nil => .nil
  | _, _, n + 1, .cons a t => .cons a (A2.take n t)
theorem A2.drop : ∀ {vs : List V} {xs : List α} (n : Nat), A2 r vs xs → A2 r (vs.drop n) (xs.drop n)
  | _, _, 0, h => h
  | _, _, _ + 1, .nil => .nil
  | _, _, n + 1, .cons _ t => A2.drop n t
theorem A2.reverse : ∀ {vs : List V} {xs : List α}, A2 r vs xs → A2 r vs.reverse xs.reverse
  | _, _, .nil => .nil
  | _, _, .cons a t => by
    rw [List.reverse_cons, List.reverse_cons]
    exact (A2.reverse t).snoc a
theorem A2.eraseIdx : ∀ {vs : List V} {xs : List α} (i : Nat), A2 r vs xs → A2 r (vs.eraseIdx i) (xs.eraseIdx i)
  | _, _, _, .nil => .nil
  | _, _, 0, .cons _ t => t
  | _, _, i + 1, .cons a t => .cons a (A2.eraseIdx i t)
theorem A2.dropLast : ∀ {vs : List V} {xs : List α}, A2 r vs xs → A2 r vs.dropLast xs.dropLast
  | _, _, .nil => .nil
  | _, _, .cons _ .nil => .nil
  | _, _, .cons a (.cons b t) => .cons a (A2.dropLast (.cons b t))
theorem A2.repl {n : Nat} (a : r v x) : A2 r (List.replicate n v) (List.replicate n x) := by
  induction n with
  | zero => exact .nil
  | succ n ih => exact .cons a ih
end

/-! ### data in a heap -/
theorem Same.seqT {K : Fg} {H H' : Hp} {a : Addr} {xs : List V} (e : Same H H') (h : SqT K H a xs) : SqT K H' a xs := by
  rcases h with (h | ⟨o, h⟩) | h
  · exact .inl (.inl (e _ _ h))
  · exact .inl (.inr ⟨o, e _ _ h⟩)
  · exact .inr h
class Rep (α : Type) where
  rep : Fg → Hp → V → α → Prop
  mono : ∀ {K : Fg} {H H' : Hp} {v : V} {x : α}, Same H H' → rep K H v x → rep K H' v x
open Rep (rep)
section
variable {α β : Type} [Rep α] [Rep β] {K : Fg} {H H' : Hp} {v : V}
theorem A2.mono {vs : List V} {xs : List α} (s : Same H H') (h : A2 (rep K H) vs xs) : A2 (rep K H') vs xs := h.imp fun _ _ => Rep.mono s
instance : Rep Int := ⟨fun _ _ v x => v = .int x, fun _ h => h⟩
instance : Rep Bool := ⟨fun _ _ v x => v = .bl x, fun _ h => h⟩
instance : Rep Unit := ⟨fun _ _ v _ => v = .non, fun _ h => h⟩
instance : Rep Str := ⟨fun _ _ v x => v = .str x, fun _ h => h⟩
instance repOpt : Rep (Option α) := ⟨fun K H v x => match x with
  | none => v = .non
  | some y => rep K H v y, fun {_ _ _ _ x} s h => by
    cases x with
    | none => exact h
    | some y => exact Rep.mono (α := α) s h⟩
instance repPair : Rep (α × β) := ⟨fun K H v x => ∃ a u w, v = .ref a ∧ H a = some (.tup [u, w]) ∧ rep K H u x.1 ∧ rep K H w x.2,
  fun s ⟨a, u, w, e, q, h1, h2⟩ => ⟨a, u, w, e, s _ _ q, Rep.mono s h1, Rep.mono s h2⟩⟩
instance repList : Rep (List α) := ⟨fun K H v xs => ∃ a vs, v = .ref a ∧ H a = some (.lst vs) ∧ A2 (rep K H) vs xs,
  fun s ⟨a, vs, e, q, h⟩ => ⟨a, vs, e, s _ _ q, h.mono s⟩⟩
/-- the script -/
structure Scr where
  l : List Int
  deriving DecidableEq
instance repScr : Rep Scr := ⟨fun K H v xs => ∃ a, v = .ref a ∧ SqL K H a (xs.l.map V.int), fun s ⟨a, e, q⟩ => ⟨a, e, s.seq q⟩⟩
/-- a tuple of any number of like things -/
structure Tup (α : Type) where
  l : List α
  deriving DecidableEq
instance repTup : Rep (Tup α) := ⟨fun K H v xs => ∃ a vs, v = .ref a ∧ H a = some (.tup vs) ∧ A2 (rep K H) vs xs.l,
  fun s ⟨a, vs, e, q, h⟩ => ⟨a, vs, e, s _ _ q, h.mono s⟩⟩
/-- a place, or a pair -/
inductive Thing where
  | pl (i : Int)
  | ti (a b : Int)
  deriving DecidableEq
instance repThing : Rep Thing := ⟨fun K H v x => match x with
  | .pl i => v = .int i
  | .ti a b => rep K H v (a, b), fun {_ _ _ _ x} s h => by
    cases x with
    | pl i => exact h
    | ti a b => exact Rep.mono (α := Int × Int) s h⟩
theorem A2.ints {vs : List V} {xs : List Int} (h : A2 (rep K H) vs xs) : vs = xs.map V.int := by
  induction h with
  | nil => rfl
  | cons a _ ih =>
    have a' : _ = V.int _ := a
    rw [a', ih]
    rfl
theorem A2.of_ints {xs : List Int} : A2 (rep K H) (xs.map V.int) xs := by
  induction xs with
  | nil => exact .nil
  | cons x xs ih => exact .cons rfl ih
theorem A2.bools {vs : List V} {xs : List Bool} (h : A2 (rep K H) vs xs) : vs = xs.map V.bl := by
  induction h with
  | nil => rfl
  | cons a _ ih =>
    have a' : _ = V.bl _ := a
    rw [a', ih]
    rfl
end

/-! ### the heap: F, frozen, is read alone; the cells os are one's own, not in F -/
structure W (F H : Hp) (os : List (Addr × HO)) : Prop where
  same : Same F H
  own : ∀ p ∈ os, H p.1 = some p.2 ∧ F p.1 = none
  nd : os.Pairwise fun p q => p.1 ≠ q.1
theorem same_new {H : Hp} {p : Addr} {o : HO} (h : H p = none) : Same H (upd H p o) := fun a u e => by
  rw [upd_ne (ne_of_none e h)]
  exact e
section
variable {F H : Hp} {os pre post : List (Addr × HO)} {a p : Addr} {o o' : HO}
theorem W.free (w : W F H os) (n : H p = none) : F p = none := w.same.free n
theorem W.get (w : W F H (pre ++ (a, o) :: post)) : H a = some o := (w.own (a, o) (List.mem_append_right _ List.mem_cons_self)).1
theorem W.no (w : W F H (pre ++ (a, o) :: post)) : F a = none := (w.own (a, o) (List.mem_append_right _ List.mem_cons_self)).2
theorem W.ne (w : W F H os) (n : H p = none) : ∀ q ∈ os, q.1 ≠ p := fun q hq e => by
  have h := (w.own q hq).1
  rw [e, n] at h
  cases h
/-- a new thing, never to be written -/
theorem W.frz (w : W F H os) (n : H p = none) : W (upd F p o) (upd H p o) os where
  same := fun b u e => by
    by_cases hb : b = p
    · subst hb
      rw [upd_same] at e ⊢
      exact e
    · rw [upd_ne hb] at e ⊢
      exact w.same b u e
  own := fun q hq => by
    have hne := w.ne n q hq
    rw [upd_ne hne, upd_ne hne]
    exact w.own q hq
  nd := w.nd
theorem W.frzS (w : W F H os) (n : H p = none) : Same F (upd F p o) := same_new (w.free n)
/-- a new cell of one's own -/
theorem W.new (w : W F H os) (n : H p = none) : W F (upd H p o) ((p, o) :: os) where
  same := w.same.trans (same_new n)
  own := fun q hq => by
    rcases List.mem_cons.mp hq with rfl | hq
    · exact ⟨upd_same, w.free n⟩
    · rw [upd_ne (w.ne n q hq)]
      exact w.own q hq
  nd := List.pairwise_cons.mpr ⟨fun q hq => fun e => w.ne n q hq e.symm, w.nd⟩
/-- a cell of one's own is written -/
theorem W.set (w : W F H (pre ++ (a, o) :: post)) : W F (upd H a o') (pre ++ (a, o') :: post) where
  same := fun b u e => by
    have hn := w.no
    rw [upd_ne (ne_of_none e hn)]
    exact w.same b u e
  own := fun q hq => by
    have nd := w.nd
    rw [List.pairwise_append] at nd
    obtain ⟨_, n2, n3⟩ := nd
    rw [List.pairwise_cons] at n2
    rcases List.mem_append.mp hq with hq | hq
    · have hne : q.1 ≠ a := n3 q hq (a, o) List.mem_cons_self
      rw [upd_ne hne]
      exact w.own q (List.mem_append_left _ hq)
    · rcases List.mem_cons.mp hq with rfl | hq
      · exact ⟨upd_same, w.no⟩
      · have hne : q.1 ≠ a := fun e => n2.1 q hq e.symm
        rw [upd_ne hne]
        exact w.own q (List.mem_append_right _ (List.mem_cons_of_mem _ hq))
  nd := by
    have nd := w.nd
    rw [List.pairwise_append] at nd ⊢
    obtain ⟨n1, n2, n3⟩ := nd
    rw [List.pairwise_cons] at n2 ⊢
    refine ⟨n1, ⟨n2.1, n2.2⟩, fun x hx y hy => ?_⟩
    rcases List.mem_cons.mp hy with rfl | hy
    · exact n3 x hx (a, o) List.mem_cons_self
    · exact n3 x hx y (List.mem_cons_of_mem _ hy)
/-- a cell is forgotten -/
theorem W.drop (w : W F H (pre ++ (a, o) :: post)) : W F H (pre ++ post) where
  same := w.same
  own := fun q hq => w.own q (by
    rcases List.mem_append.mp hq with h | h
    · exact List.mem_append_left _ h
    · exact List.mem_append_right _ (List.mem_cons_of_mem _ h))
  nd := by
    have nd := w.nd
    rw [List.pairwise_append] at nd ⊢
    obtain ⟨n1, n2, n3⟩ := nd
    rw [List.pairwise_cons] at n2
    exact ⟨n1, n2.2, fun x hx y hy => n3 x hx y (List.mem_cons_of_mem _ hy)⟩
/-- a cell of one's own is never written again -/
theorem W.freeze (w : W F H (pre ++ (a, o) :: post)) : W (upd F a o) H (pre ++ post) where
  same := fun b u e => by
    by_cases hb : b = a
    · subst hb
      rw [upd_same] at e
      rw [← e]
      exact w.get
    · rw [upd_ne hb] at e
      exact w.same b u e
  own := fun q hq => by
    have nd := w.nd
    rw [List.pairwise_append] at nd
    obtain ⟨n1, n2, n3⟩ := nd
    rw [List.pairwise_cons] at n2
    have hne : q.1 ≠ a := by
      rcases List.mem_append.mp hq with h | h
      · exact n3 q h (a, o) List.mem_cons_self
      · exact fun e => n2.1 q h e.symm
    have h := w.drop.own q hq
    rw [upd_ne hne]
    exact h
  nd := w.drop.nd
theorem W.freezeS (w : W F H (pre ++ (a, o) :: post)) : Same F (upd F a o) := same_new w.no
/-- a cell is told first -/
theorem W.front (w : W F H (pre ++ (a, o) :: post)) : W F H ((a, o) :: (pre ++ post)) where
  same := w.same
  own := fun x hx => w.own x (by
    rcases List.mem_cons.mp hx with rfl | h
    · exact List.mem_append_right _ List.mem_cons_self
    · rcases List.mem_append.mp h with h | h
      · exact List.mem_append_left _ h
      · exact List.mem_append_right _ (List.mem_cons_of_mem _ h))
  nd := by
    have nd := w.nd
    have nd' := w.drop.nd
    rw [List.pairwise_append] at nd
    obtain ⟨n1, n2, n3⟩ := nd
    rw [List.pairwise_cons] at n2
    refine List.pairwise_cons.mpr ⟨fun x hx => ?_, nd'⟩
    rcases List.mem_append.mp hx with h | h
    · exact fun e => n3 x h (a, o) List.mem_cons_self e.symm
    · exact n2.1 x h
theorem W.swap {q : Addr × HO} (w : W F H (pre ++ (a, o) :: q :: post)) : W F H (pre ++ q :: (a, o) :: post) where
  same := w.same
  own := fun x hx => w.own x (by
    rcases List.mem_append.mp hx with h | h
    · exact List.mem_append_left _ h
    · refine List.mem_append_right _ ?_
      rcases List.mem_cons.mp h with rfl | h
      · exact List.mem_cons_of_mem _ List.mem_cons_self
      · rcases List.mem_cons.mp h with rfl | h
        · exact List.mem_cons_self
        · exact List.mem_cons_of_mem _ (List.mem_cons_of_mem _ h))
  nd := by
    have nd := w.nd
    rw [List.pairwise_append] at nd ⊢
    obtain ⟨n1, n2, n3⟩ := nd
    rw [List.pairwise_cons, List.pairwise_cons] at n2
    rw [List.pairwise_cons, List.pairwise_cons]
    refine ⟨n1, ⟨fun x hx => ?_, fun x hx => n2.1 x (List.mem_cons_of_mem _ hx), n2.2.2⟩, fun x hx y hy => ?_⟩
    · rcases List.mem_cons.mp hx with rfl | hx
      · exact fun e => n2.1 q List.mem_cons_self e.symm
      · exact n2.2.1 x hx
    · rcases List.mem_cons.mp hy with rfl | hy
      · exact n3 x hx y (List.mem_cons_of_mem _ List.mem_cons_self)
      · rcases List.mem_cons.mp hy with rfl | hy
        · exact n3 x hx (a, o) List.mem_cons_self
        · exact n3 x hx y (List.mem_cons_of_mem _ (List.mem_cons_of_mem _ hy))
end

/-! ### what a call hands back -/
section
variable {α β : Type} [Rep α] [Rep β]
/-- a value of the frozen part -/
def Ret (K : Fg) (F : Hp) (os : List (Addr × HO)) (Q : VK) (y : α) : Prop := ∀ v F' H', W F' H' os → Same F F' → rep K F' v y → Q v H'
/-- a new list, the caller's own -/
def RetL (K : Fg) (F : Hp) (os : List (Addr × HO)) (Q : VK) (ys : List α) : Prop := ∀ p vs F' H', W F' H' ((p, .lst vs) :: os) → Same F F' → A2 (rep K F') vs ys → Q (.ref p) H'
/-- a value, and what the list at a holds now -/
def RetM (K : Fg) (F : Hp) (a : Addr) (os : List (Addr × HO)) (Q : VK) (y : α × List β) : Prop :=
  ∀ v vs F' H', W F' H' ((a, .lst vs) :: os) → Same F F' → rep K F' v y.1 → A2 (rep K F') vs y.2 → Q v H'
/-- a new list, the caller's own, and what the list at a holds now -/
def RetLM (K : Fg) (F : Hp) (a : Addr) (os : List (Addr × HO)) (Q : VK) (y : List α × List β) : Prop :=
  ∀ p us vs F' H', W F' H' ((p, .lst us) :: (a, .lst vs) :: os) → Same F F' → A2 (rep K F') us y.1 → A2 (rep K F') vs y.2 → Q (.ref p) H'
def noX : Exn → Prop := fun _ => False
end
end Z
/-! Z1: loops, comprehensions and joins against their mirrors; calls by typed data -/
namespace Z
open PySem L2
open Rep (rep)

/-! ### ways that join -/
section
variable {γ δ : Type} {m : R γ} {k : γ → R δ} {P : δ → Prop} {X : Exn → Prop}
theorem joinS {t u : TS} {D : Ends} {σ : St} {H : Hp} (hm : Post (m >>= k) P X) (J : γ → St → Hp → Prop)
    (h : ∀ (N : St → Hp → Prop) (P' : γ → Prop), (∀ g, P' g → ∀ σ' H', J g σ' H' → N σ' H') → Post m P' X → t { D with nx := N } σ H)
    (h2 : ∀ g σ' H', J g σ' H' → Post (k g) P X → u D σ' H') : tSeq t u D σ H :=
  h _ _ (fun g p σ' H' j => h2 g σ' H' j p) (post_bind hm)
theorem joinT {t : TT} {σ : St} {H : Hp} {Q : Bool → Hp → Prop} (hm : Post (m >>= k) P X) (J : γ → Bool → Hp → Prop)
    (h : ∀ (Q' : Bool → Hp → Prop) (P' : γ → Prop), (∀ g, P' g → ∀ c H', J g c H' → Q' c H') → Post m P' X → t σ H Q')
    (h2 : ∀ g c H', J g c H' → Post (k g) P X → Q c H') : t σ H Q :=
  h _ _ (fun g p c H' j => h2 g c H' j p) (post_bind hm)
theorem joinE {t : TE} {σ : St} {H : Hp} {Q : VK} (hm : Post (m >>= k) P X) (J : γ → V → Hp → Prop)
    (h : ∀ (Q' : VK) (P' : γ → Prop), (∀ g, P' g → ∀ c H', J g c H' → Q' c H') → Post m P' X → t σ H Q')
    (h2 : ∀ g c H', J g c H' → Post (k g) P X → Q c H') : t σ H Q :=
  h _ _ (fun g p c H' j => h2 g c H' j p) (post_bind hm)
/-- a test of a value that is told -/
theorem cutT {t : TT} {σ : St} {H : Hp} {Q : Bool → Hp → Prop} (J : Bool → Hp → Prop) (h : ∀ Q' : Bool → Hp → Prop, (∀ c H', J c H' → Q' c H') → t σ H Q') (h2 : ∀ c H', J c H' → Q c H') : t σ H Q := h _ h2
theorem cutE {t : TE} {σ : St} {H : Hp} {Q : VK} (J : V → Hp → Prop) (h : ∀ Q' : VK, (∀ c H', J c H' → Q' c H') → t σ H Q') (h2 : ∀ c H', J c H' → Q c H') : t σ H Q := h _ h2
theorem ifB {c : Bool} {A B : Prop} (h1 : c = true → A) (h2 : c = false → B) : if c = true then A else B := by
  cases c with
  | true => exact h1 rfl
  | false => exact h2 rfl
end

/-! ### what is walked, typed -/
structure TW (J : It) {β : Type} (items : List β) (G : Hp → Prop) (Y : β → Hp → V → Hp → Prop) : Prop where
  walk : Walk J items.length G (fun i H x H' => ∃ b, items[i]? = some b ∧ Y b H x H')
section
variable {K : Fg} {F : Hp} {a : Addr} {α β : Type} [Rep α] [Rep β] {vs us : List V} {xs : List α} {ys : List β}
theorem tw_list (h : A2 (rep K F) vs xs) : TW (Itl K a) xs (fun H => SqL K H a vs) (fun b H x H' => H' = H ∧ rep K F x b) := ⟨by
  rw [← h.length]
  exact walk_list.mono (fun _ g => g) fun i H x H' _ _ y => by
    obtain ⟨y1, y2⟩ := y
    obtain ⟨b, h1, h2⟩ := h.getV y2
    exact ⟨b, h1, y1, h2⟩⟩
theorem tw_tup (h : A2 (rep K F) vs xs) : TW (Itt K a) xs (fun H => SqT K H a vs) (fun b H x H' => H' = H ∧ rep K F x b) := ⟨by
  rw [← h.length]
  exact walk_tup.mono (fun _ g => g) fun i H x H' _ _ y => by
    obtain ⟨y1, y2⟩ := y
    obtain ⟨b, h1, h2⟩ := h.getV y2
    exact ⟨b, h1, y1, h2⟩⟩
theorem rng_length (i j : Int) : (rng i j).length = (j - i).toNat := by
  unfold rng
  rw [List.length_map, List.length_range]
theorem rng_get {i j : Int} {n : Nat} (h : n < (j - i).toNat) : (rng i j)[n]? = some (i + (n : Int)) := by
  unfold rng
  rw [List.getElem?_map, List.getElem?_range h]
  rfl
theorem tw_rng {i j : Int} : TW (Itr i (j - i).toNat) (rng i j) (fun _ => True) (fun b H x H' => H' = H ∧ x = .int b) := ⟨by
  rw [rng_length]
  exact walk_range.mono (fun _ g => g) fun n H x H' hn _ y => ⟨_, rng_get hn, y.1, y.2⟩⟩
theorem tw_rng0 {j : Int} : TW (Itr 0 j.toNat) (rng 0 j) (fun _ => True) (fun b H x H' => H' = H ∧ x = .int b) := by
  have h := tw_rng (i := 0) (j := j)
  rw [Int.sub_zero] at h
  exact h
/-- pairs of a place and the item there -/
def enum (xs : List α) : List (Int × α) := (rng 0 xs.length).zip xs
theorem enum_length (xs : List α) : (enum xs).length = xs.length := by
  unfold enum
  rw [List.length_zip, rng_length]
  omega
theorem enum_get {xs : List α} {i : Nat} {x : α} (h : xs[i]? = some x) : (enum xs)[i]? = some ((i : Int), x) := by
  have hl := (List.getElem?_eq_some_iff.mp h).1
  unfold enum
  rw [List.getElem?_zip_eq_some]
  refine ⟨?_, h⟩
  rw [rng_get (by omega)]
  simp
theorem tw_enum (h : A2 (rep K F) vs xs) : TW (Ite K a) (enum xs) (fun H => SqL K H a vs) (fun b H v H' => ∃ T x, v = .ref T ∧ H T = none ∧ H' = upd H T (.tup [.int b.1, x]) ∧ rep K F x b.2) := ⟨by
  rw [enum_length, ← h.length]
  exact walk_enum.mono (fun _ g => g) fun i H x H' _ _ y => by
    obtain ⟨T, u, w, e1, e2, e3, e4, e5⟩ := y
    obtain ⟨b, h1, h2⟩ := h.getV e5
    cases e4
    exact ⟨((i : Int), b), enum_get h1, T, w, e1, e2, e3, h2⟩⟩
theorem tw_zip {b : Addr} (h : A2 (rep K F) vs xs) (h' : A2 (rep K F) us ys) : TW (Itz K a b) (xs.zip ys) (fun H => SqL K H a vs ∧ SqL K H b us) (fun p H v H' => ∃ T x y, v = .ref T ∧ H T = none ∧ H' = upd H T (.tup [x, y]) ∧ rep K F x p.1 ∧ rep K F y p.2) := ⟨by
  rw [List.length_zip, ← h.length, ← h'.length]
  exact (walk_zip rfl).mono (fun _ g => g) fun i H x H' _ _ y => by
    obtain ⟨T, u, w, e1, e2, e3, e4, e5⟩ := y
    obtain ⟨c, h1, h2⟩ := h.getV e4
    obtain ⟨d, h3, h4⟩ := h'.getV e5
    refine ⟨(c, d), ?_, T, u, w, e1, e2, e3, h2, h4⟩
    rw [List.getElem?_zip_eq_some]
    exact ⟨h1, h3⟩⟩
end

/-! ### for -/
section
variable {J : It} {β γ δ ρ : Type} {items : List β} {G : Hp → Prop} {Y : β → Hp → V → Hp → Prop} {g : TG} {tb : TS} {D : Ends} {σ : St} {H : Hp} {P : δ → Prop} {X : Exn → Prop}
theorem drop_cons {l : List β} {i : Nat} {b : β} (h : l[i]? = some b) : l.drop i = b :: l.drop (i + 1) := by
  obtain ⟨hl, e⟩ := List.getElem?_eq_some_iff.mp h
  rw [List.drop_eq_getElem_cons hl, e]
theorem forS (tw : TW J items G Y) {body : γ → β → R γ} {s0 : γ} {k : γ → R δ} (hm : Post (foldR body s0 items >>= k) P X) (I : γ → St → Hp → Prop) (h0 : I s0 σ H) (hG : ∀ c σ H, I c σ H → G H)
    (hs : ∀ (b : β) (c : γ) (x : V) (σ : St) (H H' : Hp) (N : St → Hp → Prop) (P' : γ → Prop), I c σ H → Y b H x H' → (∀ c', P' c' → ∀ σ' H', I c' σ' H' → N σ' H') → Post (body c b) P' X → g x σ H' fun σ2 H2 => tb { D with nx := N, ct := N, bk := D.nx } σ2 H2)
    (hd : ∀ c σ H, I c σ H → Post (k c) P X → D.nx σ H) :
    ∃ W : Nat → Nat → St → Hp → Prop, (∃ m, W 0 m σ H) ∧ ∀ i m σ H, W i m σ H →
      (J.stop i H ∧ D.nx σ H) ∨ (J.go i H ∧ ∃ N : St → Hp → Prop, (∀ σ' H', N σ' H' → ∃ m', m' < m ∧ W (i + 1) m' σ' H') ∧ ∀ x H', J.yld i H x H' → g x σ H' fun σ2 H2 => tb { D with nx := N, ct := N, bk := D.nx } σ2 H2) := by
  refine for_it tw.walk (fun i σ H => ∃ c, I c σ H ∧ Post (foldR body c (items.drop i) >>= k) P X) ⟨s0, h0, hm⟩ (fun i σ H _ ⟨c, h, _⟩ => hG c σ H h) ?_ ?_
  · rintro i x σ H H' hi ⟨c, h, hm⟩ ⟨b, hb, y⟩
    rw [drop_cons hb] at hm
    exact hs b c x σ H H' _ _ h y (fun c' p' σ' H' h' => ⟨c', h', p'⟩) (post_bind (pb_foldR hm))
  · rintro σ H ⟨c, h, hm⟩
    rw [List.drop_length] at hm
    exact hd c σ H h hm
/-- a for that may end the whole, or itself -/
theorem forX (tw : TW J items G Y) {body : γ → β → R (Sum ρ (Bool × γ))} {s0 : γ} {k : Sum ρ γ → R δ} (hm : Post (foldX body s0 items >>= k) P X) (I : γ → St → Hp → Prop) (h0 : I s0 σ H) (hG : ∀ c σ H, I c σ H → G H)
    (hs : ∀ (b : β) (c : γ) (x : V) (σ : St) (H H' : Hp) (N B : St → Hp → Prop) (P' : Sum ρ (Bool × γ) → Prop), I c σ H → Y b H x H' → (∀ c', P' (.inr (true, c')) → ∀ σ' H', I c' σ' H' → N σ' H') → (∀ c', P' (.inr (false, c')) → ∀ σ' H', I c' σ' H' → B σ' H') →
      (∀ z, P' (.inl z) → Post (k (.inl z)) P X) → Post (body c b) P' X → g x σ H' fun σ2 H2 => tb { D with nx := N, ct := N, bk := B } σ2 H2)
    (hd : ∀ c σ H, I c σ H → Post (k (.inr c)) P X → D.nx σ H) :
    ∃ W : Nat → Nat → St → Hp → Prop, (∃ m, W 0 m σ H) ∧ ∀ i m σ H, W i m σ H →
      (J.stop i H ∧ D.nx σ H) ∨ (J.go i H ∧ ∃ N : St → Hp → Prop, (∀ σ' H', N σ' H' → ∃ m', m' < m ∧ W (i + 1) m' σ' H') ∧ ∀ x H', J.yld i H x H' → g x σ H' fun σ2 H2 => tb { D with nx := N, ct := N, bk := D.nx } σ2 H2) := by
  refine for_it tw.walk (fun i σ H => ∃ c, I c σ H ∧ Post (foldX body c (items.drop i) >>= k) P X) ⟨s0, h0, hm⟩ (fun i σ H _ ⟨c, h, _⟩ => hG c σ H h) ?_ ?_
  · rintro i x σ H H' hi ⟨c, h, hm⟩ ⟨b, hb, y⟩
    rw [drop_cons hb] at hm
    have hm' : Post ((body c b >>= fun r => match r with
      | .inl z => (R.ok (.inl z) : R (Sum ρ γ))
      | .inr (true, s') => foldX body s' (items.drop (i + 1))
      | .inr (false, s') => R.ok (.inr s')) >>= k) P X := hm
    rw [bind_bind] at hm'
    exact hs b c x σ H H' _ _ _ h y (fun c' p' σ' H' h' => ⟨c', h', p'⟩) (fun c' p' σ' H' h' => hd c' σ' H' h' p') (fun z p' => p') (post_bind hm')
  · rintro σ H ⟨c, h, hm⟩
    rw [List.drop_length] at hm
    exact hd c σ H h hm
end
/-! ### comprehensions -/
/-- items for items, of a list that is not too long -/
def mapG {α β : Type} (f : α → R β) (xs : List α) : R (List β) := grd (decide (xs.length < 100000)) >>= fun _ => mapR f xs
/-- items for some items -/
def filR {α β : Type} (f : α → R (Option β)) : List α → R (List β)
  | [] => .ok []
  | x :: xs => f x >>= fun o => filR f xs >>= fun ys => match o with
    | some y => .ok (y :: ys)
    | none => .ok ys
def filG {α β : Type} (f : α → R (Option β)) (xs : List α) : R (List β) := grd (decide (xs.length < 100000)) >>= fun _ => filR f xs
/-- items for items, by a state that turns -/
def mapSt {α β γ : Type} (f : γ → α → R (β × γ)) : γ → List α → R (List β × γ)
  | s, [] => .ok ([], s)
  | s, x :: xs => f s x >>= fun p => mapSt f p.2 xs >>= fun q => .ok (p.1 :: q.1, q.2)
def mapStG {α β γ : Type} (f : γ → α → R (β × γ)) (s : γ) (xs : List α) : R (List β × γ) := grd (decide (xs.length < 100000)) >>= fun _ => mapSt f s xs
/-- items for some items, by a state that turns -/
def filSt {α β γ : Type} (f : γ → α → R (Option β × γ)) : γ → List α → R (List β × γ)
  | s, [] => .ok ([], s)
  | s, x :: xs => f s x >>= fun p => filSt f p.2 xs >>= fun q => match p.1 with
    | some y => .ok (y :: q.1, q.2)
    | none => .ok q
def filStG {α β γ : Type} (f : γ → α → R (Option β × γ)) (s : γ) (xs : List α) : R (List β × γ) := grd (decide (xs.length < 100000)) >>= fun _ => filSt f s xs
section
variable {J : It} {β γ δ ε : Type} {items : List β} {G : Hp → Prop} {Y : β → Hp → V → Hp → Prop} {g : TG} {tt : TT} {te : TE} {P : ε → Prop} {X : Exn → Prop} {K : Fg} {vs : List Nat} {σ : St} {F H1 : Hp} {os : List (Addr × HO)} {D : Addr} {Qd : Hp → Prop}
/-- what is asked of a comprehension's list D behind its walk J: by the readings' own words -/
abbrev LcAsk (J : It) (g : TG) (tt : TT) (te : TE) (vs : List Nat) (σ : St) (H1 : Hp) (D : Addr) (Qd : Hp → Prop) : Prop :=
  ∃ W : Nat → Nat → Hp → Prop, (∃ m, W 0 m (upd H1 D (.lst []))) ∧ ∀ i m H, W i m H →
      (J.stop i H ∧ Qd H) ∨ (J.go i H ∧ ∃ Nx : Hp → Prop, (∀ H', Nx H' → ∃ m', m' < m ∧ W (i + 1) m' H') ∧ ∀ x H', J.yld i H x H' → g x (wipe σ vs) H' fun σ2 H2 => wipe σ2 vs = wipe σ vs ∧ tt σ2 H2 fun b H3 =>
        if b = true then te σ2 H3 fun y H4 => ∃ acc, H4 D = some (.lst acc) ∧ acc.length < sizeLine ∧ Nx (upd H4 D (.lst (acc ++ [y]))) else Nx H3)
/-- the state and the items told of a comprehension: os by the state -/
theorem lcFil [Rep δ] (tw : TW J items G Y) {f : γ → β → R (Option δ × γ)} {s0 : γ} {k : List δ × γ → R ε} (hm : Post (filStG f s0 items >>= k) P X) (O : γ → Hp → List (Addr × HO) → Prop) (w : W F H1 os) (o0 : O s0 F os) (nD : H1 D = none)
    (hG : ∀ c F' H' os' acc, Same F F' → W F' H' ((D, .lst acc) :: os') → O c F' os' → G H')
    (hs : ∀ (b : β) (c : γ) (x : V) (F' H' H'' : Hp) (os' : List (Addr × HO)) (acc : List V) (N : V → Hp → Prop) (N0 : Hp → Prop) (P' : Option δ × γ → Prop), Same F F' → W F' H' ((D, .lst acc) :: os') → O c F' os' → Y b H' x H'' →
      (∀ d c', P' (some d, c') → ∀ y F'' H'' os'', W F'' H'' ((D, .lst acc) :: os'') → Same F' F'' → O c' F'' os'' → rep K F'' y d → N y H'') →
      (∀ c', P' (none, c') → ∀ F'' H'' os'', W F'' H'' ((D, .lst acc) :: os'') → Same F' F'' → O c' F'' os'' → N0 H'') → Post (f c b) P' X →
      g x (wipe σ vs) H'' fun σ2 H2 => wipe σ2 vs = wipe σ vs ∧ tt σ2 H2 fun b H3 => if b = true then te σ2 H3 N else N0 H3)
    (hd : ∀ c us F' H' os' ys, Same F F' → W F' H' ((D, .lst us) :: os') → O c F' os' → A2 (rep K F') us ys → Post (k (ys, c)) P X → Qd H') : LcAsk J g tt te vs σ H1 D Qd := by
  obtain ⟨hlen, hm⟩ := pb_grd (pb_assoc hm)
  have hlen : items.length < sizeLine := Nat.lt_of_lt_of_le (of_decide_eq_true hlen) line5
  refine lc_it tw.walk (fun i H => ∃ c F' os' us ys, i ≤ items.length ∧ Same F F' ∧ W F' H ((D, .lst us) :: os') ∧ O c F' os' ∧ A2 (rep K F') us ys ∧ ys.length ≤ i ∧ Post (filSt f c (items.drop i) >>= fun q => k (ys ++ q.1, q.2)) P X) ?_ ?_ ?_ ?_
  · exact ⟨s0, F, os, [], [], Nat.zero_le _, Same.refl _, w.new nD, o0, .nil, Nat.le_refl _, hm⟩
  · rintro i H _ ⟨c, F', os', us, ys, _, s, w', o, _⟩
    exact hG c F' H os' us s w' o
  · rintro i x H H' hi ⟨c, F', os', us, ys, _, s, w', o, h, hl, hm⟩ ⟨b, hb, y⟩
    rw [drop_cons hb] at hm
    have hm' : Post ((f c b >>= fun p => filSt f p.2 (items.drop (i + 1)) >>= fun q => match p.1 with
      | some y => (R.ok (y :: q.1, q.2) : R (List δ × γ))
      | none => R.ok q) >>= fun q => k (ys ++ q.1, q.2)) P X := hm
    rw [bind_bind] at hm'
    have hm2 := post_bind hm'
    have hul : us.length = ys.length := h.length
    refine hs b c x F' H H' os' us (fun y H4 => ∃ acc, H4 D = some (.lst acc) ∧ acc.length < sizeLine ∧ _) _ _ s w' o y ?_ ?_ hm2
    · intro d c' p2 y F'' H'' os'' w2 s2 o2 r2
      refine ⟨us, w2.get (pre := []), by omega, c', F'', os'', us ++ [y], ys ++ [d], hi, s.trans s2, w2.set (pre := []), o2, (h.mono s2).snoc r2, by rw [List.length_append, List.length_singleton]; omega, ?_⟩
      have p3 : Post ((filSt f c' (items.drop (i + 1)) >>= fun q => (R.ok (d :: q.1, q.2) : R (List δ × γ))) >>= fun q => k (ys ++ q.1, q.2)) P X := p2
      rw [bind_bind] at p3
      have e : (fun q : List δ × γ => (R.ok (d :: q.1, q.2) : R (List δ × γ)) >>= fun q => k (ys ++ q.1, q.2)) = fun q => k (ys ++ [d] ++ q.1, q.2) := by
        funext q
        show k (ys ++ (d :: q.1), q.2) = k (ys ++ [d] ++ q.1, q.2)
        rw [List.append_assoc]
        rfl
      rw [e] at p3
      exact p3
    · intro c' p2 F'' H'' os'' w2 s2 o2
      refine ⟨c', F'', os'', us, ys, hi, s.trans s2, w2, o2, h.mono s2, by omega, ?_⟩
      have p3 : Post ((filSt f c' (items.drop (i + 1)) >>= fun q => (R.ok q : R (List δ × γ))) >>= fun q => k (ys ++ q.1, q.2)) P X := p2
      rw [bind_bind] at p3
      exact p3
  · rintro H ⟨c, F', os', us, ys, _, s, w', o, h, _, hm⟩
    rw [List.drop_length] at hm
    have hm' : Post (k (ys ++ [], c)) P X := hm
    rw [List.append_nil] at hm'
    exact hd c us F' H os' ys s w' o h hm'
/-- without a test -/
theorem lcMap [Rep δ] (tw : TW J items G Y) {f : γ → β → R (δ × γ)} {s0 : γ} {k : List δ × γ → R ε} (hm : Post (mapStG f s0 items >>= k) P X) (O : γ → Hp → List (Addr × HO) → Prop) (w : W F H1 os) (o0 : O s0 F os) (nD : H1 D = none)
    (hG : ∀ c F' H' os' acc, Same F F' → W F' H' ((D, .lst acc) :: os') → O c F' os' → G H')
    (hs : ∀ (b : β) (c : γ) (x : V) (F' H' H'' : Hp) (os' : List (Addr × HO)) (acc : List V) (N : V → Hp → Prop) (P' : δ × γ → Prop), Same F F' → W F' H' ((D, .lst acc) :: os') → O c F' os' → Y b H' x H'' →
      (∀ d c', P' (d, c') → ∀ y F'' H'' os'', W F'' H'' ((D, .lst acc) :: os'') → Same F' F'' → O c' F'' os'' → rep K F'' y d → N y H'') → Post (f c b) P' X →
      g x (wipe σ vs) H'' fun σ2 H2 => wipe σ2 vs = wipe σ vs ∧ te σ2 H2 N)
    (hd : ∀ c us F' H' os' ys, Same F F' → W F' H' ((D, .lst us) :: os') → O c F' os' → A2 (rep K F') us ys → Post (k (ys, c)) P X → Qd H') : LcAsk J g tYes te vs σ H1 D Qd := by
  have e : ∀ (s : γ) (l : List β), filSt (fun c b => f c b >>= fun p => R.ok (some p.1, p.2)) s l = mapSt f s l := by
    intro s l
    induction l generalizing s with
    | nil => rfl
    | cons b l ih =>
      show ((f s b >>= fun p => R.ok (some p.1, p.2)) >>= fun p => filSt (fun c b => f c b >>= fun p => R.ok (some p.1, p.2)) p.2 l >>= fun q => match p.1 with
        | some y => (R.ok (y :: q.1, q.2) : R (List δ × γ))
        | none => R.ok q) = (f s b >>= fun p => mapSt f p.2 l >>= fun q => .ok (p.1 :: q.1, q.2))
      rw [bind_bind]
      refine congrArg (f s b >>= ·) ?_
      funext p
      show (filSt (fun c b => f c b >>= fun p => R.ok (some p.1, p.2)) p.2 l >>= fun q => (R.ok (p.1 :: q.1, q.2) : R (List δ × γ))) = _
      rw [ih]
  have hm' : Post (filStG (fun c b => f c b >>= fun p => R.ok (some p.1, p.2)) s0 items >>= k) P X := by
    unfold filStG
    simp only [e]
    exact hm
  refine lcFil tw hm' O w o0 nD hG (fun b c x F' H' H'' os' acc N N0 P' s w' o y hN hN0 hp => ?_) hd
  exact hs b c x F' H' H'' os' acc N _ s w' o y (fun d c' p2 y F'' H'' os'' w2 s2 o2 r2 => hN d c' p2 y F'' H'' os'' w2 s2 o2 r2) (post_bind hp)
/-- without a state -/
theorem lcM [Rep δ] (tw : TW J items G Y) {f : β → R δ} {k : List δ → R ε} (hm : Post (mapG f items >>= k) P X) (w : W F H1 os) (nD : H1 D = none)
    (hG : ∀ F' H' acc, Same F F' → W F' H' ((D, .lst acc) :: os) → G H')
    (hs : ∀ (b : β) (x : V) (F' H' H'' : Hp) (acc : List V) (N : V → Hp → Prop) (P' : δ → Prop), Same F F' → W F' H' ((D, .lst acc) :: os) → Y b H' x H'' →
      (∀ d, P' d → ∀ y F'' H'', W F'' H'' ((D, .lst acc) :: os) → Same F' F'' → rep K F'' y d → N y H'') → Post (f b) P' X →
      g x (wipe σ vs) H'' fun σ2 H2 => wipe σ2 vs = wipe σ vs ∧ te σ2 H2 N)
    (hd : ∀ us F' H' ys, Same F F' → W F' H' ((D, .lst us) :: os) → A2 (rep K F') us ys → Post (k ys) P X → Qd H') : LcAsk J g tYes te vs σ H1 D Qd := by
  have e : ∀ (l : List β), (mapSt (fun (_ : Unit) b => f b >>= fun d => R.ok (d, ())) () l >>= fun q => R.ok q.1) = mapR f l := by
    intro l
    induction l with
    | nil => rfl
    | cons b l ih =>
      show (((f b >>= fun d => R.ok (d, ())) >>= fun p => mapSt (fun (_ : Unit) b => f b >>= fun d => R.ok (d, ())) p.2 l >>= fun q => (R.ok (p.1 :: q.1, q.2) : R (List δ × Unit))) >>= fun q => R.ok q.1) = (f b >>= fun y => mapR f l >>= fun ys => R.ok (y :: ys))
      rw [bind_bind, bind_bind]
      refine congrArg (f b >>= ·) ?_
      funext d
      show ((mapSt (fun (_ : Unit) b => f b >>= fun d => R.ok (d, ())) () l >>= fun q => (R.ok (d :: q.1, q.2) : R (List δ × Unit))) >>= fun q => R.ok q.1) = _
      rw [bind_bind, ← ih, bind_bind]
      rfl
  have hm' : Post (mapStG (fun (_ : Unit) b => f b >>= fun d => R.ok (d, ())) () items >>= fun q => k q.1) P X := by
    have e2 : (mapStG (fun (_ : Unit) b => f b >>= fun d => R.ok (d, ())) () items >>= fun q => R.ok q.1) = mapG f items := by
      unfold mapStG mapG
      rw [bind_bind]
      simp only [e]
    have h2 : Post ((mapStG (fun (_ : Unit) b => f b >>= fun d => R.ok (d, ())) () items >>= fun q => R.ok q.1) >>= k) P X := by
      rw [e2]
      exact hm
    rw [bind_bind] at h2
    exact h2
  refine lcMap tw hm' (fun _ _ os' => os = os') w rfl nD (fun c F' H' os' acc s w' o => by subst o; exact hG F' H' acc s w') (fun b c x F' H' H'' os' acc N P' s w' o y hN hp => ?_) (fun c us F' H' os' ys s w' o h hm => by subst o; exact hd us F' H' ys s w' h hm)
  subst o
  exact hs b x F' H' H'' acc N _ s w' y (fun d p2 y F'' H'' w2 s2 r2 => hN d () p2 y F'' H'' _ w2 s2 rfl r2) (post_bind hp)
/-- .. with a test -/
theorem lcF [Rep δ] (tw : TW J items G Y) {f : β → R (Option δ)} {k : List δ → R ε} (hm : Post (filG f items >>= k) P X) (w : W F H1 os) (nD : H1 D = none)
    (hG : ∀ F' H' acc, Same F F' → W F' H' ((D, .lst acc) :: os) → G H')
    (hs : ∀ (b : β) (x : V) (F' H' H'' : Hp) (acc : List V) (N : V → Hp → Prop) (N0 : Hp → Prop) (P' : Option δ → Prop), Same F F' → W F' H' ((D, .lst acc) :: os) → Y b H' x H'' →
      (∀ d, P' (some d) → ∀ y F'' H'', W F'' H'' ((D, .lst acc) :: os) → Same F' F'' → rep K F'' y d → N y H'') →
      (P' none → ∀ F'' H'', W F'' H'' ((D, .lst acc) :: os) → Same F' F'' → N0 H'') → Post (f b) P' X →
      g x (wipe σ vs) H'' fun σ2 H2 => wipe σ2 vs = wipe σ vs ∧ tt σ2 H2 fun b H3 => if b = true then te σ2 H3 N else N0 H3)
    (hd : ∀ us F' H' ys, Same F F' → W F' H' ((D, .lst us) :: os) → A2 (rep K F') us ys → Post (k ys) P X → Qd H') : LcAsk J g tt te vs σ H1 D Qd := by
  have e : ∀ (l : List β), (filSt (fun (_ : Unit) b => f b >>= fun d => R.ok (d, ())) () l >>= fun q => R.ok q.1) = filR f l := by
    intro l
    induction l with
    | nil => rfl
    | cons b l ih =>
      show (((f b >>= fun d => R.ok (d, ())) >>= fun p => filSt (fun (_ : Unit) b => f b >>= fun d => R.ok (d, ())) p.2 l >>= fun q => match p.1 with
        | some y => (R.ok (y :: q.1, q.2) : R (List δ × Unit))
        | none => R.ok q) >>= fun q => R.ok q.1) = (f b >>= fun o => filR f l >>= fun ys => match o with
        | some y => .ok (y :: ys)
        | none => .ok ys)
      rw [bind_bind, bind_bind]
      refine congrArg (f b >>= ·) ?_
      funext d
      show ((filSt (fun (_ : Unit) b => f b >>= fun d => R.ok (d, ())) () l >>= fun q => match d with
        | some y => (R.ok (y :: q.1, q.2) : R (List δ × Unit))
        | none => R.ok q) >>= fun q => R.ok q.1) = _
      rw [bind_bind, ← ih, bind_bind]
      cases d <;> rfl
  have hm' : Post (filStG (fun (_ : Unit) b => f b >>= fun d => R.ok (d, ())) () items >>= fun q => k q.1) P X := by
    have e2 : (filStG (fun (_ : Unit) b => f b >>= fun d => R.ok (d, ())) () items >>= fun q => R.ok q.1) = filG f items := by
      unfold filStG filG
      rw [bind_bind]
      simp only [e]
    have h2 : Post ((filStG (fun (_ : Unit) b => f b >>= fun d => R.ok (d, ())) () items >>= fun q => R.ok q.1) >>= k) P X := by
      rw [e2]
      exact hm
    rw [bind_bind] at h2
    exact h2
  refine lcFil tw hm' (fun _ _ os' => os = os') w rfl nD (fun c F' H' os' acc s w' o => by subst o; exact hG F' H' acc s w') (fun b c x F' H' H'' os' acc N N0 P' s w' o y hN hN0 hp => ?_) (fun c us F' H' os' ys s w' o h hm => by subst o; exact hd us F' H' ys s w' h hm)
  subst o
  exact hs b x F' H' H'' acc N N0 _ s w' y (fun d p2 y F'' H'' w2 s2 r2 => hN d () p2 y F'' H'' _ w2 s2 rfl r2) (fun p2 F'' H'' w2 s2 => hN0 () p2 F'' H'' _ w2 s2 rfl) (post_bind hp)
end
end Z
namespace Z
open PySem L2
open Rep (rep)
/-! ### short words for a walk -/
section
variable {F F1 F2 H H1 : Hp} {os os' pre post : List (Addr × HO)} {a p : Addr} {o o' : HO} {K : Fg}
theorem W.frzE (w : W F H os) (n : H p = none) : ∃ F', Same F F' ∧ W F' (upd H p o) os ∧ F' p = some o := ⟨_, w.frzS n, w.frz n, upd_same⟩
theorem W.freezeE (w : W F H (pre ++ (a, o) :: post)) : ∃ F', Same F F' ∧ W F' H (pre ++ post) ∧ F' a = some o := ⟨_, w.freezeS, w.freeze, upd_same⟩
/-- a cell that was lent to a call as frozen comes back -/
theorem W.unfreeze (w : W F1 H os) (s : Same F F1) (n : F a = none) (k : F1 a = some o) : ∃ F', Same F F' ∧ W F' H ((a, o) :: os) := by
  refine ⟨fun b => if b = a then none else F1 b, fun b u e => ?_, fun b u e => ?_, fun q hq => ?_, ?_⟩
  · have hb : b ≠ a := ne_of_none e n
    show (if b = a then none else F1 b) = some u
    rw [if_neg hb]
    exact s b u e
  · by_cases hb : b = a
    · have e' : (if b = a then none else F1 b) = some u := e
      rw [if_pos hb] at e'
      cases e'
    · have e' : (if b = a then none else F1 b) = some u := e
      rw [if_neg hb] at e'
      exact w.same b u e'
  · rcases List.mem_cons.mp hq with rfl | hq
    · exact ⟨w.same _ _ k, if_pos rfl⟩
    · have h := w.own q hq
      have hb : q.1 ≠ a := fun e => by
        rw [e, k] at h
        cases h.2
      exact ⟨h.1, by show (if q.1 = a then none else F1 q.1) = none; rw [if_neg hb]; exact h.2⟩
  · refine List.pairwise_cons.mpr ⟨fun q hq e => ?_, w.nd⟩
    have h := (w.own q hq).2
    have e' : a = q.1 := e
    rw [← e', k] at h
    cases h
theorem rep_own {α : Type} [Rep α] {vs : List V} {xs : List α} (w : W F H (pre ++ (a, .lst vs) :: post)) (h : A2 (rep K F) vs xs) : rep K H (.ref a) xs := ⟨a, vs, rfl, w.get, h.mono w.same⟩
theorem rep_lst {α : Type} [Rep α] {vs : List V} {xs : List α} (q : F a = some (.lst vs)) (h : A2 (rep K F) vs xs) : rep K F (.ref a) xs := ⟨a, vs, rfl, q, h⟩
theorem rep_tup {α : Type} [Rep α] {vs : List V} {xs : List α} (q : F a = some (.tup vs)) (h : A2 (rep K F) vs xs) : rep K F (.ref a) (Tup.mk xs) := ⟨a, vs, rfl, q, h⟩
theorem rep_pair {α β : Type} [Rep α] [Rep β] {u v : V} {x : α} {y : β} (q : F a = some (.tup [u, v])) (h1 : rep K F u x) (h2 : rep K F v y) : rep K F (.ref a) (x, y) := ⟨a, u, v, rfl, q, h1, h2⟩
theorem ints_q {vs : List V} {xs : List Int} (q : SqL K H a vs) (h : A2 (rep K F) vs xs) : SqL K H a (xs.map V.int) := h.ints ▸ q
theorem Room.units65 {k : Nat} {A : Around} (r : Room k A) : A.units + 65 < cLine := by
  have := r.un
  omega
theorem sl_cut {α : Type} {r : V → α → Prop} {vs : List V} {xs : List α} (h : A2 r vs xs) (lo hi : Option Int) : A2 r (cutV vs lo hi) (((xs.drop (HT.sIx xs.length 0 lo)).take (HT.sIx xs.length xs.length hi - HT.sIx xs.length 0 lo))) := by
  unfold cutV
  rw [h.length]
  exact (h.drop _).take _
/-- xs[lo:hi] -/
def cutL {α : Type} (xs : List α) (lo hi : Option Int) : List α := (xs.drop (HT.sIx xs.length 0 lo)).take (HT.sIx xs.length xs.length hi - HT.sIx xs.length 0 lo)
end
end Z
namespace Z
open PySem L2
open Rep (rep)
/-- a while by its fuel -/
def whileR {γ : Type} (c : γ → R Bool) (b : γ → R γ) : Nat → γ → R γ
  | 0, _ => .bad
  | n + 1, s => c s >>= fun t => if t = true then b s >>= fun s' => whileR c b n s' else .ok s
section
variable {γ δ : Type} {P : δ → Prop} {X : Exn → Prop} {tc : TT} {tb : TS} {D : Ends} {σ : St} {H : Hp}
theorem whileS {c : γ → R Bool} {b : γ → R γ} {n : Nat} {s0 : γ} {k : γ → R δ} (hm : Post (whileR c b n s0 >>= k) P X) (I : γ → St → Hp → Prop) (h0 : I s0 σ H)
    (hc : ∀ (g : γ) (σ : St) (H : Hp) (Q' : Bool → Hp → Prop) (P' : Bool → Prop), I g σ H → (∀ t, P' t → ∀ H', I g σ H' → Q' t H') → Post (c g) P' X → tc σ H Q')
    (hs : ∀ (g : γ) (σ : St) (H : Hp) (N : St → Hp → Prop) (P' : γ → Prop), I g σ H → (∀ g', P' g' → ∀ σ' H', I g' σ' H' → N σ' H') → Post (b g) P' X → tb { D with nx := N, ct := N, bk := D.nx } σ H)
    (hd : ∀ g σ H, I g σ H → Post (k g) P X → D.nx σ H) : tWhile tc tb D σ H := by
  refine ⟨fun m σ H => ∃ g, I g σ H ∧ Post (whileR c b m g >>= k) P X, ⟨n, s0, h0, hm⟩, ?_⟩
  rintro m σ H ⟨g, h, hm⟩
  cases m with
  | zero => exact (show False from hm).elim
  | succ m =>
    have hm' : Post ((c g >>= fun t => if t = true then b g >>= fun s' => whileR c b m s' else .ok g) >>= k) P X := hm
    rw [bind_bind] at hm'
    refine hc g σ H _ _ h (fun t p H' h' => ?_) (post_bind hm')
    cases t with
    | false => exact iteF (hd g σ H' h' p)
    | true =>
      refine iteT ?_
      have p' : Post ((b g >>= fun s' => whileR c b m s') >>= k) P X := p
      rw [bind_bind] at p'
      exact ⟨fun σ' H' => ∃ g', I g' σ' H' ∧ Post (whileR c b m g' >>= k) P X, fun σ' H' ⟨g', h1, h2⟩ => ⟨m, Nat.lt_succ_self m, g', h1, h2⟩, hs g σ H' _ _ h' (fun g' p2 σ' H' h2 => ⟨g', h2, p2⟩) (post_bind p')⟩
end
section
variable {α β : Type} {Q : β → Prop} {E : Exn → Prop}
theorem pn_set {xs : List α} {i : Int} {x : α} {f : List α → R β} (h : Post (setI xs i x >>= f) Q E) : ∃ j ys, ixN xs.length i = some j ∧ ys = xs.set j x ∧ Post (f ys) Q E :=
  let ⟨j, a, b⟩ := pb_set h
  ⟨j, _, a, rfl, b⟩
theorem pn_app {xs : List α} {x : α} {f : List α → R β} (h : Post (app xs x >>= f) Q E) : ∃ ys, xs.length < sizeLine ∧ ys = xs ++ [x] ∧ Post (f ys) Q E :=
  let ⟨a, b⟩ := pb_app h
  ⟨_, a, rfl, b⟩
theorem pn_extend {xs ys : List α} {f : List α → R β} (h : Post (extend xs ys >>= f) Q E) : ∃ zs, xs.length + ys.length ≤ sizeLine ∧ zs = xs ++ ys ∧ Post (f zs) Q E :=
  let ⟨a, b⟩ := pb_extend h
  ⟨_, a, rfl, b⟩
theorem A2.lt {r : V → α → Prop} {vs : List V} {xs : List α} {n : Nat} (h : A2 r vs xs) (z : xs.length < n) : vs.length < n := by rw [h.length]; exact z
theorem A2.ix {r : V → α → Prop} {vs : List V} {xs : List α} {i : Int} {j : Nat} (h : A2 r vs xs) (z : ixN xs.length i = some j) : ixN vs.length i = some j := by rw [h.length]; exact z
theorem A2.le2 {γ : Type} {r : V → α → Prop} {r' : V → γ → Prop} {vs us : List V} {xs : List α} {ys : List γ} {n : Nat} (h : A2 r vs xs) (h' : A2 r' us ys) (z : xs.length + ys.length ≤ n) : vs.length + us.length ≤ n := by rw [h.length, h'.length]; exact z
/-- the last item, and the rest -/
def popI (xs : List α) : R (α × List α) := match xs.getLast? with
  | some x => .ok (x, xs.dropLast)
  | none => .bad
def popAt (xs : List α) (i : Int) : R (α × List α) := match ixN xs.length i with
  | some j => match xs[j]? with
    | some x => .ok (x, xs.eraseIdx j)
    | none => .bad
  | none => .bad
theorem pn_popAt {xs : List α} {i : Int} {f : α × List α → R β} (h : Post (popAt xs i >>= f) Q E) : ∃ j x ys, ixN xs.length i = some j ∧ xs[j]? = some x ∧ ys = xs.eraseIdx j ∧ Post (f (x, ys)) Q E := by
  unfold popAt at h
  cases e : ixN xs.length i with
  | none => rw [e] at h; exact (show False from h).elim
  | some j =>
    rw [e] at h
    cases e2 : xs[j]? with
    | none =>
      have h' : Post ((match xs[j]? with
        | some x => (R.ok (x, xs.eraseIdx j) : R (α × List α))
        | none => .bad) >>= f) Q E := h
      rw [e2] at h'
      exact (show False from h').elim
    | some x =>
      have h' : Post ((match xs[j]? with
        | some x => (R.ok (x, xs.eraseIdx j) : R (α × List α))
        | none => .bad) >>= f) Q E := h
      rw [e2] at h'
      exact ⟨j, x, _, rfl, e2, rfl, h'⟩
end
section
variable {K : Fg} {F : Hp}
theorem rep_i {i : Int} : rep K F (.int i) i := rfl
theorem rep_b {i : Bool} : rep K F (.bl i) i := rfl
theorem rep_s {i : Str} : rep K F (.str i) i := rfl
theorem rep_n : rep K F .non () := rfl
end
end Z
namespace Z
open PySem L2
section
variable {X : Cx} {D : Ends} {σ : L2.St} {H : Hp}
def tC1 (v : V) : TE := fun _ H Q => True ∧ Q v H
theorem pe_int1 {i j pos} : PE X (.Constant (.int i) j pos) (tC1 (.int i)) := ⟨fun pins s σ H Q I h => pe_int.run pins s σ H Q I h.2⟩
theorem pe_bl1 {i j pos} : PE X (.Constant (.bool i) j pos) (tC1 (.bl i)) := ⟨fun pins s σ H Q I h => pe_bl.run pins s σ H Q I h.2⟩
theorem pe_str1 {i j pos} : PE X (.Constant (.str i) j pos) (tC1 (.str i)) := ⟨fun pins s σ H Q I h => pe_str.run pins s σ H Q I h.2⟩
theorem pe_non1 {j pos} : PE X (.Constant .none j pos) (tC1 .non) := ⟨fun pins s σ H Q I h => pe_non.run pins s σ H Q I h.2⟩
theorem stepN {i : Nat} {v : V} {Q : L2.St → Hp → Prop} (h : Q (σ.set i (some v)) H) : gName i v σ H Q := h
theorem stepX (h : D.nx σ H) : tNext D σ H := h
theorem stepSeq {t u : TS} (h : t { D with nx := u D } σ H) : tSeq t u D σ H := h
theorem stepIf {c : TT} {a b : TS} (h : c σ H fun t H1 => if t = true then a D σ H1 else b D σ H1) : tIfS c a b D σ H := h
theorem stepRet {te : TE} (h : te σ H D.rt) : tRet te D σ H := h
theorem stepAsg {te : TE} {g : TG} (h : te σ H fun x H1 => g x σ H1 D.nx) : tAsg te g D σ H := h
theorem stepDrop {te : TE} (h : te σ H fun _ H1 => D.nx σ H1) : tDrop te D σ H := h
end
end Z
/-! Z2: rules by typed data -/
namespace Z
open PySem L2 PySem.Spec PyProof.Rows
open Rep (rep)

/-! ### data that is compared -/
class Dat (α : Type) extends Rep α where
  toD : α → PyData
  dmax : Nat
  dp : ∀ {K : Fg} {H : Hp} {v : V} {x : α}, rep K H v x → Dp K H v (toD x)
  lay : ∀ x : α, (toD x).canLay0 = true
  dep : ∀ x : α, (toD x).depth ≤ dmax
  eqv : ∀ x y : α, PyData.eqv (toD x) (toD y) = true ↔ x = y
section
variable {α β : Type} {K : Fg} {H : Hp}
instance : Dat Int where
  toD := .int
  dmax := 0
  dp := fun h => by
    have h' : _ = V.int _ := h
    subst h'
    exact .int _
  lay := fun x => by simp only [PyData.canLay0]
  dep := fun x => by simp only [PyData.depth, Nat.le_refl]
  eqv := fun x y => by simp [PyData.eqv]
instance : Dat Bool where
  toD := .bool
  dmax := 0
  dp := fun h => by
    have h' : _ = V.bl _ := h
    subst h'
    exact .bl _
  lay := fun x => by simp only [PyData.canLay0]
  dep := fun x => by simp only [PyData.depth, Nat.le_refl]
  eqv := fun x y => by simp [PyData.eqv]
instance datOptInt : Dat (Option Int) where
  toD := fun x => match x with
    | none => .none
    | some i => .int i
  dmax := 0
  dp := fun {K H v x} h => by
    cases x with
    | none =>
      have h' : v = V.non := h
      subst h'
      exact .non
    | some i =>
      have h' : v = V.int i := h
      subst h'
      exact .int _
  lay := fun x => by cases x <;> simp only [PyData.canLay0]
  dep := fun x => by cases x <;> simp only [PyData.depth, Nat.le_refl]
  eqv := fun x y => by cases x <;> cases y <;> simp [PyData.eqv]
instance datPair [Dat α] [Dat β] : Dat (α × β) where
  toD := fun x => .tuple [Dat.toD x.1, Dat.toD x.2]
  dmax := max (Dat.dmax α) (Dat.dmax β) + 1
  dp := fun {K H v x} h => by
    obtain ⟨a, u, w, rfl, q, h1, h2⟩ := h
    exact .tup (SqT.of q) (.cons (Dat.dp h1) (.cons (Dat.dp h2) .nil))
  lay := fun x => by simp only [PyData.canLay0, PyData.canLayAll0, Dat.lay, Bool.and_true]
  dep := fun x => by
    have h1 := Dat.dep x.1
    have h2 := Dat.dep x.2
    simp only [PyData.depth, PyData.depthAll]
    omega
  eqv := fun x y => by
    obtain ⟨x1, x2⟩ := x
    obtain ⟨y1, y2⟩ := y
    simp only [PyData.eqv, PyData.eqvAll, Bool.and_true, Bool.and_eq_true, Dat.eqv, Prod.mk.injEq]
theorem dp_all [Dat α] : ∀ {vs : List V} {xs : List α}, A2 (rep K H) vs xs → DpAll K H vs (xs.map Dat.toD)
  | _, _, .nil => .nil
  | _, _, .cons h t => .cons (Dat.dp h) (dp_all t)
theorem lay_all [Dat α] : ∀ xs : List α, PyData.canLayAll0 (xs.map Dat.toD) = true
  | [] => by simp only [List.map_nil, PyData.canLayAll0]
  | x :: xs => by simp only [List.map_cons, PyData.canLayAll0, Dat.lay, lay_all xs, Bool.and_true]
theorem dep_all [Dat α] : ∀ xs : List α, PyData.depthAll (xs.map Dat.toD) ≤ Dat.dmax α
  | [] => by simp only [List.map_nil, PyData.depthAll, Nat.zero_le]
  | x :: xs => by
    have h1 := dep_all xs
    have h2 := Dat.dep x
    simp only [List.map_cons, PyData.depthAll]
    omega
theorem eqv_all [Dat α] : ∀ xs ys : List α, PyData.eqvAll (xs.map Dat.toD) (ys.map Dat.toD) = true ↔ xs = ys
  | [], [] => by simp [PyData.eqvAll]
  | x :: xs, [] => by simp [PyData.eqvAll]
  | [], y :: ys => by simp [PyData.eqvAll]
  | x :: xs, y :: ys => by simp only [List.map_cons, PyData.eqvAll, Bool.and_eq_true, Dat.eqv, eqv_all xs ys, List.cons.injEq]
instance datList [Dat α] : Dat (List α) where
  toD := fun xs => .list (xs.map Dat.toD)
  dmax := Dat.dmax α + 1
  dp := fun {K H v x} h => by
    obtain ⟨a, vs, rfl, q, h⟩ := h
    exact .lst (SqL.of q) (dp_all h)
  lay := fun x => by
    simp only [PyData.canLay0]
    exact lay_all x
  dep := fun x => by
    have h := dep_all x
    simp only [PyData.depth]
    omega
  eqv := fun x y => by
    simp only [PyData.eqv]
    exact eqv_all x y
instance datTup [Dat α] : Dat (Tup α) where
  toD := fun xs => .tuple (xs.l.map Dat.toD)
  dmax := Dat.dmax α + 1
  dp := fun {K H v x} h => by
    obtain ⟨a, vs, rfl, q, h⟩ := h
    exact .tup (SqT.of q) (dp_all h)
  lay := fun x => by
    simp only [PyData.canLay0]
    exact lay_all x.l
  dep := fun x => by
    have h := dep_all x.l
    simp only [PyData.depth]
    omega
  eqv := fun x y => by
    obtain ⟨x⟩ := x
    obtain ⟨y⟩ := y
    simp only [PyData.eqv, Tup.mk.injEq]
    exact eqv_all x y
instance datThing : Dat Thing where
  toD := fun x => match x with
    | .pl i => .int i
    | .ti a b => .tuple [.int a, .int b]
  dmax := 1
  dp := fun {K H v x} h => by
    cases x with
    | pl i =>
      have h' : v = V.int i := h
      subst h'
      exact .int _
    | ti a b =>
      obtain ⟨p, u, w, rfl, q, h1, h2⟩ := (show rep K H v (a, b) from h)
      have h1' : u = V.int a := h1
      have h2' : w = V.int b := h2
      subst h1' h2'
      exact .tup (SqT.of q) (.cons (.int _) (.cons (.int _) .nil))
  lay := fun x => by cases x <;> simp [PyData.canLay0, PyData.canLayAll0]
  dep := fun x => by cases x <;> simp [PyData.depth, PyData.depthAll]
  eqv := fun x y => by cases x <;> cases y <;> simp [PyData.eqv, PyData.eqvAll]
instance datScr : Dat Scr where
  toD := fun xs => .list (xs.l.map PyData.int)
  dmax := 1
  dp := fun {K H v x} h => by
    obtain ⟨a, rfl, q⟩ := h
    have e : ∀ l : List Int, DpAll K H (l.map V.int) (l.map PyData.int) := fun l => by
      induction l with
      | nil => exact .nil
      | cons x l ih => exact .cons (.int _) ih
    exact .lst q (e x.l)
  lay := fun x => by
    simp only [PyData.canLay0]
    exact lay_all (α := Int) x.l
  dep := fun x => by
    have h := dep_all (α := Int) x.l
    have h' : PyData.depthAll (x.l.map PyData.int) ≤ 0 := h
    simp only [PyData.depth]
    omega
  eqv := fun x y => by
    obtain ⟨x⟩ := x
    obtain ⟨y⟩ := y
    simp only [PyData.eqv, Scr.mk.injEq]
    exact eqv_all (α := Int) x y
theorem shapedD [Dat α] (hd : Dat.dmax α ≤ 60) (x : α) : SeqAt.shaped (Dat.toD x) = true := by
  have h := Dat.dep x
  show ((Dat.toD x).canLay0 && decide ((Dat.toD x).depth ≤ 64)) = true
  rw [Bool.and_eq_true]
  exact ⟨Dat.lay x, decide_eq_true (by omega)⟩
theorem eqvD [Dat α] [DecidableEq α] (x y : α) : PyData.eqv (Dat.toD x) (Dat.toD y) = decide (x = y) := by
  by_cases h : x = y
  · rw [decide_eq_true h]
    exact (Dat.eqv x y).mpr h
  · rw [decide_eq_false h]
    exact Bool.eq_false_iff.mpr fun e => h ((Dat.eqv x y).mp e)
theorem anyD [Dat α] [DecidableEq α] (x : α) : ∀ ys : List α, ((ys.map Dat.toD).any fun z => PyData.eqv z (Dat.toD x)) = decide (x ∈ ys)
  | [] => by simp
  | y :: ys => by
    rw [List.map_cons, List.any_cons, anyD x ys, eqvD]
    by_cases h : y = x
    · subst h; simp
    · have h' : ¬ x = y := fun e => h e.symm
      simp [h, h']
end

section
variable {X : Cx} {α β : Type} {K : Fg}
/-- ==, != of data -/
theorem op_eqDt (hK : X.K = K) (α : Type) [Dat α] [DecidableEq α] (hd : Dat.dmax α ≤ 60) (hu : X.A.units + 64 < cLine) : OpR X (compareOp .Eq) (fun x y H Q => ∃ a b : α, rep K H x a ∧ rep K H y b ∧ Q (.bl (decide (a = b))) H) := by
  subst hK
  intro pins s σ H x y v u Q I rx ry ⟨a, b, h1, h2, q⟩
  exact op_eqD hu pins s σ H x y v u Q I rx ry ⟨Dat.toD a, Dat.toD b, Dat.dp h1, Dat.dp h2, shapedD hd a, shapedD hd b, by rw [eqvD]; exact q⟩
theorem op_neDt (hK : X.K = K) (α : Type) [Dat α] [DecidableEq α] (hd : Dat.dmax α ≤ 60) (hu : X.A.units + 64 < cLine) : OpR X (compareOp .NotEq) (fun x y H Q => ∃ a b : α, rep K H x a ∧ rep K H y b ∧ Q (.bl (!decide (a = b))) H) := by
  subst hK
  intro pins s σ H x y v u Q I rx ry ⟨a, b, h1, h2, q⟩
  exact op_neD hu pins s σ H x y v u Q I rx ry ⟨Dat.toD a, Dat.toD b, Dat.dp h1, Dat.dp h2, shapedD hd a, shapedD hd b, by rw [eqvD]; exact q⟩
/-- in, not in a list, a tuple of data -/
theorem op_inL (hK : X.K = K) (α : Type) [Dat α] [DecidableEq α] (hd : Dat.dmax α ≤ 50) (hu : X.A.units + 65 < cLine) : OpR X (compareOp .In) (fun x y H Q => ∃ (a : α) (b : List α), rep K H x a ∧ rep K H y b ∧ Q (.bl (decide (a ∈ b))) H) := by
  subst hK
  intro pins s σ H x y v u Q I rx ry ⟨a, b, h1, h2, q⟩
  exact op_inD hu pins s σ H x y v u Q I rx ry ⟨Dat.toD a, b.map Dat.toD, Dat.dp h1, Dat.dp h2, shapedD (by omega) a, shapedD (α := List α) (by show Dat.dmax α + 1 ≤ 60; omega) b, by rw [anyD]; exact q⟩
theorem op_notInL (hK : X.K = K) (α : Type) [Dat α] [DecidableEq α] (hd : Dat.dmax α ≤ 50) (hu : X.A.units + 65 < cLine) : OpR X (compareOp .NotIn) (fun x y H Q => ∃ (a : α) (b : List α), rep K H x a ∧ rep K H y b ∧ Q (.bl (!decide (a ∈ b))) H) := by
  subst hK
  intro pins s σ H x y v u Q I rx ry ⟨a, b, h1, h2, q⟩
  exact op_notInD hu pins s σ H x y v u Q I rx ry ⟨Dat.toD a, b.map Dat.toD, Dat.dp h1, Dat.dp h2, shapedD (by omega) a, shapedD (α := List α) (by show Dat.dmax α + 1 ≤ 60; omega) b, by rw [anyD]; exact q⟩
theorem op_inT (hK : X.K = K) (α : Type) [Dat α] [DecidableEq α] (hd : Dat.dmax α ≤ 50) (hu : X.A.units + 65 < cLine) : OpR X (compareOp .In) (fun x y H Q => ∃ (a : α) (b : Tup α), rep K H x a ∧ rep K H y b ∧ Q (.bl (decide (a ∈ b.l))) H) := by
  subst hK
  intro pins s σ H x y v u Q I rx ry ⟨a, b, h1, h2, q⟩
  have sd := shapedD (by omega : Dat.dmax α ≤ 60) a
  have se : SeqAt.shaped (.tuple (b.l.map Dat.toD)) = true := shapedD (α := Tup α) (by show Dat.dmax α + 1 ≤ 60; omega) b
  obtain ⟨as, r1⟩ := Dp.reads I (Dat.toD a) x v (Dat.dp h1) rx
  obtain ⟨bs, r2⟩ := Dp.reads I (.tuple (b.l.map Dat.toD)) y u (Dat.dp h2) ry
  refine SeqAt.in_tuple_reads r2 r1 (SeqAt.canLay_of_shaped se) (SeqAt.canLay_of_shaped sd) (room_in_shaped sd hu) ?_
  rw [anyD]
  exact ⟨.bl _, H, I, rfl, q⟩
theorem op_notInT (hK : X.K = K) (α : Type) [Dat α] [DecidableEq α] (hd : Dat.dmax α ≤ 50) (hu : X.A.units + 65 < cLine) : OpR X (compareOp .NotIn) (fun x y H Q => ∃ (a : α) (b : Tup α), rep K H x a ∧ rep K H y b ∧ Q (.bl (!decide (a ∈ b.l))) H) := by
  subst hK
  intro pins s σ H x y v u Q I rx ry ⟨a, b, h1, h2, q⟩
  have sd := shapedD (by omega : Dat.dmax α ≤ 60) a
  have se : SeqAt.shaped (.tuple (b.l.map Dat.toD)) = true := shapedD (α := Tup α) (by show Dat.dmax α + 1 ≤ 60; omega) b
  obtain ⟨as, r1⟩ := Dp.reads I (Dat.toD a) x v (Dat.dp h1) rx
  obtain ⟨bs, r2⟩ := Dp.reads I (.tuple (b.l.map Dat.toD)) y u (Dat.dp h2) ry
  refine SeqAt.notIn_tuple_reads r2 r1 (SeqAt.canLay_of_shaped se) (SeqAt.canLay_of_shaped sd) (room_in_shaped sd hu) ?_
  rw [anyD]
  exact ⟨.bl _, H, I, rfl, q⟩
/-- == of texts -/
theorem decS (x y : Str) : decide (V.str x = V.str y) = decide (x = y) := by
  by_cases h : x = y
  · subst h; simp
  · rw [decide_eq_false h, decide_eq_false (fun e => h (V.str.inj e))]
theorem op_eqS : OpR X (compareOp .Eq) (fun x y H Q => ∃ a b : Str, x = .str a ∧ y = .str b ∧ Q (.bl (decide (a = b))) H) := by
  intro pins s σ H x y v u Q I rx ry ⟨a, b, h1, h2, q⟩
  subst h1 h2
  exact op_eq pins s σ H _ _ v u Q I rx ry ⟨rfl, by rw [decS]; exact q⟩
theorem op_neS : OpR X (compareOp .NotEq) (fun x y H Q => ∃ a b : Str, x = .str a ∧ y = .str b ∧ Q (.bl (!decide (a = b))) H) := by
  intro pins s σ H x y v u Q I rx ry ⟨a, b, h1, h2, q⟩
  subst h1 h2
  exact op_ne pins s σ H _ _ v u Q I rx ry ⟨rfl, by rw [decS]; exact q⟩
/-- == of truths -/
theorem decB (x y : Bool) : decide (V.bl x = V.bl y) = decide (x = y) := by
  cases x <;> cases y <;> rfl
theorem op_eqB : OpR X (compareOp .Eq) (fun x y H Q => ∃ a b : Bool, x = .bl a ∧ y = .bl b ∧ Q (.bl (decide (a = b))) H) := by
  intro pins s σ H x y v u Q I rx ry ⟨a, b, h1, h2, q⟩
  subst h1 h2
  exact op_eq pins s σ H _ _ v u Q I rx ry ⟨rfl, by rw [decB]; exact q⟩
theorem op_neB : OpR X (compareOp .NotEq) (fun x y H Q => ∃ a b : Bool, x = .bl a ∧ y = .bl b ∧ Q (.bl (!decide (a = b))) H) := by
  intro pins s σ H x y v u Q I rx ry ⟨a, b, h1, h2, q⟩
  subst h1 h2
  exact op_ne pins s σ H _ _ v u Q I rx ry ⟨rfl, by rw [decB]; exact q⟩

/-! ### built-ins -/
theorem call_lenN (hK : X.K = K) : CallR X (.builtin "len") (fun xs H Q => ∃ (p : Addr) (ys : List V) (n : Nat), xs = [.ref p] ∧ (SqL K H p ys ∨ SqT K H p ys) ∧ ys.length = n ∧ Q (.int (n : Int)) H) := by
  subst hK
  intro pins s σ H xs us Q I r ⟨p, ys, n, e, h, hn, q⟩
  subst hn
  exact call_len_seq pins s σ H xs us Q I r ⟨p, ys, e, h, q⟩
def absI (i : Int) : Int := if i < 0 then -i else i
def max2 (i j : Int) : Int := if j > i then j else i
def min2 (i j : Int) : Int := if j < i then j else i
/-- the greatest, the least of a list -/
def maxL (xs : List Int) : R Int := ofO xs.max?
def minL (xs : List Int) : R Int := ofO xs.min?
theorem pb_max {δ : Type} {xs : List Int} {f : Int → R δ} {P : δ → Prop} {E : Exn → Prop} (h : Post (maxL xs >>= f) P E) : ∃ m, xs.max? = some m ∧ Post (f m) P E := pb_ofO h
theorem pb_min {δ : Type} {xs : List Int} {f : Int → R δ} {P : δ → Prop} {E : Exn → Prop} (h : Post (minL xs >>= f) P E) : ∃ m, xs.min? = some m ∧ Post (f m) P E := pb_ofO h
theorem cr_maxI (hK : X.K = K) (hc : X.calm = true) : CallR X (.builtin "max") (fun vs H Q => ∃ (a : Addr) (ns : List Int) (m : Int), vs = [V.ref a] ∧ SqL K H a (ns.map V.int) ∧ ns.max? = some m ∧ Q (.int m) H) := by
  subst hK
  intro pins s σ H xs us Q I r ⟨a, ns, m, e, h, hm, q⟩
  obtain ⟨h1, h2⟩ := List.max?_eq_some_iff.mp hm
  refine cr_max hc pins s σ H xs us Q I r ⟨a, ns, e, h, ?_, fun k h3 h4 => ?_⟩
  · exact List.length_pos_of_mem h1
  · have e1 : k = m := Int.le_antisymm (h2 k h3) (h4 m h1)
    subst e1
    exact q
theorem cr_minI (hK : X.K = K) (hc : X.calm = true) : CallR X (.builtin "min") (fun vs H Q => ∃ (a : Addr) (ns : List Int) (m : Int), vs = [V.ref a] ∧ SqL K H a (ns.map V.int) ∧ ns.min? = some m ∧ Q (.int m) H) := by
  subst hK
  intro pins s σ H xs us Q I r ⟨a, ns, m, e, h, hm, q⟩
  obtain ⟨h1, h2⟩ := List.min?_eq_some_iff.mp hm
  refine cr_min hc pins s σ H xs us Q I r ⟨a, ns, e, h, ?_, fun k h3 h4 => ?_⟩
  · exact List.length_pos_of_mem h1
  · have e1 : k = m := Int.le_antisymm (h4 m h1) (h2 k h3)
    subst e1
    exact q
/-- the ints in order -/
def sortI (xs : List Int) : List Int := xs.mergeSort fun a b => decide (a ≤ b)
theorem sortI_perm (xs : List Int) : (sortI xs).Perm xs := List.mergeSort_perm xs _
theorem sortI_sorted (xs : List Int) : (sortI xs).Pairwise (· ≤ ·) := by
  have h := List.pairwise_mergeSort (le := fun a b : Int => decide (a ≤ b)) (fun a b c h1 h2 => by simp only [decide_eq_true_eq] at *; omega) (fun a b => by simp only [Bool.or_eq_true, decide_eq_true_eq]; omega) xs
  exact h.imp fun h => by simpa using h
theorem sort_uniq {xs ys : List Int} (h : xs.Perm ys) (hx : xs.Pairwise (· ≤ ·)) (hy : ys.Pairwise (· ≤ ·)) : xs = ys := by
  induction xs generalizing ys with
  | nil => exact (List.nil_perm.mp h).symm
  | cons x xs ih =>
    cases ys with
    | nil => exact absurd h.symm (by simp)
    | cons y ys =>
      rw [List.pairwise_cons] at hx hy
      have e : x = y := by
        have h1 : x ∈ y :: ys := h.mem_iff.mp List.mem_cons_self
        have h2 : y ∈ x :: xs := h.mem_iff.mpr List.mem_cons_self
        rcases List.mem_cons.mp h1 with h1 | h1
        · exact h1
        · rcases List.mem_cons.mp h2 with h2 | h2
          · exact h2.symm
          · have := hx.1 y h2
            have := hy.1 x h1
            omega
      subst e
      rw [ih (List.perm_cons x |>.mp h) hx.2 hy.2]
theorem sortI_eq {xs ys : List Int} (h : ys.Perm xs) (hy : ys.Pairwise (· ≤ ·)) : ys = sortI xs := sort_uniq (h.trans (sortI_perm xs).symm) hy (sortI_sorted xs)
theorem cr_sortI (hK : X.K = K) : CallR X (.builtin "sorted") (fun vs H Q => ∃ (a : Addr) (ns : List Int), vs = [V.ref a] ∧ SqL K H a (ns.map V.int) ∧ ∀ p, H p = none → Q (.ref p) (upd H p (.lst ((sortI ns).map V.int)))) := by
  subst hK
  intro pins s σ H xs us Q I r ⟨a, ns, e, h, q⟩
  refine cr_sortedI pins s σ H xs us Q I r ⟨a, ns, e, h, fun ns' p h1 h2 hp => ?_⟩
  rw [sortI_eq h1 h2]
  exact q p hp
theorem ix_listK (hK : X.K = K) : IxR X (rIxL K) := hK ▸ ix_list
theorem ix_tupK (hK : X.K = K) : IxR X (rIxT K) := hK ▸ ix_tup
theorem sl_listK (hK : X.K = K) : SlR X (rSlL K) := hK ▸ sl_list
theorem cr_sumK (hK : X.K = K) (hc : X.calm = true) : CallR X (.builtin "sum") (rSum K) := hK ▸ cr_sum hc
theorem call_list_ofK (hK : X.K = K) : CallR X (.type "list") (fun xs H Q => ∃ p ys, xs = [.ref p] ∧ (SqL K H p ys ∨ SqT K H p ys) ∧ ∀ l, H l = none → Q (.ref l) (upd H l (.lst ys))) := hK ▸ call_list_of
theorem call_tuple_ofK (hK : X.K = K) : CallR X (.type "tuple") (fun xs H Q => ∃ p ys, xs = [.ref p] ∧ ((SqL K H p ys ∧ ∀ l, H l = none → Q (.ref l) (upd H l (.tup ys))) ∨ (SqT K H p ys ∧ Q (.ref p) H))) := hK ▸ call_tuple_of
theorem pi_listK {tg l : Expr} {tl : TE} (hK : X.K = K) (hl : PE X l tl) : PI X tg l (iList K tl) := hK ▸ pi_list hl
theorem pi_tupK {tg l : Expr} {tl : TE} (hK : X.K = K) (hl : PE X l tl) : PI X tg l (iTup K tl) := hK ▸ pi_tup hl
theorem pi_k {tg l : Expr} {wi : Fg → TI} (hK : X.K = K) (h : PI X tg l (wi X.K)) : PI X tg l (wi K) := hK ▸ h
theorem pg_k {tg : Expr} {t : Fg → TG} (hK : X.K = K) (h : PG X tg (t X.K)) : PG X tg (t K) := hK ▸ h
end
end Z
/-! Z3: sets of tuples by their number, isinstance -/
namespace Z
open PySem L2 PySem.Spec PyProof.Rows
open Rep (rep)
/-- each once -/
def nub {α : Type} [DecidableEq α] : List α → List α
  | [] => []
  | x :: xs => if x ∈ xs then nub xs else x :: nub xs
section
variable {α : Type} [DecidableEq α]
theorem nub_mem {y : α} : ∀ {xs : List α}, y ∈ nub xs ↔ y ∈ xs
  | [] => Iff.rfl
  | x :: xs => by
    unfold nub
    by_cases h : x ∈ xs
    · rw [if_pos h, nub_mem]
      exact ⟨List.mem_cons_of_mem _, fun q => (List.mem_cons.mp q).elim (fun e => e ▸ h) id⟩
    · rw [if_neg h, List.mem_cons, List.mem_cons, nub_mem]
theorem nub_nodup : ∀ (xs : List α), (nub xs).Nodup
  | [] => List.nodup_nil
  | x :: xs => by
    unfold nub
    by_cases h : x ∈ xs
    · rw [if_pos h]
      exact nub_nodup xs
    · rw [if_neg h]
      exact List.nodup_cons.mpr ⟨fun q => h (nub_mem.mp q), nub_nodup xs⟩
theorem nub_le : ∀ (xs : List α), (nub xs).length ≤ xs.length
  | [] => Nat.le_refl _
  | x :: xs => by
    unfold nub
    have := nub_le xs
    by_cases h : x ∈ xs
    · rw [if_pos h, List.length_cons]
      omega
    · rw [if_neg h, List.length_cons, List.length_cons]
      omega
theorem nub_len : ∀ {xs : List α}, (nub xs).length = xs.length ↔ xs.Nodup
  | [] => by simp [nub]
  | x :: xs => by
    unfold nub
    by_cases h : x ∈ xs
    · rw [if_pos h, List.length_cons]
      have := nub_le xs
      constructor
      · intro e
        omega
      · intro e
        exact absurd h (List.nodup_cons.mp e).1
    · rw [if_neg h, List.length_cons, List.length_cons, List.nodup_cons]
      constructor
      · intro e
        exact ⟨h, nub_len.mp (by omega)⟩
      · intro e
        rw [nub_len.mpr e.2]
theorem nodup_le : ∀ {xs ys : List α}, xs.Nodup → (∀ y ∈ xs, y ∈ ys) → xs.length ≤ ys.length
  | [], _, _, _ => Nat.zero_le _
  | x :: xs, ys, h, hs => by
    obtain ⟨h1, h2⟩ := List.nodup_cons.mp h
    have hx : x ∈ ys := hs x List.mem_cons_self
    have := nodup_le (xs := xs) (ys := ys.erase x) h2 fun y hy => (List.mem_erase_of_ne (show y ≠ x from fun e => by subst e; exact h1 hy)).mpr (hs y (List.mem_cons_of_mem _ hy))
    rw [List.length_erase_of_mem hx] at this
    have := List.length_pos_of_mem hx
    rw [List.length_cons]
    omega
theorem nodup_len {xs ys : List α} (h1 : xs.Nodup) (h2 : ys.Nodup) (h : ∀ y, y ∈ xs ↔ y ∈ ys) : xs.length = ys.length := by
  refine Nat.le_antisymm ?_ ?_
  · exact nodup_le h1 fun y hy => (h y).mp hy
  · exact nodup_le h2 fun y hy => (h y).mpr hy
end
section
variable {X : Cx} {K : Fg} {P : Program} {w : World} {F H : Hp}
/-- tuples of ints by their places -/
theorem tups_ks : ∀ {vs : List V} {xs : List (Tup Int)}, A2 (rep K H) vs xs → ∃ ks : List (Addr × List Int), vs = ks.map (fun p => V.ref p.1) ∧ ks.map (·.2) = xs.map (·.l) ∧ ∀ p ∈ ks, H p.1 = some (.tup (p.2.map V.int))
  | _, _, .nil => ⟨[], rfl, rfl, fun _ h => nomatch h⟩
  | _, _, .cons (x := x) h t => by
    obtain ⟨ks, h1, h2, h3⟩ := tups_ks t
    obtain ⟨a, us, rfl, q, hu⟩ := h
    refine ⟨(a, x.l) :: ks, by rw [h1]; rfl, by rw [List.map_cons, List.map_cons, h2], fun p hp => ?_⟩
    rcases List.mem_cons.mp hp with rfl | hp
    · rw [← hu.ints]
      exact q
    · exact h3 p hp
theorem setT0_len {pins : List (Addr × Obj)} {σ : L2.St} {s : Shared} {a : Addr} {L : List (Addr × List Int)} {Q : VK} (I : Inv X pins σ H s) (R : SetT0 X.prog X.w s.heap a L) (q : (L.map (·.2)).Nodup → Q (.int (L.length : Nat)) H) :
    wpAny (model X.prog X.w) X.A (call (.builtin "len") [.ref a]) (EP X pins σ Q) X.xe s := by
  obtain ⟨es, ep, t, ⟨o, ho, hex, hd⟩, hr, ht, hn, _, _, _, hf⟩ := R.ex
  have hsz : es.size = L.length := by
    have h := congrArg List.length hr
    unfold rowsOf at h
    rw [Array.length_toList, List.length_map] at h
    exact h
  have hps : t.place.size = L.length := by
    have := ht.sz
    rw [List.length_map] at this
    exact this
  have hroom := R.ex
  obtain ⟨_, _, t', ⟨o', ho', _, hd'⟩, _, _, _, _, _, hm, _⟩ := hroom
  rw [ho] at ho'
  cases ho'
  rw [hd] at hd'
  cases hd'
  have hfit : t.fits es.size = true := by
    unfold SetTable.fits SetTable.fill
    rw [ht.dm, hps, hsz]
    simp
    omega
  exact call_len_set ho hex hd hfit (by rw [hsz]; omega) ⟨.int (L.length : Nat), H, I.tok _, ⟨_, by rw [hsz]⟩, q hn⟩
/-- set(xs) of tuples, then len of it -/
theorem cr_setT (hK : X.K = K) (hP : X.prog = P) (hw : X.w = w) (hc : X.calm = true) (hu : X.A.units + 64 < cLine) : CallR X (.type "set") (fun xs H Q => ∃ (ys : List (Tup Int)) (v : V), xs = [v] ∧ rep K H v ys ∧ ys.length < 64 ∧
    ∀ a L, H a = none → ((L.map (·.2)).Nodup → L.length = (nub ys).length) → Q (.ref a) (upd H a (SetTO P w a L))) := by
  subst hK hP hw
  intro pins s σ H xs us Q I r ⟨ys, v, e, hr, hl, q⟩
  obtain ⟨a, vs, rfl, hq, h⟩ := hr
  obtain ⟨ks, h1, h2, h3⟩ := tups_ks h
  subst h1
  have hks : ks.length = ys.length := by
    have := congrArg List.length h2
    simpa using this
  refine cr_setOfT hc hu pins s σ H xs us Q I r ⟨a, ks, e, SqL.of hq, fun p hp => SqT.of (h3 p hp), by omega, fun b L hb hsub hall => q b L hb fun hn => ?_⟩
  have key : (L.map (·.2)).length = ((nub ys).map (·.l)).length := by
    refine nodup_len hn ?_ fun y => ?_
    · have inj : ∀ x y : Tup Int, x.l = y.l → x = y := fun x y e => by cases x; cases y; simp at e; rw [e]
      refine List.Pairwise.map (R := (· ≠ ·)) _ (fun x y hxy e => hxy (inj x y e)) (nub_nodup ys)
    · constructor
      · intro hy
        obtain ⟨p, hp, rfl⟩ := List.mem_map.mp hy
        have h4 : p.2 ∈ ks.map (·.2) := List.mem_map.mpr ⟨p, hsub p hp, rfl⟩
        rw [h2] at h4
        obtain ⟨z, hz, e⟩ := List.mem_map.mp h4
        exact List.mem_map.mpr ⟨z, nub_mem.mpr hz, e⟩
      · intro hy
        obtain ⟨z, hz, rfl⟩ := List.mem_map.mp hy
        have h4 : z.l ∈ ks.map (·.2) := by
          rw [h2]
          exact List.mem_map.mpr ⟨z, nub_mem.mp hz, rfl⟩
        obtain ⟨p, hp, e⟩ := List.mem_map.mp h4
        rw [← e]
        exact hall p hp
  rw [List.length_map, List.length_map] at key
  exact key
theorem call_lenT (hP : X.prog = P) (hw : X.w = w) : CallR X (.builtin "len") (fun xs H Q => ∃ (a : Addr) (L : List (Addr × List Int)) (n : Nat), xs = [.ref a] ∧ H a = some (SetTO P w a L) ∧ ((L.map (·.2)).Nodup → L.length = n) ∧ Q (.int (n : Nat)) H) := by
  subst hP hw
  intro pins s σ H xs us Q I r ⟨a, L, n, e, ha, hn, q⟩
  subst e
  rw [Vals.ref1 r]
  have R : SetT0 X.prog X.w s.heap a L := (show ObjOk X.prog X.w H s.heap a (SetTO X.prog X.w a L) from I.hok a _ ha).1
  exact setT0_len I R fun nd => by rw [hn nd]; exact q
/-- isinstance of a plain value and a built-in class -/
theorem call_isB (hK : X.K = K) : CallR X (.builtin "isinstance") (fun xs H Q => ∃ (x : V) (a b : String) (r : Bool), xs = [x, .ty b] ∧ TyOf K H x (.type a) ∧ kitB a b = some r ∧ Q (.bl r) H) := by
  subst hK
  intro pins s σ H xs us Q I r ⟨x, a, b, c, e, h1, h2, q⟩
  exact call_isi pins s σ H xs us Q I r ⟨x, .ty b, .type a, .type b, c, e, .ty b, .base h1, kit_ty h2, q⟩
end
end Z
namespace Z
open PySem L2 PySem.Spec PyProof.Rows
open Rep (rep)
section
variable {α : Type}
/-- the first place of an item -/
def fidx [DecidableEq α] (y : α) : List α → Option Nat
  | [] => none
  | x :: xs => if x = y then some 0 else (fidx y xs).map (· + 1)
def idxR [DecidableEq α] (xs : List α) (y : α) : R Int := ofO ((fidx y xs).map fun j => ((j : Nat) : Int))
theorem fidx_spec [DecidableEq α] {y : α} : ∀ {xs : List α} {j : Nat}, fidx y xs = some j → xs[j]? = some y ∧ ∀ m z, m < j → xs[m]? = some z → z ≠ y
  | [], j, h => nomatch h
  | x :: xs, j, h => by
    unfold fidx at h
    by_cases e : x = y
    · rw [if_pos e] at h
      cases h
      subst e
      exact ⟨rfl, fun m z hm => absurd hm (Nat.not_lt_zero _)⟩
    · rw [if_neg e] at h
      cases q : fidx y xs with
      | none => rw [q] at h; cases h
      | some k =>
        rw [q] at h
        cases h
        obtain ⟨h1, h2⟩ := fidx_spec q
        refine ⟨by simpa using h1, fun m z hm hz => ?_⟩
        cases m with
        | zero =>
          simp at hz
          subst hz
          exact e
        | succ m => exact h2 m z (Nat.lt_of_succ_lt_succ hm) (by simpa using hz)
variable {δ : Type} {P : δ → Prop} {E : Exn → Prop}
theorem pb_idx [DecidableEq α] {xs : List α} {y : α} {f : Int → R δ} (h : Post (idxR xs y >>= f) P E) : ∃ j : Nat, fidx y xs = some j ∧ Post (f (j : Int)) P E := by
  unfold idxR at h
  cases q : fidx y xs with
  | none => rw [q] at h; exact (show False from h).elim
  | some j => rw [q] at h; exact ⟨j, rfl, h⟩
end
section
variable {X : Cx} {K : Fg} {F H : Hp}
theorem A2.strs {vs : List V} {xs : List Str} (h : A2 (rep K H) vs xs) : vs = xs.map V.str := by
  induction h with
  | nil => rfl
  | cons a _ ih =>
    have a' : _ = V.str _ := a
    rw [a', ih]
    rfl
theorem bools_q {a : Addr} {vs : List V} {xs : List Bool} (q : SqL K H a vs) (h : A2 (rep K F) vs xs) : SqL K H a (xs.map V.bl) := h.bools ▸ q
theorem strs_q {a : Addr} {vs : List V} {xs : List Str} (q : SqL K H a vs) (h : A2 (rep K F) vs xs) : SqL K H a (xs.map V.str) := h.strs ▸ q
theorem mt_indexS (hK : X.K = K) : MtR X "list.index" (fun x xs H Q => ∃ (a : Addr) (ys : List Str) (y : Str) (j : Nat), x = V.ref a ∧ xs = [.str y] ∧ SqL K H a (ys.map V.str) ∧ fidx y ys = some j ∧ Q (.int (j : Int)) H) := by
  subst hK
  intro pins s σ H x xs v us Q I rx rxs ⟨a, ys, y, j, e1, e2, hs, hj, q⟩
  obtain ⟨h1, h2⟩ := fidx_spec hj
  refine mt_index pins s σ H x xs v us Q I rx rxs ⟨a, _, .str y, j, .str y, e1, e2, hs, rfl, ?_, ?_, ?_, fun m z hm hz => ?_, q⟩
  · rw [List.all_eq_true]
    intro z hz
    obtain ⟨t, _, rfl⟩ := List.mem_map.mp hz
    rfl
  · rw [List.getElem?_map, h1]
    rfl
  · show (y == y) = true
    simp
  · rw [List.getElem?_map] at hz
    cases e : ys[m]? with
    | none => rw [e] at hz; cases hz
    | some t =>
      rw [e] at hz
      cases hz
      have := h2 m t hm e
      show (t == y) = false
      simpa using this
theorem mt_indexI (hK : X.K = K) : MtR X "list.index" (fun x xs H Q => ∃ (a : Addr) (ys : List Int) (y : Int) (j : Nat), x = V.ref a ∧ xs = [.int y] ∧ SqL K H a (ys.map V.int) ∧ fidx y ys = some j ∧ Q (.int (j : Int)) H) := by
  subst hK
  intro pins s σ H x xs v us Q I rx rxs ⟨a, ys, y, j, e1, e2, hs, hj, q⟩
  obtain ⟨h1, h2⟩ := fidx_spec hj
  refine mt_index pins s σ H x xs v us Q I rx rxs ⟨a, _, .int y, j, .int y, e1, e2, hs, rfl, ?_, ?_, ?_, fun m z hm hz => ?_, q⟩
  · rw [List.all_eq_true]
    intro z hz
    obtain ⟨t, _, rfl⟩ := List.mem_map.mp hz
    rfl
  · rw [List.getElem?_map, h1]
    rfl
  · show (y == y) = true
    simp
  · rw [List.getElem?_map] at hz
    cases e : ys[m]? with
    | none => rw [e] at hz; cases hz
    | some t =>
      rw [e] at hz
      cases hz
      have := h2 m t hm e
      show (t == y) = false
      simpa using this
theorem cr_allK (hK : X.K = K) (hc : X.calm = true) : CallR X (.builtin "all") (rAll K) := hK ▸ cr_all hc
theorem cr_anyK (hK : X.K = K) (hc : X.calm = true) : CallR X (.builtin "any") (rAny K) := hK ▸ cr_any hc
end
end Z
/-! ZM: lemmas about mirrors -/
namespace Z
open PySem L2
section
variable {α β γ : Type}
theorem foldR_inv {f : β → α → R β} (I : β → Prop) : ∀ {xs : List α} {s : β}, I s → (∀ s x, I s → x ∈ xs → ∃ s', f s x = R.ok s' ∧ I s') → ∃ s', foldR f s xs = R.ok s' ∧ I s'
  | [], s, h, _ => ⟨s, rfl, h⟩
  | x :: xs, s, h, hf => by
    obtain ⟨s', e, h'⟩ := hf s x h List.mem_cons_self
    obtain ⟨s2, e2, h2⟩ := foldR_inv I (xs := xs) (s := s') h' fun s y hs hy => hf s y hs (List.mem_cons_of_mem _ hy)
    exact ⟨s2, by show (f s x >>= fun s' => foldR f s' xs) = _; rw [e]; exact e2, h2⟩
/-- with how many items are gone through -/
theorem foldR_invN {f : β → α → R β} (I : Nat → β → Prop) : ∀ {xs : List α} {n : Nat} {s : β}, I n s → (∀ n s x, I n s → x ∈ xs → ∃ s', f s x = R.ok s' ∧ I (n + 1) s') → ∃ s', foldR f s xs = R.ok s' ∧ I (n + xs.length) s'
  | [], n, s, h, _ => ⟨s, rfl, h⟩
  | x :: xs, n, s, h, hf => by
    obtain ⟨s', e, h'⟩ := hf n s x h List.mem_cons_self
    obtain ⟨s2, e2, h2⟩ := foldR_invN I (xs := xs) (n := n + 1) (s := s') h' fun n s y hs hy => hf n s y hs (List.mem_cons_of_mem _ hy)
    refine ⟨s2, by show (f s x >>= fun s' => foldR f s' xs) = _; rw [e]; exact e2, ?_⟩
    rw [List.length_cons, show n + (xs.length + 1) = n + 1 + xs.length by omega]
    exact h2
theorem foldX_inv {ρ : Type} {f : β → α → R (Sum ρ (Bool × β))} (I : β → Prop) : ∀ {xs : List α} {s : β}, I s → (∀ s x, I s → x ∈ xs → ∃ s', f s x = R.ok (.inr (true, s')) ∧ I s') → ∃ s', foldX f s xs = R.ok (.inr s') ∧ I s'
  | [], s, h, _ => ⟨s, rfl, h⟩
  | x :: xs, s, h, hf => by
    obtain ⟨s', e, h'⟩ := hf s x h List.mem_cons_self
    obtain ⟨s2, e2, h2⟩ := foldX_inv I (xs := xs) (s := s') h' fun s y hs hy => hf s y hs (List.mem_cons_of_mem _ hy)
    refine ⟨s2, ?_, h2⟩
    show (f s x >>= fun r => match r with
      | .inl z => R.ok (.inl z)
      | .inr (true, s') => foldX f s' xs
      | .inr (false, s') => R.ok (.inr s')) = _
    rw [e]
    exact e2
/-- a search that never ends the whole -/
theorem foldX_unit {ρ : Type} {f : Unit → α → R (Sum ρ (Bool × Unit))} {xs : List α} (hf : ∀ x ∈ xs, f () x = R.ok (.inr (true, ()))) : foldX f () xs = R.ok (.inr ()) := by
  obtain ⟨s, e, _⟩ := foldX_inv (fun _ => True) (f := f) (xs := xs) (s := ()) trivial fun s x _ hx => ⟨(), hf x hx, trivial⟩
  exact e
theorem mapR_ok {f : α → R β} {g : α → β} : ∀ {xs : List α}, (∀ x ∈ xs, f x = R.ok (g x)) → mapR f xs = R.ok (xs.map g)
  | [], _ => rfl
  | x :: xs, h => by
    show (f x >>= fun y => mapR f xs >>= fun ys => R.ok (y :: ys)) = _
    rw [h x List.mem_cons_self, mapR_ok fun y hy => h y (List.mem_cons_of_mem _ hy)]
    rfl
theorem mapG_ok {f : α → R β} {g : α → β} {xs : List α} (hl : xs.length < 100000) (h : ∀ x ∈ xs, f x = R.ok (g x)) : mapG f xs = R.ok (xs.map g) := by
  unfold mapG
  rw [grd_t (decide_eq_true hl)]
  exact mapR_ok h
theorem mapR_ex {f : α → R β} (p : β → Prop) : ∀ {xs : List α}, (∀ x ∈ xs, ∃ y, f x = R.ok y ∧ p y) → ∃ ys, mapR f xs = R.ok ys ∧ ys.length = xs.length ∧ ∀ y ∈ ys, p y
  | [], _ => ⟨[], rfl, rfl, fun _ h => nomatch h⟩
  | x :: xs, h => by
    obtain ⟨y, e, hy⟩ := h x List.mem_cons_self
    obtain ⟨ys, e2, hl, hp⟩ := mapR_ex p fun y hy => h y (List.mem_cons_of_mem _ hy)
    refine ⟨y :: ys, ?_, by rw [List.length_cons, List.length_cons, hl], fun z hz => ?_⟩
    · show (f x >>= fun y => mapR f xs >>= fun ys => R.ok (y :: ys)) = _
      rw [e, e2]
      rfl
    · rcases List.mem_cons.mp hz with rfl | hz
      · exact hy
      · exact hp z hz
theorem mapG_ex {f : α → R β} (p : β → Prop) {xs : List α} (hl : xs.length < 100000) (h : ∀ x ∈ xs, ∃ y, f x = R.ok y ∧ p y) : ∃ ys, mapG f xs = R.ok ys ∧ ys.length = xs.length ∧ ∀ y ∈ ys, p y := by
  unfold mapG
  rw [grd_t (decide_eq_true hl)]
  exact mapR_ex p h
theorem filR_ok {f : α → R (Option β)} {g : α → Option β} : ∀ {xs : List α}, (∀ x ∈ xs, f x = R.ok (g x)) → filR f xs = R.ok (xs.filterMap g)
  | [], _ => rfl
  | x :: xs, h => by
    show (f x >>= fun o => filR f xs >>= fun ys => match o with
      | some y => R.ok (y :: ys)
      | none => R.ok ys) = _
    rw [h x List.mem_cons_self, filR_ok fun y hy => h y (List.mem_cons_of_mem _ hy)]
    show (match g x with
      | some y => R.ok (y :: xs.filterMap g)
      | none => R.ok (xs.filterMap g)) = R.ok ((x :: xs).filterMap g)
    rw [List.filterMap_cons]
    cases g x <;> rfl
theorem filG_ok {f : α → R (Option β)} {g : α → Option β} {xs : List α} (hl : xs.length < 100000) (h : ∀ x ∈ xs, f x = R.ok (g x)) : filG f xs = R.ok (xs.filterMap g) := by
  unfold filG
  rw [grd_t (decide_eq_true hl)]
  exact filR_ok h
theorem getI_nat {xs : List α} {i : Int} (h0 : 0 ≤ i) (h1 : i < xs.length) : ∃ x, getI xs i = R.ok x ∧ x ∈ xs ∧ xs[i.toNat]? = some x := by
  have hj : i.toNat < xs.length := by omega
  refine ⟨xs[i.toNat], ?_, List.getElem_mem hj, List.getElem?_eq_getElem hj⟩
  unfold getI
  have e : atI xs i = some xs[i.toNat] := by
    have := atI_nat (xs := xs) (j := i.toNat) (v := xs[i.toNat]) (List.getElem?_eq_getElem hj)
    rw [Int.toNat_of_nonneg h0] at this
    exact this
  rw [e]
  rfl
theorem getI_eq {xs : List α} {i : Int} {x : α} (h0 : 0 ≤ i) (h : xs[i.toNat]? = some x) : getI xs i = R.ok x := by
  have h1 := (List.getElem?_eq_some_iff.mp h).1
  obtain ⟨y, e, _, e2⟩ := getI_nat (xs := xs) (i := i) h0 (by omega)
  rw [h] at e2
  cases e2
  exact e
theorem getI_last {xs : List α} (x : α) : getI (xs ++ [x]) (-1) = R.ok x := by
  unfold getI
  rw [atI_last]
  rfl
theorem setI_nat {xs : List α} {i : Int} {x : α} (h0 : 0 ≤ i) (h1 : i < xs.length) : setI xs i x = R.ok (xs.set i.toNat x) := by
  have e : ixN xs.length i = some i.toNat := by
    unfold ixN
    rw [if_pos h0, if_pos h1]
  unfold setI
  rw [e]
theorem app_ok {xs : List α} {x : α} (h : xs.length < 100000) : app xs x = R.ok (xs ++ [x]) := by
  unfold app
  rw [if_pos h]
theorem extend_ok {xs ys : List α} (h : xs.length + ys.length < 100000) : extend xs ys = R.ok (xs ++ ys) := by
  unfold extend
  rw [if_pos h]
theorem modI_ok {i j : Int} (h : 0 < j) : modI i j = R.ok (i % j) := by
  unfold modI
  rw [if_pos h]
theorem divI_ok {i j : Int} (h : 0 < j) (h2 : j < 1073741824) : divI i j = R.ok (i / j) := by
  unfold divI
  rw [if_pos ⟨h, h2⟩]
theorem mulI_ok {i j : Int} (h : (-(2 ^ 64) < i ∧ i < 2 ^ 64) ∨ (-(2 ^ 64) < j ∧ j < 2 ^ 64)) : mulI i j = R.ok (i * j) := by
  unfold mulI
  rw [if_pos h]
theorem rngI_ok {i j : Int} (h1 : -(2 ^ 62) ≤ i) (h2 : i < 2 ^ 62) (h3 : -(2 ^ 62) ≤ j) (h4 : j < 2 ^ 62) : rngI i j = R.ok (rng i j) := by
  unfold rngI
  rw [if_pos ⟨h1, h2, h3, h4⟩]
theorem rng_mem {i j k : Int} : k ∈ rng i j ↔ i ≤ k ∧ k < j := by
  unfold rng
  rw [List.mem_map]
  constructor
  · rintro ⟨n, hn, rfl⟩
    have := List.mem_range.mp hn
    omega
  · intro h
    exact ⟨(k - i).toNat, List.mem_range.mpr (by omega), by omega⟩
/-! ### what holds of a result, step by step -/
section
variable {P Q : α → Prop} {S : β → Prop} {X : Exn → Prop}
theorem po_bind {m : R α} {k : α → R β} (h : Post m Q X) (hk : ∀ a, Q a → Post (k a) S X) : Post (m >>= k) S X := by
  cases m with
  | ok a => exact hk a h
  | exc e => exact h
  | bad => exact h
theorem po_ok {a : α} (h : P a) : Post (R.ok a) P X := h
theorem po_eq {m : R α} {a : α} (h : m = R.ok a) (hp : P a) : Post m P X := by
  rw [h]
  exact hp
theorem po_if {c : Prop} [Decidable c] {m n : R α} (h1 : c → Post m P X) (h2 : ¬ c → Post n P X) : Post (if c then m else n) P X := by
  by_cases h : c
  · rw [if_pos h]
    exact h1 h
  · rw [if_neg h]
    exact h2 h
theorem po_ex {m : R α} (h : Post m P noX) : ∃ a, m = R.ok a ∧ P a := by
  cases m with
  | ok a => exact ⟨a, rfl, h⟩
  | exc e => exact (show False from h).elim
  | bad => exact (show False from h).elim
theorem po_iff {m : R α} {a : α} (h : Post m (· = a) noX) : m = R.ok a := by
  obtain ⟨b, e, rfl⟩ := po_ex h
  exact e
theorem po_grd {b : Bool} {k : Unit → R β} (h : b = true) (hk : Post (k ()) S X) : Post (grd b >>= k) S X := by
  rw [grd_t h]
  exact hk
theorem po_get {xs : List α} {i : Int} {k : α → R β} (h0 : 0 ≤ i) (h1 : i < xs.length) (hk : ∀ x, x ∈ xs → xs[i.toNat]? = some x → Post (k x) S X) : Post (getI xs i >>= k) S X := by
  obtain ⟨x, e, h2, h3⟩ := getI_nat h0 h1
  rw [e]
  exact hk x h2 h3
theorem po_getE {xs : List α} {i : Int} {x : α} {k : α → R β} (h : getI xs i = R.ok x) (hk : Post (k x) S X) : Post (getI xs i >>= k) S X := by
  rw [h]
  exact hk
theorem po_last {xs : List α} {k : α → R β} (h : xs ≠ []) (hk : ∀ x, x ∈ xs → Post (k x) S X) : Post (getI xs (-1) >>= k) S X := by
  obtain ⟨ys, y, rfl⟩ : ∃ ys y, xs = ys ++ [y] := ⟨xs.dropLast, xs.getLast h, (List.dropLast_concat_getLast h).symm⟩
  rw [getI_last]
  exact hk y (List.mem_append_right _ List.mem_cons_self)
theorem po_set {xs : List α} {i : Int} {x : α} {k : List α → R β} (h0 : 0 ≤ i) (h1 : i < xs.length) (hk : Post (k (xs.set i.toNat x)) S X) : Post (setI xs i x >>= k) S X := by
  rw [setI_nat h0 h1]
  exact hk
theorem po_app {xs : List α} {x : α} {k : List α → R β} (h : xs.length < 100000) (hk : Post (k (xs ++ [x])) S X) : Post (app xs x >>= k) S X := by
  rw [app_ok h]
  exact hk
theorem po_extend {xs ys : List α} {k : List α → R β} (h : xs.length + ys.length < 100000) (hk : Post (k (xs ++ ys)) S X) : Post (extend xs ys >>= k) S X := by
  rw [extend_ok h]
  exact hk
theorem po_mod {i j : Int} {k : Int → R β} (h : 0 < j) (hk : 0 ≤ i % j → i % j < j → Post (k (i % j)) S X) : Post (modI i j >>= k) S X := by
  rw [modI_ok h]
  exact hk (Int.emod_nonneg _ (by omega)) (Int.emod_lt_of_pos _ h)
theorem po_div {i j : Int} {k : Int → R β} (h : 0 < j) (h2 : j < 1073741824) (hk : Post (k (i / j)) S X) : Post (divI i j >>= k) S X := by
  rw [divI_ok h h2]
  exact hk
theorem po_mul {i j : Int} {k : Int → R β} (h : (-(2 ^ 64) < i ∧ i < 2 ^ 64) ∨ (-(2 ^ 64) < j ∧ j < 2 ^ 64)) (hk : Post (k (i * j)) S X) : Post (mulI i j >>= k) S X := by
  rw [mulI_ok h]
  exact hk
theorem po_rng {i j : Int} {k : List Int → R β} (h1 : -(2 ^ 62) ≤ i) (h2 : i < 2 ^ 62) (h3 : -(2 ^ 62) ≤ j) (h4 : j < 2 ^ 62) (hk : Post (k (rng i j)) S X) : Post (rngI i j >>= k) S X := by
  rw [rngI_ok h1 h2 h3 h4]
  exact hk
theorem po_fold {f : β → α → R β} {s : β} {xs : List α} (I : β → Prop) (h0 : I s) (hf : ∀ s x, I s → x ∈ xs → Post (f s x) I X) : Post (foldR f s xs) I X := by
  induction xs generalizing s with
  | nil => exact h0
  | cons x xs ih =>
    show Post (f s x >>= fun s' => foldR f s' xs) I X
    exact po_bind (hf s x h0 List.mem_cons_self) fun s' h' => ih h' fun s y hs hy => hf s y hs (List.mem_cons_of_mem _ hy)
/-- .. with the number of turns gone -/
theorem po_foldN {f : β → α → R β} {s : β} {xs : List α} (I : Nat → β → Prop) (h0 : I 0 s) (hf : ∀ n s x, n < xs.length → I n s → xs[n]? = some x → Post (f s x) (I (n + 1)) X) : Post (foldR f s xs) (I xs.length) X := by
  have key : ∀ (l : List α) (n : Nat) (s : β), xs.drop n = l → n ≤ xs.length → I n s → Post (foldR f s l) (I xs.length) X := by
    intro l
    induction l with
    | nil =>
      intro n s e hn h
      have : xs.length ≤ n := by
        have := congrArg List.length e
        rw [List.length_drop, List.length_nil] at this
        omega
      rw [show xs.length = n by omega]
      exact h
    | cons x l ih =>
      intro n s e hn h
      have hlt : n < xs.length := by
        have := congrArg List.length e
        rw [List.length_drop, List.length_cons] at this
        omega
      have e1 : xs[n] :: xs.drop (n + 1) = x :: l := (List.drop_eq_getElem_cons hlt).symm.trans e
      injection e1 with e2 e3
      show Post (f s x >>= fun s' => foldR f s' l) _ X
      exact po_bind (hf n s x hlt h (by rw [List.getElem?_eq_getElem hlt, e2])) fun s' h' => ih (n + 1) s' e3 (by omega) h'
  exact key xs 0 s rfl (Nat.zero_le _) h0
theorem po_foldX {ρ : Type} {f : β → α → R (Sum ρ (Bool × β))} {s : β} {xs : List α} (I : β → Prop) (h0 : I s) (hf : ∀ s x, I s → x ∈ xs → Post (f s x) (fun r => ∃ s', r = .inr (true, s') ∧ I s') X) : Post (foldX f s xs) (fun r => ∃ s', r = .inr s' ∧ I s') X := by
  induction xs generalizing s with
  | nil => exact ⟨s, rfl, h0⟩
  | cons x xs ih =>
    refine po_bind (S := fun r => ∃ s', r = Sum.inr s' ∧ I s') (k := fun r => match r with
      | .inl z => (R.ok (.inl z) : R (Sum ρ β))
      | .inr (true, s') => foldX f s' xs
      | .inr (false, s') => R.ok (.inr s')) (hf s x h0 List.mem_cons_self) fun r hr => ?_
    obtain ⟨s', rfl, h'⟩ := hr
    exact ih h' fun s y hs hy => hf s y hs (List.mem_cons_of_mem _ hy)
theorem po_mapG {f : α → R β} {xs : List α} (p : β → Prop) (hl : xs.length < 100000) (hf : ∀ x ∈ xs, Post (f x) p X) : Post (mapG f xs) (fun ys => ys.length = xs.length ∧ ∀ y ∈ ys, p y) X := by
  unfold mapG
  rw [grd_t (decide_eq_true hl)]
  show Post (mapR f xs) _ X
  clear hl
  induction xs with
  | nil => exact ⟨rfl, fun _ h => nomatch h⟩
  | cons x xs ih =>
    show Post (f x >>= fun y => mapR f xs >>= fun ys => R.ok (y :: ys)) _ X
    refine po_bind (hf x List.mem_cons_self) fun y hy => po_bind (ih fun z hz => hf z (List.mem_cons_of_mem _ hz)) fun ys ⟨h1, h2⟩ => ?_
    refine ⟨by rw [List.length_cons, List.length_cons, h1], fun z hz => ?_⟩
    rcases List.mem_cons.mp hz with rfl | hz
    · exact hy
    · exact h2 z hz
end
theorem cut_head (xs : List α) : cutL xs none (some 1) = xs.take 1 := by
  unfold cutL
  have e : HT.sIx xs.length xs.length (some 1) = min 1 xs.length := HT.sIx_nat xs.length xs.length 1
  have e0 : HT.sIx xs.length 0 none = 0 := rfl
  rw [e, e0, List.drop_zero]
  cases xs with
  | nil => rfl
  | cons x xs => simp
theorem cut_last (xs : List α) : cutL xs (some (-1)) none = xs.drop (xs.length - 1) := by
  unfold cutL
  have e : HT.sIx xs.length 0 (some (-1)) = xs.length - 1 := by
    unfold HT.sIx
    simp only [show ((-1 : Int) < 0) = True from eq_true (by decide), if_true]
    omega
  have e0 : HT.sIx xs.length xs.length none = xs.length := rfl
  rw [e, e0]
  refine List.take_of_length_le ?_
  rw [List.length_drop]
  exact Nat.le_refl _
end
end Z
namespace G
open PySem L2 Z
open Rep (rep)
def top (i : Nat) : Stmt := PySem.Challenge.pw_farhail_k31_rings_known_at_once.main.body.getD i (.Pass ⟨0, 0, 0, 0⟩)
abbrev s_gaps_round : Stmt := top 1
abbrev s_ring_known : Stmt := top 2
abbrev s_ring_far : Stmt := top 3
abbrev s_law_cell_at : Stmt := top 5
abbrev s_law_folded : Stmt := top 6
abbrev s_law_state : Stmt := top 7
abbrev s_law_next : Stmt := top 8
abbrev s_law_great : Stmt := top 9
abbrev s_law_looks : Stmt := top 10
abbrev s_law_far : Stmt := top 11
abbrev s_law_unlike : Stmt := top 12
abbrev s_law_words : Stmt := top 13
abbrev s_law : Stmt := top 14
/-! ### the mirrors -/
/-! gaps_round -/
def gaps_round (x_many : Int) (x_looks : (List Int)) : R (List Int) := do
  let l2 ← mapG (fun (b2 : (Int × Int)) => do
      let t5 ← modI (b2.1 + (1 : Int)) (x_looks.length : Int)
      let t6 ← getI x_looks t5
      let t7 ← modI (t6 - b2.2) x_many
      R.ok t7) (enum x_looks)
  R.ok l2
/-! ring_known -/
def ring_known (x_many : Int) (x_looks : (List Int)) (x_kind : Str) : R Bool := do
  if (decide (x_kind = ("all" : Str))) = true then do
    let j3 ← (do
      if (decide ((2 : Int) < (x_looks.length : Int))) = true then do
        let y5 ← gaps_round x_many x_looks
        let l7 ← mapG (fun (b7 : Int) => do
            R.ok (decide (((2 : Int) * b7) ≤ x_many))) y5
        R.ok (l7.all id)
      else do
        R.ok false : R (Bool))
    R.ok j3
  else do
    let j15 ← (do
      if (decide ((2 : Int) < (x_looks.length : Int))) = true then do
        R.ok true
      else do
        let j18 ← (do
          if (decide ((x_looks.length : Int) = (2 : Int))) = true then do
            let t20 ← getI x_looks (1 : Int)
            let t21 ← getI x_looks (0 : Int)
            R.ok (!decide (((2 : Int) * (t20 - t21)) = x_many))
          else do
            R.ok false : R (Bool))
        R.ok j18 : R (Bool))
    R.ok j15
/-! ring_far -/
def ring_far (x_many : Int) (x_one : Int) (x_other : Int) : R Int := do
  let t1 ← modI (x_one - x_other) x_many
  R.ok (min2 t1 (x_many - t1))
/-! _law_cell_at -/
def law_cell_at (x_script : Scr) (x_k : Int) : R Int := do
  if (decide (x_k < (x_script.l.length : Int))) = true then do
    let t3 ← getI x_script.l x_k
    R.ok t3
  else do
    let g4 ← (do
      if (!decide (x_script = (⟨([] : (List Int))⟩ : Scr))) = true then do
        let t9 ← modI x_k (x_script.l.length : Int)
        let t10 ← getI x_script.l t9
        R.ok (t10 % (1000003 : Int))
      else do
        R.ok (0 : Int) : R (Int))
    R.ok ((g4 + ((104729 : Int) * x_k)) + (13 : Int))
/-! _law_folded -/
def law_folded (x_script : Scr) (x_many : Int) : R (List Int) := do
  let l2 ← rngI 0 x_many
  let l3 ← mapG (fun (b3 : Int) => do
      let y5 ← law_cell_at x_script b3
      R.ok y5) l2
  let l8 ← rngI x_many (x_script.l.length : Int)
  let g7 ← foldR (fun (g7 : (List Int)) (b7 : Int) => do
      let t9 ← modI b7 x_many
      let t10 ← getI g7 t9
      let t14 ← getI x_script.l b7
      let l17 ← setI g7 t9 ((((t10 % ((10 : Int) ^ ((60 : Int) : Int).toNat)) * (48271 : Int)) + t14) % (((10 : Int) ^ ((60 : Int) : Int).toNat) + (7 : Int)))
      R.ok l17) l3 l8
  R.ok g7
/-! _law_state -/
def law_state (x_cell : Int) : R (List Int) := do
  let g1 ← (do
    if (decide (((10 : Int) ^ ((18 : Int) : Int).toNat) ≤ x_cell)) = true then do
      R.ok x_cell
    else do
      R.ok (0 : Int) : R (Int))
  R.ok ([g1, ((((x_cell % (2147483629 : Int)) + (11 : Int)) * (48271 : Int)) % (2147483647 : Int))] : (List Int))
/-! _law_next -/
def law_next (x_state : (List Int)) (x_many : Int) : R (Int × (List Int)) := do
  let t2 ← getI x_state (0 : Int)
  if (decide ((0 : Int) < t2)) = true then do
    let t4 ← getI x_state (0 : Int)
    let t5 ← modI t4 x_many
    let t6 ← getI x_state (0 : Int)
    let t7 ← divI t6 x_many
    let l8 ← setI x_state (0 : Int) t7
    R.ok (t5, l8)
  else do
    let t10 ← getI x_state (1 : Int)
    let l13 ← setI x_state (1 : Int) (((t10 * (69621 : Int)) + (40692 : Int)) % (2147483647 : Int))
    let t15 ← getI l13 (1 : Int)
    let t16 ← getI l13 (1 : Int)
    let t17 ← mulI t15 t16
    let t20 ← modI ((t17 % (2147483629 : Int)) / (8 : Int)) x_many
    R.ok (t20, l13)
/-! _law_great -/
def law_great (x_state : (List Int)) (x_top : Int) : R (Int × (List Int)) := do
  let g2 ← foldR (fun (g2 : Int × (List Int)) (b2 : Int) => do
      let y6 ← law_next g2.2 ((2 : Int) ^ ((24 : Int) : Int).toNat)
      R.ok (((g2.1 * ((2 : Int) ^ ((24 : Int) : Int).toNat)) + y6.1), y6.2)) ((0 : Int), x_state) (rng 0 (9 : Int))
  let t7 ← modI g2.1 x_top
  R.ok (t7, g2.2)
/-! _law_looks -/
def law_looks (x_state : (List Int)) (x_many : Int) (x_most : Int) : R ((List Int) × (List Int)) := do
  let y6 ← law_next x_state (x_most + (1 : Int))
  let l7 ← rngI 0 y6.1
  let g4 ← foldR (fun (g4 : (List Int) × (List Int)) (b4 : Int) => do
      let y9 ← law_great g4.1 x_many
      let y13 ← law_next y9.2 (9 : Int)
      let t14 ← getI ([(0 : Int), (x_many - (1 : Int)), (1 : Int), (x_many - (2 : Int)), (x_many / (2 : Int)), y9.1] : (List Int)) (min2 (5 : Int) y13.1)
      let g16 ← (do
        let j17 ← (do
          if (!decide (g4.2 = ([] : (List Int)))) = true then do
            let y22 ← law_next y13.2 (4 : Int)
            R.ok ((decide (y22.1 = (0 : Int))), y22.2)
          else do
            R.ok (false, y13.2) : R (Bool × (List Int)))
        if j17.1 = true then do
          let t28 ← getI g4.2 (-(1 : Int))
          let y30 ← law_next j17.2 (3 : Int)
          R.ok ((((t28 + (x_many / (2 : Int))) + y30.1) - (1 : Int)), y30.2)
        else do
          R.ok (t14, j17.2) : R (Int × (List Int)))
      let t31 ← modI g16.1 x_many
      if (!decide (t31 ∈ g4.2)) = true then do
        let t33 ← modI g16.1 x_many
        let l34 ← app g4.2 t33
        R.ok (g16.2, l34)
      else do
        R.ok (g16.2, g4.2)) (y6.2, ([] : (List Int))) l7
  R.ok ((sortI g4.2), g4.1)
/-! _law_far -/
def law_far (x_many : Int) (x_one : Int) (x_other : Int) : R Int := do
  let t1 ← modI (x_other - x_one) x_many
  let g2 ← (do
    if (decide (x_many < ((2 : Int) * t1))) = true then do
      R.ok (x_many - t1)
    else do
      R.ok t1 : R (Int))
  R.ok g2
/-! _law_unlike -/
def law_unlike (x_many : Int) (x_looks : (List Int)) (x_kind : Str) : R Bool := do
  let l5 ← rngI 0 x_many
  let g4 ← foldR (fun (g4 : (List (Tup Int))) (b4 : Int) => do
      let l6 ← mapG (fun (b6 : Int) => do
          let y9 ← law_far x_many b6 b4
          R.ok y9) x_looks
      let l14 ← mapG (fun (b14 : Int) => do
          let y17 ← law_far x_many b14 b4
          let y18 ← law_far x_many b14 (b4 + (1 : Int))
          R.ok (min2 y17 y18)) x_looks
      let t36 ← idxR ([("places" : Str), ("ties" : Str), ("all" : Str)] : (List Str)) x_kind
      let t37 ← getI ([([(Tup.mk l6)] : (List (Tup Int))), ([(Tup.mk l14)] : (List (Tup Int))), ([(Tup.mk l6), (Tup.mk l14)] : (List (Tup Int)))] : (List (List (Tup Int)))) t36
      let l39 ← extend g4 t37
      R.ok l39) ([] : (List (Tup Int))) l5
  let _ ← grd (decide (g4.length < 64))
  R.ok (decide (((nub g4).length : Int) = (g4.length : Int)))
/-! _law_words -/
def law_words (x_many : Int) (x_looks : (List Int)) (x_kind : Str) : R Bool := do
  if (decide (x_kind = ("all" : Str))) = true then do
    let l3 ← mapG (fun (b3 : (Int × Int)) => do
        let t6 ← getI x_looks (b3.1 - (1 : Int))
        R.ok (t6, b3.2)) (enum x_looks)
    let j10 ← (do
      if (decide ((2 : Int) < (x_looks.length : Int))) = true then do
        let l12 ← mapG (fun (b12 : (Int × Int)) => do
            let t16 ← modI (b12.2 - b12.1) x_many
            R.ok t16) l3
        let t18 ← maxL l12
        R.ok (decide (t18 ≤ (x_many / (2 : Int))))
      else do
        R.ok false : R (Bool))
    R.ok j10
  else do
    let j23 ← (do
      if (decide ((2 : Int) < (x_looks.length : Int))) = true then do
        R.ok true
      else do
        let j26 ← (do
          if (decide ((x_looks.length : Int) = (2 : Int))) = true then do
            let t28 ← getI x_looks (1 : Int)
            let t29 ← getI x_looks (0 : Int)
            R.ok (!decide (x_many = ((2 : Int) * (t28 - t29))))
          else do
            R.ok false : R (Bool))
        R.ok j26 : R (Bool))
    R.ok j23
/-! law -/
def law (x_script : Scr) : R Bool := do
  let y3 ← law_folded x_script (12 : Int)
  let r2 ← foldX (fun (g2 : Unit) (b2 : Int) => do
      let y7 ← law_state b2
      let y9 ← law_next y7 (8 : Int)
      let y10 ← law_looks y9.2 ((3 : Int) + y9.1) (4 : Int)
      let y19 ← law_next y10.2 (4 : Int)
      let t20 ← getI ([(8 : Int), ((10 : Int) ^ ((3 : Int) : Int).toNat), ((10 : Int) ^ ((20 : Int) : Int).toNat), (((10 : Int) ^ ((60 : Int) : Int).toNat) - (2 : Int))] : (List Int)) y19.1
      let y21 ← law_great y19.2 t20
      let y26 ← law_next y21.2 (4 : Int)
      let t27 ← getI ([(2 : Int), (3 : Int), (3 : Int), (20 : Int)] : (List Int)) y26.1
      let y28 ← law_looks y26.2 ((3 : Int) + y21.1) t27
      let r32 ← foldX (fun (g32 : Unit) (b32 : Str) => do
          let t46 ← getI ([y10.1, y28.1] : (List (List Int))) (0 : Int)
          let y48 ← ring_known ((3 : Int) + y9.1) t46 b32
          let t49 ← getI ([y10.1, y28.1] : (List (List Int))) (1 : Int)
          let y51 ← ring_known ((3 : Int) + y21.1) t49 b32
          let j55 ← (do
            let t56 ← getI ([y48, y51] : (List Bool)) (0 : Int)
            if (!true) = true then do
              R.ok true
            else do
              let t59 ← getI ([y48, y51] : (List Bool)) (1 : Int)
              if (!true) = true then do
                R.ok true
              else do
                R.ok (!decide (([y10.1, y28.1] : (List (List Int))) = ([y10.1, y28.1] : (List (List Int))))) : R (Bool))
          if j55 = true then do
            R.ok (.inl false)
          else do
            let y68 ← law_unlike ((3 : Int) + y9.1) y10.1 b32
            let y69 ← law_words ((3 : Int) + y21.1) y28.1 b32
            if (!decide (([y48, y51] : (List Bool)) = ([y68, y69] : (List Bool)))) = true then do
              R.ok (.inl false)
            else do
              let t75 ← getI ([y48, y51] : (List Bool)) (0 : Int)
              let y76 ← law_words ((3 : Int) + y9.1) y10.1 b32
              if (!decide (t75 = y76)) = true then do
                R.ok (.inl false)
              else do
                R.ok (.inr (true, ()))) () ([("places" : Str), ("ties" : Str), ("all" : Str)] : (List Str))
      match r32 with
      | .inl z => R.ok (.inl z)
      | .inr g32 => do
        let l82 ← extend y28.1 ([(0 : Int)] : (List Int))
        let r79 ← foldX (fun (g79 : (List Int)) (b79 : Int) => do
            let y87 ← law_great g79 ((3 : Int) + y21.1)
            let y88 ← ring_far ((3 : Int) + y21.1) b79 y87.1
            let j89 ← (do
              if false = true then do
                R.ok true
              else do
                let y92 ← law_far ((3 : Int) + y21.1) b79 y87.1
                if (!decide (y88 = y92)) = true then do
                  R.ok true
                else do
                  let y95 ← ring_far ((3 : Int) + y21.1) y87.1 b79
                  R.ok (!decide (y95 = y88)) : R (Bool))
            if j89 = true then do
              R.ok (.inl false)
            else do
              R.ok (.inr (true, y87.2))) y28.2 l82
        match r79 with
        | .inl z => R.ok (.inl z)
        | .inr g79 => do
          R.ok (.inr (true, ()))) () y3
  match r2 with
  | .inl z => R.ok z
  | .inr g2 => do
    R.ok true
/-! ### what the top has written -/
structure Dn (K : Fg) (mg : Str → Option Value) (x : Str) (st : Stmt) (ps : List Str) (f : Addr) (fd : FuncData) : Prop where
  fn : Fun K x x st f fd
  mg : mg x = some (.ref f)
  b : Binds K fd ps []
structure Tx (K : Fg) (mg : Str → Option Value) (A : Nat → Addr) (FD : Nat → FuncData) : Prop where
  d1 : Dn K mg "gaps_round" s_gaps_round ["many", "looks"] (A 1) (FD 1)
  d2 : Dn K mg "ring_known" s_ring_known ["many", "looks", "kind"] (A 2) (FD 2)
  d3 : Dn K mg "ring_far" s_ring_far ["many", "one", "other"] (A 3) (FD 3)
  d5 : Dn K mg "_law_cell_at" s_law_cell_at ["script", "k"] (A 5) (FD 5)
  d6 : Dn K mg "_law_folded" s_law_folded ["script", "many"] (A 6) (FD 6)
  d7 : Dn K mg "_law_state" s_law_state ["cell"] (A 7) (FD 7)
  d8 : Dn K mg "_law_next" s_law_next ["state", "many"] (A 8) (FD 8)
  d9 : Dn K mg "_law_great" s_law_great ["state", "top"] (A 9) (FD 9)
  d10 : Dn K mg "_law_looks" s_law_looks ["state", "many", "most"] (A 10) (FD 10)
  d11 : Dn K mg "_law_far" s_law_far ["many", "one", "other"] (A 11) (FD 11)
  d12 : Dn K mg "_law_unlike" s_law_unlike ["many", "looks", "kind"] (A 12) (FD 12)
  d13 : Dn K mg "_law_words" s_law_words ["many", "looks", "kind"] (A 13) (FD 13)
  d14 : Dn K mg "law" s_law ["script"] (A 14) (FD 14)
  n_all : mg "all" = none
  n_bool : mg "bool" = none
  n_enumerate : mg "enumerate" = none
  n_isinstance : mg "isinstance" = none
  n_len : mg "len" = none
  n_list : mg "list" = none
  n_max : mg "max" = none
  n_min : mg "min" = none
  n_range : mg "range" = none
  n_set : mg "set" = none
  n_sorted : mg "sorted" = none
  n_tuple : mg "tuple" = none
section
variable {P : Program} {w : World} {K : PySem.W.Frag} {mg : Str → Option Value} {base : Heap} {A : Nat → Addr} {FD : Nat → FuncData}
def sp_gaps_round (K : Fg) : Sp := fun vs H Q E => ∃ (F : Hp) (os : List (Addr × HO)) (x_many : Int) (v_looks : V) (x_looks : (List Int)), vs = [.int x_many, v_looks] ∧ W F H (os) ∧ rep K F v_looks x_looks ∧ Post (gaps_round x_many x_looks) (Ret K F os Q) noX
theorem sc_gaps_round : FnScope ["many", "looks", "k", "look"] ["many", "looks"] (defScope s_gaps_round) := ⟨rfl, rfl, rfl, by decide +kernel, rfl, by decide +kernel, by decide +kernel⟩
theorem ok_gaps_round (T : Tx K mg A FD) : FnOk P w K mg base CX0 1 (A 1) (FD 1) ["many", "looks"] (sp_gaps_round K) := by
  refine T.d1.fn.ok sc_gaps_round (fun vs H Q E h => ?_) (fun cdv Ar outer s H vs Q E hr h => ?_)
  · obtain ⟨F, os, x_many, v_looks, x_looks, rfl, _⟩ := h
    rfl
  · obtain ⟨F0, os, x_many, v_looks, x_looks, rfl, w0, r_looks, hm⟩ := h
    have sF : Same F0 F0 := Same.refl _
    obtain ⟨a1, vs1, rfl, q1, h1⟩ := r_looks
    refine ⟨_, (pss_one (ps_ret (pe_lc (own := [("k", 2), ("look", 3)]) (g := _) (by rfl) sc_gaps_round.nd (pi_k (K := K) (wi := fun K => iEnum K _) rfl (pi_enum (by rfl) T.n_enumerate (pa_cons (pv 1) pa_nil))) (blkOk_by (own := [("k", 2), ("look", 3)]) (N := ["many", "looks", "k", "look"]) (sc := defScope s_gaps_round) (by decide +kernel)) (fun _ _ _ _ _ => (pg_k (K := K) (t := fun K => gTup K 2 _) rfl (pg_tup (n := 2) rfl (pgs_cons (pg_name (i := 2) sc_gaps_round.nd rfl (Or.inl rfl)) (pgs_cons (pg_name (i := 3) sc_gaps_round.nd rfl (Or.inl rfl)) pgs_nil))))) (fun _ _ _ _ _ => pts_nil) (fun _ _ _ _ _ => (pe_op op_mod (pe_op op_sub (pe_ix (ix_listK (K := K) rfl) (pv 1) (pe_op op_mod (pe_op op_add (pv 2) pe_int) (pe_callB (call_lenN (K := K) rfl) (by rfl) T.n_len (by decide +kernel) (pa_cons (pv 1) pa_nil))) (fun _ _ => rfl)) (pv 3)) (pv 0)))))), ?_⟩
    refine ⟨_, rfl, _, _, rfl, SqL.of (w0.same _ _ q1), fun D2 nD2 => ?_⟩
    refine lcM (K := K) (tw_enum (a := a1) h1) hm w0 nD2 (fun F' H' acc s w => SqL.of (w.same _ _ (s _ _ q1))) ?_ ?_
    · -- one turn
      intro b2 x2 F2 H2 H2' acc2 N2 P2 s2 w2 y2 hN2 hm
      replace q1 := s2 _ _ q1
      replace h1 := A2.mono s2 h1
      replace sF := sF.trans s2
      obtain ⟨T4, u4, rfl, n4, rfl, r4⟩ := y2
      obtain ⟨F4, s4, w4, q4⟩ := w2.frzE (o := .tup [.int b2.1, u4]) n4
      replace r4 := Rep.mono s2 r4
      replace q1 := s4 _ _ q1
      replace h1 := A2.mono s4 h1
      replace sF := sF.trans s4
      replace r4 := Rep.mono s4 r4
      obtain rfl : u4 = V.int b2.2 := r4
      obtain ⟨c5, hm⟩ := pb_mod hm
      obtain ⟨t6, e6, hm⟩ := pb_get hm
      obtain ⟨u6, f6, r6⟩ := A2.at h1 e6
      obtain rfl : u6 = V.int t6 := r6
      obtain ⟨c7, hm⟩ := pb_mod hm
      exact ⟨_, _, rfl, SqT.of (w4.same _ _ q4), rfl, _, _, rfl, _, _, rfl, rfl, rfl, _, rfl, _, rfl, _, _, rfl, rfl, _, rfl, _, _, _, rfl, .inl (SqL.of (w4.same _ _ q1)), h1.length, _, _, rfl, rfl, c5, _, _, _, _, rfl, rfl, SqL.of (w4.same _ _ q1), f6, _, rfl, _, _, rfl, rfl, _, rfl, _, _, rfl, rfl, c7, hN2 _ (post_ok hm) _ _ _ w4 s4 rep_i⟩
    intro us2 F2 H2 ys2 s2 w2 gg2 hm
    replace q1 := s2 _ _ q1
    replace h1 := A2.mono s2 h1
    replace sF := sF.trans s2
    obtain ⟨F9, s9, w9, q9⟩ : ∃ F', Same F2 F' ∧ W F' _ (os) ∧ F' D2 = some (.lst us2) := w2.freezeE (pre := [])
    replace q1 := s9 _ _ q1
    replace h1 := A2.mono s9 h1
    replace gg2 := A2.mono s9 gg2
    replace sF := sF.trans s9
    exact (post_ok hm) _ _ _ w9 sF (rep_lst q9 gg2)
def sp_ring_known (K : Fg) : Sp := fun vs H Q E => ∃ (F : Hp) (os : List (Addr × HO)) (x_many : Int) (v_looks : V) (x_looks : (List Int)) (x_kind : Str), vs = [.int x_many, v_looks, .str x_kind] ∧ W F H (os) ∧ rep K F v_looks x_looks ∧ Post (ring_known x_many x_looks x_kind) (Ret K F os Q) noX
theorem sc_ring_known : FnScope ["many", "looks", "kind", "gap"] ["many", "looks", "kind"] (defScope s_ring_known) := ⟨rfl, rfl, rfl, by decide +kernel, rfl, by decide +kernel, by decide +kernel⟩
theorem ok_ring_known (T : Tx K mg A FD) : FnOk P w K mg base CX0 2 (A 2) (FD 2) ["many", "looks", "kind"] (sp_ring_known K) := by
  refine T.d2.fn.ok sc_ring_known (fun vs H Q E h => ?_) (fun cdv Ar outer s H vs Q E hr h => ?_)
  · obtain ⟨F, os, x_many, v_looks, x_looks, x_kind, rfl, _⟩ := h
    rfl
  · obtain ⟨F0, os, x_many, v_looks, x_looks, x_kind, rfl, w0, r_looks, hm⟩ := h
    have sF : Same F0 F0 := Same.refl _
    obtain ⟨a1, vs1, rfl, q1, h1⟩ := r_looks
    refine ⟨_, (pss_cons (ps_if (pt_cmpR op_eqS (pv 2) pe_str (nomark _)) (pss_one (ps_ret (pe_and (pe_cmp (pc_gt (pe_callB (call_lenN (K := K) rfl) (by rfl) T.n_len (by decide +kernel) (pa_cons (pv 1) pa_nil)) pe_int)) (pe_one (pe_callB (cr_allK (K := K) rfl rfl) (by rfl) T.n_all (by decide +kernel) (pa_cons (pe_lc (own := [("gap", 3)]) (g := gName 3) (by rfl) sc_ring_known.nd (pi_listK (K := K) rfl (pe_call (ok_gaps_round T) (hr.mono (by decide)) rfl T.d1.mg T.d1.fn.kp T.d1.b .nil pass0 (pa_cons (pv 0) (pa_cons (pv 1) pa_nil)))) (blkOk_by (own := [("gap", 3)]) (N := ["many", "looks", "kind", "gap"]) (sc := defScope s_ring_known) (by decide +kernel)) (fun _ _ _ _ _ => (pg_name (i := 3) sc_ring_known.nd rfl (Or.inl rfl))) (fun _ _ _ _ _ => pts_nil) (fun _ _ _ _ _ => (pe_cmp (pc_le (pe_op op_mul pe_int (pv 3)) (pv 0))))) pa_nil)))))) pss_nil) (pss_one (ps_ret (pe_or (pe_cmp (pc_gt (pe_callB (call_lenN (K := K) rfl) (by rfl) T.n_len (by decide +kernel) (pa_cons (pv 1) pa_nil)) pe_int)) (pe_one (pe_and (pe_cmp (pc_eqI (pe_callB (call_lenN (K := K) rfl) (by rfl) T.n_len (by decide +kernel) (pa_cons (pv 1) pa_nil)) pe_int)) (pe_one (pe_cmp (pc_neI (pe_op op_mul pe_int (pe_op op_sub (pe_ix (ix_listK (K := K) rfl) (pv 1) pe_int (fun _ _ => rfl)) (pe_ix (ix_listK (K := K) rfl) (pv 1) pe_int (fun _ _ => rfl)))) (pv 0)))))))))), ?_⟩
    refine ⟨_, rfl, _, _, rfl, rfl, _, rfl, ?_⟩
    refine post_ite hm (fun k2 hm => ?_) (fun k2 hm => ?_)
    · skip
      try dsimp only
      refine stepRet ?_
      refine joinE hm (fun (j3 : Bool) c H' => c = V.bl j3 ∧ ∃ (F' : Hp), Same F0 F' ∧ W F' H' (os)) ?_ ?_
      · intro Q3 P3 q3 hm
        refine ⟨_, rfl, _, _, _, rfl, .inl (SqL.of (w0.same _ _ q1)), h1.length, _, _, rfl, rfl, _, rfl, ?_⟩
        refine post_ite hm (fun k4 hm => ?_) (fun k4 hm => ?_)
        · skip
          refine ⟨_, rfl, _, rfl, _, _, _, _, (x_looks : (List Int)), rfl, w0, (rep_lst q1 h1), ?_⟩
          refine (post_bind hm).mono (fun y5 hm v5 F5 H5 w5 s5 r5 => ?_) (fun _ z => z)
          replace q1 := s5 _ _ q1
          replace h1 := A2.mono s5 h1
          replace sF := sF.trans s5
          obtain ⟨a6, vs6, rfl, q6, h6⟩ := r5
          refine ⟨_, rfl, ⟨_, SqL.of (w5.same _ _ q6)⟩, fun D7 nD7 => ?_⟩
          refine lcM (K := K) (tw_list (a := a6) h6) hm w5 nD7 (fun F' H' acc s w => SqL.of (w.same _ _ (s _ _ q6))) ?_ ?_
          · -- one turn
            intro b7 x7 F7 H7 H7' acc7 N7 P7 s7 w7 y7 hN7 hm
            replace q1 := s7 _ _ q1
            replace h1 := A2.mono s7 h1
            replace q6 := s7 _ _ q6
            replace h6 := A2.mono s7 h6
            replace sF := sF.trans s7
            obtain ⟨rfl, r9⟩ := y7
            obtain rfl : x7 = V.int b7 := r9
            exact ⟨rfl, _, rfl, _, _, rfl, rfl, (.inl (by constructor <;> decide)), _, rfl, _, _, rfl, rfl, hN7 _ (post_ok hm) _ _ _ w7 (Same.refl _) rep_b⟩
          intro us7 F7 H7 ys7 s7 w7 gg7 hm
          replace q1 := s7 _ _ q1
          replace h1 := A2.mono s7 h1
          replace q6 := s7 _ _ q6
          replace h6 := A2.mono s7 h6
          replace sF := sF.trans s7
          have w13 : W F7 _ (os) := w7.drop (pre := [])
          exact ⟨_, _, rfl, bools_q (SqL.of (w7.get (pre := []))) gg7, q3 _ (post_ok hm) _ _ ⟨rfl, _, (s5.trans s7), w13⟩⟩
        · skip
          exact q3 _ (post_ok hm) _ _ ⟨rfl, _, Same.refl _, w0⟩
      intro j3 c3 H3 hc3 hm
      obtain ⟨rfl, F3, s3, w3⟩ := hc3
      replace q1 := s3 _ _ q1
      replace h1 := A2.mono s3 h1
      replace sF := sF.trans s3
      exact (post_ok hm) _ _ _ w3 sF rep_b
    · skip
      refine stepX ?_
      try dsimp only
      refine stepRet ?_
      refine joinE hm (fun (j15 : Bool) c H' => c = V.bl j15 ∧ ∃ (F' : Hp), Same F0 F' ∧ W F' H' (os)) ?_ ?_
      · intro Q15 P15 q15 hm
        refine ⟨_, rfl, _, _, _, rfl, .inl (SqL.of (w0.same _ _ q1)), h1.length, _, _, rfl, rfl, _, rfl, ?_⟩
        refine post_ite hm (fun k16 hm => ?_) (fun k16 hm => ?_)
        · skip
          exact q15 _ (post_ok hm) _ _ ⟨rfl, _, Same.refl _, w0⟩
        · skip
          refine joinE hm (fun (j18 : Bool) c H' => c = V.bl j18 ∧ ∃ (F' : Hp), Same F0 F' ∧ W F' H' (os)) ?_ ?_
          · intro Q18 P18 q18 hm
            refine ⟨_, rfl, _, _, _, rfl, .inl (SqL.of (w0.same _ _ q1)), h1.length, _, _, rfl, rfl, _, rfl, ?_⟩
            refine post_ite hm (fun k19 hm => ?_) (fun k19 hm => ?_)
            · skip
              obtain ⟨t20, e20, hm⟩ := pb_get hm
              obtain ⟨u20, f20, r20⟩ := A2.at h1 e20
              obtain rfl : u20 = V.int t20 := r20
              obtain ⟨t21, e21, hm⟩ := pb_get hm
              obtain ⟨u21, f21, r21⟩ := A2.at h1 e21
              obtain rfl : u21 = V.int t21 := r21
              exact ⟨_, rfl, _, _, _, _, rfl, rfl, SqL.of (w0.same _ _ q1), f20, _, rfl, _, _, _, _, rfl, rfl, SqL.of (w0.same _ _ q1), f21, _, _, rfl, rfl, _, _, rfl, rfl, (.inl (by constructor <;> decide)), _, rfl, _, _, rfl, rfl, q18 _ (post_ok hm) _ _ ⟨rfl, _, Same.refl _, w0⟩⟩
            · skip
              exact q18 _ (post_ok hm) _ _ ⟨rfl, _, Same.refl _, w0⟩
          intro j18 c18 H18 hc18 hm
          obtain ⟨rfl, F18, s18, w18⟩ := hc18
          replace q1 := s18 _ _ q1
          replace h1 := A2.mono s18 h1
          replace sF := sF.trans s18
          exact q15 _ (post_ok hm) _ _ ⟨rfl, _, s18, w18⟩
      intro j15 c15 H15 hc15 hm
      obtain ⟨rfl, F15, s15, w15⟩ := hc15
      replace q1 := s15 _ _ q1
      replace h1 := A2.mono s15 h1
      replace sF := sF.trans s15
      exact (post_ok hm) _ _ _ w15 sF rep_b
def sp_ring_far (K : Fg) : Sp := fun vs H Q E => ∃ (F : Hp) (os : List (Addr × HO)) (x_many : Int) (x_one : Int) (x_other : Int), vs = [.int x_many, .int x_one, .int x_other] ∧ W F H (os) ∧ Post (ring_far x_many x_one x_other) (Ret K F os Q) noX
theorem sc_ring_far : FnScope ["many", "one", "other", "gap"] ["many", "one", "other"] (defScope s_ring_far) := ⟨rfl, rfl, rfl, by decide +kernel, rfl, by decide +kernel, by decide +kernel⟩
theorem ok_ring_far (T : Tx K mg A FD) : FnOk P w K mg base CX0 1 (A 3) (FD 3) ["many", "one", "other"] (sp_ring_far K) := by
  refine T.d3.fn.ok sc_ring_far (fun vs H Q E h => ?_) (fun cdv Ar outer s H vs Q E hr h => ?_)
  · obtain ⟨F, os, x_many, x_one, x_other, rfl, _⟩ := h
    rfl
  · obtain ⟨F0, os, x_many, x_one, x_other, rfl, w0, hm⟩ := h
    have sF : Same F0 F0 := Same.refl _
    refine ⟨_, (pss_cons (ps_set (i := 3) sc_ring_far.nd rfl (Or.inl rfl) (pe_op op_mod (pe_op op_sub (pv 1) (pv 2)) (pv 0))) (pss_one (ps_ret (pe_callB (call_min2 rfl) (by rfl) T.n_min (by decide +kernel) (pa_cons (pv 3) (pa_cons (pe_op op_sub (pv 0) (pv 3)) pa_nil)))))), ?_⟩
    obtain ⟨c1, hm⟩ := pb_mod hm
    exact ⟨_, rfl, _, rfl, _, _, rfl, rfl, _, rfl, _, _, rfl, rfl, c1, _, rfl, _, rfl, _, rfl, _, _, rfl, rfl, _, _, rfl, (post_ok hm) _ _ _ w0 sF rep_i⟩
def sp_law_cell_at (K : Fg) : Sp := fun vs H Q E => ∃ (F : Hp) (os : List (Addr × HO)) (v_script : V) (x_script : Scr) (x_k : Int), vs = [v_script, .int x_k] ∧ W F H (os) ∧ rep K F v_script x_script ∧ Post (law_cell_at x_script x_k) (Ret K F os Q) noX
theorem sc_law_cell_at : FnScope ["script", "k", "cell"] ["script", "k"] (defScope s_law_cell_at) := ⟨rfl, rfl, rfl, by decide +kernel, rfl, by decide +kernel, by decide +kernel⟩
theorem ok_law_cell_at (T : Tx K mg A FD) : FnOk P w K mg base CX0 1 (A 5) (FD 5) ["script", "k"] (sp_law_cell_at K) := by
  refine T.d5.fn.ok sc_law_cell_at (fun vs H Q E h => ?_) (fun cdv Ar outer s H vs Q E hr h => ?_)
  · obtain ⟨F, os, v_script, x_script, x_k, rfl, _⟩ := h
    rfl
  · obtain ⟨F0, os, v_script, x_script, x_k, rfl, w0, r_script, hm⟩ := h
    have sF : Same F0 F0 := Same.refl _
    obtain ⟨a1, rfl, q1⟩ := r_script
    have h1 : A2 (rep K F0) (x_script.l.map V.int) x_script.l := A2.of_ints
    refine ⟨_, (pss_cons (ps_if (pt_cmp (pc_lt (pv 1) (pe_callB (call_lenN (K := K) rfl) (by rfl) T.n_len (by decide +kernel) (pa_cons (pv 0) pa_nil)))) (pss_one (ps_ret (pe_ix (ix_listK (K := K) rfl) (pv 0) (pv 1) (fun _ _ => rfl)))) pss_nil) (pss_cons (ps_set (i := 2) sc_law_cell_at.nd rfl (Or.inl rfl) pe_int1) (pss_cons (ps_if (pt_cmpR (op_neDt (K := K) rfl Scr (by decide) hr.units) (pv 0) (pe_lst pa_nil) (nomark _)) (pss_one (ps_set (i := 2) sc_law_cell_at.nd rfl (Or.inl rfl) (pe_op op_mod (pe_ix (ix_listK (K := K) rfl) (pv 0) (pe_op op_mod (pv 1) (pe_callB (call_lenN (K := K) rfl) (by rfl) T.n_len (by decide +kernel) (pa_cons (pv 0) pa_nil))) (fun _ _ => rfl)) pe_int))) pss_nil) (pss_one (ps_ret (pe_op op_add (pe_op op_add (pv 2) (pe_op op_mul pe_int (pv 1))) pe_int)))))), ?_⟩
    refine ⟨_, rfl, _, rfl, _, _, _, rfl, .inl (w0.same.seq q1), h1.length, _, _, rfl, rfl, _, rfl, ?_⟩
    refine post_ite hm (fun k2 hm => ?_) (fun k2 hm => ?_)
    · skip
      obtain ⟨t3, e3, hm⟩ := pb_get hm
      obtain ⟨u3, f3, r3⟩ := A2.at h1 e3
      obtain rfl : u3 = V.int t3 := r3
      exact ⟨_, rfl, _, rfl, _, _, _, _, rfl, rfl, w0.same.seq q1, f3, (post_ok hm) _ _ _ w0 sF rep_i⟩
    · skip
      refine ⟨trivial, ?_⟩
      refine stepN ?_
      try dsimp only
      refine joinS hm (fun (g4 : Int) σ H' => ∃ (F' : Hp), σ = [some (.ref a1), some (.int x_k), some (.int g4)] ∧ Same F0 F' ∧ W F' H' (os)) ?_ ?_
      · intro N4 P4 hN4 hm
        have h5 : A2 (rep K F0) [] ([] : (List Int)) := .nil
        refine ⟨_, rfl, (by show 0 ≤ sizeLine; decide), fun p6 n6 => ?_⟩
        have w6 : W F0 _ ((p6, .lst []) :: os) := w0.new n6
        refine ⟨(x_script : Scr), (⟨([] : (List Int))⟩ : Scr), (Rep.mono w6.same ⟨_, rfl, q1⟩), ⟨_, rfl, SqL.of (w6.get (pre := []))⟩, _, rfl, ?_⟩
        have w7 : W F0 _ (os) := w6.drop (pre := [])
        refine post_ite hm (fun k8 hm => ?_) (fun k8 hm => ?_)
        · skip
          obtain ⟨c9, hm⟩ := pb_mod hm
          obtain ⟨t10, e10, hm⟩ := pb_get hm
          obtain ⟨u10, f10, r10⟩ := A2.at h1 e10
          obtain rfl : u10 = V.int t10 := r10
          exact ⟨_, rfl, _, rfl, _, rfl, _, _, _, rfl, .inl (w7.same.seq q1), h1.length, _, _, rfl, rfl, c9, _, _, _, _, rfl, rfl, w7.same.seq q1, f10, _, _, rfl, rfl, (by show (0 : Int) < (1000003 : Int); decide), hN4 _ (post_ok hm) _ _ ⟨_, rfl, Same.refl _, w7⟩⟩
        · skip
          exact hN4 _ (post_ok hm) _ _ ⟨_, rfl, Same.refl _, w7⟩
      intro g4 σ4 H4 hI hm
      obtain ⟨F4, rfl, s4, w4⟩ := hI
      replace h1 := A2.mono s4 h1
      replace q1 := s4.seq q1
      replace sF := sF.trans s4
      exact ⟨_, rfl, _, rfl, _, _, rfl, rfl, (.inl (by constructor <;> decide)), _, _, rfl, rfl, _, _, rfl, rfl, (post_ok hm) _ _ _ w4 sF rep_i⟩
def sp_law_folded (K : Fg) : Sp := fun vs H Q E => ∃ (F : Hp) (os : List (Addr × HO)) (v_script : V) (x_script : Scr) (x_many : Int), vs = [v_script, .int x_many] ∧ W F H (os) ∧ rep K F v_script x_script ∧ Post (law_folded x_script x_many) (RetL K F os Q) noX
theorem sc_law_folded : FnScope ["script", "many", "cells", "k", "at"] ["script", "many"] (defScope s_law_folded) := ⟨rfl, rfl, rfl, by decide +kernel, rfl, by decide +kernel, by decide +kernel⟩
theorem ok_law_folded (T : Tx K mg A FD) : FnOk P w K mg base CX0 2 (A 6) (FD 6) ["script", "many"] (sp_law_folded K) := by
  refine T.d6.fn.ok sc_law_folded (fun vs H Q E h => ?_) (fun cdv Ar outer s H vs Q E hr h => ?_)
  · obtain ⟨F, os, v_script, x_script, x_many, rfl, _⟩ := h
    rfl
  · obtain ⟨F0, os, v_script, x_script, x_many, rfl, w0, r_script, hm⟩ := h
    have sF : Same F0 F0 := Same.refl _
    obtain ⟨a1, rfl, q1⟩ := r_script
    have h1 : A2 (rep K F0) (x_script.l.map V.int) x_script.l := A2.of_ints
    refine ⟨_, (pss_cons (ps_setLc (i := 2) (own := [("k", 3)]) (g := gName 3) (by rfl) sc_law_folded.nd rfl rfl (sw_true rfl rfl rfl (by decide +kernel)) (pi_range1 (by rfl) T.n_range (pa_cons (pv 1) pa_nil)) (blkOk_by (own := [("k", 3)]) (N := ["script", "many", "cells", "k", "at"]) (sc := defScope s_law_folded) (by decide +kernel)) (fun _ _ _ _ _ => (pg_name (i := 3) sc_law_folded.nd rfl (Or.inl rfl))) (fun _ _ _ _ _ => pts_nil) (fun _ _ _ _ _ => (pe_call (ok_law_cell_at T) (hr.mono (by decide)) rfl T.d5.mg T.d5.fn.kp T.d5.b .nil pass0 (pa_cons (pv 0) (pa_cons (pv 3) pa_nil))))) (pss_cons (ps_for PassesOwn.never rfl (pi_range2 (by rfl) T.n_range (pa_cons (pv 1) (pa_cons (pe_callB (call_lenN (K := K) rfl) (by rfl) T.n_len (by decide +kernel) (pa_cons (pv 0) pa_nil)) pa_nil))) (pg_name (i := 3) sc_law_folded.nd rfl (Or.inl rfl)) (pss_cons (ps_set (i := 4) sc_law_folded.nd rfl (Or.inl rfl) (pe_op op_mod (pv 3) (pv 1))) (pss_one (ps_asg (pe_op op_mod (pe_op op_add (pe_op op_mul (pe_op op_mod (pe_ix (ix_listK (K := K) rfl) (pv 2) (pv 4) (fun _ _ => rfl)) (pe_op op_pow pe_int pe_int)) pe_int) (pe_ix (ix_listK (K := K) rfl) (pv 0) (pv 3) (fun _ _ => rfl))) (pe_op op_add (pe_op op_pow pe_int pe_int) pe_int)) (pg_sub (pv 2) (pv 4) set_list))))) (pss_one (ps_ret (pv 2))))), ?_⟩
    obtain ⟨c2, hm⟩ := pb_rng hm
    refine ⟨_, rfl, _, rfl, c2.2.2.1, c2.2.2.2, fun D3 nD3 => ?_⟩
    refine lcM (K := K) (tw_rng0 (j := x_many)) hm w0 nD3 (fun F' H' acc s w => trivial) ?_ ?_
    · -- one turn
      intro b3 x3 F3 H3 H3' acc3 N3 P3 s3 w3 y3 hN3 hm
      replace q1 := s3.seq q1
      replace h1 := A2.mono s3 h1
      replace sF := sF.trans s3
      obtain ⟨rfl, rfl⟩ := y3
      refine ⟨rfl, _, rfl, _, rfl, _, _, _, (x_script : Scr), _, rfl, w3, ⟨_, rfl, q1⟩, ?_⟩
      refine (post_bind hm).mono (fun y5 hm v5 F5 H5 w5 s5 r5 => ?_) (fun _ z => z)
      replace q1 := s5.seq q1
      replace h1 := A2.mono s5 h1
      replace sF := sF.trans s5
      obtain rfl : v5 = V.int y5 := r5
      exact hN3 _ (post_ok hm) _ _ _ w5 s5 rep_i
    intro us3 F3 H3 ys3 s3 w3 gg3 hm
    replace q1 := s3.seq q1
    replace h1 := A2.mono s3 h1
    replace sF := sF.trans s3
    obtain ⟨c8, hm⟩ := pb_rng hm
    refine ⟨_, rfl, _, rfl, _, _, _, rfl, .inl (w3.same.seq q1), h1.length, _, _, rfl, c8, ?_⟩
    refine forS (tw_rng (i := x_many) (j := (x_script.l.length : Int))) hm (fun (g7 : (List Int)) σ H' => ∃ (F' : Hp) (vs7_0 : List V) (o7_4 : Option V) (o7_3 : Option V), σ = [some (.ref a1), some (.int x_many), some (.ref D3), o7_3, o7_4] ∧ Same F3 F' ∧ W F' H' ((D3, .lst vs7_0) :: os) ∧ A2 (rep K F') vs7_0 g7) ⟨_, _, _, _, rfl, Same.refl _, w3, gg3⟩ (fun _ _ _ _ => trivial) ?_ ?_
    · -- a turn
      intro b7 g7 x7 σ7 H7 H7' N7 P7 hI hy hN7 hm
      obtain ⟨F7, vs7_0, o7_4, o7_3, rfl, s7, w7, h7_0⟩ := hI
      replace h1 := A2.mono s7 h1
      replace q1 := s7.seq q1
      replace sF := sF.trans s7
      obtain ⟨rfl, rfl⟩ := hy
      obtain ⟨c9, hm⟩ := pb_mod hm
      obtain ⟨t10, e10, hm⟩ := pb_get hm
      obtain ⟨u10, f10, r10⟩ := A2.at h7_0 e10
      obtain rfl : u10 = V.int t10 := r10
      obtain ⟨t14, e14, hm⟩ := pb_get hm
      obtain ⟨u14, f14, r14⟩ := A2.at h1 e14
      obtain rfl : u14 = V.int t14 := r14
      obtain ⟨j17, l17, z17, e17, hm⟩ := pn_set hm
      refine ⟨_, rfl, _, rfl, _, _, rfl, rfl, c9, _, rfl, _, rfl, _, _, _, _, rfl, rfl, SqL.of (w7.get (pre := [])), f10, _, _, rfl, rfl, (by refine ⟨?_, ?_, ?_⟩ <;> decide), _, _, rfl, rfl, (by show (0 : Int) < ((10 : Int) ^ ((60 : Int) : Int).toNat); decide), _, _, rfl, rfl, (.inr (by constructor <;> decide)), _, rfl, _, rfl, _, _, _, _, rfl, rfl, w7.same.seq q1, f14, _, _, rfl, rfl, _, _, rfl, rfl, (by refine ⟨?_, ?_, ?_⟩ <;> decide), _, _, rfl, rfl, _, _, rfl, rfl, (by show (0 : Int) < (((10 : Int) ^ ((60 : Int) : Int).toNat) + (7 : Int)); decide), _, rfl, _, rfl, _, _, _, _, rfl, rfl, (w7.get (pre := [])), (A2.ix h7_0 z17), ?_⟩
      have h17 : A2 (rep K F7) (vs7_0.set j17 (.int ((((t10 % ((10 : Int) ^ ((60 : Int) : Int).toNat)) * (48271 : Int)) + t14) % (((10 : Int) ^ ((60 : Int) : Int).toNat) + (7 : Int))))) l17 := e17 ▸ A2.set rep_i j17 h7_0
      have w18 : W F7 _ ((D3, .lst (vs7_0.set j17 (.int ((((t10 % ((10 : Int) ^ ((60 : Int) : Int).toNat)) * (48271 : Int)) + t14) % (((10 : Int) ^ ((60 : Int) : Int).toNat) + (7 : Int)))))) :: os) := w7.set (pre := [])
      exact hN7 _ (post_ok hm) _ _ ⟨_, _, _, _, rfl, s7, w18, h17⟩
    intro g7 σ7 H7 hI hm
    obtain ⟨F7, vs7_0, o7_4, o7_3, rfl, s7, w7, h7_0⟩ := hI
    replace h1 := A2.mono s7 h1
    replace q1 := s7.seq q1
    replace sF := sF.trans s7
    exact ⟨_, rfl, (post_ok hm) _ _ _ _ w7 sF h7_0⟩
def sp_law_state (K : Fg) : Sp := fun vs H Q E => ∃ (F : Hp) (os : List (Addr × HO)) (x_cell : Int), vs = [.int x_cell] ∧ W F H (os) ∧ Post (law_state x_cell) (RetL K F os Q) noX
theorem sc_law_state : FnScope ["cell", "left"] ["cell"] (defScope s_law_state) := ⟨rfl, rfl, rfl, by decide +kernel, rfl, by decide +kernel, by decide +kernel⟩
theorem ok_law_state (T : Tx K mg A FD) : FnOk P w K mg base CX0 1 (A 7) (FD 7) ["cell"] (sp_law_state K) := by
  refine T.d7.fn.ok sc_law_state (fun vs H Q E h => ?_) (fun cdv Ar outer s H vs Q E hr h => ?_)
  · obtain ⟨F, os, x_cell, rfl, _⟩ := h
    rfl
  · obtain ⟨F0, os, x_cell, rfl, w0, hm⟩ := h
    have sF : Same F0 F0 := Same.refl _
    refine ⟨_, (pss_cons (ps_set (i := 1) sc_law_state.nd rfl (Or.inl rfl) pe_int1) (pss_cons (ps_if (pt_cmp (pc_ge (pv 0) (pe_op op_pow pe_int pe_int))) (pss_one (ps_set (i := 1) sc_law_state.nd rfl (Or.inl rfl) (pv 0))) pss_nil) (pss_one (ps_ret (pe_lst (pa_cons (pv 1) (pa_cons (pe_op op_mod (pe_op op_mul (pe_op op_add (pe_op op_mod (pv 0) pe_int) pe_int) pe_int) pe_int) pa_nil))))))), ?_⟩
    refine ⟨trivial, ?_⟩
    refine stepN ?_
    try dsimp only
    refine joinS hm (fun (g1 : Int) σ H' => ∃ (F' : Hp), σ = [some (.int x_cell), some (.int g1)] ∧ Same F0 F' ∧ W F' H' (os)) ?_ ?_
    · intro N1 P1 hN1 hm
      refine ⟨_, rfl, _, _, rfl, rfl, (by refine ⟨?_, ?_, ?_⟩ <;> decide), _, _, rfl, rfl, _, rfl, ?_⟩
      refine post_ite hm (fun k3 hm => ?_) (fun k3 hm => ?_)
      · skip
        exact ⟨_, rfl, hN1 _ (post_ok hm) _ _ ⟨_, rfl, Same.refl _, w0⟩⟩
      · skip
        exact hN1 _ (post_ok hm) _ _ ⟨_, rfl, Same.refl _, w0⟩
    intro g1 σ1 H1 hI hm
    obtain ⟨F1, rfl, s1, w1⟩ := hI
    replace sF := sF.trans s1
    have h7 : A2 (rep K F1) [(.int g1), (.int ((((x_cell % (2147483629 : Int)) + (11 : Int)) * (48271 : Int)) % (2147483647 : Int)))] ([g1, ((((x_cell % (2147483629 : Int)) + (11 : Int)) * (48271 : Int)) % (2147483647 : Int))] : (List Int)) := .cons rep_i (.cons rep_i (.nil))
    refine ⟨_, rfl, _, rfl, _, _, rfl, rfl, (by show (0 : Int) < (2147483629 : Int); decide), _, _, rfl, rfl, _, _, rfl, rfl, (.inr (by constructor <;> decide)), _, _, rfl, rfl, (by show (0 : Int) < (2147483647 : Int); decide), (by show 2 ≤ sizeLine; decide), fun p8 n8 => ?_⟩
    have w8 : W F1 _ ((p8, .lst [(.int g1), (.int ((((x_cell % (2147483629 : Int)) + (11 : Int)) * (48271 : Int)) % (2147483647 : Int)))]) :: os) := w1.new n8
    exact (post_ok hm) _ _ _ _ w8 sF h7
def sp_law_next (K : Fg) : Sp := fun vs H Q E => ∃ (F : Hp) (os : List (Addr × HO)) (a_state : Addr) (vs_state : List V) (x_state : (List Int)) (x_many : Int), vs = [.ref a_state, .int x_many] ∧ W F H ((a_state, .lst vs_state) :: os) ∧ A2 (rep K F) vs_state x_state ∧ Post (law_next x_state x_many) (RetM K F a_state os Q) noX
theorem sc_law_next : FnScope ["state", "many", "found"] ["state", "many"] (defScope s_law_next) := ⟨rfl, rfl, rfl, by decide +kernel, rfl, by decide +kernel, by decide +kernel⟩
theorem ok_law_next (T : Tx K mg A FD) : FnOk P w K mg base CX0 1 (A 8) (FD 8) ["state", "many"] (sp_law_next K) := by
  refine T.d8.fn.ok sc_law_next (fun vs H Q E h => ?_) (fun cdv Ar outer s H vs Q E hr h => ?_)
  · obtain ⟨F, os, a_state, vs_state, x_state, x_many, rfl, _⟩ := h
    rfl
  · obtain ⟨F0, os, a_state, vs_state, x_state, x_many, rfl, w0, h_state, hm⟩ := h
    have sF : Same F0 F0 := Same.refl _
    refine ⟨_, (pss_cons (ps_if (pt_cmp (pc_gt (pe_ix (ix_listK (K := K) rfl) (pv 0) pe_int (fun _ _ => rfl)) pe_int)) (pss_cons (ps_set (i := 2) sc_law_next.nd rfl (Or.inl rfl) (pe_op op_mod (pe_ix (ix_listK (K := K) rfl) (pv 0) pe_int (fun _ _ => rfl)) (pv 1))) (pss_cons (ps_asg (pe_op op_fdiv (pe_ix (ix_listK (K := K) rfl) (pv 0) pe_int (fun _ _ => rfl)) (pv 1)) (pg_sub (pv 0) pe_int set_list)) (pss_one (ps_ret (pv 2))))) pss_nil) (pss_cons (ps_asg (pe_op op_mod (pe_op op_add (pe_op op_mul (pe_ix (ix_listK (K := K) rfl) (pv 0) pe_int (fun _ _ => rfl)) pe_int) pe_int) pe_int) (pg_sub (pv 0) pe_int set_list)) (pss_one (ps_ret (pe_op op_mod (pe_op op_fdiv (pe_op op_mod (pe_op op_mul (pe_ix (ix_listK (K := K) rfl) (pv 0) pe_int (fun _ _ => rfl)) (pe_ix (ix_listK (K := K) rfl) (pv 0) pe_int (fun _ _ => rfl))) pe_int) pe_int) (pv 1)))))), ?_⟩
    obtain ⟨t2, e2, hm⟩ := pb_get hm
    obtain ⟨u2, f2, r2⟩ := A2.at h_state e2
    obtain rfl : u2 = V.int t2 := r2
    refine ⟨_, rfl, _, _, _, _, rfl, rfl, SqL.of (w0.get (pre := [])), f2, _, _, rfl, rfl, _, rfl, ?_⟩
    refine post_ite hm (fun k3 hm => ?_) (fun k3 hm => ?_)
    · skip
      obtain ⟨t4, e4, hm⟩ := pb_get hm
      obtain ⟨u4, f4, r4⟩ := A2.at h_state e4
      obtain rfl : u4 = V.int t4 := r4
      obtain ⟨c5, hm⟩ := pb_mod hm
      obtain ⟨t6, e6, hm⟩ := pb_get hm
      obtain ⟨u6, f6, r6⟩ := A2.at h_state e6
      obtain rfl : u6 = V.int t6 := r6
      obtain ⟨c7, hm⟩ := pb_div hm
      obtain ⟨j8, l8, z8, e8, hm⟩ := pn_set hm
      refine ⟨_, rfl, _, _, _, _, rfl, rfl, SqL.of (w0.get (pre := [])), f4, _, rfl, _, _, rfl, rfl, c5, _, rfl, _, _, _, _, rfl, rfl, SqL.of (w0.get (pre := [])), f6, _, rfl, _, _, rfl, rfl, c7, _, rfl, _, _, _, _, rfl, rfl, (w0.get (pre := [])), (A2.ix h_state z8), ?_⟩
      have h8 : A2 (rep K F0) (vs_state.set j8 (.int (t6 / x_many))) l8 := e8 ▸ A2.set rep_i j8 h_state
      have w9 : W F0 _ ((a_state, .lst (vs_state.set j8 (.int (t6 / x_many)))) :: os) := w0.set (pre := [])
      exact ⟨_, rfl, (post_ok hm) _ _ _ _ w9 sF rep_i h8⟩
    · skip
      obtain ⟨t10, e10, hm⟩ := pb_get hm
      obtain ⟨u10, f10, r10⟩ := A2.at h_state e10
      obtain rfl : u10 = V.int t10 := r10
      obtain ⟨j13, l13, z13, e13, hm⟩ := pn_set hm
      refine ⟨_, rfl, _, _, _, _, rfl, rfl, SqL.of (w0.get (pre := [])), f10, _, _, rfl, rfl, (.inr (by constructor <;> decide)), _, _, rfl, rfl, _, _, rfl, rfl, (by show (0 : Int) < (2147483647 : Int); decide), _, rfl, _, _, _, _, rfl, rfl, (w0.get (pre := [])), (A2.ix h_state z13), ?_⟩
      have h13 : A2 (rep K F0) (vs_state.set j13 (.int (((t10 * (69621 : Int)) + (40692 : Int)) % (2147483647 : Int)))) l13 := e13 ▸ A2.set rep_i j13 h_state
      have w14 : W F0 _ ((a_state, .lst (vs_state.set j13 (.int (((t10 * (69621 : Int)) + (40692 : Int)) % (2147483647 : Int))))) :: os) := w0.set (pre := [])
      obtain ⟨t15, e15, hm⟩ := pb_get hm
      obtain ⟨u15, f15, r15⟩ := A2.at h13 e15
      obtain rfl : u15 = V.int t15 := r15
      obtain ⟨t16, e16, hm⟩ := pb_get hm
      obtain ⟨u16, f16, r16⟩ := A2.at h13 e16
      obtain rfl : u16 = V.int t16 := r16
      obtain ⟨c17, hm⟩ := pb_mul hm
      obtain ⟨c20, hm⟩ := pb_mod hm
      exact ⟨_, rfl, _, _, _, _, rfl, rfl, SqL.of (w14.get (pre := [])), f15, _, rfl, _, _, _, _, rfl, rfl, SqL.of (w14.get (pre := [])), f16, _, _, rfl, rfl, c17, _, _, rfl, rfl, (by show (0 : Int) < (2147483629 : Int); decide), _, _, rfl, rfl, (by constructor <;> decide), _, rfl, _, _, rfl, rfl, c20, (post_ok hm) _ _ _ _ w14 sF rep_i h13⟩
def sp_law_great (K : Fg) : Sp := fun vs H Q E => ∃ (F : Hp) (os : List (Addr × HO)) (a_state : Addr) (vs_state : List V) (x_state : (List Int)) (x_top : Int), vs = [.ref a_state, .int x_top] ∧ W F H ((a_state, .lst vs_state) :: os) ∧ A2 (rep K F) vs_state x_state ∧ Post (law_great x_state x_top) (RetM K F a_state os Q) noX
theorem sc_law_great : FnScope ["state", "top", "found", "k"] ["state", "top"] (defScope s_law_great) := ⟨rfl, rfl, rfl, by decide +kernel, rfl, by decide +kernel, by decide +kernel⟩
theorem ok_law_great (T : Tx K mg A FD) : FnOk P w K mg base CX0 2 (A 9) (FD 9) ["state", "top"] (sp_law_great K) := by
  refine T.d9.fn.ok sc_law_great (fun vs H Q E h => ?_) (fun cdv Ar outer s H vs Q E hr h => ?_)
  · obtain ⟨F, os, a_state, vs_state, x_state, x_top, rfl, _⟩ := h
    rfl
  · obtain ⟨F0, os, a_state, vs_state, x_state, x_top, rfl, w0, h_state, hm⟩ := h
    have sF : Same F0 F0 := Same.refl _
    refine ⟨_, (pss_cons (ps_set (i := 2) sc_law_great.nd rfl (Or.inl rfl) pe_int1) (pss_cons (ps_for PassesOwn.never rfl (pi_range1 (by rfl) T.n_range (pa_cons pe_int pa_nil)) (pg_name (i := 3) sc_law_great.nd rfl (Or.inl rfl)) (pss_one (ps_set (i := 2) sc_law_great.nd rfl (Or.inl rfl) (pe_op op_add (pe_op op_mul (pv 2) (pe_op op_pow pe_int pe_int)) (pe_call (ok_law_next T) (hr.mono (by decide)) rfl T.d8.mg T.d8.fn.kp T.d8.b .nil pass0 (pa_cons (pv 0) (pa_cons (pe_op op_pow pe_int pe_int) pa_nil))))))) (pss_one (ps_ret (pe_op op_mod (pv 2) (pv 1)))))), ?_⟩
    refine ⟨trivial, _, rfl, (by decide), (by decide), ?_⟩
    refine forS (tw_rng0 (j := (9 : Int))) hm (fun (g2 : Int × (List Int)) σ H' => ∃ (F' : Hp) (vs2_0 : List V) (o2_3 : Option V), σ = [some (.ref a_state), some (.int x_top), some (.int g2.1), o2_3] ∧ Same F0 F' ∧ W F' H' ((a_state, .lst vs2_0) :: os) ∧ A2 (rep K F') vs2_0 g2.2) ⟨_, _, _, rfl, Same.refl _, w0, h_state⟩ (fun _ _ _ _ => trivial) ?_ ?_
    · -- a turn
      intro b2 g2 x2 σ2 H2 H2' N2 P2 hI hy hN2 hm
      obtain ⟨F2, vs2_0, o2_3, rfl, s2, w2, h2_0⟩ := hI
      replace sF := sF.trans s2
      obtain ⟨rfl, rfl⟩ := hy
      refine ⟨_, rfl, _, _, rfl, rfl, (by refine ⟨?_, ?_, ?_⟩ <;> decide), _, _, rfl, rfl, (.inr (by constructor <;> decide)), _, rfl, _, _, rfl, rfl, (by refine ⟨?_, ?_, ?_⟩ <;> decide), _, _, _, _, _, _, rfl, w2, h2_0, ?_⟩
      refine (post_bind hm).mono (fun y6 hm v6 vs6 F6 H6 w6 s6 r6 h6 => ?_) (fun _ z => z)
      replace sF := sF.trans s6
      obtain rfl : v6 = V.int y6.1 := r6
      exact ⟨_, _, rfl, rfl, hN2 _ (post_ok hm) _ _ ⟨_, _, _, rfl, (s2.trans s6), w6, h6⟩⟩
    intro g2 σ2 H2 hI hm
    obtain ⟨F2, vs2_0, o2_3, rfl, s2, w2, h2_0⟩ := hI
    replace sF := sF.trans s2
    obtain ⟨c7, hm⟩ := pb_mod hm
    exact ⟨_, rfl, _, rfl, _, _, rfl, rfl, c7, (post_ok hm) _ _ _ _ w2 sF rep_i h2_0⟩
def sp_law_looks (K : Fg) : Sp := fun vs H Q E => ∃ (F : Hp) (os : List (Addr × HO)) (a_state : Addr) (vs_state : List V) (x_state : (List Int)) (x_many : Int) (x_most : Int), vs = [.ref a_state, .int x_many, .int x_most] ∧ W F H ((a_state, .lst vs_state) :: os) ∧ A2 (rep K F) vs_state x_state ∧ Post (law_looks x_state x_many x_most) (RetLM K F a_state os Q) noX
theorem sc_law_looks : FnScope ["state", "many", "most", "found", "k", "place"] ["state", "many", "most"] (defScope s_law_looks) := ⟨rfl, rfl, rfl, by decide +kernel, rfl, by decide +kernel, by decide +kernel⟩
theorem ok_law_looks (T : Tx K mg A FD) : FnOk P w K mg base CX0 3 (A 10) (FD 10) ["state", "many", "most"] (sp_law_looks K) := by
  refine T.d10.fn.ok sc_law_looks (fun vs H Q E h => ?_) (fun cdv Ar outer s H vs Q E hr h => ?_)
  · obtain ⟨F, os, a_state, vs_state, x_state, x_many, x_most, rfl, _⟩ := h
    rfl
  · obtain ⟨F0, os, a_state, vs_state, x_state, x_many, x_most, rfl, w0, h_state, hm⟩ := h
    have sF : Same F0 F0 := Same.refl _
    refine ⟨_, (pss_cons (ps_set (i := 3) sc_law_looks.nd rfl (Or.inl rfl) (pe_lst pa_nil)) (pss_cons (ps_for PassesOwn.never rfl (pi_range1 (by rfl) T.n_range (pa_cons (pe_call (ok_law_next T) (hr.mono (by decide)) rfl T.d8.mg T.d8.fn.kp T.d8.b .nil pass0 (pa_cons (pv 0) (pa_cons (pe_op op_add (pv 2) pe_int) pa_nil))) pa_nil)) (pg_name (i := 4) sc_law_looks.nd rfl (Or.inl rfl)) (pss_cons (ps_set (i := 5) sc_law_looks.nd rfl (Or.inl rfl) (pe_ix (ix_listK (K := K) rfl) (pe_lst (pa_cons pe_int (pa_cons (pe_op op_sub (pv 1) pe_int) (pa_cons pe_int (pa_cons (pe_op op_sub (pv 1) pe_int) (pa_cons (pe_op op_fdiv (pv 1) pe_int) (pa_cons (pe_call (ok_law_great T) (hr.mono (by decide)) rfl T.d9.mg T.d9.fn.kp T.d9.b .nil pass0 (pa_cons (pv 0) (pa_cons (pv 1) pa_nil))) pa_nil))))))) (pe_callB (call_min2 rfl) (by rfl) T.n_min (by decide +kernel) (pa_cons pe_int (pa_cons (pe_call (ok_law_next T) (hr.mono (by decide)) rfl T.d8.mg T.d8.fn.kp T.d8.b .nil pass0 (pa_cons (pv 0) (pa_cons pe_int pa_nil))) pa_nil))) (fun _ _ => rfl))) (pss_cons (ps_if (PW.pt (pw_and (pt_cmpR (op_neDt (K := K) rfl (List Int) (by decide) hr.units) (pv 3) (pe_lst pa_nil) (nomark _)) (pw_and1 (pt_cmp (pc_eqI (pe_call (ok_law_next T) (hr.mono (by decide)) rfl T.d8.mg T.d8.fn.kp T.d8.b .nil pass0 (pa_cons (pv 0) (pa_cons pe_int pa_nil))) pe_int))))) (pss_one (ps_set (i := 5) sc_law_looks.nd rfl (Or.inl rfl) (pe_op op_sub (pe_op op_add (pe_op op_add (pe_ix (ix_listK (K := K) rfl) (pv 3) (pe_un un_neg pe_int) (fun _ _ => rfl)) (pe_op op_fdiv (pv 1) pe_int)) (pe_call (ok_law_next T) (hr.mono (by decide)) rfl T.d8.mg T.d8.fn.kp T.d8.b .nil pass0 (pa_cons (pv 0) (pa_cons pe_int pa_nil)))) pe_int))) pss_nil) (pss_one (ps_if (pt_cmpR (op_notInL (K := K) rfl Int (by decide) (Room.units65 hr)) (pe_op op_mod (pv 5) (pv 1)) (pv 3) (by rfl)) (pss_one (ps_expr (pe_bm PySem.F.plainAttrs_list PySem.F.slot_list_append PySem.F.type_list_append mt_append (pv 3) (pa_cons (pe_op op_mod (pv 5) (pv 1)) pa_nil)))) pss_nil))))) (pss_one (ps_ret (pe_callB (cr_sortI (K := K) rfl) (by rfl) T.n_sorted (by decide +kernel) (pa_cons (pv 3) pa_nil)))))), ?_⟩
    have h2 : A2 (rep K F0) [] ([] : (List Int)) := .nil
    refine ⟨(by show 0 ≤ sizeLine; decide), fun p3 n3 => ?_⟩
    have w3 : W F0 _ ((p3, .lst []) :: (a_state, .lst vs_state) :: os) := w0.new n3
    have w5 : W F0 _ ((a_state, .lst vs_state) :: (p3, .lst []) :: os) := w3.front (pre := [_])
    refine ⟨_, rfl, _, rfl, _, _, rfl, rfl, _, _, _, _, _, _, rfl, w5, h_state, ?_⟩
    refine (post_bind hm).mono (fun y6 hm v6 vs6 F6 H6 w6 s6 r6 h6 => ?_) (fun _ z => z)
    replace h2 := A2.mono s6 h2
    replace sF := sF.trans s6
    obtain rfl : v6 = V.int y6.1 := r6
    obtain ⟨c7, hm⟩ := pb_rng hm
    refine ⟨_, rfl, c7.2.2.1, c7.2.2.2, ?_⟩
    refine forS (tw_rng0 (j := y6.1)) hm (fun (g4 : (List Int) × (List Int)) σ H' => ∃ (F' : Hp) (vs4_0 : List V) (vs4_1 : List V) (o4_5 : Option V) (o4_4 : Option V), σ = [some (.ref a_state), some (.int x_many), some (.int x_most), some (.ref p3), o4_4, o4_5] ∧ Same F6 F' ∧ W F' H' ((a_state, .lst vs4_0) :: (p3, .lst vs4_1) :: os) ∧ A2 (rep K F') vs4_0 g4.1 ∧ A2 (rep K F') vs4_1 g4.2) ⟨_, _, _, _, _, rfl, Same.refl _, w6, h6, h2⟩ (fun _ _ _ _ => trivial) ?_ ?_
    · -- a turn
      intro b4 g4 x4 σ4 H4 H4' N4 P4 hI hy hN4 hm
      obtain ⟨F4, vs4_0, vs4_1, o4_5, o4_4, rfl, s4, w4, h4_0, h4_1⟩ := hI
      replace sF := sF.trans s4
      obtain ⟨rfl, rfl⟩ := hy
      refine ⟨_, rfl, _, _, rfl, rfl, _, rfl, _, _, rfl, rfl, _, rfl, _, _, rfl, rfl, (by constructor <;> decide), _, rfl, _, rfl, _, _, _, _, _, _, rfl, w4, h4_0, ?_⟩
      refine (post_bind hm).mono (fun y9 hm v9 vs9 F9 H9 w9 s9 r9 h9 => ?_) (fun _ z => z)
      replace h4_1 := A2.mono s9 h4_1
      replace sF := sF.trans s9
      obtain rfl : v9 = V.int y9.1 := r9
      have h10 : A2 (rep K F9) [(.int 0), (.int (x_many - (1 : Int))), (.int 1), (.int (x_many - (2 : Int))), (.int (x_many / (2 : Int))), (.int y9.1)] ([(0 : Int), (x_many - (1 : Int)), (1 : Int), (x_many - (2 : Int)), (x_many / (2 : Int)), y9.1] : (List Int)) := .cons rep_i (.cons rep_i (.cons rep_i (.cons rep_i (.cons rep_i (.cons rep_i (.nil))))))
      refine ⟨(by show 6 ≤ sizeLine; decide), fun p11 n11 => ?_⟩
      have w11 : W F9 _ ((p11, .lst [(.int 0), (.int (x_many - (1 : Int))), (.int 1), (.int (x_many - (2 : Int))), (.int (x_many / (2 : Int))), (.int y9.1)]) :: (a_state, .lst vs9) :: (p3, .lst vs4_1) :: os) := w9.new n11
      have w12 : W F9 _ ((a_state, .lst vs9) :: (p11, .lst [(.int 0), (.int (x_many - (1 : Int))), (.int 1), (.int (x_many - (2 : Int))), (.int (x_many / (2 : Int))), (.int y9.1)]) :: (p3, .lst vs4_1) :: os) := w11.front (pre := [_])
      refine ⟨_, rfl, _, _, _, _, _, _, rfl, w12, h9, ?_⟩
      refine (post_bind hm).mono (fun y13 hm v13 vs13 F13 H13 w13 s13 r13 h13 => ?_) (fun _ z => z)
      replace h4_1 := A2.mono s13 h4_1
      replace h10 := A2.mono s13 h10
      replace sF := sF.trans s13
      obtain rfl : v13 = V.int y13.1 := r13
      obtain ⟨t14, e14, hm⟩ := pb_get hm
      obtain ⟨u14, f14, r14⟩ := A2.at h10 e14
      obtain rfl : u14 = V.int t14 := r14
      have w15 : W F13 _ ((a_state, .lst vs13) :: (p3, .lst vs4_1) :: os) := w13.drop (pre := [_])
      refine ⟨_, _, rfl, _, _, _, _, rfl, rfl, SqL.of (w13.get (pre := [_])), f14, ?_⟩
      refine stepN ?_
      try dsimp only
      refine joinS hm (fun (g16 : Int × (List Int)) σ H' => ∃ (F' : Hp) (vs16_0 : List V), σ = [some (.ref a_state), some (.int x_many), some (.int x_most), some (.ref p3), some (.int b4), some (.int g16.1)] ∧ Same F13 F' ∧ W F' H' ((a_state, .lst vs16_0) :: (p3, .lst vs4_1) :: os) ∧ A2 (rep K F') vs16_0 g16.2) ?_ ?_
      · intro N16 P16 hN16 hm
        refine stepIf ?_
        refine joinT hm (fun (j17 : Bool × (List Int)) c H' => c = j17.1 ∧ ∃ (F' : Hp) (vs17_0 : List V), Same F13 F' ∧ W F' H' ((a_state, .lst vs17_0) :: (p3, .lst vs4_1) :: os) ∧ A2 (rep K F') vs17_0 j17.2) ?_ ?_
        · intro Q17 P17 q17 hm
          have h18 : A2 (rep K F13) [] ([] : (List Int)) := .nil
          refine ⟨_, rfl, (by show 0 ≤ sizeLine; decide), fun p19 n19 => ?_⟩
          have w19 : W F13 _ ((p19, .lst []) :: (a_state, .lst vs13) :: (p3, .lst vs4_1) :: os) := w15.new n19
          refine ⟨(g4.2 : (List Int)), (([] : (List Int)) : (List Int)), (rep_own (pre := [_, _]) w19 h4_1), (rep_own (pre := []) w19 h18), _, rfl, ?_⟩
          refine post_ite hm (fun k20 hm => ?_) (fun k20 hm => ?_)
          · skip
            have w21 : W F13 _ ((a_state, .lst vs13) :: (p19, .lst []) :: (p3, .lst vs4_1) :: os) := w19.front (pre := [_])
            refine ⟨_, rfl, _, _, _, _, _, _, rfl, w21, h13, ?_⟩
            refine (post_bind hm).mono (fun y22 hm v22 vs22 F22 H22 w22 s22 r22 h22 => ?_) (fun _ z => z)
            replace h4_1 := A2.mono s22 h4_1
            replace h18 := A2.mono s22 h18
            replace sF := sF.trans s22
            obtain rfl : v22 = V.int y22.1 := r22
            have w24 : W F22 _ ((a_state, .lst vs22) :: (p3, .lst vs4_1) :: os) := w22.drop (pre := [_])
            exact ⟨_, _, rfl, rfl, _, rfl, q17 _ (post_ok hm) _ _ ⟨rfl, _, _, s22, w24, h22⟩⟩
          · skip
            have w26 : W F13 _ ((a_state, .lst vs13) :: (p3, .lst vs4_1) :: os) := w19.drop (pre := [])
            exact q17 _ (post_ok hm) _ _ ⟨rfl, _, _, Same.refl _, w26, h13⟩
        intro j17 c17 H17 hc17 hm
        obtain ⟨rfl, F17, vs17_0, s17, w17, h17_0⟩ := hc17
        replace h4_1 := A2.mono s17 h4_1
        replace sF := sF.trans s17
        refine post_ite hm (fun k27 hm => ?_) (fun k27 hm => ?_)
        · skip
          obtain ⟨t28, e28, hm⟩ := pb_get hm
          obtain ⟨u28, f28, r28⟩ := A2.at h4_1 e28
          obtain rfl : u28 = V.int t28 := r28
          refine ⟨_, rfl, _, rfl, _, _, _, _, rfl, rfl, SqL.of (w17.get (pre := [_])), f28, _, rfl, _, _, rfl, rfl, (by constructor <;> decide), _, _, rfl, rfl, _, rfl, _, _, _, _, _, _, rfl, w17, h17_0, ?_⟩
          refine (post_bind hm).mono (fun y30 hm v30 vs30 F30 H30 w30 s30 r30 h30 => ?_) (fun _ z => z)
          replace h4_1 := A2.mono s30 h4_1
          replace sF := sF.trans s30
          obtain rfl : v30 = V.int y30.1 := r30
          exact ⟨_, _, rfl, rfl, _, _, rfl, rfl, hN16 _ (post_ok hm) _ _ ⟨_, _, rfl, (s17.trans s30), w30, h30⟩⟩
        · skip
          exact hN16 _ (post_ok hm) _ _ ⟨_, _, rfl, s17, w17, h17_0⟩
      intro g16 σ16 H16 hI hm
      obtain ⟨F16, vs16_0, rfl, s16, w16, h16_0⟩ := hI
      replace h4_1 := A2.mono s16 h4_1
      replace sF := sF.trans s16
      obtain ⟨c31, hm⟩ := pb_mod hm
      refine ⟨_, rfl, _, rfl, _, _, rfl, rfl, c31, _, rfl, ((g16.1 % x_many) : Int), _, rep_i, (rep_own (pre := [_]) w16 h4_1), _, rfl, ?_⟩
      refine post_ite hm (fun k32 hm => ?_) (fun k32 hm => ?_)
      · skip
        obtain ⟨c33, hm⟩ := pb_mod hm
        obtain ⟨l34, z34, e34, hm⟩ := pn_app hm
        refine ⟨_, rfl, .inl ⟨rfl, _, SqL.of (w16.get (pre := [_]))⟩, _, rfl, _, rfl, _, _, rfl, rfl, c33, _, _, _, rfl, rfl, (w16.get (pre := [_])), (A2.lt h4_1 z34), ?_⟩
        have h34 : A2 (rep K F16) (vs4_1 ++ [(.int (g16.1 % x_many))]) l34 := e34 ▸ A2.snoc h4_1 rep_i
        have w35 : W F16 _ ((a_state, .lst vs16_0) :: (p3, .lst (vs4_1 ++ [(.int (g16.1 % x_many))])) :: os) := w16.set (pre := [_])
        exact hN4 _ (post_ok hm) _ _ ⟨_, _, _, _, _, rfl, (s4.trans (s9.trans (s13.trans s16))), w35, h16_0, h34⟩
      · skip
        exact hN4 _ (post_ok hm) _ _ ⟨_, _, _, _, _, rfl, (s4.trans (s9.trans (s13.trans s16))), w16, h16_0, h4_1⟩
    intro g4 σ4 H4 hI hm
    obtain ⟨F4, vs4_0, vs4_1, o4_5, o4_4, rfl, s4, w4, h4_0, h4_1⟩ := hI
    replace sF := sF.trans s4
    have h36 : A2 (rep K F4) ((sortI g4.2).map V.int) (sortI g4.2) := A2.of_ints
    refine ⟨_, rfl, _, _, rfl, ints_q (SqL.of (w4.get (pre := [_]))) h4_1, fun p37 n37 => ?_⟩
    have w37 : W F4 _ ((p37, .lst ((sortI g4.2).map V.int)) :: (a_state, .lst vs4_0) :: (p3, .lst vs4_1) :: os) := w4.new n37
    have w38 : W F4 _ ((p37, .lst ((sortI g4.2).map V.int)) :: (a_state, .lst vs4_0) :: os) := w37.drop (pre := [_, _])
    exact (post_ok hm) _ _ _ _ _ w38 sF h36 h4_0
def sp_law_far (K : Fg) : Sp := fun vs H Q E => ∃ (F : Hp) (os : List (Addr × HO)) (x_many : Int) (x_one : Int) (x_other : Int), vs = [.int x_many, .int x_one, .int x_other] ∧ W F H (os) ∧ Post (law_far x_many x_one x_other) (Ret K F os Q) noX
theorem sc_law_far : FnScope ["many", "one", "other", "on"] ["many", "one", "other"] (defScope s_law_far) := ⟨rfl, rfl, rfl, by decide +kernel, rfl, by decide +kernel, by decide +kernel⟩
theorem ok_law_far (T : Tx K mg A FD) : FnOk P w K mg base CX0 1 (A 11) (FD 11) ["many", "one", "other"] (sp_law_far K) := by
  refine T.d11.fn.ok sc_law_far (fun vs H Q E h => ?_) (fun cdv Ar outer s H vs Q E hr h => ?_)
  · obtain ⟨F, os, x_many, x_one, x_other, rfl, _⟩ := h
    rfl
  · obtain ⟨F0, os, x_many, x_one, x_other, rfl, w0, hm⟩ := h
    have sF : Same F0 F0 := Same.refl _
    refine ⟨_, (pss_cons (ps_set (i := 3) sc_law_far.nd rfl (Or.inl rfl) (pe_op op_mod (pe_op op_sub (pv 2) (pv 1)) (pv 0))) (pss_cons (ps_if (pt_cmp (pc_gt (pe_op op_mul pe_int (pv 3)) (pv 0))) (pss_one (ps_set (i := 3) sc_law_far.nd rfl (Or.inl rfl) (pe_op op_sub (pv 0) (pv 3)))) pss_nil) (pss_one (ps_ret (pv 3))))), ?_⟩
    obtain ⟨c1, hm⟩ := pb_mod hm
    refine ⟨_, rfl, _, rfl, _, _, rfl, rfl, _, rfl, _, _, rfl, rfl, c1, ?_⟩
    refine stepN ?_
    try dsimp only
    refine joinS hm (fun (g2 : Int) σ H' => ∃ (F' : Hp), σ = [some (.int x_many), some (.int x_one), some (.int x_other), some (.int g2)] ∧ Same F0 F' ∧ W F' H' (os)) ?_ ?_
    · intro N2 P2 hN2 hm
      refine ⟨_, rfl, _, _, rfl, rfl, (.inl (by constructor <;> decide)), _, rfl, _, _, rfl, rfl, _, rfl, ?_⟩
      refine post_ite hm (fun k4 hm => ?_) (fun k4 hm => ?_)
      · skip
        exact ⟨_, rfl, _, rfl, _, _, rfl, rfl, hN2 _ (post_ok hm) _ _ ⟨_, rfl, Same.refl _, w0⟩⟩
      · skip
        exact hN2 _ (post_ok hm) _ _ ⟨_, rfl, Same.refl _, w0⟩
    intro g2 σ2 H2 hI hm
    obtain ⟨F2, rfl, s2, w2⟩ := hI
    replace sF := sF.trans s2
    exact ⟨_, rfl, (post_ok hm) _ _ _ w2 sF rep_i⟩
def sp_law_unlike (K : Fg) : Sp := fun vs H Q E => ∃ (F : Hp) (os : List (Addr × HO)) (x_many : Int) (v_looks : V) (x_looks : (List Int)) (x_kind : Str), vs = [.int x_many, v_looks, .str x_kind] ∧ W F H (os) ∧ rep K F v_looks x_looks ∧ Post (law_unlike x_many x_looks x_kind) (Ret K F os Q) noX
theorem sc_law_unlike : FnScope ["many", "looks", "kind", "codes", "place", "own", "beside", "look"] ["many", "looks", "kind"] (defScope s_law_unlike) := ⟨rfl, rfl, rfl, by decide +kernel, rfl, by decide +kernel, by decide +kernel⟩
theorem ok_law_unlike (T : Tx K mg A FD) : FnOk P w K mg base CX0 2 (A 12) (FD 12) ["many", "looks", "kind"] (sp_law_unlike K) := by
  refine T.d12.fn.ok sc_law_unlike (fun vs H Q E h => ?_) (fun cdv Ar outer s H vs Q E hr h => ?_)
  · obtain ⟨F, os, x_many, v_looks, x_looks, x_kind, rfl, _⟩ := h
    rfl
  · obtain ⟨F0, os, x_many, v_looks, x_looks, x_kind, rfl, w0, r_looks, hm⟩ := h
    have sF : Same F0 F0 := Same.refl _
    obtain ⟨a1, vs1, rfl, q1, h1⟩ := r_looks
    refine ⟨_, (pss_cons (ps_set (i := 3) sc_law_unlike.nd rfl (Or.inl rfl) (pe_lst pa_nil)) (pss_cons (ps_for PassesOwn.never rfl (pi_range1 (by rfl) T.n_range (pa_cons (pv 0) pa_nil)) (pg_name (i := 4) sc_law_unlike.nd rfl (Or.inr rfl)) (pss_cons (ps_set (i := 5) sc_law_unlike.nd rfl (Or.inl rfl) (pe_callTy (call_tuple_ofK (K := K) rfl) (by rfl) T.n_tuple (by decide +kernel) (pa_cons (pe_lc (own := [("look", 7)]) (g := gName 7) (by rfl) sc_law_unlike.nd (pi_listK (K := K) rfl (pv 1)) (blkOk_by (own := [("look", 7)]) (N := ["many", "looks", "kind", "codes", "place", "own", "beside", "look"]) (sc := defScope s_law_unlike) (by decide +kernel)) (fun _ _ _ _ _ => (pg_name (i := 7) sc_law_unlike.nd rfl (Or.inl rfl))) (fun _ _ _ _ _ => pts_nil) (fun _ _ _ _ _ => (pe_call (ok_law_far T) (hr.mono (by decide)) rfl T.d11.mg T.d11.fn.kp T.d11.b .nil pass0 (pa_cons (pv 0) (pa_cons (pv 7) (pa_cons (pv 4) pa_nil)))))) pa_nil))) (pss_cons (ps_set (i := 6) sc_law_unlike.nd rfl (Or.inl rfl) (pe_callTy (call_tuple_ofK (K := K) rfl) (by rfl) T.n_tuple (by decide +kernel) (pa_cons (pe_lc (own := [("look", 7)]) (g := gName 7) (by rfl) sc_law_unlike.nd (pi_listK (K := K) rfl (pv 1)) (blkOk_by (own := [("look", 7)]) (N := ["many", "looks", "kind", "codes", "place", "own", "beside", "look"]) (sc := defScope s_law_unlike) (by decide +kernel)) (fun _ _ _ _ _ => (pg_name (i := 7) sc_law_unlike.nd rfl (Or.inl rfl))) (fun _ _ _ _ _ => pts_nil) (fun _ _ _ _ _ => (pe_callB (call_min2 rfl) (by rfl) T.n_min (by decide +kernel) (pa_cons (pe_call (ok_law_far T) (hr.mono (by decide)) rfl T.d11.mg T.d11.fn.kp T.d11.b .nil pass0 (pa_cons (pv 0) (pa_cons (pv 7) (pa_cons (pv 4) pa_nil)))) (pa_cons (pe_call (ok_law_far T) (hr.mono (by decide)) rfl T.d11.mg T.d11.fn.kp T.d11.b .nil pass0 (pa_cons (pv 0) (pa_cons (pv 7) (pa_cons (pe_op op_add (pv 4) pe_int) pa_nil)))) pa_nil))))) pa_nil))) (pss_one (ps_expr (pe_bm PySem.F.plainAttrs_list PySem.F.slot_list_extend PySem.F.type_list_extend mt_extend (pv 3) (pa_cons (pe_ix (ix_listK (K := K) rfl) (pe_lst (pa_cons (pe_lst (pa_cons (pv 5) pa_nil)) (pa_cons (pe_lst (pa_cons (pv 6) pa_nil)) (pa_cons (pe_lst (pa_cons (pv 5) (pa_cons (pv 6) pa_nil))) pa_nil)))) (pe_bm PySem.F.plainAttrs_list PySem.F.slot_list_index PySem.F.type_list_index (mt_indexS (K := K) rfl) (pe_lst (pa_cons pe_str (pa_cons pe_str (pa_cons pe_str pa_nil)))) (pa_cons (pv 2) pa_nil)) (fun _ _ => rfl)) pa_nil))))))) (pss_one (ps_ret (pe_cmp (pc_eqI (pe_callB (call_lenT (P := P) (w := w) rfl rfl) (by rfl) T.n_len (by decide +kernel) (pa_cons (pe_callTy (cr_setT (K := K) (P := P) (w := w) rfl rfl rfl rfl hr.units) (by rfl) T.n_set (by decide +kernel) (pa_cons (pv 3) pa_nil)) pa_nil)) (pe_callB (call_lenN (K := K) rfl) (by rfl) T.n_len (by decide +kernel) (pa_cons (pv 3) pa_nil)))))))), ?_⟩
    have h2 : A2 (rep K F0) [] ([] : (List (Tup Int))) := .nil
    refine ⟨(by show 0 ≤ sizeLine; decide), fun p3 n3 => ?_⟩
    have w3 : W F0 _ ((p3, .lst []) :: os) := w0.new n3
    obtain ⟨c5, hm⟩ := pb_rng hm
    refine ⟨_, rfl, _, rfl, c5.2.2.1, c5.2.2.2, ?_⟩
    refine forS (tw_rng0 (j := x_many)) hm (fun (g4 : (List (Tup Int))) σ H' => ∃ (F' : Hp) (vs4_0 : List V) (o4_5 : Option V) (o4_6 : Option V) (o4_4 : Option V), σ = [some (.int x_many), some (.ref a1), some (.str x_kind), some (.ref p3), o4_4, o4_5, o4_6, none] ∧ Same F0 F' ∧ W F' H' ((p3, .lst vs4_0) :: os) ∧ A2 (rep K F') vs4_0 g4) ⟨_, _, _, _, _, rfl, Same.refl _, w3, h2⟩ (fun _ _ _ _ => trivial) ?_ ?_
    · -- a turn
      intro b4 g4 x4 σ4 H4 H4' N4 P4 hI hy hN4 hm
      obtain ⟨F4, vs4_0, o4_5, o4_6, o4_4, rfl, s4, w4, h4_0⟩ := hI
      replace h1 := A2.mono s4 h1
      replace q1 := s4 _ _ q1
      replace sF := sF.trans s4
      obtain ⟨rfl, rfl⟩ := hy
      refine ⟨_, rfl, _, rfl, ⟨_, SqL.of (w4.same _ _ q1)⟩, fun D6 nD6 => ?_⟩
      refine lcM (K := K) (tw_list (a := a1) h1) hm w4 nD6 (fun F' H' acc s w => SqL.of (w.same _ _ (s _ _ q1))) ?_ ?_
      · -- one turn
        intro b6 x6 F6 H6 H6' acc6 N6 P6 s6 w6 y6 hN6 hm
        replace h1 := A2.mono s6 h1
        replace q1 := s6 _ _ q1
        replace h4_0 := A2.mono s6 h4_0
        replace sF := sF.trans s6
        obtain ⟨rfl, r8⟩ := y6
        obtain rfl : x6 = V.int b6 := r8
        refine ⟨rfl, _, rfl, _, rfl, _, rfl, _, _, _, _, _, rfl, w6, ?_⟩
        refine (post_bind hm).mono (fun y9 hm v9 F9 H9 w9 s9 r9 => ?_) (fun _ z => z)
        replace h1 := A2.mono s9 h1
        replace q1 := s9 _ _ q1
        replace h4_0 := A2.mono s9 h4_0
        replace sF := sF.trans s9
        obtain rfl : v9 = V.int y9 := r9
        exact hN6 _ (post_ok hm) _ _ _ w9 s9 rep_i
      intro us6 F6 H6 ys6 s6 w6 gg6 hm
      replace h1 := A2.mono s6 h1
      replace q1 := s6 _ _ q1
      replace h4_0 := A2.mono s6 h4_0
      replace sF := sF.trans s6
      have h11 : A2 (rep K F6) us6 ys6 := gg6
      refine ⟨_, _, rfl, .inl ⟨SqL.of (w6.get (pre := [])), fun p12 n12 => ?_⟩⟩
      obtain ⟨F12, s12, w12, q12⟩ := w6.frzE (o := .tup us6) n12
      replace h1 := A2.mono s12 h1
      replace q1 := s12 _ _ q1
      replace h4_0 := A2.mono s12 h4_0
      replace gg6 := A2.mono s12 gg6
      replace h11 := A2.mono s12 h11
      replace sF := sF.trans s12
      have w13 : W F12 _ ((p3, .lst vs4_0) :: os) := w12.drop (pre := [])
      refine ⟨_, rfl, _, rfl, ⟨_, SqL.of (w13.same _ _ q1)⟩, fun D14 nD14 => ?_⟩
      refine lcM (K := K) (tw_list (a := a1) h1) hm w13 nD14 (fun F' H' acc s w => SqL.of (w.same _ _ (s _ _ q1))) ?_ ?_
      · -- one turn
        intro b14 x14 F14 H14 H14' acc14 N14 P14 s14 w14 y14 hN14 hm
        replace h1 := A2.mono s14 h1
        replace q1 := s14 _ _ q1
        replace h11 := A2.mono s14 h11
        replace q12 := s14 _ _ q12
        replace h4_0 := A2.mono s14 h4_0
        replace sF := sF.trans s14
        obtain ⟨rfl, r16⟩ := y14
        obtain rfl : x14 = V.int b14 := r16
        refine ⟨rfl, _, rfl, _, rfl, _, rfl, _, _, _, _, _, rfl, w14, ?_⟩
        refine (post_bind hm).mono (fun y17 hm v17 F17 H17 w17 s17 r17 => ?_) (fun _ z => z)
        replace h1 := A2.mono s17 h1
        replace q1 := s17 _ _ q1
        replace h11 := A2.mono s17 h11
        replace q12 := s17 _ _ q12
        replace h4_0 := A2.mono s17 h4_0
        replace sF := sF.trans s17
        obtain rfl : v17 = V.int y17 := r17
        refine ⟨_, rfl, _, rfl, _, rfl, _, _, rfl, rfl, _, _, _, _, _, rfl, w17, ?_⟩
        refine (post_bind hm).mono (fun y18 hm v18 F18 H18 w18 s18 r18 => ?_) (fun _ z => z)
        replace h1 := A2.mono s18 h1
        replace q1 := s18 _ _ q1
        replace h11 := A2.mono s18 h11
        replace q12 := s18 _ _ q12
        replace h4_0 := A2.mono s18 h4_0
        replace sF := sF.trans s18
        obtain rfl : v18 = V.int y18 := r18
        exact ⟨_, _, rfl, hN14 _ (post_ok hm) _ _ _ w18 (s17.trans s18) rep_i⟩
      intro us14 F14 H14 ys14 s14 w14 gg14 hm
      replace h1 := A2.mono s14 h1
      replace q1 := s14 _ _ q1
      replace h11 := A2.mono s14 h11
      replace q12 := s14 _ _ q12
      replace h4_0 := A2.mono s14 h4_0
      replace sF := sF.trans s14
      have h20 : A2 (rep K F14) us14 ys14 := gg14
      refine ⟨_, _, rfl, .inl ⟨SqL.of (w14.get (pre := [])), fun p21 n21 => ?_⟩⟩
      obtain ⟨F21, s21, w21, q21⟩ := w14.frzE (o := .tup us14) n21
      replace h1 := A2.mono s21 h1
      replace q1 := s21 _ _ q1
      replace h11 := A2.mono s21 h11
      replace q12 := s21 _ _ q12
      replace h4_0 := A2.mono s21 h4_0
      replace gg14 := A2.mono s21 gg14
      replace h20 := A2.mono s21 h20
      replace sF := sF.trans s21
      have w22 : W F21 _ ((p3, .lst vs4_0) :: os) := w21.drop (pre := [])
      have h23 : A2 (rep K F21) [(.ref p12)] ([(Tup.mk ys6)] : (List (Tup Int))) := .cons (rep_tup q12 h11) (.nil)
      refine ⟨_, rfl, .inl ⟨rfl, _, SqL.of (w22.get (pre := []))⟩, _, rfl, (by show 1 ≤ sizeLine; decide), fun p24 n24 => ?_⟩
      have w24 : W F21 _ ((p24, .lst [(.ref p12)]) :: (p3, .lst vs4_0) :: os) := w22.new n24
      have h25 : A2 (rep K F21) [(.ref p21)] ([(Tup.mk ys14)] : (List (Tup Int))) := .cons (rep_tup q21 h20) (.nil)
      refine ⟨_, rfl, (by show 1 ≤ sizeLine; decide), fun p26 n26 => ?_⟩
      have w26 : W F21 _ ((p26, .lst [(.ref p21)]) :: (p24, .lst [(.ref p12)]) :: (p3, .lst vs4_0) :: os) := w24.new n26
      have h27 : A2 (rep K F21) [(.ref p12), (.ref p21)] ([(Tup.mk ys6), (Tup.mk ys14)] : (List (Tup Int))) := .cons (rep_tup q12 h11) (.cons (rep_tup q21 h20) (.nil))
      refine ⟨_, rfl, _, rfl, (by show 2 ≤ sizeLine; decide), fun p28 n28 => ?_⟩
      have w28 : W F21 _ ((p28, .lst [(.ref p12), (.ref p21)]) :: (p26, .lst [(.ref p21)]) :: (p24, .lst [(.ref p12)]) :: (p3, .lst vs4_0) :: os) := w26.new n28
      obtain ⟨F29, s29, w29, q29⟩ : ∃ F', Same F21 F' ∧ W F' _ ((p28, .lst [(.ref p12), (.ref p21)]) :: (p26, .lst [(.ref p21)]) :: (p3, .lst vs4_0) :: os) ∧ F' p24 = some (.lst [(.ref p12)]) := w28.freezeE (pre := [_, _])
      replace h1 := A2.mono s29 h1
      replace q1 := s29 _ _ q1
      replace h11 := A2.mono s29 h11
      replace q12 := s29 _ _ q12
      replace h20 := A2.mono s29 h20
      replace q21 := s29 _ _ q21
      replace h4_0 := A2.mono s29 h4_0
      replace h23 := A2.mono s29 h23
      replace h25 := A2.mono s29 h25
      replace h27 := A2.mono s29 h27
      replace sF := sF.trans s29
      obtain ⟨F30, s30, w30, q30⟩ : ∃ F', Same F29 F' ∧ W F' _ ((p28, .lst [(.ref p12), (.ref p21)]) :: (p3, .lst vs4_0) :: os) ∧ F' p26 = some (.lst [(.ref p21)]) := w29.freezeE (pre := [_])
      replace h1 := A2.mono s30 h1
      replace q1 := s30 _ _ q1
      replace h11 := A2.mono s30 h11
      replace q12 := s30 _ _ q12
      replace h20 := A2.mono s30 h20
      replace q21 := s30 _ _ q21
      replace h4_0 := A2.mono s30 h4_0
      replace h23 := A2.mono s30 h23
      replace h25 := A2.mono s30 h25
      replace h27 := A2.mono s30 h27
      replace q29 := s30 _ _ q29
      replace sF := sF.trans s30
      obtain ⟨F31, s31, w31, q31⟩ : ∃ F', Same F30 F' ∧ W F' _ ((p3, .lst vs4_0) :: os) ∧ F' p28 = some (.lst [(.ref p12), (.ref p21)]) := w30.freezeE (pre := [])
      replace h1 := A2.mono s31 h1
      replace q1 := s31 _ _ q1
      replace h11 := A2.mono s31 h11
      replace q12 := s31 _ _ q12
      replace h20 := A2.mono s31 h20
      replace q21 := s31 _ _ q21
      replace h4_0 := A2.mono s31 h4_0
      replace h23 := A2.mono s31 h23
      replace h25 := A2.mono s31 h25
      replace h27 := A2.mono s31 h27
      replace q29 := s31 _ _ q29
      replace q30 := s31 _ _ q30
      replace sF := sF.trans s31
      have h32 : A2 (rep K F31) [(.ref p24), (.ref p26), (.ref p28)] ([([(Tup.mk ys6)] : (List (Tup Int))), ([(Tup.mk ys14)] : (List (Tup Int))), ([(Tup.mk ys6), (Tup.mk ys14)] : (List (Tup Int)))] : (List (List (Tup Int)))) := .cons (rep_lst q29 h23) (.cons (rep_lst q30 h25) (.cons (rep_lst q31 h27) (.nil)))
      refine ⟨(by show 3 ≤ sizeLine; decide), fun p33 n33 => ?_⟩
      have w33 : W F31 _ ((p33, .lst [(.ref p24), (.ref p26), (.ref p28)]) :: (p3, .lst vs4_0) :: os) := w31.new n33
      have h34 : A2 (rep K F31) [(.str "places"), (.str "ties"), (.str "all")] ([("places" : Str), ("ties" : Str), ("all" : Str)] : (List Str)) := .cons rep_s (.cons rep_s (.cons rep_s (.nil)))
      refine ⟨(by show 3 ≤ sizeLine; decide), fun p35 n35 => ?_⟩
      have w35 : W F31 _ ((p35, .lst [(.str "places"), (.str "ties"), (.str "all")]) :: (p33, .lst [(.ref p24), (.ref p26), (.ref p28)]) :: (p3, .lst vs4_0) :: os) := w33.new n35
      obtain ⟨t36, e36, hm⟩ := pb_idx hm
      obtain ⟨t37, e37, hm⟩ := pb_get hm
      obtain ⟨u37, f37, r37⟩ := A2.at h32 e37
      obtain ⟨a38, vs38, rfl, q38, h38⟩ := r37
      obtain ⟨l39, z39, e39, hm⟩ := pn_extend hm
      refine ⟨.inl ⟨rfl, _, SqL.of (w35.get (pre := []))⟩, _, rfl, _, _, _, _, rfl, rfl, strs_q (SqL.of (w35.get (pre := []))) h34, e36, _, _, _, _, rfl, rfl, SqL.of (w35.get (pre := [_])), f37, _, _, _, _, rfl, rfl, (w35.get (pre := [_, _])), (w35.same _ _ q38), (A2.le2 h4_0 h38 z39), ?_⟩
      have h39 : A2 (rep K F31) (vs4_0 ++ vs38) l39 := e39 ▸ A2.append h4_0 h38
      have w40 : W F31 _ ((p35, .lst [(.str "places"), (.str "ties"), (.str "all")]) :: (p33, .lst [(.ref p24), (.ref p26), (.ref p28)]) :: (p3, .lst (vs4_0 ++ vs38)) :: os) := w35.set (pre := [_, _])
      have w41 : W F31 _ ((p33, .lst [(.ref p24), (.ref p26), (.ref p28)]) :: (p3, .lst (vs4_0 ++ vs38)) :: os) := w40.drop (pre := [])
      have w42 : W F31 _ ((p3, .lst (vs4_0 ++ vs38)) :: os) := w41.drop (pre := [])
      exact hN4 _ (post_ok hm) _ _ ⟨_, _, _, _, _, rfl, (s4.trans (s6.trans (s12.trans (s14.trans (s21.trans (s29.trans (s30.trans s31))))))), w42, h39⟩
    intro g4 σ4 H4 hI hm
    obtain ⟨F4, vs4_0, o4_5, o4_6, o4_4, rfl, s4, w4, h4_0⟩ := hI
    replace h1 := A2.mono s4 h1
    replace q1 := s4 _ _ q1
    replace sF := sF.trans s4
    obtain ⟨c43, hm⟩ := pb_grd hm
    refine ⟨_, rfl, _, _, rfl, (rep_own (pre := []) w4 h4_0), of_decide_eq_true c43, fun p43 L43 n43 nd43 => ?_⟩
    obtain ⟨F43, s43, w43, q43⟩ := w4.frzE (o := SetTO P w p43 L43) n43
    replace h1 := A2.mono s43 h1
    replace q1 := s43 _ _ q1
    replace h4_0 := A2.mono s43 h4_0
    replace sF := sF.trans s43
    have w44 : W F43 _ (os) := w43.drop (pre := [])
    exact ⟨_, _, _, rfl, w43.same _ _ q43, nd43, _, rfl, _, _, _, rfl, .inl (SqL.of (w43.get (pre := []))), h4_0.length, _, _, rfl, rfl, (post_ok hm) _ _ _ w44 sF rep_b⟩
def sp_law_words (K : Fg) : Sp := fun vs H Q E => ∃ (F : Hp) (os : List (Addr × HO)) (x_many : Int) (v_looks : V) (x_looks : (List Int)) (x_kind : Str), vs = [.int x_many, v_looks, .str x_kind] ∧ W F H (os) ∧ rep K F v_looks x_looks ∧ Post (law_words x_many x_looks x_kind) (Ret K F os Q) noX
theorem sc_law_words : FnScope ["many", "looks", "kind", "steps", "k", "look", "one", "other"] ["many", "looks", "kind"] (defScope s_law_words) := ⟨rfl, rfl, rfl, by decide +kernel, rfl, by decide +kernel, by decide +kernel⟩
theorem ok_law_words (T : Tx K mg A FD) : FnOk P w K mg base CX0 1 (A 13) (FD 13) ["many", "looks", "kind"] (sp_law_words K) := by
  refine T.d13.fn.ok sc_law_words (fun vs H Q E h => ?_) (fun cdv Ar outer s H vs Q E hr h => ?_)
  · obtain ⟨F, os, x_many, v_looks, x_looks, x_kind, rfl, _⟩ := h
    rfl
  · obtain ⟨F0, os, x_many, v_looks, x_looks, x_kind, rfl, w0, r_looks, hm⟩ := h
    have sF : Same F0 F0 := Same.refl _
    obtain ⟨a1, vs1, rfl, q1, h1⟩ := r_looks
    refine ⟨_, (pss_cons (ps_if (pt_cmpR op_eqS (pv 2) pe_str (nomark _)) (pss_cons (ps_setLc (i := 3) (own := [("k", 4), ("look", 5)]) (g := _) (by rfl) sc_law_words.nd rfl rfl (sw_true rfl rfl rfl (by decide +kernel)) (pi_k (K := K) (wi := fun K => iEnum K _) rfl (pi_enum (by rfl) T.n_enumerate (pa_cons (pv 1) pa_nil))) (blkOk_by (own := [("k", 4), ("look", 5)]) (N := ["many", "looks", "kind", "steps", "k", "look", "one", "other"]) (sc := defScope s_law_words) (by decide +kernel)) (fun _ _ _ _ _ => (pg_k (K := K) (t := fun K => gTup K 2 _) rfl (pg_tup (n := 2) rfl (pgs_cons (pg_name (i := 4) sc_law_words.nd rfl (Or.inl rfl)) (pgs_cons (pg_name (i := 5) sc_law_words.nd rfl (Or.inl rfl)) pgs_nil))))) (fun _ _ _ _ _ => pts_nil) (fun _ _ _ _ _ => (pe_tup (pa_cons (pe_ix (ix_listK (K := K) rfl) (pv 1) (pe_op op_sub (pv 4) pe_int) (fun _ _ => rfl)) (pa_cons (pv 5) pa_nil))))) (pss_one (ps_ret (pe_and (pe_cmp (pc_gt (pe_callB (call_lenN (K := K) rfl) (by rfl) T.n_len (by decide +kernel) (pa_cons (pv 1) pa_nil)) pe_int)) (pe_one (pe_cmp (pc_le (pe_callB (cr_maxI (K := K) rfl rfl) (by rfl) T.n_max (by decide +kernel) (pa_cons (pe_lc (own := [("one", 6), ("other", 7)]) (g := _) (by rfl) sc_law_words.nd (pi_listK (K := K) rfl (pv 3)) (blkOk_by (own := [("one", 6), ("other", 7)]) (N := ["many", "looks", "kind", "steps", "k", "look", "one", "other"]) (sc := defScope s_law_words) (by decide +kernel)) (fun _ _ _ _ _ => (pg_k (K := K) (t := fun K => gTup K 2 _) rfl (pg_tup (n := 2) rfl (pgs_cons (pg_name (i := 6) sc_law_words.nd rfl (Or.inl rfl)) (pgs_cons (pg_name (i := 7) sc_law_words.nd rfl (Or.inl rfl)) pgs_nil))))) (fun _ _ _ _ _ => pts_nil) (fun _ _ _ _ _ => (pe_op op_mod (pe_op op_sub (pv 7) (pv 6)) (pv 0)))) pa_nil)) (pe_op op_fdiv (pv 0) pe_int)))))))) pss_nil) (pss_one (ps_ret (pe_or (pe_cmp (pc_gt (pe_callB (call_lenN (K := K) rfl) (by rfl) T.n_len (by decide +kernel) (pa_cons (pv 1) pa_nil)) pe_int)) (pe_one (pe_and (pe_cmp (pc_eqI (pe_callB (call_lenN (K := K) rfl) (by rfl) T.n_len (by decide +kernel) (pa_cons (pv 1) pa_nil)) pe_int)) (pe_one (pe_cmp (pc_neI (pv 0) (pe_op op_mul pe_int (pe_op op_sub (pe_ix (ix_listK (K := K) rfl) (pv 1) pe_int (fun _ _ => rfl)) (pe_ix (ix_listK (K := K) rfl) (pv 1) pe_int (fun _ _ => rfl))))))))))))), ?_⟩
    refine ⟨_, rfl, _, _, rfl, rfl, _, rfl, ?_⟩
    refine post_ite hm (fun k2 hm => ?_) (fun k2 hm => ?_)
    · skip
      refine ⟨_, rfl, _, _, rfl, SqL.of (w0.same _ _ q1), fun D3 nD3 => ?_⟩
      refine lcM (K := K) (tw_enum (a := a1) h1) hm w0 nD3 (fun F' H' acc s w => SqL.of (w.same _ _ (s _ _ q1))) ?_ ?_
      · -- one turn
        intro b3 x3 F3 H3 H3' acc3 N3 P3 s3 w3 y3 hN3 hm
        replace q1 := s3 _ _ q1
        replace h1 := A2.mono s3 h1
        replace sF := sF.trans s3
        obtain ⟨T5, u5, rfl, n5, rfl, r5⟩ := y3
        obtain ⟨F5, s5, w5, q5⟩ := w3.frzE (o := .tup [.int b3.1, u5]) n5
        replace r5 := Rep.mono s3 r5
        replace q1 := s5 _ _ q1
        replace h1 := A2.mono s5 h1
        replace sF := sF.trans s5
        replace r5 := Rep.mono s5 r5
        obtain rfl : u5 = V.int b3.2 := r5
        obtain ⟨t6, e6, hm⟩ := pb_get hm
        obtain ⟨u6, f6, r6⟩ := A2.at h1 e6
        obtain rfl : u6 = V.int t6 := r6
        refine ⟨_, _, rfl, SqT.of (w5.same _ _ q5), rfl, _, _, rfl, _, _, rfl, rfl, rfl, _, rfl, _, rfl, _, _, rfl, rfl, _, _, _, _, rfl, rfl, SqL.of (w5.same _ _ q1), f6, _, rfl, (by show 2 ≤ sizeLine; decide), fun p7 n7 => ?_⟩
        obtain ⟨F7, s7, w7, q7⟩ := w5.frzE (o := .tup [(.int t6), (.int b3.2)]) n7
        replace q1 := s7 _ _ q1
        replace h1 := A2.mono s7 h1
        replace q5 := s7 _ _ q5
        replace sF := sF.trans s7
        exact hN3 _ (post_ok hm) _ _ _ w7 (s5.trans s7) (rep_pair q7 rep_i rep_i)
      intro us3 F3 H3 ys3 s3 w3 gg3 hm
      replace q1 := s3 _ _ q1
      replace h1 := A2.mono s3 h1
      replace sF := sF.trans s3
      obtain ⟨F9, s9, w9, q9⟩ : ∃ F', Same F3 F' ∧ W F' _ (os) ∧ F' D3 = some (.lst us3) := w3.freezeE (pre := [])
      replace q1 := s9 _ _ q1
      replace h1 := A2.mono s9 h1
      replace gg3 := A2.mono s9 gg3
      replace sF := sF.trans s9
      refine stepN ?_
      try dsimp only
      refine stepRet ?_
      refine joinE hm (fun (j10 : Bool) c H' => c = V.bl j10 ∧ ∃ (F' : Hp), Same F9 F' ∧ W F' H' (os)) ?_ ?_
      · intro Q10 P10 q10 hm
        refine ⟨_, rfl, _, _, _, rfl, .inl (SqL.of (w9.same _ _ q1)), h1.length, _, _, rfl, rfl, _, rfl, ?_⟩
        refine post_ite hm (fun k11 hm => ?_) (fun k11 hm => ?_)
        · skip
          refine ⟨_, rfl, _, rfl, ⟨_, SqL.of (w9.same _ _ q9)⟩, fun D12 nD12 => ?_⟩
          refine lcM (K := K) (tw_list (a := D3) gg3) hm w9 nD12 (fun F' H' acc s w => SqL.of (w.same _ _ (s _ _ q9))) ?_ ?_
          · -- one turn
            intro b12 x12 F12 H12 H12' acc12 N12 P12 s12 w12 y12 hN12 hm
            replace h1 := A2.mono s12 h1
            replace q1 := s12 _ _ q1
            replace gg3 := A2.mono s12 gg3
            replace q9 := s12 _ _ q9
            replace sF := sF.trans s12
            obtain ⟨rfl, r14⟩ := y12
            replace r14 := Rep.mono s12 r14
            obtain ⟨a15, u15, z15, rfl, q15, r15a, r15b⟩ := r14
            obtain rfl : u15 = V.int b12.1 := r15a
            obtain rfl : z15 = V.int b12.2 := r15b
            obtain ⟨c16, hm⟩ := pb_mod hm
            exact ⟨_, _, rfl, SqT.of (w12.same _ _ q15), rfl, _, _, rfl, _, _, rfl, rfl, rfl, _, rfl, _, rfl, _, _, rfl, rfl, _, rfl, _, _, rfl, rfl, c16, hN12 _ (post_ok hm) _ _ _ w12 (Same.refl _) rep_i⟩
          intro us12 F12 H12 ys12 s12 w12 gg12 hm
          replace h1 := A2.mono s12 h1
          replace q1 := s12 _ _ q1
          replace gg3 := A2.mono s12 gg3
          replace q9 := s12 _ _ q9
          replace sF := sF.trans s12
          obtain ⟨t18, e18, hm⟩ := pb_max hm
          have w21 : W F12 _ (os) := w12.drop (pre := [])
          exact ⟨_, _, _, rfl, ints_q (SqL.of (w12.get (pre := []))) gg12, e18, _, rfl, _, _, rfl, rfl, (by constructor <;> decide), _, _, rfl, rfl, q10 _ (post_ok hm) _ _ ⟨rfl, _, s12, w21⟩⟩
        · skip
          exact q10 _ (post_ok hm) _ _ ⟨rfl, _, Same.refl _, w9⟩
      intro j10 c10 H10 hc10 hm
      obtain ⟨rfl, F10, s10, w10⟩ := hc10
      replace h1 := A2.mono s10 h1
      replace q1 := s10 _ _ q1
      replace gg3 := A2.mono s10 gg3
      replace q9 := s10 _ _ q9
      replace sF := sF.trans s10
      exact (post_ok hm) _ _ _ w10 sF rep_b
    · skip
      refine stepX ?_
      try dsimp only
      refine stepRet ?_
      refine joinE hm (fun (j23 : Bool) c H' => c = V.bl j23 ∧ ∃ (F' : Hp), Same F0 F' ∧ W F' H' (os)) ?_ ?_
      · intro Q23 P23 q23 hm
        refine ⟨_, rfl, _, _, _, rfl, .inl (SqL.of (w0.same _ _ q1)), h1.length, _, _, rfl, rfl, _, rfl, ?_⟩
        refine post_ite hm (fun k24 hm => ?_) (fun k24 hm => ?_)
        · skip
          exact q23 _ (post_ok hm) _ _ ⟨rfl, _, Same.refl _, w0⟩
        · skip
          refine joinE hm (fun (j26 : Bool) c H' => c = V.bl j26 ∧ ∃ (F' : Hp), Same F0 F' ∧ W F' H' (os)) ?_ ?_
          · intro Q26 P26 q26 hm
            refine ⟨_, rfl, _, _, _, rfl, .inl (SqL.of (w0.same _ _ q1)), h1.length, _, _, rfl, rfl, _, rfl, ?_⟩
            refine post_ite hm (fun k27 hm => ?_) (fun k27 hm => ?_)
            · skip
              obtain ⟨t28, e28, hm⟩ := pb_get hm
              obtain ⟨u28, f28, r28⟩ := A2.at h1 e28
              obtain rfl : u28 = V.int t28 := r28
              obtain ⟨t29, e29, hm⟩ := pb_get hm
              obtain ⟨u29, f29, r29⟩ := A2.at h1 e29
              obtain rfl : u29 = V.int t29 := r29
              exact ⟨_, rfl, _, rfl, _, _, _, _, rfl, rfl, SqL.of (w0.same _ _ q1), f28, _, rfl, _, _, _, _, rfl, rfl, SqL.of (w0.same _ _ q1), f29, _, _, rfl, rfl, _, _, rfl, rfl, (.inl (by constructor <;> decide)), _, _, rfl, rfl, q26 _ (post_ok hm) _ _ ⟨rfl, _, Same.refl _, w0⟩⟩
            · skip
              exact q26 _ (post_ok hm) _ _ ⟨rfl, _, Same.refl _, w0⟩
          intro j26 c26 H26 hc26 hm
          obtain ⟨rfl, F26, s26, w26⟩ := hc26
          replace q1 := s26 _ _ q1
          replace h1 := A2.mono s26 h1
          replace sF := sF.trans s26
          exact q23 _ (post_ok hm) _ _ ⟨rfl, _, s26, w26⟩
      intro j23 c23 H23 hc23 hm
      obtain ⟨rfl, F23, s23, w23⟩ := hc23
      replace q1 := s23 _ _ q1
      replace h1 := A2.mono s23 h1
      replace sF := sF.trans s23
      exact (post_ok hm) _ _ _ w23 sF rep_b
def sp_law (K : Fg) : Sp := fun vs H Q E => ∃ (F : Hp) (os : List (Addr × HO)) (v_script : V) (x_script : Scr), vs = [v_script] ∧ W F H (os) ∧ rep K F v_script x_script ∧ Post (law x_script) (Ret K F os Q) noX
theorem sc_law : FnScope ["script", "cell", "state", "many", "looks", "top", "others", "kind", "handed", "found", "one", "other", "told"] ["script"] (defScope s_law) := ⟨rfl, rfl, rfl, by decide +kernel, rfl, by decide +kernel, by decide +kernel⟩
theorem ok_law (T : Tx K mg A FD) : FnOk P w K mg base CX0 4 (A 14) (FD 14) ["script"] (sp_law K) := by
  refine T.d14.fn.ok sc_law (fun vs H Q E h => ?_) (fun cdv Ar outer s H vs Q E hr h => ?_)
  · obtain ⟨F, os, v_script, x_script, rfl, _⟩ := h
    rfl
  · obtain ⟨F0, os, v_script, x_script, rfl, w0, r_script, hm⟩ := h
    have sF : Same F0 F0 := Same.refl _
    obtain ⟨a1, rfl, q1⟩ := r_script
    have h1 : A2 (rep K F0) (x_script.l.map V.int) x_script.l := A2.of_ints
    refine ⟨_, (pss_cons (ps_for PassesOwn.never rfl (pi_listK (K := K) rfl (pe_call (ok_law_folded T) (hr.mono (by decide)) rfl T.d6.mg T.d6.fn.kp T.d6.b .nil pass0 (pa_cons (pv 0) (pa_cons pe_int pa_nil)))) (pg_name (i := 1) sc_law.nd rfl (Or.inl rfl)) (pss_cons (ps_set (i := 2) sc_law.nd rfl (Or.inl rfl) (pe_call (ok_law_state T) (hr.mono (by decide)) rfl T.d7.mg T.d7.fn.kp T.d7.b .nil pass0 (pa_cons (pv 1) pa_nil))) (pss_cons (ps_set (i := 3) sc_law.nd rfl (Or.inl rfl) (pe_op op_add pe_int (pe_call (ok_law_next T) (hr.mono (by decide)) rfl T.d8.mg T.d8.fn.kp T.d8.b .nil pass0 (pa_cons (pv 2) (pa_cons pe_int pa_nil))))) (pss_cons (ps_set (i := 4) sc_law.nd rfl (Or.inl rfl) (pe_call (ok_law_looks T) (hr.mono (by decide)) rfl T.d10.mg T.d10.fn.kp T.d10.b .nil pass0 (pa_cons (pv 2) (pa_cons (pv 3) (pa_cons pe_int pa_nil))))) (pss_cons (ps_set (i := 5) sc_law.nd rfl (Or.inl rfl) (pe_op op_add pe_int (pe_call (ok_law_great T) (hr.mono (by decide)) rfl T.d9.mg T.d9.fn.kp T.d9.b .nil pass0 (pa_cons (pv 2) (pa_cons (pe_ix (ix_listK (K := K) rfl) (pe_lst (pa_cons pe_int (pa_cons (pe_op op_pow pe_int pe_int) (pa_cons (pe_op op_pow pe_int pe_int) (pa_cons (pe_op op_sub (pe_op op_pow pe_int pe_int) pe_int) pa_nil))))) (pe_call (ok_law_next T) (hr.mono (by decide)) rfl T.d8.mg T.d8.fn.kp T.d8.b .nil pass0 (pa_cons (pv 2) (pa_cons pe_int pa_nil))) (fun _ _ => rfl)) pa_nil))))) (pss_cons (ps_set (i := 6) sc_law.nd rfl (Or.inl rfl) (pe_call (ok_law_looks T) (hr.mono (by decide)) rfl T.d10.mg T.d10.fn.kp T.d10.b .nil pass0 (pa_cons (pv 2) (pa_cons (pv 5) (pa_cons (pe_ix (ix_listK (K := K) rfl) (pe_lst (pa_cons pe_int (pa_cons pe_int (pa_cons pe_int (pa_cons pe_int pa_nil))))) (pe_call (ok_law_next T) (hr.mono (by decide)) rfl T.d8.mg T.d8.fn.kp T.d8.b .nil pass0 (pa_cons (pv 2) (pa_cons pe_int pa_nil))) (fun _ _ => rfl)) pa_nil))))) (pss_cons (ps_for PassesOwn.never rfl (pi_listK (K := K) rfl (pe_lst (pa_cons pe_str (pa_cons pe_str (pa_cons pe_str pa_nil))))) (pg_name (i := 7) sc_law.nd rfl (Or.inl rfl)) (pss_cons (ps_set (i := 8) sc_law.nd rfl (Or.inl rfl) (pe_lst (pa_cons (pe_callTy (call_list_ofK (K := K) rfl) (by rfl) T.n_list (by decide +kernel) (pa_cons (pv 4) pa_nil)) (pa_cons (pe_callTy (call_list_ofK (K := K) rfl) (by rfl) T.n_list (by decide +kernel) (pa_cons (pv 6) pa_nil)) pa_nil)))) (pss_cons (ps_set (i := 9) sc_law.nd rfl (Or.inl rfl) (pe_lst (pa_cons (pe_call (ok_ring_known T) (hr.mono (by decide)) rfl T.d2.mg T.d2.fn.kp T.d2.b .nil pass0 (pa_cons (pv 3) (pa_cons (pe_ix (ix_listK (K := K) rfl) (pv 8) pe_int (fun _ _ => rfl)) (pa_cons (pv 7) pa_nil)))) (pa_cons (pe_call (ok_ring_known T) (hr.mono (by decide)) rfl T.d2.mg T.d2.fn.kp T.d2.b .nil pass0 (pa_cons (pv 5) (pa_cons (pe_ix (ix_listK (K := K) rfl) (pv 8) pe_int (fun _ _ => rfl)) (pa_cons (pv 7) pa_nil)))) pa_nil)))) (pss_cons (ps_if (PW.pt (pw_or (pt_not (pt_val (pe_callB (call_isB (K := K) rfl) (by rfl) T.n_isinstance (by decide +kernel) (pa_cons (pe_ix (ix_listK (K := K) rfl) (pv 9) pe_int (fun _ _ => rfl)) (pa_cons (pe_bltn (v := .ty "bool") (by rfl) T.n_bool (by decide +kernel) rfl) pa_nil))))) (pw_or (pt_not (pt_val (pe_callB (call_isB (K := K) rfl) (by rfl) T.n_isinstance (by decide +kernel) (pa_cons (pe_ix (ix_listK (K := K) rfl) (pv 9) pe_int (fun _ _ => rfl)) (pa_cons (pe_bltn (v := .ty "bool") (by rfl) T.n_bool (by decide +kernel) rfl) pa_nil))))) (pw_or1 (pt_cmpR (op_neDt (K := K) rfl (List (List Int)) (by decide) hr.units) (pv 8) (pe_lst (pa_cons (pv 4) (pa_cons (pv 6) pa_nil))) (nomark _)))))) (pss_one (ps_ret pe_bl)) pss_nil) (pss_cons (ps_if (pt_cmpR (op_neDt (K := K) rfl (List Bool) (by decide) hr.units) (pv 9) (pe_lst (pa_cons (pe_call (ok_law_unlike T) (hr.mono (by decide)) rfl T.d12.mg T.d12.fn.kp T.d12.b .nil pass0 (pa_cons (pv 3) (pa_cons (pv 4) (pa_cons (pv 7) pa_nil)))) (pa_cons (pe_call (ok_law_words T) (hr.mono (by decide)) rfl T.d13.mg T.d13.fn.kp T.d13.b .nil pass0 (pa_cons (pv 5) (pa_cons (pv 6) (pa_cons (pv 7) pa_nil)))) pa_nil))) (nomark _)) (pss_one (ps_ret pe_bl)) pss_nil) (pss_one (ps_if (pt_cmpR op_neB (pe_ix (ix_listK (K := K) rfl) (pv 9) pe_int (fun _ _ => rfl)) (pe_call (ok_law_words T) (hr.mono (by decide)) rfl T.d13.mg T.d13.fn.kp T.d13.b .nil pass0 (pa_cons (pv 3) (pa_cons (pv 4) (pa_cons (pv 7) pa_nil)))) (nomark _)) (pss_one (ps_ret pe_bl)) pss_nil))))))) (pss_one (ps_for PassesOwn.never rfl (pi_listK (K := K) rfl (pe_op op_cat (pv 6) (pe_lst (pa_cons pe_int pa_nil)))) (pg_name (i := 10) sc_law.nd rfl (Or.inl rfl)) (pss_cons (ps_set (i := 11) sc_law.nd rfl (Or.inl rfl) (pe_call (ok_law_great T) (hr.mono (by decide)) rfl T.d9.mg T.d9.fn.kp T.d9.b .nil pass0 (pa_cons (pv 2) (pa_cons (pv 5) pa_nil)))) (pss_cons (ps_set (i := 12) sc_law.nd rfl (Or.inl rfl) (pe_call (ok_ring_far T) (hr.mono (by decide)) rfl T.d3.mg T.d3.fn.kp T.d3.b .nil pass0 (pa_cons (pv 5) (pa_cons (pv 10) (pa_cons (pv 11) pa_nil))))) (pss_one (ps_if (PW.pt (pw_or (pt_val (pe_callB (call_isB (K := K) rfl) (by rfl) T.n_isinstance (by decide +kernel) (pa_cons (pv 12) (pa_cons (pe_bltn (v := .ty "bool") (by rfl) T.n_bool (by decide +kernel) rfl) pa_nil)))) (pw_or (pt_cmp (pc_neI (pv 12) (pe_call (ok_law_far T) (hr.mono (by decide)) rfl T.d11.mg T.d11.fn.kp T.d11.b .nil pass0 (pa_cons (pv 5) (pa_cons (pv 10) (pa_cons (pv 11) pa_nil)))))) (pw_or1 (pt_cmp (pc_neI (pe_call (ok_ring_far T) (hr.mono (by decide)) rfl T.d3.mg T.d3.fn.kp T.d3.b .nil pass0 (pa_cons (pv 5) (pa_cons (pv 11) (pa_cons (pv 10) pa_nil)))) (pv 12))))))) (pss_one (ps_ret pe_bl)) pss_nil))))))))))))) (pss_one (ps_ret pe_bl))), ?_⟩
    refine ⟨_, rfl, _, _, _, (x_script : Scr), _, rfl, w0, ⟨_, rfl, q1⟩, ?_⟩
    refine (post_bind hm).mono (fun y3 hm p3 us3 F3 H3 w3 s3 g3 => ?_) (fun _ z => z)
    replace q1 := s3.seq q1
    replace h1 := A2.mono s3 h1
    replace sF := sF.trans s3
    obtain ⟨F5, s5, w5, q5⟩ : ∃ F', Same F3 F' ∧ W F' _ (os) ∧ F' p3 = some (.lst us3) := w3.freezeE (pre := [])
    replace q1 := s5.seq q1
    replace h1 := A2.mono s5 h1
    replace g3 := A2.mono s5 g3
    replace sF := sF.trans s5
    refine ⟨_, rfl, ⟨_, SqL.of (w5.same _ _ q5)⟩, ?_⟩
    refine forX (tw_list (a := p3) g3) hm (fun (g2 : Unit) σ H' => ∃ (F' : Hp) (o2_2 : Option V) (o2_3 : Option V) (o2_4 : Option V) (o2_5 : Option V) (o2_6 : Option V) (o2_7 : Option V) (o2_8 : Option V) (o2_9 : Option V) (o2_10 : Option V) (o2_11 : Option V) (o2_12 : Option V) (o2_1 : Option V), σ = [some (.ref a1), o2_1, o2_2, o2_3, o2_4, o2_5, o2_6, o2_7, o2_8, o2_9, o2_10, o2_11, o2_12] ∧ Same F5 F' ∧ W F' H' (os)) ⟨_, _, _, _, _, _, _, _, _, _, _, _, _, rfl, Same.refl _, w5⟩ (fun g σ H' hI => by obtain ⟨F', _, _, _, _, _, _, _, _, _, _, _, _, _, s, w⟩ := hI; exact SqL.of (w.same _ _ (s _ _ q5))) ?_ ?_
    · -- a turn
      intro b2 g2 x2 σ2 H2 H2' N2 B2 P2 hI hy hN2 hB2 hZ2 hm
      obtain ⟨F2, o2_2, o2_3, o2_4, o2_5, o2_6, o2_7, o2_8, o2_9, o2_10, o2_11, o2_12, o2_1, rfl, s2, w2⟩ := hI
      replace q1 := s2.seq q1
      replace h1 := A2.mono s2 h1
      replace g3 := A2.mono s2 g3
      replace q5 := s2 _ _ q5
      replace sF := sF.trans s2
      obtain ⟨rfl, r6⟩ := hy
      obtain rfl : x2 = V.int b2 := r6
      refine ⟨_, rfl, _, _, _, rfl, w2, ?_⟩
      refine (post_bind hm).mono (fun y7 hm p7 us7 F7 H7 w7 s7 g7 => ?_) (fun _ z => z)
      replace h1 := A2.mono s7 h1
      replace q1 := s7.seq q1
      replace sF := sF.trans s7
      refine ⟨_, rfl, _, _, _, _, _, _, rfl, w7, g7, ?_⟩
      refine (post_bind hm).mono (fun y9 hm v9 vs9 F9 H9 w9 s9 r9 h9 => ?_) (fun _ z => z)
      replace h1 := A2.mono s9 h1
      replace q1 := s9.seq q1
      replace sF := sF.trans s9
      obtain rfl : v9 = V.int y9.1 := r9
      refine ⟨_, _, rfl, rfl, _, rfl, _, rfl, _, _, _, _, _, _, _, rfl, w9, h9, ?_⟩
      refine (post_bind hm).mono (fun y10 hm p10 us10 vs10 F10 H10 w10 s10 g10 h10 => ?_) (fun _ z => z)
      replace h1 := A2.mono s10 h1
      replace q1 := s10.seq q1
      replace sF := sF.trans s10
      obtain ⟨F12, s12, w12, q12⟩ : ∃ F', Same F10 F' ∧ W F' _ ((p7, .lst vs10) :: os) ∧ F' p10 = some (.lst us10) := w10.freezeE (pre := [])
      replace h1 := A2.mono s12 h1
      replace q1 := s12.seq q1
      replace h10 := A2.mono s12 h10
      replace g10 := A2.mono s12 g10
      replace sF := sF.trans s12
      have h16 : A2 (rep K F12) [(.int 8), (.int ((10 : Int) ^ ((3 : Int) : Int).toNat)), (.int ((10 : Int) ^ ((20 : Int) : Int).toNat)), (.int (((10 : Int) ^ ((60 : Int) : Int).toNat) - (2 : Int)))] ([(8 : Int), ((10 : Int) ^ ((3 : Int) : Int).toNat), ((10 : Int) ^ ((20 : Int) : Int).toNat), (((10 : Int) ^ ((60 : Int) : Int).toNat) - (2 : Int))] : (List Int)) := .cons rep_i (.cons rep_i (.cons rep_i (.cons rep_i (.nil))))
      refine ⟨_, rfl, _, _, rfl, rfl, (by refine ⟨?_, ?_, ?_⟩ <;> decide), _, _, rfl, rfl, (by refine ⟨?_, ?_, ?_⟩ <;> decide), _, _, rfl, rfl, (by refine ⟨?_, ?_, ?_⟩ <;> decide), _, _, rfl, rfl, (by show 4 ≤ sizeLine; decide), fun p17 n17 => ?_⟩
      have w17 : W F12 _ ((p17, .lst [(.int 8), (.int ((10 : Int) ^ ((3 : Int) : Int).toNat)), (.int ((10 : Int) ^ ((20 : Int) : Int).toNat)), (.int (((10 : Int) ^ ((60 : Int) : Int).toNat) - (2 : Int)))]) :: (p7, .lst vs10) :: os) := w12.new n17
      have w18 : W F12 _ ((p7, .lst vs10) :: (p17, .lst [(.int 8), (.int ((10 : Int) ^ ((3 : Int) : Int).toNat)), (.int ((10 : Int) ^ ((20 : Int) : Int).toNat)), (.int (((10 : Int) ^ ((60 : Int) : Int).toNat) - (2 : Int)))]) :: os) := w17.front (pre := [_])
      refine ⟨_, rfl, _, _, _, _, _, _, rfl, w18, h10, ?_⟩
      refine (post_bind hm).mono (fun y19 hm v19 vs19 F19 H19 w19 s19 r19 h19 => ?_) (fun _ z => z)
      replace h1 := A2.mono s19 h1
      replace q1 := s19.seq q1
      replace g10 := A2.mono s19 g10
      replace q12 := s19 _ _ q12
      replace h16 := A2.mono s19 h16
      replace sF := sF.trans s19
      obtain rfl : v19 = V.int y19.1 := r19
      obtain ⟨t20, e20, hm⟩ := pb_get hm
      obtain ⟨u20, f20, r20⟩ := A2.at h16 e20
      obtain rfl : u20 = V.int t20 := r20
      refine ⟨_, _, _, _, rfl, rfl, SqL.of (w19.get (pre := [_])), f20, _, _, _, _, _, _, rfl, w19, h19, ?_⟩
      refine (post_bind hm).mono (fun y21 hm v21 vs21 F21 H21 w21 s21 r21 h21 => ?_) (fun _ z => z)
      replace h1 := A2.mono s21 h1
      replace q1 := s21.seq q1
      replace g10 := A2.mono s21 g10
      replace q12 := s21 _ _ q12
      replace h16 := A2.mono s21 h16
      replace sF := sF.trans s21
      obtain rfl : v21 = V.int y21.1 := r21
      have w22 : W F21 _ ((p7, .lst vs21) :: os) := w21.drop (pre := [_])
      have h23 : A2 (rep K F21) [(.int 2), (.int 3), (.int 3), (.int 20)] ([(2 : Int), (3 : Int), (3 : Int), (20 : Int)] : (List Int)) := .cons rep_i (.cons rep_i (.cons rep_i (.cons rep_i (.nil))))
      refine ⟨_, _, rfl, rfl, _, rfl, _, rfl, (by show 4 ≤ sizeLine; decide), fun p24 n24 => ?_⟩
      have w24 : W F21 _ ((p24, .lst [(.int 2), (.int 3), (.int 3), (.int 20)]) :: (p7, .lst vs21) :: os) := w22.new n24
      have w25 : W F21 _ ((p7, .lst vs21) :: (p24, .lst [(.int 2), (.int 3), (.int 3), (.int 20)]) :: os) := w24.front (pre := [_])
      refine ⟨_, rfl, _, _, _, _, _, _, rfl, w25, h21, ?_⟩
      refine (post_bind hm).mono (fun y26 hm v26 vs26 F26 H26 w26 s26 r26 h26 => ?_) (fun _ z => z)
      replace h1 := A2.mono s26 h1
      replace q1 := s26.seq q1
      replace g10 := A2.mono s26 g10
      replace q12 := s26 _ _ q12
      replace h23 := A2.mono s26 h23
      replace sF := sF.trans s26
      obtain rfl : v26 = V.int y26.1 := r26
      obtain ⟨t27, e27, hm⟩ := pb_get hm
      obtain ⟨u27, f27, r27⟩ := A2.at h23 e27
      obtain rfl : u27 = V.int t27 := r27
      refine ⟨_, _, _, _, rfl, rfl, SqL.of (w26.get (pre := [_])), f27, _, _, _, _, _, _, _, rfl, w26, h26, ?_⟩
      refine (post_bind hm).mono (fun y28 hm p28 us28 vs28 F28 H28 w28 s28 g28 h28 => ?_) (fun _ z => z)
      replace h1 := A2.mono s28 h1
      replace q1 := s28.seq q1
      replace g10 := A2.mono s28 g10
      replace q12 := s28 _ _ q12
      replace h23 := A2.mono s28 h23
      replace sF := sF.trans s28
      obtain ⟨F30, s30, w30, q30⟩ : ∃ F', Same F28 F' ∧ W F' _ ((p7, .lst vs28) :: (p24, .lst [(.int 2), (.int 3), (.int 3), (.int 20)]) :: os) ∧ F' p28 = some (.lst us28) := w28.freezeE (pre := [])
      replace h1 := A2.mono s30 h1
      replace q1 := s30.seq q1
      replace g10 := A2.mono s30 g10
      replace q12 := s30 _ _ q12
      replace h23 := A2.mono s30 h23
      replace h28 := A2.mono s30 h28
      replace g28 := A2.mono s30 g28
      replace sF := sF.trans s30
      have w31 : W F30 _ ((p7, .lst vs28) :: os) := w30.drop (pre := [_])
      have h33 : A2 (rep K F30) [(.str "places"), (.str "ties"), (.str "all")] ([("places" : Str), ("ties" : Str), ("all" : Str)] : (List Str)) := .cons rep_s (.cons rep_s (.cons rep_s (.nil)))
      refine ⟨(by show 3 ≤ sizeLine; decide), fun p34 n34 => ?_⟩
      have w34 : W F30 _ ((p34, .lst [(.str "places"), (.str "ties"), (.str "all")]) :: (p7, .lst vs28) :: os) := w31.new n34
      obtain ⟨F35, s35, w35, q35⟩ : ∃ F', Same F30 F' ∧ W F' _ ((p7, .lst vs28) :: os) ∧ F' p34 = some (.lst [(.str "places"), (.str "ties"), (.str "all")]) := w34.freezeE (pre := [])
      replace h1 := A2.mono s35 h1
      replace q1 := s35.seq q1
      replace g10 := A2.mono s35 g10
      replace q12 := s35 _ _ q12
      replace g28 := A2.mono s35 g28
      replace q30 := s35 _ _ q30
      replace h28 := A2.mono s35 h28
      replace h33 := A2.mono s35 h33
      replace sF := sF.trans s35
      refine ⟨_, rfl, ⟨_, SqL.of (w35.same _ _ q35)⟩, ?_⟩
      refine forX (tw_list (a := p34) h33) hm (fun (g32 : Unit) σ H' => ∃ (F' : Hp) (o32_8 : Option V) (o32_9 : Option V) (o32_7 : Option V), σ = [some (.ref a1), some (.int b2), some (.ref p7), some (.int ((3 : Int) + y9.1)), some (.ref p10), some (.int ((3 : Int) + y21.1)), some (.ref p28), o32_7, o32_8, o32_9, o2_10, o2_11, o2_12] ∧ Same F35 F' ∧ W F' H' ((p7, .lst vs28) :: os)) ⟨_, _, _, _, rfl, Same.refl _, w35⟩ (fun g σ H' hI => by obtain ⟨F', _, _, _, _, s, w⟩ := hI; exact SqL.of (w.same _ _ (s _ _ q35))) ?_ ?_
      · -- a turn
        intro b32 g32 x32 σ32 H32 H32' N32 B32 P32 hI hy hN32 hB32 hZ32 hm
        obtain ⟨F32, o32_8, o32_9, o32_7, rfl, s32, w32⟩ := hI
        replace h1 := A2.mono s32 h1
        replace q1 := s32.seq q1
        replace g10 := A2.mono s32 g10
        replace q12 := s32 _ _ q12
        replace g28 := A2.mono s32 g28
        replace q30 := s32 _ _ q30
        replace h28 := A2.mono s32 h28
        replace h33 := A2.mono s32 h33
        replace q35 := s32 _ _ q35
        replace sF := sF.trans s32
        obtain ⟨rfl, r36⟩ := hy
        obtain rfl : x32 = V.str b32 := r36
        have h37 : A2 (rep K F32) us10 y10.1 := g10
        refine ⟨_, rfl, _, _, rfl, .inl (SqL.of (w32.same _ _ q12)), fun p38 n38 => ?_⟩
        have w38 : W F32 _ ((p38, .lst us10) :: (p7, .lst vs28) :: os) := w32.new n38
        have h39 : A2 (rep K F32) us28 y28.1 := g28
        refine ⟨_, rfl, _, _, rfl, .inl (SqL.of (w38.same _ _ q30)), fun p40 n40 => ?_⟩
        have w40 : W F32 _ ((p40, .lst us28) :: (p38, .lst us10) :: (p7, .lst vs28) :: os) := w38.new n40
        obtain ⟨F41, s41, w41, q41⟩ : ∃ F', Same F32 F' ∧ W F' _ ((p40, .lst us28) :: (p7, .lst vs28) :: os) ∧ F' p38 = some (.lst us10) := w40.freezeE (pre := [_])
        replace h1 := A2.mono s41 h1
        replace q1 := s41.seq q1
        replace g10 := A2.mono s41 g10
        replace q12 := s41 _ _ q12
        replace g28 := A2.mono s41 g28
        replace q30 := s41 _ _ q30
        replace h28 := A2.mono s41 h28
        replace h37 := A2.mono s41 h37
        replace h39 := A2.mono s41 h39
        replace sF := sF.trans s41
        obtain ⟨F42, s42, w42, q42⟩ : ∃ F', Same F41 F' ∧ W F' _ ((p7, .lst vs28) :: os) ∧ F' p40 = some (.lst us28) := w41.freezeE (pre := [])
        replace h1 := A2.mono s42 h1
        replace q1 := s42.seq q1
        replace g10 := A2.mono s42 g10
        replace q12 := s42 _ _ q12
        replace g28 := A2.mono s42 g28
        replace q30 := s42 _ _ q30
        replace h28 := A2.mono s42 h28
        replace h37 := A2.mono s42 h37
        replace h39 := A2.mono s42 h39
        replace q41 := s42 _ _ q41
        replace sF := sF.trans s42
        have h43 : A2 (rep K F42) [(.ref p38), (.ref p40)] ([y10.1, y28.1] : (List (List Int))) := .cons (rep_lst q41 h37) (.cons (rep_lst q42 h39) (.nil))
        refine ⟨(by show 2 ≤ sizeLine; decide), fun p44 n44 => ?_⟩
        have w44 : W F42 _ ((p44, .lst [(.ref p38), (.ref p40)]) :: (p7, .lst vs28) :: os) := w42.new n44
        obtain ⟨F45, s45, w45, q45⟩ : ∃ F', Same F42 F' ∧ W F' _ ((p7, .lst vs28) :: os) ∧ F' p44 = some (.lst [(.ref p38), (.ref p40)]) := w44.freezeE (pre := [])
        replace h1 := A2.mono s45 h1
        replace q1 := s45.seq q1
        replace g10 := A2.mono s45 g10
        replace q12 := s45 _ _ q12
        replace g28 := A2.mono s45 g28
        replace q30 := s45 _ _ q30
        replace h28 := A2.mono s45 h28
        replace h37 := A2.mono s45 h37
        replace h39 := A2.mono s45 h39
        replace q41 := s45 _ _ q41
        replace q42 := s45 _ _ q42
        replace h43 := A2.mono s45 h43
        replace sF := sF.trans s45
        obtain ⟨t46, e46, hm⟩ := pb_get hm
        obtain ⟨u46, f46, r46⟩ := A2.at h43 e46
        obtain ⟨a47, vs47, rfl, q47, h47⟩ := r46
        refine ⟨_, rfl, _, rfl, _, _, _, _, rfl, rfl, SqL.of (w45.same _ _ q45), f46, _, rfl, _, _, _, _, (t46 : (List Int)), _, rfl, w45, (rep_lst q47 h47), ?_⟩
        refine (post_bind hm).mono (fun y48 hm v48 F48 H48 w48 s48 r48 => ?_) (fun _ z => z)
        replace h1 := A2.mono s48 h1
        replace q1 := s48.seq q1
        replace g10 := A2.mono s48 g10
        replace q12 := s48 _ _ q12
        replace g28 := A2.mono s48 g28
        replace q30 := s48 _ _ q30
        replace h43 := A2.mono s48 h43
        replace q45 := s48 _ _ q45
        replace h28 := A2.mono s48 h28
        replace q47 := s48 _ _ q47
        replace h47 := A2.mono s48 h47
        replace sF := sF.trans s48
        obtain rfl : v48 = V.bl y48 := r48
        obtain ⟨t49, e49, hm⟩ := pb_get hm
        obtain ⟨u49, f49, r49⟩ := A2.at h43 e49
        obtain ⟨a50, vs50, rfl, q50, h50⟩ := r49
        refine ⟨_, rfl, _, rfl, _, _, _, _, rfl, rfl, SqL.of (w48.same _ _ q45), f49, _, rfl, _, _, _, _, (t49 : (List Int)), _, rfl, w48, (rep_lst q50 h50), ?_⟩
        refine (post_bind hm).mono (fun y51 hm v51 F51 H51 w51 s51 r51 => ?_) (fun _ z => z)
        replace h1 := A2.mono s51 h1
        replace q1 := s51.seq q1
        replace g10 := A2.mono s51 g10
        replace q12 := s51 _ _ q12
        replace g28 := A2.mono s51 g28
        replace q30 := s51 _ _ q30
        replace h43 := A2.mono s51 h43
        replace q45 := s51 _ _ q45
        replace h28 := A2.mono s51 h28
        replace q47 := s51 _ _ q47
        replace h47 := A2.mono s51 h47
        replace q50 := s51 _ _ q50
        replace h50 := A2.mono s51 h50
        replace sF := sF.trans s51
        obtain rfl : v51 = V.bl y51 := r51
        have h52 : A2 (rep K F51) [(.bl y48), (.bl y51)] ([y48, y51] : (List Bool)) := .cons rep_b (.cons rep_b (.nil))
        refine ⟨(by show 2 ≤ sizeLine; decide), fun p53 n53 => ?_⟩
        have w53 : W F51 _ ((p53, .lst [(.bl y48), (.bl y51)]) :: (p7, .lst vs28) :: os) := w51.new n53
        obtain ⟨F54, s54, w54, q54⟩ : ∃ F', Same F51 F' ∧ W F' _ ((p7, .lst vs28) :: os) ∧ F' p53 = some (.lst [(.bl y48), (.bl y51)]) := w53.freezeE (pre := [])
        replace h1 := A2.mono s54 h1
        replace q1 := s54.seq q1
        replace g10 := A2.mono s54 g10
        replace q12 := s54 _ _ q12
        replace g28 := A2.mono s54 g28
        replace q30 := s54 _ _ q30
        replace h43 := A2.mono s54 h43
        replace q45 := s54 _ _ q45
        replace h28 := A2.mono s54 h28
        replace q47 := s54 _ _ q47
        replace h47 := A2.mono s54 h47
        replace q50 := s54 _ _ q50
        replace h50 := A2.mono s54 h50
        replace h52 := A2.mono s54 h52
        replace sF := sF.trans s54
        refine stepN ?_
        try dsimp only
        refine stepSeq (stepIf ?_)
        refine joinT hm (fun (j55 : Bool) c H' => c = j55 ∧ ∃ (F' : Hp), Same F54 F' ∧ W F' H' ((p7, .lst vs28) :: os)) ?_ ?_
        · intro Q55 P55 q55 hm
          obtain ⟨t56, e56, hm⟩ := pb_get hm
          obtain ⟨u56, f56, r56⟩ := A2.at h52 e56
          obtain rfl : u56 = V.bl t56 := r56
          refine ⟨_, rfl, _, _, _, _, rfl, rfl, SqL.of (w54.same _ _ q54), f56, _, _, _, true, rfl, (.bl _), (by decide +kernel), _, rfl, ?_⟩
          refine post_ite hm (fun k57 hm => ?_) (fun k57 hm => ?_)
          · skip
            exact q55 _ (post_ok hm) _ _ ⟨rfl, _, Same.refl _, w54⟩
          · skip
            obtain ⟨t59, e59, hm⟩ := pb_get hm
            obtain ⟨u59, f59, r59⟩ := A2.at h52 e59
            obtain rfl : u59 = V.bl t59 := r59
            refine ⟨_, rfl, _, _, _, _, rfl, rfl, SqL.of (w54.same _ _ q54), f59, _, _, _, true, rfl, (.bl _), (by decide +kernel), _, rfl, ?_⟩
            refine post_ite hm (fun k60 hm => ?_) (fun k60 hm => ?_)
            · skip
              exact q55 _ (post_ok hm) _ _ ⟨rfl, _, Same.refl _, w54⟩
            · skip
              have h62 : A2 (rep K F54) [(.ref p10), (.ref p28)] ([y10.1, y28.1] : (List (List Int))) := .cons (rep_lst q12 g10) (.cons (rep_lst q30 g28) (.nil))
              refine ⟨_, rfl, _, rfl, _, rfl, (by show 2 ≤ sizeLine; decide), fun p63 n63 => ?_⟩
              have w63 : W F54 _ ((p63, .lst [(.ref p10), (.ref p28)]) :: (p7, .lst vs28) :: os) := w54.new n63
              have w65 : W F54 _ ((p7, .lst vs28) :: os) := w63.drop (pre := [])
              exact ⟨(([y10.1, y28.1] : (List (List Int))) : (List (List Int))), (([y10.1, y28.1] : (List (List Int))) : (List (List Int))), (Rep.mono w63.same (rep_lst q45 h43)), (rep_own (pre := []) w63 h62), _, rfl, q55 _ (post_ok hm) _ _ ⟨rfl, _, Same.refl _, w65⟩⟩
        intro j55 c55 H55 hc55 hm
        obtain ⟨rfl, F55, s55, w55⟩ := hc55
        replace h1 := A2.mono s55 h1
        replace q1 := s55.seq q1
        replace g10 := A2.mono s55 g10
        replace q12 := s55 _ _ q12
        replace g28 := A2.mono s55 g28
        replace q30 := s55 _ _ q30
        replace h43 := A2.mono s55 h43
        replace q45 := s55 _ _ q45
        replace h52 := A2.mono s55 h52
        replace q54 := s55 _ _ q54
        replace h28 := A2.mono s55 h28
        replace sF := sF.trans s55
        refine post_ite hm (fun k66 hm => ?_) (fun k66 hm => ?_)
        · skip
          have hm := hZ32 _ (post_ok hm)
          have hm := hZ2 _ (post_ok hm)
          have w67 : W F55 _ (os) := w55.drop (pre := [])
          exact (post_ok hm) _ _ _ w67 sF rep_b
        · skip
          refine ⟨_, rfl, _, rfl, _, rfl, _, rfl, _, _, _, _, (y10.1 : (List Int)), _, rfl, w55, (rep_lst q12 g10), ?_⟩
          refine (post_bind hm).mono (fun y68 hm v68 F68 H68 w68 s68 r68 => ?_) (fun _ z => z)
          replace h1 := A2.mono s68 h1
          replace q1 := s68.seq q1
          replace g10 := A2.mono s68 g10
          replace q12 := s68 _ _ q12
          replace g28 := A2.mono s68 g28
          replace q30 := s68 _ _ q30
          replace h43 := A2.mono s68 h43
          replace q45 := s68 _ _ q45
          replace h52 := A2.mono s68 h52
          replace q54 := s68 _ _ q54
          replace h28 := A2.mono s68 h28
          replace sF := sF.trans s68
          obtain rfl : v68 = V.bl y68 := r68
          refine ⟨_, rfl, _, rfl, _, rfl, _, _, _, _, (y28.1 : (List Int)), _, rfl, w68, (rep_lst q30 g28), ?_⟩
          refine (post_bind hm).mono (fun y69 hm v69 F69 H69 w69 s69 r69 => ?_) (fun _ z => z)
          replace h1 := A2.mono s69 h1
          replace q1 := s69.seq q1
          replace g10 := A2.mono s69 g10
          replace q12 := s69 _ _ q12
          replace g28 := A2.mono s69 g28
          replace q30 := s69 _ _ q30
          replace h43 := A2.mono s69 h43
          replace q45 := s69 _ _ q45
          replace h52 := A2.mono s69 h52
          replace q54 := s69 _ _ q54
          replace h28 := A2.mono s69 h28
          replace sF := sF.trans s69
          obtain rfl : v69 = V.bl y69 := r69
          have h70 : A2 (rep K F69) [(.bl y68), (.bl y69)] ([y68, y69] : (List Bool)) := .cons rep_b (.cons rep_b (.nil))
          refine ⟨(by show 2 ≤ sizeLine; decide), fun p71 n71 => ?_⟩
          have w71 : W F69 _ ((p71, .lst [(.bl y68), (.bl y69)]) :: (p7, .lst vs28) :: os) := w69.new n71
          refine ⟨(([y48, y51] : (List Bool)) : (List Bool)), (([y68, y69] : (List Bool)) : (List Bool)), (Rep.mono w71.same (rep_lst q54 h52)), (rep_own (pre := []) w71 h70), _, rfl, ?_⟩
          have w72 : W F69 _ ((p7, .lst vs28) :: os) := w71.drop (pre := [])
          refine post_ite hm (fun k73 hm => ?_) (fun k73 hm => ?_)
          · skip
            have hm := hZ32 _ (post_ok hm)
            have hm := hZ2 _ (post_ok hm)
            have w74 : W F69 _ (os) := w72.drop (pre := [])
            exact (post_ok hm) _ _ _ w74 sF rep_b
          · skip
            obtain ⟨t75, e75, hm⟩ := pb_get hm
            obtain ⟨u75, f75, r75⟩ := A2.at h52 e75
            obtain rfl : u75 = V.bl t75 := r75
            refine ⟨_, rfl, _, _, _, _, rfl, rfl, SqL.of (w72.same _ _ q54), f75, _, rfl, _, rfl, _, rfl, _, _, _, _, (y10.1 : (List Int)), _, rfl, w72, (rep_lst q12 g10), ?_⟩
            refine (post_bind hm).mono (fun y76 hm v76 F76 H76 w76 s76 r76 => ?_) (fun _ z => z)
            replace h1 := A2.mono s76 h1
            replace q1 := s76.seq q1
            replace g10 := A2.mono s76 g10
            replace q12 := s76 _ _ q12
            replace g28 := A2.mono s76 g28
            replace q30 := s76 _ _ q30
            replace h43 := A2.mono s76 h43
            replace q45 := s76 _ _ q45
            replace h52 := A2.mono s76 h52
            replace q54 := s76 _ _ q54
            replace h28 := A2.mono s76 h28
            replace sF := sF.trans s76
            obtain rfl : v76 = V.bl y76 := r76
            refine ⟨_, _, rfl, rfl, _, rfl, ?_⟩
            refine post_ite hm (fun k77 hm => ?_) (fun k77 hm => ?_)
            · skip
              have hm := hZ32 _ (post_ok hm)
              have hm := hZ2 _ (post_ok hm)
              have w78 : W F76 _ (os) := w76.drop (pre := [])
              exact (post_ok hm) _ _ _ w78 sF rep_b
            · skip
              exact hN32 _ (post_ok hm) _ _ ⟨_, _, _, _, rfl, (s32.trans (s41.trans (s42.trans (s45.trans (s48.trans (s51.trans (s54.trans (s55.trans (s68.trans (s69.trans s76)))))))))), w76⟩
      intro g32 σ32 H32 hI hm
      obtain ⟨F32, o32_8, o32_9, o32_7, rfl, s32, w32⟩ := hI
      replace h1 := A2.mono s32 h1
      replace q1 := s32.seq q1
      replace g10 := A2.mono s32 g10
      replace q12 := s32 _ _ q12
      replace g28 := A2.mono s32 g28
      replace q30 := s32 _ _ q30
      replace h28 := A2.mono s32 h28
      replace h33 := A2.mono s32 h33
      replace q35 := s32 _ _ q35
      replace sF := sF.trans s32
      have h80 : A2 (rep K F32) [(.int 0)] ([(0 : Int)] : (List Int)) := .cons rep_i (.nil)
      refine ⟨_, rfl, (by show 1 ≤ sizeLine; decide), fun p81 n81 => ?_⟩
      have w81 : W F32 _ ((p81, .lst [(.int 0)]) :: (p7, .lst vs28) :: os) := w32.new n81
      obtain ⟨l82, z82, e82, hm⟩ := pn_extend hm
      have h82 : A2 (rep K F32) (us28 ++ [(.int 0)]) l82 := e82 ▸ A2.append g28 h80
      refine ⟨_, _, _, _, rfl, rfl, (w81.same _ _ q30), (w81.get (pre := [])), (A2.le2 g28 h80 z82), fun p83 n83 => ?_⟩
      have w83 : W F32 _ ((p83, .lst (us28 ++ [(.int 0)])) :: (p81, .lst [(.int 0)]) :: (p7, .lst vs28) :: os) := w81.new n83
      obtain ⟨F84, s84, w84, q84⟩ : ∃ F', Same F32 F' ∧ W F' _ ((p81, .lst [(.int 0)]) :: (p7, .lst vs28) :: os) ∧ F' p83 = some (.lst (us28 ++ [(.int 0)])) := w83.freezeE (pre := [])
      replace h1 := A2.mono s84 h1
      replace q1 := s84.seq q1
      replace g10 := A2.mono s84 g10
      replace q12 := s84 _ _ q12
      replace g28 := A2.mono s84 g28
      replace q30 := s84 _ _ q30
      replace h28 := A2.mono s84 h28
      replace h80 := A2.mono s84 h80
      replace h82 := A2.mono s84 h82
      replace sF := sF.trans s84
      refine ⟨_, rfl, ⟨_, SqL.of (w84.same _ _ q84)⟩, ?_⟩
      have w85 : W F84 _ ((p7, .lst vs28) :: os) := w84.drop (pre := [])
      refine forX (tw_list (a := p83) h82) hm (fun (g79 : (List Int)) σ H' => ∃ (F' : Hp) (vs79_0 : List V) (o79_11 : Option V) (o79_12 : Option V) (o79_10 : Option V), σ = [some (.ref a1), some (.int b2), some (.ref p7), some (.int ((3 : Int) + y9.1)), some (.ref p10), some (.int ((3 : Int) + y21.1)), some (.ref p28), o32_7, o32_8, o32_9, o79_10, o79_11, o79_12] ∧ Same F84 F' ∧ W F' H' ((p7, .lst vs79_0) :: os) ∧ A2 (rep K F') vs79_0 g79) ⟨_, _, _, _, _, rfl, Same.refl _, w85, h28⟩ (fun g σ H' hI => by obtain ⟨F', _, _, _, _, _, s, w, _⟩ := hI; exact SqL.of (w.same _ _ (s _ _ q84))) ?_ ?_
      · -- a turn
        intro b79 g79 x79 σ79 H79 H79' N79 B79 P79 hI hy hN79 hB79 hZ79 hm
        obtain ⟨F79, vs79_0, o79_11, o79_12, o79_10, rfl, s79, w79, h79_0⟩ := hI
        replace h1 := A2.mono s79 h1
        replace q1 := s79.seq q1
        replace g10 := A2.mono s79 g10
        replace q12 := s79 _ _ q12
        replace g28 := A2.mono s79 g28
        replace q30 := s79 _ _ q30
        replace h82 := A2.mono s79 h82
        replace q84 := s79 _ _ q84
        replace sF := sF.trans s79
        obtain ⟨rfl, r86⟩ := hy
        obtain rfl : x79 = V.int b79 := r86
        refine ⟨_, rfl, _, rfl, _, _, _, _, _, _, rfl, w79, h79_0, ?_⟩
        refine (post_bind hm).mono (fun y87 hm v87 vs87 F87 H87 w87 s87 r87 h87 => ?_) (fun _ z => z)
        replace h1 := A2.mono s87 h1
        replace q1 := s87.seq q1
        replace g10 := A2.mono s87 g10
        replace q12 := s87 _ _ q12
        replace g28 := A2.mono s87 g28
        replace q30 := s87 _ _ q30
        replace sF := sF.trans s87
        obtain rfl : v87 = V.int y87.1 := r87
        refine ⟨_, rfl, _, rfl, _, rfl, _, _, _, _, _, rfl, w87, ?_⟩
        refine (post_bind hm).mono (fun y88 hm v88 F88 H88 w88 s88 r88 => ?_) (fun _ z => z)
        replace h1 := A2.mono s88 h1
        replace q1 := s88.seq q1
        replace g10 := A2.mono s88 g10
        replace q12 := s88 _ _ q12
        replace g28 := A2.mono s88 g28
        replace q30 := s88 _ _ q30
        replace h87 := A2.mono s88 h87
        replace sF := sF.trans s88
        obtain rfl : v88 = V.int y88 := r88
        refine stepN ?_
        try dsimp only
        refine stepIf ?_
        refine joinT hm (fun (j89 : Bool) c H' => c = j89 ∧ ∃ (F' : Hp), Same F88 F' ∧ W F' H' ((p7, .lst vs87) :: os)) ?_ ?_
        · intro Q89 P89 q89 hm
          refine ⟨_, rfl, _, _, _, false, rfl, (.int _), (by decide +kernel), _, rfl, ?_⟩
          refine post_ite hm (fun k90 hm => ?_) (fun k90 hm => ?_)
          · skip
            exact q89 _ (post_ok hm) _ _ ⟨rfl, _, Same.refl _, w88⟩
          · skip
            refine ⟨_, rfl, _, rfl, _, rfl, _, rfl, _, _, _, _, _, rfl, w88, ?_⟩
            refine (post_bind hm).mono (fun y92 hm v92 F92 H92 w92 s92 r92 => ?_) (fun _ z => z)
            replace h1 := A2.mono s92 h1
            replace q1 := s92.seq q1
            replace g10 := A2.mono s92 g10
            replace q12 := s92 _ _ q12
            replace g28 := A2.mono s92 g28
            replace q30 := s92 _ _ q30
            replace h87 := A2.mono s92 h87
            replace sF := sF.trans s92
            obtain rfl : v92 = V.int y92 := r92
            refine ⟨_, _, rfl, rfl, _, rfl, ?_⟩
            refine post_ite hm (fun k93 hm => ?_) (fun k93 hm => ?_)
            · skip
              exact q89 _ (post_ok hm) _ _ ⟨rfl, _, s92, w92⟩
            · skip
              refine ⟨_, rfl, _, rfl, _, rfl, _, _, _, _, _, rfl, w92, ?_⟩
              refine (post_bind hm).mono (fun y95 hm v95 F95 H95 w95 s95 r95 => ?_) (fun _ z => z)
              replace h1 := A2.mono s95 h1
              replace q1 := s95.seq q1
              replace g10 := A2.mono s95 g10
              replace q12 := s95 _ _ q12
              replace g28 := A2.mono s95 g28
              replace q30 := s95 _ _ q30
              replace h87 := A2.mono s95 h87
              replace sF := sF.trans s95
              obtain rfl : v95 = V.int y95 := r95
              exact ⟨_, rfl, _, _, rfl, rfl, _, rfl, q89 _ (post_ok hm) _ _ ⟨rfl, _, (s92.trans s95), w95⟩⟩
        intro j89 c89 H89 hc89 hm
        obtain ⟨rfl, F89, s89, w89⟩ := hc89
        replace h1 := A2.mono s89 h1
        replace q1 := s89.seq q1
        replace g10 := A2.mono s89 g10
        replace q12 := s89 _ _ q12
        replace g28 := A2.mono s89 g28
        replace q30 := s89 _ _ q30
        replace h87 := A2.mono s89 h87
        replace sF := sF.trans s89
        refine post_ite hm (fun k97 hm => ?_) (fun k97 hm => ?_)
        · skip
          have hm := hZ79 _ (post_ok hm)
          have hm := hZ2 _ (post_ok hm)
          have w98 : W F89 _ (os) := w89.drop (pre := [])
          exact (post_ok hm) _ _ _ w98 sF rep_b
        · skip
          exact hN79 _ (post_ok hm) _ _ ⟨_, _, _, _, _, rfl, (s79.trans (s87.trans (s88.trans s89))), w89, h87⟩
      intro g79 σ79 H79 hI hm
      obtain ⟨F79, vs79_0, o79_11, o79_12, o79_10, rfl, s79, w79, h79_0⟩ := hI
      replace h1 := A2.mono s79 h1
      replace q1 := s79.seq q1
      replace g10 := A2.mono s79 g10
      replace q12 := s79 _ _ q12
      replace g28 := A2.mono s79 g28
      replace q30 := s79 _ _ q30
      replace h82 := A2.mono s79 h82
      replace q84 := s79 _ _ q84
      replace sF := sF.trans s79
      have w99 : W F79 _ (os) := w79.drop (pre := [])
      exact hN2 _ (post_ok hm) _ _ ⟨_, _, _, _, _, _, _, _, _, _, _, _, _, rfl, (s2.trans (s7.trans (s9.trans (s10.trans (s12.trans (s19.trans (s21.trans (s26.trans (s28.trans (s30.trans (s35.trans (s32.trans (s84.trans s79))))))))))))), w99⟩
    intro g2 σ2 H2 hI hm
    obtain ⟨F2, o2_2, o2_3, o2_4, o2_5, o2_6, o2_7, o2_8, o2_9, o2_10, o2_11, o2_12, o2_1, rfl, s2, w2⟩ := hI
    replace q1 := s2.seq q1
    replace h1 := A2.mono s2 h1
    replace g3 := A2.mono s2 g3
    replace q5 := s2 _ _ q5
    replace sF := sF.trans s2
    exact (post_ok hm) _ _ _ w2 sF rep_b
end
end G
namespace G
open PySem Z L2
/-! ### draws -/
def Ok2 (s : List Int) : Prop := ∃ a b, s = [a, b] ∧ 0 ≤ a ∧ 0 ≤ b ∧ b < 2147483647
theorem next_ok {s : List Int} {m : Int} (h : Ok2 s) (h0 : 0 < m) (h1 : m < 1073741824) : Post (law_next s m) (fun p => 0 ≤ p.1 ∧ p.1 < m ∧ Ok2 p.2) noX := by
  obtain ⟨a, b, rfl, ha, hb, hb2⟩ := h
  unfold law_next
  refine po_getE (x := a) rfl ?_
  refine po_if (fun c => ?_) (fun c => ?_)
  · have c' : 0 < a := of_decide_eq_true c
    refine po_getE (x := a) rfl (po_mod h0 fun r0 r1 => po_getE (x := a) rfl (po_div h0 h1 (po_set (Int.le_refl 0) (by show (0 : Int) < 2; decide) ?_)))
    exact ⟨r0, r1, _, _, rfl, Int.ediv_nonneg ha (by omega), hb, hb2⟩
  · refine po_getE (x := b) rfl (po_set (by decide) (by show (1 : Int) < 2; decide) ?_)
    refine po_getE (x := (b * 69621 + 40692) % 2147483647) rfl (po_getE (x := (b * 69621 + 40692) % 2147483647) rfl ?_)
    have h2 : 0 ≤ (b * 69621 + 40692) % 2147483647 := Int.emod_nonneg _ (by decide)
    have h3 : (b * 69621 + 40692) % 2147483647 < 2147483647 := Int.emod_lt_of_pos _ (by decide)
    exact po_mul (by left; omega) (po_mod h0 fun r0 r1 => ⟨r0, r1, _, _, rfl, ha, h2, h3⟩)
theorem great_ok {s : List Int} {m : Int} (h : Ok2 s) (h0 : 0 < m) : Post (law_great s m) (fun p => 0 ≤ p.1 ∧ p.1 < m ∧ Ok2 p.2) noX := by
  unfold law_great
  refine po_bind (po_fold (fun g => Ok2 g.2) h fun g x hg _ => ?_) fun g hg => po_mod h0 fun r0 r1 => ⟨r0, r1, hg⟩
  exact po_bind (next_ok hg (by decide) (by decide)) fun y hy => hy.2.2
/-- looks as drawn: rising, among the places, at most so many -/
def Looks (m k : Int) (l : List Int) : Prop := l.Pairwise (· < ·) ∧ (∀ x ∈ l, 0 ≤ x ∧ x < m) ∧ (l.length : Int) ≤ k
theorem lt_of_sort {l : List Int} (h : l.Pairwise (· ≤ ·)) (n : l.Nodup) : l.Pairwise (· < ·) := by
  induction l with
  | nil => exact .nil
  | cons x l ih =>
    rw [List.pairwise_cons] at h ⊢
    rw [List.nodup_cons] at n
    exact ⟨fun y hy => by
      have := h.1 y hy
      have hne : x ≠ y := fun e => n.1 (e ▸ hy)
      omega, ih h.2 n.2⟩
theorem looks_ok {s : List Int} {m k : Int} (h : Ok2 s) (h0 : 0 < m) (hk : 0 ≤ k) (hk2 : k < 1000) : Post (law_looks s m k) (fun p => Looks m k p.1 ∧ Ok2 p.2) noX := by
  unfold law_looks
  refine po_bind (next_ok (m := k + 1) h (by omega) (by omega)) fun y6 ⟨r0, r1, h1⟩ => ?_
  refine po_rng (by decide) (by decide) (by omega) (by omega) ?_
  refine po_bind (po_foldN (fun n g => Ok2 g.1 ∧ g.2.Nodup ∧ (∀ x ∈ g.2, 0 ≤ x ∧ x < m) ∧ g.2.length ≤ n) ⟨h1, List.nodup_nil, (fun _ z => nomatch z), Nat.le_refl _⟩ fun n g x hn ⟨g1, g2, g3, g4⟩ _ => ?_) fun g ⟨g1, g2, g3, g4⟩ => ?_
  · have hn' : n < 1000 := by rw [rng_length] at hn; omega
    refine po_bind (great_ok g1 h0) fun y9 ⟨_, _, h9⟩ => po_bind (next_ok h9 (by decide) (by decide)) fun y13 ⟨a0, a1, h13⟩ => ?_
    refine po_get (by unfold min2; split <;> omega) (by unfold min2; show _ < (6 : Int); split <;> omega) fun t14 _ _ => ?_
    refine po_bind (Q := fun p => Ok2 p.2) (po_bind (Q := fun j => Ok2 j.2 ∧ (j.1 = true → g.2 ≠ [])) ?_ fun j ⟨hj, hj2⟩ => ?_) fun g16 h16 => ?_
    · refine po_if (fun c => po_bind (next_ok h13 (by decide) (by decide)) fun y22 ⟨_, _, h22⟩ => ⟨h22, fun _ e => ?_⟩) fun c => ⟨h13, fun z => nomatch z⟩
      rw [e] at c
      exact absurd c (by decide)
    · refine po_if (fun c => po_last (hj2 c) fun t28 _ => po_bind (next_ok hj (by decide) (by decide)) fun y30 ⟨_, _, h30⟩ => h30) fun c => hj
    · refine po_mod h0 fun r0 r1 => po_if (fun c => po_mod h0 fun _ _ => po_app (by omega) ?_) fun c => ⟨h16, g2, g3, Nat.le_succ_of_le g4⟩
      have c' : ¬ (g16.1 % m ∈ g.2) := by simpa using c
      refine ⟨h16, ?_, fun x hx => ?_, by rw [List.length_append, List.length_singleton]; omega⟩
      · rw [List.nodup_append]
        refine ⟨g2, by simp, fun a ha b hb => ?_⟩
        rw [List.mem_singleton] at hb
        rw [hb]
        exact fun e => c' (e ▸ ha)
      · rcases List.mem_append.mp hx with hx | hx
        · exact g3 x hx
        · rw [List.mem_singleton] at hx
          rw [hx]
          exact ⟨r0, r1⟩
  · have hp := sortI_perm g.2
    refine ⟨⟨lt_of_sort (sortI_sorted _) (hp.symm.nodup g2), fun x hx => g3 x (hp.mem_iff.mp hx), ?_⟩, g1⟩
    rw [hp.length_eq]
    rw [rng_length] at g4
    omega
theorem cell_ok {sc : List Int} {k : Int} (h0 : 0 ≤ k) : Post (law_cell_at ⟨sc⟩ k) (fun _ => True) noX := by
  unfold law_cell_at
  refine po_if (fun c => po_get h0 (of_decide_eq_true c) fun _ _ _ => trivial) fun c => ?_
  refine po_bind (Q := fun _ => True) (po_if (fun c => ?_) fun _ => trivial) fun _ _ => trivial
  have hne : sc ≠ [] := fun e => by
    subst e
    exact absurd c (by decide)
  have hl : 0 < (sc.length : Int) := by
    have := List.length_pos_iff.mpr hne
    omega
  exact po_mod hl fun r0 r1 => po_get r0 r1 fun _ _ _ => trivial
theorem folded_ok {sc : List Int} (h : sc.length ≤ 63) : Post (law_folded ⟨sc⟩ 12) (fun l => l.length = 12) noX := by
  unfold law_folded
  refine po_rng (by omega) (by omega) (by omega) (by omega) ?_
  have h12 : (rng 0 12).length = 12 := by rw [rng_length]; rfl
  have hx : ∀ x ∈ rng 0 12, 0 ≤ x := fun x hx => (rng_mem.mp hx).1
  generalize hl : rng 0 12 = l at h12 hx ⊢
  refine po_bind (po_mapG (fun _ => True) (by rw [h12]; omega) fun x h => po_bind (cell_ok (hx x h)) fun _ _ => po_ok trivial) fun l3 h3 => ?_
  have e : rngI 12 ((⟨sc⟩ : Scr).l.length : Int) = R.ok (rng 12 sc.length) := by
    unfold rngI
    rw [if_pos]
    exact ⟨by omega, by omega, by show _ ≤ (sc.length : Int); omega, by show (sc.length : Int) < _; omega⟩
  rw [e, ok_bind]
  have h3' : l3.length = 12 := h3.1.trans h12
  refine po_bind (po_fold (fun g => g.length = 12) h3' fun g x hg hx => ?_) fun g hg => po_ok hg
  obtain ⟨hx0, hx1⟩ := rng_mem.mp hx
  refine po_mod (by decide) fun r0 r1 => po_get r0 (by omega) fun _ _ _ => po_get (by omega) hx1 fun _ _ _ => po_set r0 (by omega) ?_
  show (List.set _ _ _).length = 12
  rw [List.length_set]
  exact hg
theorem state_ok (c : Int) : Post (law_state c) Ok2 noX := by
  unfold law_state
  refine po_bind (Q := fun g => 0 ≤ g) (po_if (fun k => ?_) fun _ => Int.le_refl 0) fun g hg => ?_
  · have : (10 : Int) ^ (18 : Int).toNat ≤ c := of_decide_eq_true k
    have h2 : (0 : Int) ≤ (10 : Int) ^ (18 : Int).toNat := by decide
    show 0 ≤ c
    omega
  · exact ⟨_, _, rfl, hg, Int.emod_nonneg _ (by decide), Int.emod_lt_of_pos _ (by decide)⟩
/-! ### rings: small ones by looking -/
/-- the rising lists among lo .. lo + n - 1 -/
def subs : Int → Nat → List (List Int)
  | _, 0 => [[]]
  | lo, n + 1 => (subs (lo + 1) n).map (lo :: ·) ++ subs (lo + 1) n
theorem subs_mem : ∀ {n : Nat} {lo : Int} {l : List Int}, l.Pairwise (· < ·) → (∀ x ∈ l, lo ≤ x ∧ x < lo + n) → l ∈ subs lo n
  | 0, lo, [], _, _ => List.mem_cons_self
  | 0, lo, x :: l, _, h => by
    have := h x List.mem_cons_self
    omega
  | n + 1, lo, [], _, _ => List.mem_append_right _ (subs_mem .nil (fun _ z => nomatch z))
  | n + 1, lo, x :: l, hp, h => by
    rw [List.pairwise_cons] at hp
    have hx := h x List.mem_cons_self
    by_cases e : x = lo
    · subst e
      refine List.mem_append_left _ (List.mem_map.mpr ⟨l, subs_mem hp.2 fun y hy => ?_, rfl⟩)
      have h1 := hp.1 y hy
      have h2 := h y (List.mem_cons_of_mem _ hy)
      omega
    · refine List.mem_append_right _ (subs_mem (List.pairwise_cons.mpr hp) fun y hy => ?_)
      rcases List.mem_cons.mp hy with rfl | hy
      · omega
      · have h1 := hp.1 y hy
        have h2 := h y (List.mem_cons_of_mem _ hy)
        omega
def kinds : List Str := [("places" : Str), ("ties" : Str), ("all" : Str)]
def same (a b : R Bool) : Bool := match a, b with
  | .ok x, .ok y => x == y
  | _, _ => false
/-- the rising lists of at most so many -/
def subsN : Nat → Int → Nat → List (List Int)
  | _, _, 0 => [[]]
  | 0, _, _ => [[]]
  | j + 1, lo, n + 1 => (subsN j (lo + 1) n).map (lo :: ·) ++ subsN (j + 1) (lo + 1) n
theorem subsN_mem : ∀ {n j : Nat} {lo : Int} {l : List Int}, l.Pairwise (· < ·) → l.length ≤ j → (∀ x ∈ l, lo ≤ x ∧ x < lo + n) → l ∈ subsN j lo n
  | 0, j, lo, [], _, _, _ => by cases j <;> exact List.mem_cons_self
  | 0, j, lo, x :: l, _, _, h => by
    have := h x List.mem_cons_self
    omega
  | n + 1, 0, lo, [], _, _, _ => List.mem_cons_self
  | n + 1, 0, lo, x :: l, _, hl, _ => by
    rw [List.length_cons] at hl
    omega
  | n + 1, j + 1, lo, [], _, _, _ => List.mem_append_right _ (subsN_mem .nil (Nat.zero_le _) (fun _ z => nomatch z))
  | n + 1, j + 1, lo, x :: l, hp, hl, h => by
    rw [List.pairwise_cons] at hp
    rw [List.length_cons] at hl
    have hx := h x List.mem_cons_self
    by_cases e : x = lo
    · subst e
      refine List.mem_append_left _ (List.mem_map.mpr ⟨l, subsN_mem hp.2 (by omega) fun y hy => ?_, rfl⟩)
      have h1 := hp.1 y hy
      have h2 := h y (List.mem_cons_of_mem _ hy)
      omega
    · refine List.mem_append_right _ (subsN_mem (List.pairwise_cons.mpr hp) (by rw [List.length_cons]; omega) fun y hy => ?_)
      rcases List.mem_cons.mp hy with rfl | hy
      · omega
      · have h1 := hp.1 y hy
        have h2 := h y (List.mem_cons_of_mem _ hy)
        omega
def lookRing (m : Int) : Bool := (subsN 4 0 m.toNat).all fun l => kinds.all fun k => same (ring_known m l k) (law_unlike m l k)
theorem look1 : [(3 : Int), 4, 5, 6, 7].all lookRing = true := by decide +kernel
theorem look2 : lookRing 8 = true := by decide +kernel
theorem look3 : lookRing 9 = true := by decide +kernel
theorem look4 : lookRing 10 = true := by decide +kernel
theorem look_all {m : Int} (h0 : 3 ≤ m) (h1 : m ≤ 10) : lookRing m = true := by
  have h : m = 3 ∨ m = 4 ∨ m = 5 ∨ m = 6 ∨ m = 7 ∨ m = 8 ∨ m = 9 ∨ m = 10 := by omega
  rcases h with rfl | rfl | rfl | rfl | rfl | rfl | rfl | rfl
  · exact List.all_eq_true.mp look1 3 (by decide)
  · exact List.all_eq_true.mp look1 4 (by decide)
  · exact List.all_eq_true.mp look1 5 (by decide)
  · exact List.all_eq_true.mp look1 6 (by decide)
  · exact List.all_eq_true.mp look1 7 (by decide)
  · exact look2
  · exact look3
  · exact look4
theorem same_of {a b : R Bool} (h : same a b = true) : ∃ x, a = R.ok x ∧ b = R.ok x := by
  cases a with
  | ok x =>
    cases b with
    | ok y =>
      have e : x = y := eq_of_beq h
      exact ⟨x, rfl, by rw [e]⟩
    | exc e => exact nomatch (show false = true from h)
    | bad => exact nomatch (show false = true from h)
  | exc e => cases b <;> exact nomatch (show false = true from h)
  | bad => cases b <;> exact nomatch (show false = true from h)
theorem ring_unlike {m : Int} {l : List Int} {k : Str} (h0 : 3 ≤ m) (h1 : m ≤ 10) (h : Looks m 4 l) (hk : k ∈ kinds) : ∃ b, ring_known m l k = R.ok b ∧ law_unlike m l k = R.ok b := by
  obtain ⟨p, hr, hl⟩ := h
  have hm : l ∈ subsN 4 0 m.toNat := subsN_mem p (by omega) fun x hx => by
    have := hr x hx
    omega
  exact same_of (List.all_eq_true.mp (List.all_eq_true.mp (look_all h0 h1) l hm) k hk)
end G
namespace G
open PySem Z L2
/-! ### great rings -/
theorem enum_mem {l : List Int} {p : Int × Int} (h : p ∈ enum l) : ∃ k : Nat, k < l.length ∧ p.1 = (k : Int) ∧ l[k]? = some p.2 := by
  obtain ⟨k, hk, e⟩ := List.getElem_of_mem h
  rw [enum_length] at hk
  have h1 : l[k]? = some l[k] := List.getElem?_eq_getElem hk
  have h2 := enum_get h1
  have h3 : (enum l)[k]? = some p := by rw [List.getElem?_eq_getElem (by rw [enum_length]; exact hk), e]
  rw [h2] at h3
  injection h3 with h3
  rw [← h3]
  exact ⟨k, hk, rfl, h1⟩
theorem mem_enum {l : List Int} {k : Nat} {x : Int} (h : l[k]? = some x) : ((k : Int), x) ∈ enum l := List.mem_of_getElem? (enum_get h)
/-- the place that stands k-th, going round -/
def rd (l : List Int) (k : Nat) : Int := l.getD (k % l.length) 0
theorem rd_get {l : List Int} {k : Nat} (h : 0 < l.length) : l[k % l.length]? = some (rd l k) := by
  have hk := Nat.mod_lt k h
  unfold rd
  rw [List.getD_eq_getElem?_getD, List.getElem?_eq_getElem hk]
  rfl
theorem rd_lt {l : List Int} {k : Nat} {x : Int} (h : l[k]? = some x) : rd l k = x := by
  have hk := (List.getElem?_eq_some_iff.mp h).1
  unfold rd
  rw [Nat.mod_eq_of_lt hk, List.getD_eq_getElem?_getD, h]
  rfl
/-- from each look to the next one it is at most half round -/
def Half (m : Int) (l : List Int) : Prop := ∀ k, k < l.length → 2 * ((rd l (k + 1) - rd l k) % m) ≤ m
theorem gaps_ok {m : Int} {l : List Int} (hm : 0 < m) (h0 : 0 < l.length) (hl : l.length < 1000) : Post (gaps_round m l) (fun G => (∀ g ∈ G, 2 * g ≤ m) ↔ Half m l) noX := by
  unfold gaps_round
  have e : mapG (fun (b2 : (Int × Int)) => (do
      let t5 ← modI (b2.1 + (1 : Int)) (l.length : Int)
      let t6 ← getI l t5
      let t7 ← modI (t6 - b2.2) m
      R.ok t7 : R Int)) (enum l) = R.ok ((enum l).map fun p => (rd l (p.1.toNat + 1) - p.2) % m) := by
    refine mapG_ok (by rw [enum_length]; omega) fun p hp => ?_
    obtain ⟨k, hk, e1, e2⟩ := enum_mem hp
    rw [modI_ok (by omega), ok_bind, e1, getI_eq (x := rd l (k + 1)) (Int.emod_nonneg _ (by omega)) ?_, ok_bind, modI_ok hm, ok_bind]
    · rw [Int.toNat_natCast]
    · have : (((k : Int) + 1) % (l.length : Int)).toNat = (k + 1) % l.length := by
        rw [show ((k : Int) + 1) = ((k + 1 : Nat) : Int) by omega, ← Int.natCast_emod, Int.toNat_natCast]
      rw [this]
      exact rd_get h0
  rw [e, ok_bind]
  refine po_ok ⟨fun h k hk => ?_, fun h g hg => ?_⟩
  · have h1 : l[k]? = some l[k] := List.getElem?_eq_getElem hk
    have h2 := h _ (List.mem_map.mpr ⟨_, mem_enum h1, rfl⟩)
    rw [rd_lt h1]
    simpa using h2
  · obtain ⟨p, hp, rfl⟩ := List.mem_map.mp hg
    obtain ⟨k, hk, e1, e2⟩ := enum_mem hp
    have h2 := h k hk
    rw [rd_lt e2] at h2
    rw [e1, Int.toNat_natCast]
    exact h2
theorem all_half {m : Int} {G : List Int} : ((G.map fun b => decide (2 * b ≤ m)).all id = true) ↔ ∀ g ∈ G, 2 * g ≤ m := by
  rw [List.all_eq_true]
  constructor
  · intro h g hg
    exact of_decide_eq_true (h _ (List.mem_map.mpr ⟨g, hg, rfl⟩))
  · intro h x hx
    obtain ⟨g, hg, rfl⟩ := List.mem_map.mp hx
    exact decide_eq_true (h g hg)
/-- the look ahead of the k-th -/
theorem prev_get {l : List Int} {k : Nat} (hk : k < l.length) : getI l ((k : Int) - 1) = R.ok (rd l (k + l.length - 1)) := by
  cases k with
  | zero =>
    have hne : l ≠ [] := fun e => by rw [e] at hk; exact absurd hk (Nat.not_lt_zero _)
    obtain ⟨ys, y, rfl⟩ : ∃ ys y, l = ys ++ [y] := ⟨l.dropLast, l.getLast hne, (List.dropLast_concat_getLast hne).symm⟩
    have e : ((0 : Nat) : Int) - 1 = -1 := by omega
    rw [e, getI_last]
    congr 1
    symm
    rw [Nat.zero_add]
    refine rd_lt ?_
    rw [List.length_append, List.length_singleton, Nat.add_sub_cancel]
    simp
  | succ k =>
    refine getI_eq (by omega) ?_
    have e : (((k + 1 : Nat) : Int) - 1).toNat = k := by omega
    rw [e]
    have e2 : (k + 1 + l.length - 1) % l.length = k := by
      rw [show k + 1 + l.length - 1 = k + l.length by omega, Nat.add_mod_right, Nat.mod_eq_of_lt (by omega)]
    have := rd_get (l := l) (k := k + 1 + l.length - 1) (by omega)
    rw [e2] at this
    exact this
theorem ring_words {m : Int} {l : List Int} {k : Str} {j : Int} (hm : 3 ≤ m) (h : Looks m j l) (hj : j < 1000) : ∃ b, ring_known m l k = R.ok b ∧ law_words m l k = R.ok b := by
  obtain ⟨p, hr, hl⟩ := h
  unfold ring_known law_words
  by_cases c : k = ("all" : Str)
  · rw [if_pos (decide_eq_true c), if_pos (decide_eq_true c)]
    have hs : mapG (fun (b3 : (Int × Int)) => (do
        let t6 ← getI l (b3.1 - (1 : Int))
        R.ok (t6, b3.2) : R (Int × Int))) (enum l) = R.ok ((enum l).map fun p => (rd l (p.1.toNat + l.length - 1), p.2)) := by
      refine mapG_ok (by rw [enum_length]; omega) fun p hp => ?_
      obtain ⟨k, hk, e1, e2⟩ := enum_mem hp
      rw [e1, prev_get hk, ok_bind, Int.toNat_natCast]
    rw [hs, ok_bind]
    by_cases c2 : 2 < (l.length : Int)
    · rw [if_pos (decide_eq_true c2), if_pos (decide_eq_true c2)]
      obtain ⟨G, eG, hG⟩ := po_ex (gaps_ok (m := m) (l := l) (by omega) (by omega) (by omega))
      have hGl : G.length < 100000 := by
        unfold gaps_round at eG
        obtain ⟨G', e1, e2⟩ := bind_ok_iff.mp eG
        cases e2
        obtain ⟨_, _, e3⟩ := bind_ok_iff.mp (show (grd _ >>= fun _ => mapR _ _) = R.ok G from e1)
        have : ∀ {f : Int × Int → R Int} {xs : List (Int × Int)} {ys : List Int}, mapR f xs = R.ok ys → ys.length = xs.length := by
          intro f xs
          induction xs with
          | nil => intro ys h; cases h; rfl
          | cons x xs ih =>
            intro ys h
            obtain ⟨y, _, h⟩ := bind_ok_iff.mp (show (f x >>= fun y => mapR f xs >>= fun ys => R.ok (y :: ys)) = R.ok ys from h)
            obtain ⟨zs, h1, h2⟩ := bind_ok_iff.mp h
            cases h2
            rw [List.length_cons, List.length_cons, ih h1]
        rw [this e3, enum_length]
        omega
      rw [eG, ok_bind, mapG_ok (g := fun b => decide (2 * b ≤ m)) hGl (fun _ _ => rfl), ok_bind]
      have hW : mapG (fun (b12 : (Int × Int)) => (do
            let t16 ← modI (b12.2 - b12.1) m
            R.ok t16 : R Int)) ((enum l).map fun p => (rd l (p.1.toNat + l.length - 1), p.2)) = R.ok (((enum l).map fun p => (rd l (p.1.toNat + l.length - 1), p.2)).map fun q => (q.2 - q.1) % m) :=
        mapG_ok (by rw [List.length_map, enum_length]; omega) fun q _ => by rw [modI_ok (by omega)]; rfl
      rw [hW, ok_bind]
      generalize hWW : (((enum l).map fun p => (rd l (p.1.toNat + l.length - 1), p.2)).map fun q => (q.2 - q.1) % m) = Wl
      have hmem : ∀ w, w ∈ Wl ↔ ∃ k, k < l.length ∧ w = (rd l (k + 1) - rd l k) % m := by
        intro w
        rw [← hWW, List.map_map]
        constructor
        · intro hw
          obtain ⟨p, hp, rfl⟩ := List.mem_map.mp hw
          obtain ⟨k, hk, e1, e2⟩ := enum_mem hp
          refine ⟨(k + l.length - 1) % l.length, Nat.mod_lt _ (by omega), ?_⟩
          show (p.2 - rd l (p.1.toNat + l.length - 1)) % m = _
          rw [e1, Int.toNat_natCast, ← rd_lt e2]
          have f1 : rd l ((k + l.length - 1) % l.length + 1) = rd l k := by
            unfold rd
            rw [Nat.mod_add_mod, show k + l.length - 1 + 1 = k + l.length by omega, Nat.add_mod_right]
          have f2 : rd l ((k + l.length - 1) % l.length) = rd l (k + l.length - 1) := by
            unfold rd
            rw [Nat.mod_mod]
          rw [f1, f2]
        · rintro ⟨k, hk, rfl⟩
          have h1 := rd_get (l := l) (k := k + 1) (by omega)
          refine List.mem_map.mpr ⟨_, mem_enum h1, ?_⟩
          show (rd l (k + 1) - rd l ((((k + 1) % l.length : Nat) : Int).toNat + l.length - 1)) % m = _
          rw [Int.toNat_natCast]
          have f3 : rd l ((k + 1) % l.length + l.length - 1) = rd l k := by
            unfold rd
            congr 1
            by_cases q : k + 1 = l.length
            · rw [q, Nat.mod_self, Nat.zero_add, Nat.mod_eq_of_lt hk, Nat.mod_eq_of_lt (by omega)]
              omega
            · rw [Nat.mod_eq_of_lt (show k + 1 < l.length by omega), show k + 1 + l.length - 1 = k + l.length by omega, Nat.add_mod_right]
          rw [f3]
      obtain ⟨t, ht⟩ : ∃ t, Wl.max? = some t := by
        cases hq : Wl with
        | nil =>
          have := (hmem ((rd l 1 - rd l 0) % m)).mpr ⟨0, by omega, rfl⟩
          rw [hq] at this
          cases this
        | cons a b => exact ⟨_, rfl⟩
      obtain ⟨h1, h2⟩ := List.max?_eq_some_iff.mp ht
      have e3 : maxL Wl = R.ok t := by
        unfold maxL
        rw [ht]
        rfl
      simp only [ok_bind, e3]
      refine ⟨_, rfl, ?_⟩
      congr 1
      rw [Bool.eq_iff_iff, decide_eq_true_eq, all_half, hG]
      constructor
      · intro q k hk
        have := h2 _ ((hmem _).mpr ⟨k, hk, rfl⟩)
        omega
      · intro q
        obtain ⟨k, hk, e⟩ := (hmem t).mp h1
        have := q k hk
        omega
    · rw [if_neg (by simpa using c2), if_neg (by simpa using c2)]
      exact ⟨false, rfl, rfl⟩
  · have cc : ¬ decide (k = ("all" : Str)) = true := by simpa using c
    rw [if_neg cc, if_neg cc]
    by_cases c2 : 2 < (l.length : Int)
    · simp only [decide_eq_true c2, if_true, ok_bind]
      exact ⟨true, rfl, rfl⟩
    · have c2' : decide (2 < (l.length : Int)) = false := decide_eq_false c2
      simp only [c2', Bool.false_eq_true, if_false]
      by_cases c3 : (l.length : Int) = 2
      · simp only [decide_eq_true c3, if_true]
        obtain ⟨x, e1, _⟩ := getI_nat (xs := l) (i := 1) (by decide) (by omega)
        obtain ⟨y, e2, _⟩ := getI_nat (xs := l) (i := 0) (by decide) (by omega)
        simp only [e1, ok_bind, e2]
        refine ⟨_, rfl, ?_⟩
        rw [show decide (m = 2 * (x - y)) = decide (2 * (x - y) = m) from decide_eq_decide.mpr eq_comm]
      · have c3' : decide ((l.length : Int) = 2) = false := decide_eq_false c3
        simp only [c3', Bool.false_eq_true, if_false, ok_bind]
        exact ⟨false, rfl, rfl⟩
theorem far_eq {m a b : Int} (hm : 0 < m) : ∃ d, ring_far m a b = R.ok d ∧ law_far m a b = R.ok d ∧ ring_far m b a = R.ok d := by
  have key : (b - a) % m = if (a - b) % m = 0 then 0 else m - (a - b) % m := by
    have h1 := Int.emod_nonneg (a - b) (show m ≠ 0 by omega)
    have h2 := Int.emod_lt_of_pos (a - b) hm
    have h3 := Int.mul_ediv_add_emod (a - b) m
    by_cases c : (a - b) % m = 0
    · rw [if_pos c]
      have : b - a = m * (-((a - b) / m)) := by rw [Int.mul_neg]; omega
      rw [this, Int.mul_emod_right]
    · rw [if_neg c]
      have : b - a = (m - (a - b) % m) + m * (-((a - b) / m) - 1) := by
        rw [Int.mul_sub, Int.mul_neg, Int.mul_one]
        omega
      rw [this, Int.add_mul_emod_self_left, Int.emod_eq_of_lt (by omega) (by omega)]
  have h1 := Int.emod_nonneg (a - b) (show m ≠ 0 by omega)
  have h2 := Int.emod_lt_of_pos (a - b) hm
  unfold ring_far law_far
  rw [modI_ok hm, modI_ok hm, ok_bind, ok_bind, ok_bind, key]
  refine ⟨_, rfl, ?_, ?_⟩
  · unfold min2
    by_cases c : (a - b) % m = 0
    · rw [if_pos c, c, if_neg (by simp; omega)]
      show R.ok 0 = _
      rw [if_neg (by omega)]
    · rw [if_neg c]
      by_cases c2 : m < 2 * (m - (a - b) % m)
      · rw [if_pos (decide_eq_true c2)]
        show R.ok (m - (m - (a - b) % m)) = _
        rw [if_neg (by omega)]
        congr 1
        omega
      · rw [if_neg (by simpa using c2)]
        show R.ok (m - (a - b) % m) = _
        congr 1
        by_cases c3 : m - (a - b) % m < (a - b) % m
        · rw [if_pos c3]
        · rw [if_neg c3]
          omega
  · congr 1
    unfold min2
    by_cases c : (a - b) % m = 0
    · rw [if_pos c, c]
    · rw [if_neg c]
      by_cases c3 : m - (a - b) % m < (a - b) % m
      · rw [if_neg (by omega), if_pos c3]
      · by_cases c4 : m - (m - (a - b) % m) < m - (a - b) % m
        · rw [if_pos c4, if_neg c3]
          omega
        · rw [if_neg c4, if_neg c3]
          omega
theorem law_true (ns : List Int) (h : ns.length ≤ 63) : law ⟨ns⟩ = R.ok true := by
  refine po_iff ?_
  unfold law
  refine po_bind (folded_ok h) fun y3 _ => ?_
  refine po_bind (po_foldX (fun _ => True) trivial fun _ b2 _ _ => ?_) fun r ⟨_, e, _⟩ => by subst e; rfl
  refine po_bind (state_ok b2) fun y7 h7 => po_bind (next_ok h7 (by decide) (by decide)) fun y9 ⟨a0, a1, h9⟩ => ?_
  refine po_bind (looks_ok h9 (by omega) (by decide) (by decide)) fun y10 ⟨l10, h10⟩ => po_bind (next_ok h10 (by decide) (by decide)) fun y19 ⟨b0, b1, h19⟩ => ?_
  refine po_get b0 (by show _ < (4 : Int); omega) fun t20 m20 _ => ?_
  have p20 : 0 < t20 := by
    simp only [List.mem_cons, List.not_mem_nil, or_false] at m20
    rcases m20 with e | e | e | e <;> (rw [e]; decide)
  refine po_bind (great_ok h19 p20) fun y21 ⟨c0, c1, h21⟩ => po_bind (next_ok h21 (by decide) (by decide)) fun y26 ⟨d0, d1, h26⟩ => ?_
  refine po_get d0 (by show _ < (4 : Int); omega) fun t27 m27 _ => ?_
  have p27 : 0 ≤ t27 ∧ t27 < 1000 := by
    simp only [List.mem_cons, List.not_mem_nil, or_false] at m27
    omega
  refine po_bind (looks_ok h26 (by omega) p27.1 p27.2) fun y28 ⟨l28, h28⟩ => ?_
  refine po_bind (po_foldX (fun _ => True) trivial fun _ k _ hk => ?_) fun r ⟨_, e, _⟩ => ?_
  · obtain ⟨u, e1, e2⟩ := ring_unlike (m := 3 + y9.1) (by omega) (by omega) l10 hk
    obtain ⟨v, e3, e4⟩ := ring_words (k := k) (m := 3 + y21.1) (by omega) l28 p27.2
    refine po_getE (x := y10.1) rfl ?_
    rw [e1, ok_bind]
    refine po_getE (x := y28.1) rfl ?_
    rw [e3, ok_bind]
    refine po_bind (Q := fun j => j = false) (po_getE (x := u) rfl (po_getE (x := v) rfl ?_)) fun j hj => ?_
    · show (!decide _) = false
      simp
    · subst hj
      rw [if_neg (by decide), e2, ok_bind, e4, ok_bind]
      refine po_if (fun c => absurd c (by simp)) fun _ => po_getE (x := u) rfl ?_
      obtain ⟨w, e5, e6⟩ := ring_words (k := k) (m := 3 + y9.1) (by omega) l10 (by decide)
      rw [e1] at e5
      cases e5
      rw [e6, ok_bind]
      exact po_if (fun c => absurd c (by simp)) fun _ => ⟨(), rfl, trivial⟩
  · subst e
    have hl := l28.2.2
    refine po_extend (by show _ + 1 < 100000; omega) ?_
    refine po_bind (po_foldX (fun g => Ok2 g) h28 fun g b hg _ => ?_) fun r ⟨_, e, _⟩ => by subst e; exact ⟨(), rfl, trivial⟩
    refine po_bind (great_ok hg (by omega)) fun y87 ⟨_, _, h87⟩ => ?_
    obtain ⟨d, e1, e2, e3⟩ := far_eq (m := 3 + y21.1) (a := b) (b := y87.1) (by omega)
    rw [e1, ok_bind]
    refine po_bind (Q := fun j => j = false) ?_ fun j hj => ?_
    · rw [if_neg (by decide), e2, ok_bind, if_neg (by simp), e3, ok_bind]
      show (!decide (d = d)) = false
      simp
    · subst hj
      exact po_if (fun c => absurd c (by decide)) fun _ => ⟨_, rfl, h87⟩
end G
namespace G
open PySem L2 Z
open Rep (rep)
theorem dn_mk {K : Fg} {h : Heap} {mg : Str → Option Value} (X : K.In h) (G : h.Ns mainGlobals mg) {x : Str} {st : Stmt} {ps : List Str} {f : Addr} {od an : Option Addr} {sl : Array (Option Value)} {oc kV dc pm cd ct : Value}
    (a : PySem.W.nsIn K mainGlobals x = some (some (.ref f))) (l : K.lookup f = some ⟨oc, od, .func (PySem.W.fnOf x x (defArgs st) (defBody st) (defScope st) .none kV dc pm an cd ct), sl⟩) (c : PySem.W.codeIn K cd x = true) (k : PySem.W.keepIn K (.ref f) = true)
    (b : ∀ (kV doc pm : Value) (an : Option Addr) (cdv ct : Value) (us : List Value), us.length = ps.length → bindArgs (PySem.W.fnOf x x (defArgs st) (defBody st) (defScope st) .none kV doc pm an cdv ct) ⟨us, []⟩ = pure (ps.zip us)) :
    Dn K mg x st ps f (PySem.W.fnOf x x (defArgs st) (defBody st) (defScope st) .none kV dc pm an cd ct) := ⟨fun_mk l c k, PySem.W.mg_of X G a, (fun_mk l c k).binds b⟩
theorem all_mk {l : PySem.W.OpenLaw} {w : World} {K : PySem.W.Frag} {h : Heap} {mg : Str → Option Value} {fa : Addr} (X : K.In h) (G : h.Ns mainGlobals mg) (hfa : mg "law" = some (.ref fa))
    {f1 : Addr} {od1 an1 : Option Addr} {sl1 : Array (Option Value)} {oc1 kV1 dc1 pm1 cd1 ct1 : Value}
    {f2 : Addr} {od2 an2 : Option Addr} {sl2 : Array (Option Value)} {oc2 kV2 dc2 pm2 cd2 ct2 : Value}
    {f3 : Addr} {od3 an3 : Option Addr} {sl3 : Array (Option Value)} {oc3 kV3 dc3 pm3 cd3 ct3 : Value}
    {f5 : Addr} {od5 an5 : Option Addr} {sl5 : Array (Option Value)} {oc5 kV5 dc5 pm5 cd5 ct5 : Value}
    {f6 : Addr} {od6 an6 : Option Addr} {sl6 : Array (Option Value)} {oc6 kV6 dc6 pm6 cd6 ct6 : Value}
    {f7 : Addr} {od7 an7 : Option Addr} {sl7 : Array (Option Value)} {oc7 kV7 dc7 pm7 cd7 ct7 : Value}
    {f8 : Addr} {od8 an8 : Option Addr} {sl8 : Array (Option Value)} {oc8 kV8 dc8 pm8 cd8 ct8 : Value}
    {f9 : Addr} {od9 an9 : Option Addr} {sl9 : Array (Option Value)} {oc9 kV9 dc9 pm9 cd9 ct9 : Value}
    {f10 : Addr} {od10 an10 : Option Addr} {sl10 : Array (Option Value)} {oc10 kV10 dc10 pm10 cd10 ct10 : Value}
    {f11 : Addr} {od11 an11 : Option Addr} {sl11 : Array (Option Value)} {oc11 kV11 dc11 pm11 cd11 ct11 : Value}
    {f12 : Addr} {od12 an12 : Option Addr} {sl12 : Array (Option Value)} {oc12 kV12 dc12 pm12 cd12 ct12 : Value}
    {f13 : Addr} {od13 an13 : Option Addr} {sl13 : Array (Option Value)} {oc13 kV13 dc13 pm13 cd13 ct13 : Value}
    {f14 : Addr} {od14 an14 : Option Addr} {sl14 : Array (Option Value)} {oc14 kV14 dc14 pm14 cd14 ct14 : Value}
    (a1 : PySem.W.nsIn K mainGlobals "gaps_round" = some (some (.ref f1))) (l1 : K.lookup f1 = some ⟨oc1, od1, .func (PySem.W.fnOf "gaps_round" "gaps_round" (defArgs s_gaps_round) (defBody s_gaps_round) (defScope s_gaps_round) .none kV1 dc1 pm1 an1 cd1 ct1), sl1⟩) (c1 : PySem.W.codeIn K cd1 "gaps_round" = true) (k1 : PySem.W.keepIn K (.ref f1) = true)
    (a2 : PySem.W.nsIn K mainGlobals "ring_known" = some (some (.ref f2))) (l2 : K.lookup f2 = some ⟨oc2, od2, .func (PySem.W.fnOf "ring_known" "ring_known" (defArgs s_ring_known) (defBody s_ring_known) (defScope s_ring_known) .none kV2 dc2 pm2 an2 cd2 ct2), sl2⟩) (c2 : PySem.W.codeIn K cd2 "ring_known" = true) (k2 : PySem.W.keepIn K (.ref f2) = true)
    (a3 : PySem.W.nsIn K mainGlobals "ring_far" = some (some (.ref f3))) (l3 : K.lookup f3 = some ⟨oc3, od3, .func (PySem.W.fnOf "ring_far" "ring_far" (defArgs s_ring_far) (defBody s_ring_far) (defScope s_ring_far) .none kV3 dc3 pm3 an3 cd3 ct3), sl3⟩) (c3 : PySem.W.codeIn K cd3 "ring_far" = true) (k3 : PySem.W.keepIn K (.ref f3) = true)
    (a5 : PySem.W.nsIn K mainGlobals "_law_cell_at" = some (some (.ref f5))) (l5 : K.lookup f5 = some ⟨oc5, od5, .func (PySem.W.fnOf "_law_cell_at" "_law_cell_at" (defArgs s_law_cell_at) (defBody s_law_cell_at) (defScope s_law_cell_at) .none kV5 dc5 pm5 an5 cd5 ct5), sl5⟩) (c5 : PySem.W.codeIn K cd5 "_law_cell_at" = true) (k5 : PySem.W.keepIn K (.ref f5) = true)
    (a6 : PySem.W.nsIn K mainGlobals "_law_folded" = some (some (.ref f6))) (l6 : K.lookup f6 = some ⟨oc6, od6, .func (PySem.W.fnOf "_law_folded" "_law_folded" (defArgs s_law_folded) (defBody s_law_folded) (defScope s_law_folded) .none kV6 dc6 pm6 an6 cd6 ct6), sl6⟩) (c6 : PySem.W.codeIn K cd6 "_law_folded" = true) (k6 : PySem.W.keepIn K (.ref f6) = true)
    (a7 : PySem.W.nsIn K mainGlobals "_law_state" = some (some (.ref f7))) (l7 : K.lookup f7 = some ⟨oc7, od7, .func (PySem.W.fnOf "_law_state" "_law_state" (defArgs s_law_state) (defBody s_law_state) (defScope s_law_state) .none kV7 dc7 pm7 an7 cd7 ct7), sl7⟩) (c7 : PySem.W.codeIn K cd7 "_law_state" = true) (k7 : PySem.W.keepIn K (.ref f7) = true)
    (a8 : PySem.W.nsIn K mainGlobals "_law_next" = some (some (.ref f8))) (l8 : K.lookup f8 = some ⟨oc8, od8, .func (PySem.W.fnOf "_law_next" "_law_next" (defArgs s_law_next) (defBody s_law_next) (defScope s_law_next) .none kV8 dc8 pm8 an8 cd8 ct8), sl8⟩) (c8 : PySem.W.codeIn K cd8 "_law_next" = true) (k8 : PySem.W.keepIn K (.ref f8) = true)
    (a9 : PySem.W.nsIn K mainGlobals "_law_great" = some (some (.ref f9))) (l9 : K.lookup f9 = some ⟨oc9, od9, .func (PySem.W.fnOf "_law_great" "_law_great" (defArgs s_law_great) (defBody s_law_great) (defScope s_law_great) .none kV9 dc9 pm9 an9 cd9 ct9), sl9⟩) (c9 : PySem.W.codeIn K cd9 "_law_great" = true) (k9 : PySem.W.keepIn K (.ref f9) = true)
    (a10 : PySem.W.nsIn K mainGlobals "_law_looks" = some (some (.ref f10))) (l10 : K.lookup f10 = some ⟨oc10, od10, .func (PySem.W.fnOf "_law_looks" "_law_looks" (defArgs s_law_looks) (defBody s_law_looks) (defScope s_law_looks) .none kV10 dc10 pm10 an10 cd10 ct10), sl10⟩) (c10 : PySem.W.codeIn K cd10 "_law_looks" = true) (k10 : PySem.W.keepIn K (.ref f10) = true)
    (a11 : PySem.W.nsIn K mainGlobals "_law_far" = some (some (.ref f11))) (l11 : K.lookup f11 = some ⟨oc11, od11, .func (PySem.W.fnOf "_law_far" "_law_far" (defArgs s_law_far) (defBody s_law_far) (defScope s_law_far) .none kV11 dc11 pm11 an11 cd11 ct11), sl11⟩) (c11 : PySem.W.codeIn K cd11 "_law_far" = true) (k11 : PySem.W.keepIn K (.ref f11) = true)
    (a12 : PySem.W.nsIn K mainGlobals "_law_unlike" = some (some (.ref f12))) (l12 : K.lookup f12 = some ⟨oc12, od12, .func (PySem.W.fnOf "_law_unlike" "_law_unlike" (defArgs s_law_unlike) (defBody s_law_unlike) (defScope s_law_unlike) .none kV12 dc12 pm12 an12 cd12 ct12), sl12⟩) (c12 : PySem.W.codeIn K cd12 "_law_unlike" = true) (k12 : PySem.W.keepIn K (.ref f12) = true)
    (a13 : PySem.W.nsIn K mainGlobals "_law_words" = some (some (.ref f13))) (l13 : K.lookup f13 = some ⟨oc13, od13, .func (PySem.W.fnOf "_law_words" "_law_words" (defArgs s_law_words) (defBody s_law_words) (defScope s_law_words) .none kV13 dc13 pm13 an13 cd13 ct13), sl13⟩) (c13 : PySem.W.codeIn K cd13 "_law_words" = true) (k13 : PySem.W.keepIn K (.ref f13) = true)
    (a14 : PySem.W.nsIn K mainGlobals "law" = some (some (.ref f14))) (l14 : K.lookup f14 = some ⟨oc14, od14, .func (PySem.W.fnOf "law" "law" (defArgs s_law) (defBody s_law) (defScope s_law) .none kV14 dc14 pm14 an14 cd14 ct14), sl14⟩) (c14 : PySem.W.codeIn K cd14 "law" = true) (k14 : PySem.W.keepIn K (.ref f14) = true)
    (z_all : PySem.W.nsIn K mainGlobals "all" = some none)
    (z_bool : PySem.W.nsIn K mainGlobals "bool" = some none)
    (z_enumerate : PySem.W.nsIn K mainGlobals "enumerate" = some none)
    (z_isinstance : PySem.W.nsIn K mainGlobals "isinstance" = some none)
    (z_len : PySem.W.nsIn K mainGlobals "len" = some none)
    (z_list : PySem.W.nsIn K mainGlobals "list" = some none)
    (z_max : PySem.W.nsIn K mainGlobals "max" = some none)
    (z_min : PySem.W.nsIn K mainGlobals "min" = some none)
    (z_range : PySem.W.nsIn K mainGlobals "range" = some none)
    (z_set : PySem.W.nsIn K mainGlobals "set" = some none)
    (z_sorted : PySem.W.nsIn K mainGlobals "sorted" = some none)
    (z_tuple : PySem.W.nsIn K mainGlobals "tuple" = some none) :
    ∃ fd : FuncData, (∀ (s : Shared) (v : Value), BindsTo s fd ⟨[v], []⟩ [("script", v)]) ∧ ∀ base : Heap, K.In base → base.Ns mainGlobals mg → FnOk l.prog w K mg base CX0 4 fa fd ["script"] (sp_law K) := by
  have e := hfa.symm.trans (PySem.W.mg_of X G a14)
  cases e
  let A : Nat → Addr := fun i => match i with | 1 => f1 | 2 => f2 | 3 => f3 | 5 => f5 | 6 => f6 | 7 => f7 | 8 => f8 | 9 => f9 | 10 => f10 | 11 => f11 | 12 => f12 | 13 => f13 | 14 => fa | _ => fa
  let FD : Nat → FuncData := fun i => match i with | 1 => (PySem.W.fnOf "gaps_round" "gaps_round" (defArgs s_gaps_round) (defBody s_gaps_round) (defScope s_gaps_round) .none kV1 dc1 pm1 an1 cd1 ct1) | 2 => (PySem.W.fnOf "ring_known" "ring_known" (defArgs s_ring_known) (defBody s_ring_known) (defScope s_ring_known) .none kV2 dc2 pm2 an2 cd2 ct2) | 3 => (PySem.W.fnOf "ring_far" "ring_far" (defArgs s_ring_far) (defBody s_ring_far) (defScope s_ring_far) .none kV3 dc3 pm3 an3 cd3 ct3) | 5 => (PySem.W.fnOf "_law_cell_at" "_law_cell_at" (defArgs s_law_cell_at) (defBody s_law_cell_at) (defScope s_law_cell_at) .none kV5 dc5 pm5 an5 cd5 ct5) | 6 => (PySem.W.fnOf "_law_folded" "_law_folded" (defArgs s_law_folded) (defBody s_law_folded) (defScope s_law_folded) .none kV6 dc6 pm6 an6 cd6 ct6) | 7 => (PySem.W.fnOf "_law_state" "_law_state" (defArgs s_law_state) (defBody s_law_state) (defScope s_law_state) .none kV7 dc7 pm7 an7 cd7 ct7) | 8 => (PySem.W.fnOf "_law_next" "_law_next" (defArgs s_law_next) (defBody s_law_next) (defScope s_law_next) .none kV8 dc8 pm8 an8 cd8 ct8) | 9 => (PySem.W.fnOf "_law_great" "_law_great" (defArgs s_law_great) (defBody s_law_great) (defScope s_law_great) .none kV9 dc9 pm9 an9 cd9 ct9) | 10 => (PySem.W.fnOf "_law_looks" "_law_looks" (defArgs s_law_looks) (defBody s_law_looks) (defScope s_law_looks) .none kV10 dc10 pm10 an10 cd10 ct10) | 11 => (PySem.W.fnOf "_law_far" "_law_far" (defArgs s_law_far) (defBody s_law_far) (defScope s_law_far) .none kV11 dc11 pm11 an11 cd11 ct11) | 12 => (PySem.W.fnOf "_law_unlike" "_law_unlike" (defArgs s_law_unlike) (defBody s_law_unlike) (defScope s_law_unlike) .none kV12 dc12 pm12 an12 cd12 ct12) | 13 => (PySem.W.fnOf "_law_words" "_law_words" (defArgs s_law_words) (defBody s_law_words) (defScope s_law_words) .none kV13 dc13 pm13 an13 cd13 ct13) | 14 => (PySem.W.fnOf "law" "law" (defArgs s_law) (defBody s_law) (defScope s_law) .none kV14 dc14 pm14 an14 cd14 ct14) | _ => (PySem.W.fnOf "law" "law" (defArgs s_law) (defBody s_law) (defScope s_law) .none kV14 dc14 pm14 an14 cd14 ct14)
  have T : Tx K mg A FD := {
    d1 := dn_mk (st := s_gaps_round) (ps := ["many", "looks"]) X G a1 l1 c1 k1 fun _ _ _ _ _ _ us hl => match us, hl with | [_, _], _ => rfl
    d2 := dn_mk (st := s_ring_known) (ps := ["many", "looks", "kind"]) X G a2 l2 c2 k2 fun _ _ _ _ _ _ us hl => match us, hl with | [_, _, _], _ => rfl
    d3 := dn_mk (st := s_ring_far) (ps := ["many", "one", "other"]) X G a3 l3 c3 k3 fun _ _ _ _ _ _ us hl => match us, hl with | [_, _, _], _ => rfl
    d5 := dn_mk (st := s_law_cell_at) (ps := ["script", "k"]) X G a5 l5 c5 k5 fun _ _ _ _ _ _ us hl => match us, hl with | [_, _], _ => rfl
    d6 := dn_mk (st := s_law_folded) (ps := ["script", "many"]) X G a6 l6 c6 k6 fun _ _ _ _ _ _ us hl => match us, hl with | [_, _], _ => rfl
    d7 := dn_mk (st := s_law_state) (ps := ["cell"]) X G a7 l7 c7 k7 fun _ _ _ _ _ _ us hl => match us, hl with | [_], _ => rfl
    d8 := dn_mk (st := s_law_next) (ps := ["state", "many"]) X G a8 l8 c8 k8 fun _ _ _ _ _ _ us hl => match us, hl with | [_, _], _ => rfl
    d9 := dn_mk (st := s_law_great) (ps := ["state", "top"]) X G a9 l9 c9 k9 fun _ _ _ _ _ _ us hl => match us, hl with | [_, _], _ => rfl
    d10 := dn_mk (st := s_law_looks) (ps := ["state", "many", "most"]) X G a10 l10 c10 k10 fun _ _ _ _ _ _ us hl => match us, hl with | [_, _, _], _ => rfl
    d11 := dn_mk (st := s_law_far) (ps := ["many", "one", "other"]) X G a11 l11 c11 k11 fun _ _ _ _ _ _ us hl => match us, hl with | [_, _, _], _ => rfl
    d12 := dn_mk (st := s_law_unlike) (ps := ["many", "looks", "kind"]) X G a12 l12 c12 k12 fun _ _ _ _ _ _ us hl => match us, hl with | [_, _, _], _ => rfl
    d13 := dn_mk (st := s_law_words) (ps := ["many", "looks", "kind"]) X G a13 l13 c13 k13 fun _ _ _ _ _ _ us hl => match us, hl with | [_, _, _], _ => rfl
    d14 := dn_mk (st := s_law) (ps := ["script"]) X G a14 l14 c14 k14 fun _ _ _ _ _ _ us hl => match us, hl with | [_], _ => rfl
    n_all := PySem.W.mg_none_of X G z_all
    n_bool := PySem.W.mg_none_of X G z_bool
    n_enumerate := PySem.W.mg_none_of X G z_enumerate
    n_isinstance := PySem.W.mg_none_of X G z_isinstance
    n_len := PySem.W.mg_none_of X G z_len
    n_list := PySem.W.mg_none_of X G z_list
    n_max := PySem.W.mg_none_of X G z_max
    n_min := PySem.W.mg_none_of X G z_min
    n_range := PySem.W.mg_none_of X G z_range
    n_set := PySem.W.mg_none_of X G z_set
    n_sorted := PySem.W.mg_none_of X G z_sorted
    n_tuple := PySem.W.mg_none_of X G z_tuple }
  exact ⟨(PySem.W.fnOf "law" "law" (defArgs s_law) (defBody s_law) (defScope s_law) .none kV14 dc14 pm14 an14 cd14 ct14), fun s v => .of_eq rfl, fun base _ _ => ok_law (A := A) (FD := FD) T⟩
theorem walk {l : PySem.W.OpenLaw} {q : Program} {loose : List Str} {XP : (Str → Option Value) → Heap → Prop} {YP : World → Heap → Prop} {d : DefRec} {K : Params → PySem.W.Frag} (hn : l.most = some 63) (hdf : d.params.defaults = [])
    (hY : ∀ (w : World) (h : Heap), YP w h → (K w.params).In h)
    (F : ∀ (w : World) (mg : Str → Option Value) (fa : Addr) (h : Heap), (K w.params).In h → h.Ns mainGlobals mg → mg d.name = some (.ref fa) →
      ∃ fd : FuncData, (∀ (s : Shared) (u : Value), BindsTo s fd ⟨[u], []⟩ [("script", u)]) ∧ ∀ base : Heap, (K w.params).In base → base.Ns mainGlobals mg → FnOk l.prog w (K w.params) mg base CX0 4 fa fd ["script"] (sp_law (K w.params))) :
    PySem.W.WalkO q loose XP YP l.row.toRowW d [] (fun f vs => PySem.call f vs) :=
  L2.walk_of (n := 63) (k := 4) (x := "script") (CX := fun _ => CX0) (sp := fun w => sp_law (K w.params)) hn (by decide) hdf ⟨rfl, by decide, by decide⟩ hY F
    (fun _ H a ns hl _ hS => ⟨H, [], .ref a, ⟨ns⟩, rfl, ⟨Same.refl _, (fun _ z => nomatch z), List.Pairwise.nil⟩, ⟨a, rfl, hS⟩, by rw [law_true ns hl]; exact fun v F2 H2 w s r => r⟩) fun _ _ _ _ _ z => z
end G
open PySem PySem.W PyProof.Rows
set_option maxRecDepth 100000 in
set_option maxHeartbeats 0 in
theorem PySem.Challenge.cw_farhail_k31_rings_known_at_once_holds : PySem.Challenge.rw_farhail_k31_rings_known_at_once.Holds := by
  w_on; o_law; k_head; (case hw => w_witness2)
  k_fill
  refine G.walk (l := PySem.Challenge.rw_farhail_k31_rings_known_at_once) rfl rfl (fun w h Y => PySem.W.kIn_of Y) ?F
  case F =>
    intro w mg fa h KX Gn hmg
    refine' G.all_mk KX Gn hmg ?a1 ?l1 ?c1 ?k1 ?a2 ?l2 ?c2 ?k2 ?a3 ?l3 ?c3 ?k3 ?a5 ?l5 ?c5 ?k5 ?a6 ?l6 ?c6 ?k6 ?a7 ?l7 ?c7 ?k7 ?a8 ?l8 ?c8 ?k8 ?a9 ?l9 ?c9 ?k9 ?a10 ?l10 ?c10 ?k10 ?a11 ?l11 ?c11 ?k11 ?a12 ?l12 ?c12 ?k12 ?a13 ?l13 ?c13 ?k13 ?a14 ?l14 ?c14 ?k14 ?z_all ?z_bool ?z_enumerate ?z_isinstance ?z_len ?z_list ?z_max ?z_min ?z_range ?z_set ?z_sorted ?z_tuple
    (case a1 => k_is); (case l1 => k_is); (case c1 => k_is); (case k1 => k_is)
    (case a2 => k_is); (case l2 => k_is); (case c2 => k_is); (case k2 => k_is)
    (case a3 => k_is); (case l3 => k_is); (case c3 => k_is); (case k3 => k_is)
    (case a5 => k_is); (case l5 => k_is); (case c5 => k_is); (case k5 => k_is)
    (case a6 => k_is); (case l6 => k_is); (case c6 => k_is); (case k6 => k_is)
    (case a7 => k_is); (case l7 => k_is); (case c7 => k_is); (case k7 => k_is)
    (case a8 => k_is); (case l8 => k_is); (case c8 => k_is); (case k8 => k_is)
    (case a9 => k_is); (case l9 => k_is); (case c9 => k_is); (case k9 => k_is)
    (case a10 => k_is); (case l10 => k_is); (case c10 => k_is); (case k10 => k_is)
    (case a11 => k_is); (case l11 => k_is); (case c11 => k_is); (case k11 => k_is)
    (case a12 => k_is); (case l12 => k_is); (case c12 => k_is); (case k12 => k_is)
    (case a13 => k_is); (case l13 => k_is); (case c13 => k_is); (case k13 => k_is)
    (case a14 => k_is); (case l14 => k_is); (case c14 => k_is); (case k14 => k_is)
    (case z_all => k_is)
    (case z_bool => k_is)
    (case z_enumerate => k_is)
    (case z_isinstance => k_is)
    (case z_len => k_is)
    (case z_list => k_is)
    (case z_max => k_is)
    (case z_min => k_is)
    (case z_range => k_is)
    (case z_set => k_is)
    (case z_sorted => k_is)
    (case z_tuple => k_is)
#print axioms PySem.Challenge.cw_farhail_k31_rings_known_at_once_holds
