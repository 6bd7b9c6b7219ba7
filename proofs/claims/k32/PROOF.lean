import PyProof.Rows.All
import Wide.All
import OpenK.AllK
import Wide.FinOn
import HandS.ForMost
import HandS.Walk
import HandS.Deep
import HandS.SortInts
import HandS.Flow
import HandS.IsInst
import PyProof.P3In
import HandS.TupSets
import PySem.Challenge.RW_farhail_k32_grids_known_at_once
set_option Elab.async false
set_option linter.all false
set_option maxRecDepth 100000
set_option maxHeartbeats 4000000
/-! Z0: results with refusals, data as it stands in a heap, the heap in a frozen part and cells of one's own -/
namespace Z
open PySem L2

abbrev Fg := PySem.W.Frag

/-! ### results -/
structure Exn where
  cls : Nat
  arg : Int
  deriving DecidableEq

inductive R (α : Type) where
  | ok (a : α)
  | exc (e : Exn)
  | bad

def R.bind {α β : Type} (m : R α) (f : α → R β) : R β :=
  match m with
  | .ok a => f a
  | .exc e => .exc e
  | .bad => .bad
instance : Monad R where
  pure := R.ok
  bind := R.bind
section
variable {α β γ : Type}
theorem ok_bind (a : α) (f : α → R β) : (R.ok a >>= f) = f a := rfl
theorem pure_bind' (a : α) (f : α → R β) : ((pure a : R α) >>= f) = f a := rfl
theorem exc_bind (e : Exn) (f : α → R β) : ((R.exc e : R α) >>= f) = R.exc e := rfl
theorem bad_bind (f : α → R β) : ((R.bad : R α) >>= f) = R.bad := rfl
theorem pure_ok (a : α) : (pure a : R α) = R.ok a := rfl
theorem bind_bind (m : R α) (f : α → R β) (g : β → R γ) : ((m >>= f) >>= g) = (m >>= fun a => f a >>= g) := by
  cases m <;> rfl
theorem bind_ok_iff {m : R α} {f : α → R β} {b : β} : (m >>= f) = R.ok b ↔ ∃ a, m = R.ok a ∧ f a = R.ok b := by
  cases m with
  | ok a => exact ⟨fun h => ⟨a, rfl, h⟩, fun ⟨_, h1, h2⟩ => by cases h1; exact h2⟩
  | exc e => exact ⟨fun h => (nomatch (show R.exc e = R.ok b from h)), fun ⟨_, h1, _⟩ => nomatch h1⟩
  | bad => exact ⟨fun h => (nomatch (show R.bad = R.ok b from h)), fun ⟨_, h1, _⟩ => nomatch h1⟩
def grd (b : Bool) : R Unit := if b = true then .ok () else .bad
theorem grd_t {b : Bool} (h : b = true) : grd b = R.ok () := by rw [h]; rfl
def ofO (o : Option α) : R α :=
  match o with
  | some a => .ok a
  | none => .bad
theorem ofO_some (a : α) : ofO (some a) = R.ok a := rfl
/-- the item at an index of any sign -/
def getI (xs : List α) (i : Int) : R α := ofO (atI xs i)
/-- the list with another item at an index -/
def setI (xs : List α) (i : Int) (x : α) : R (List α) :=
  match ixN xs.length i with
  | some j => .ok (xs.set j x)
  | none => .bad
/-- a list of at most a thousand items grows by one -/
def app (xs : List α) (x : α) : R (List α) := if xs.length < 100000 then .ok (xs ++ [x]) else .bad
def extend (xs ys : List α) : R (List α) := if xs.length + ys.length < 100000 then .ok (xs ++ ys) else .bad
def mulI (i j : Int) : R Int := if (-(2 ^ 64) < i ∧ i < 2 ^ 64) ∨ (-(2 ^ 64) < j ∧ j < 2 ^ 64) then .ok (i * j) else .bad
def modI (i j : Int) : R Int := if 0 < j then .ok (i % j) else .bad
def divI (i j : Int) : R Int := if 0 < j ∧ j < 1073741824 then .ok (i / j) else .bad
def powI (i j : Int) : R Int := if 0 ≤ j ∧ j ≤ 1000000 ∧ i.natAbs < 2 ^ 64 then .ok (i ^ j.toNat) else .bad
/-- the ints from i on below j -/
def rng (i j : Int) : List Int := (List.range (j - i).toNat).map fun (k : Nat) => i + (k : Int)
def rngI (i j : Int) : R (List Int) := if -(2 ^ 62) ≤ i ∧ i < 2 ^ 62 ∧ -(2 ^ 62) ≤ j ∧ j < 2 ^ 62 then .ok (rng i j) else .bad
/-- items for items -/
def mapR (f : α → R β) : List α → R (List β)
  | [] => .ok []
  | x :: xs => do
    let y ← f x
    let ys ← mapR f xs
    pure (y :: ys)
/-- a fold whose turn may leave -/
def foldR (f : β → α → R β) : β → List α → R β
  | s, [] => .ok s
  | s, x :: xs => f s x >>= fun s' => foldR f s' xs
/-- a fold whose turn may end the whole with a value (inl), or the loop alone (inr inl) -/
def foldX {ρ : Type} (f : β → α → R (Sum ρ (Bool × β))) : β → List α → R (Sum ρ β)
  | s, [] => .ok (.inr s)
  | s, x :: xs => f s x >>= fun r =>
    match r with
    | .inl z => .ok (.inl z)
    | .inr (true, s') => foldX f s' xs
    | .inr (false, s') => .ok (.inr s')
/-- what holds of a result -/
def Post (m : R α) (P : α → Prop) (E : Exn → Prop) : Prop :=
  match m with
  | .ok a => P a
  | .exc e => E e
  | .bad => False
variable {P P' : α → Prop} {Q : β → Prop} {E E' : Exn → Prop}
theorem Post.mono {m : R α} (h : Post m P E) (hP : ∀ a, P a → P' a) (hE : ∀ e, E e → E' e) : Post m P' E' := by
  cases m with
  | ok a => exact hP a h
  | exc e => exact hE e h
  | bad => exact h
theorem post_bind {m : R α} {f : α → R β} (h : Post (m >>= f) Q E) : Post m (fun a => Post (f a) Q E) E := by
  cases m <;> exact h
theorem post_ok {a : α} (h : Post (R.ok a) P E) : P a := h
theorem pb_ok {a : α} {f : α → R β} (h : Post (R.ok a >>= f) Q E) : Post (f a) Q E := h
theorem pb_pure {a : α} {f : α → R β} (h : Post ((pure a : R α) >>= f) Q E) : Post (f a) Q E := h
theorem pb_assoc {m : R α} {f : α → R β} {g : β → R γ} {Q : γ → Prop} (h : Post ((m >>= f) >>= g) Q E) : Post (m >>= fun a => f a >>= g) Q E := by
  rw [bind_bind] at h
  exact h
theorem pb_grd {b : Bool} {f : Unit → R β} (h : Post (grd b >>= f) Q E) : b = true ∧ Post (f ()) Q E := by
  cases b with
  | true => exact ⟨rfl, h⟩
  | false => exact (show False from h).elim
theorem pb_ofO {o : Option α} {f : α → R β} (h : Post (ofO o >>= f) Q E) : ∃ a, o = some a ∧ Post (f a) Q E := by
  cases o with
  | some a => exact ⟨a, rfl, h⟩
  | none => exact (show False from h).elim
theorem pb_get {xs : List α} {i : Int} {f : α → R β} (h : Post (getI xs i >>= f) Q E) : ∃ a, atI xs i = some a ∧ Post (f a) Q E := pb_ofO h
theorem pb_set {xs : List α} {i : Int} {x : α} {f : List α → R β} (h : Post (setI xs i x >>= f) Q E) : ∃ j, ixN xs.length i = some j ∧ Post (f (xs.set j x)) Q E := by
  unfold setI at h
  cases e : ixN xs.length i with
  | some j => rw [e] at h; exact ⟨j, rfl, h⟩
  | none => rw [e] at h; exact (show False from h).elim
theorem pb_if {c : Prop} [Decidable c] {a : α} {f : α → R β} (h : Post ((if c then R.ok a else R.bad) >>= f) Q E) : c ∧ Post (f a) Q E := by
  by_cases hc : c
  · rw [if_pos hc] at h
    exact ⟨hc, h⟩
  · rw [if_neg hc] at h
    exact (show False from h).elim
theorem line5 : 100000 ≤ sizeLine := by decide
theorem pb_app {xs : List α} {x : α} {f : List α → R β} (h : Post (app xs x >>= f) Q E) : xs.length < sizeLine ∧ Post (f (xs ++ [x])) Q E :=
  let ⟨a, b⟩ := pb_if h
  ⟨Nat.lt_of_lt_of_le a line5, b⟩
theorem pb_extend {xs ys : List α} {f : List α → R β} (h : Post (extend xs ys >>= f) Q E) : xs.length + ys.length ≤ sizeLine ∧ Post (f (xs ++ ys)) Q E :=
  let ⟨a, b⟩ := pb_if h
  ⟨Nat.le_of_lt (Nat.lt_of_lt_of_le a line5), b⟩
theorem pb_mul {i j : Int} {f : Int → R β} (h : Post (mulI i j >>= f) Q E) : CMul i j ∧ Post (f (i * j)) Q E :=
  let ⟨a, b⟩ := pb_if (c := (-(2 ^ 64) < i ∧ i < 2 ^ 64) ∨ (-(2 ^ 64) < j ∧ j < 2 ^ 64)) h
  ⟨a, b⟩
theorem pb_mod {i j : Int} {f : Int → R β} (h : Post (modI i j >>= f) Q E) : 0 < j ∧ Post (f (i % j)) Q E := pb_if h
theorem pb_div {i j : Int} {f : Int → R β} (h : Post (divI i j >>= f) Q E) : CDiv i j ∧ Post (f (i / j)) Q E :=
  let ⟨a, b⟩ := pb_if (c := 0 < j ∧ j < 1073741824) h
  ⟨a, b⟩
theorem pb_pow {i j : Int} {f : Int → R β} (h : Post (powI i j >>= f) Q E) : CPow i j ∧ Post (f (i ^ j.toNat)) Q E :=
  let ⟨a, b⟩ := pb_if (c := 0 ≤ j ∧ j ≤ 1000000 ∧ i.natAbs < 2 ^ 64) h
  ⟨a, b⟩
theorem pb_rng {i j : Int} {f : List Int → R β} (h : Post (rngI i j >>= f) Q E) : (-(2 ^ 62) ≤ i ∧ i < 2 ^ 62 ∧ -(2 ^ 62) ≤ j ∧ j < 2 ^ 62) ∧ Post (f (rng i j)) Q E := pb_if h
theorem post_ite {c : Bool} {m n : R α} {A B : Prop} (h : Post (if c = true then m else n) P E) (ht : c = true → Post m P E → A) (hf : c = false → Post n P E → B) : if c = true then A else B := by
  cases c with
  | true => exact ht rfl h
  | false => exact hf rfl h
theorem post_ite2 {c : Bool} {m n : R α} {A : Prop} (h : Post (if c = true then m else n) P E) (ht : c = true → Post m P E → A) (hf : c = false → Post n P E → A) : A := by
  cases c with
  | true => exact ht rfl h
  | false => exact hf rfl h
theorem pb_ite {c : Bool} {m n : R α} {f : α → R β} (h : Post ((if c = true then m else n) >>= f) Q E) : Post (if c = true then m >>= f else n >>= f) Q E := by
  cases c <;> exact h
theorem pb_foldR {f : γ → α → R γ} {s : γ} {x : α} {xs : List α} {g : γ → R β} (h : Post (foldR f s (x :: xs) >>= g) Q E) : Post (f s x >>= fun s' => foldR f s' xs >>= g) Q E := by
  have h' : Post ((f s x >>= fun s' => foldR f s' xs) >>= g) Q E := h
  rw [bind_bind] at h'
  exact h'
end

/-! ### lists of values and what they stand for -/
inductive A2 {α : Type} (r : V → α → Prop) : List V → List α → Prop
  | nil : A2 r [] []
  | cons {v : V} {x : α} {vs : List V} {xs : List α} : r v x → A2 r vs xs → A2 r (v :: vs) (x :: xs)
section
variable {α : Type} {r r' : V → α → Prop} {vs us : List V} {xs ys : List α} {v : V} {x : α}
theorem A2.length : ∀ {vs : List V} {xs : List α}, A2 r vs xs → vs.length = xs.length
  | _, _, .nil => rfl
  | _, _, .cons _ t => by rw [List.length_cons, List.length_cons, A2.length t]
theorem A2.imp (f : ∀ v x, r v x → r' v x) : ∀ {vs : List V} {xs : List α}, A2 r vs xs → A2 r' vs xs
  | _, _, .nil => .nil
  | _, _, .cons h t => .cons (f _ _ h) (A2.imp f t)
theorem A2.append : ∀ {vs us : List V} {xs ys : List α}, A2 r vs xs → A2 r us ys → A2 r (vs ++ us) (xs ++ ys)
  | _, _, _, _, .nil, h => h
  | _, _, _, _, .cons a t, h => .cons a (A2.append t h)
theorem A2.snoc (h : A2 r vs xs) (a : r v x) : A2 r (vs ++ [v]) (xs ++ [x]) := h.append (.cons a .nil)
theorem A2.get : ∀ {vs : List V} {xs : List α} {i : Nat} {x : α}, A2 r vs xs → xs[i]? = some x → ∃ v, vs[i]? = some v ∧ r v x
  | _, _, _, _, .nil, e => by simp at e
  | _, _, 0, _, .cons a _, e => by simp at e; subst e; exact ⟨_, rfl, a⟩
  | _, _, i + 1, x, .cons _ t, e => by
    obtain ⟨v, h1, h2⟩ := A2.get (i := i) (x := x) t (by simpa using e)
    exact ⟨v, by simpa using h1, h2⟩
theorem A2.getV : ∀ {vs : List V} {xs : List α} {i : Nat} {v : V}, A2 r vs xs → vs[i]? = some v → ∃ x, xs[i]? = some x ∧ r v x
  | _, _, _, _, .nil, e => by simp at e
  | _, _, 0, _, .cons a _, e => by simp at e; subst e; exact ⟨_, rfl, a⟩
  | _, _, i + 1, x, .cons _ t, e => by
    obtain ⟨v, h1, h2⟩ := A2.getV (i := i) (v := x) t (by simpa using e)
    exact ⟨v, by simpa using h1, h2⟩
theorem A2.at {i : Int} (h : A2 r vs xs) (e : atI xs i = some x) : ∃ v, atI vs i = some v ∧ r v x := by
  unfold atI at e ⊢
  rw [h.length]
  cases q : ixN xs.length i with
  | none => rw [q] at e; cases e
  | some j =>
    rw [q] at e
    exact h.get e
theorem A2.set (a : r v x) : ∀ {vs : List V} {xs : List α} (i : Nat), A2 r vs xs → A2 r (vs.set i v) (xs.set i x)
  | _, _, _, .nil => .nil
  | _, _, 0, .cons _ t => .cons a t
  | _, _, i + 1, .cons q t => .cons q (A2.set a i t)
theorem A2.take : ∀ {vs : List V} {xs : List α} (n : Nat), A2 r vs xs → A2 r (vs.take n) (xs.take n)
  | _, _, 0, _ => .nil
  | _, _, _ + 1, .nil => .nil
  | _, _, n + 1, .cons a t => .cons a (A2.take n t)
theorem A2.drop : ∀ {vs : List V} {xs : List α} (n : Nat), A2 r vs xs → A2 r (vs.drop n) (xs.drop n)
  | _, _, 0, h => h
  | _, _, _ + 1, .nil => .nil
  | _, _, n + 1, .cons _ t => A2.drop n t
theorem A2.reverse : ∀ {vs : List V} {xs : List α}, A2 r vs xs → A2 r vs.reverse xs.reverse
  | _, _, .nil => .nil
  | _, _, .cons a t => by
    rw [List.reverse_cons, List.reverse_cons]
    exact (A2.reverse t).snoc a
theorem A2.eraseIdx : ∀ {vs : List V} {xs : List α} (i : Nat), A2 r vs xs → A2 r (vs.eraseIdx i) (xs.eraseIdx i)
  | _, _, _, .nil => .nil
  | _, _, 0, .cons _ t => t
  | _, _, i + 1, .cons a t => .cons a (A2.eraseIdx i t)
theorem A2.dropLast : ∀ {vs : List V} {xs : List α}, A2 r vs xs → A2 r vs.dropLast xs.dropLast
  | _, _, .nil => .nil
  | _, _, .cons _ .nil => .nil
  | _, _, .cons a (.cons b t) => .cons a (A2.dropLast (.cons b t))
theorem A2.repl {n : Nat} (a : r v x) : A2 r (List.replicate n v) (List.replicate n x) := by
  induction n with
  | zero => exact .nil
  | succ n ih => exact .cons a ih
end

/-! ### data in a heap -/
theorem Same.seqT {K : Fg} {H H' : Hp} {a : Addr} {xs : List V} (e : Same H H') (h : SqT K H a xs) : SqT K H' a xs := by
  rcases h with (h | ⟨o, h⟩) | h
  · exact .inl (.inl (e _ _ h))
  · exact .inl (.inr ⟨o, e _ _ h⟩)
  · exact .inr h
class Rep (α : Type) where
  rep : Fg → Hp → V → α → Prop
  mono : ∀ {K : Fg} {H H' : Hp} {v : V} {x : α}, Same H H' → rep K H v x → rep K H' v x
open Rep (rep)
section
variable {α β : Type} [Rep α] [Rep β] {K : Fg} {H H' : Hp} {v : V}
theorem A2.mono {vs : List V} {xs : List α} (s : Same H H') (h : A2 (rep K H) vs xs) : A2 (rep K H') vs xs := h.imp fun _ _ => Rep.mono s
instance : Rep Int := ⟨fun _ _ v x => v = .int x, fun _ h => h⟩
instance : Rep Bool := ⟨fun _ _ v x => v = .bl x, fun _ h => h⟩
instance : Rep Unit := ⟨fun _ _ v _ => v = .non, fun _ h => h⟩
instance : Rep Str := ⟨fun _ _ v x => v = .str x, fun _ h => h⟩
instance repOpt : Rep (Option α) := ⟨fun K H v x => match x with
  | none => v = .non
  | some y => rep K H v y, fun {_ _ _ _ x} s h => by
    cases x with
    | none => exact h
    | some y => exact Rep.mono (α := α) s h⟩
instance repPair : Rep (α × β) := ⟨fun K H v x => ∃ a u w, v = .ref a ∧ H a = some (.tup [u, w]) ∧ rep K H u x.1 ∧ rep K H w x.2,
  fun s ⟨a, u, w, e, q, h1, h2⟩ => ⟨a, u, w, e, s _ _ q, Rep.mono s h1, Rep.mono s h2⟩⟩
instance repList : Rep (List α) := ⟨fun K H v xs => ∃ a vs, v = .ref a ∧ H a = some (.lst vs) ∧ A2 (rep K H) vs xs,
  fun s ⟨a, vs, e, q, h⟩ => ⟨a, vs, e, s _ _ q, h.mono s⟩⟩
/-- the script -/
structure Scr where
  l : List Int
  deriving DecidableEq
instance repScr : Rep Scr := ⟨fun K H v xs => ∃ a, v = .ref a ∧ SqL K H a (xs.l.map V.int), fun s ⟨a, e, q⟩ => ⟨a, e, s.seq q⟩⟩
/-- a tuple of any number of like things -/
structure Tup (α : Type) where
  l : List α
  deriving DecidableEq
instance repTup : Rep (Tup α) := ⟨fun K H v xs => ∃ a vs, v = .ref a ∧ H a = some (.tup vs) ∧ A2 (rep K H) vs xs.l,
  fun s ⟨a, vs, e, q, h⟩ => ⟨a, vs, e, s _ _ q, h.mono s⟩⟩
/-- a place, or a pair -/
inductive Thing where
  | pl (i : Int)
  | ti (a b : Int)
  deriving DecidableEq
instance repThing : Rep Thing := ⟨fun K H v x => match x with
  | .pl i => v = .int i
  | .ti a b => rep K H v (a, b), fun {_ _ _ _ x} s h => by
    cases x with
    | pl i => exact h
    | ti a b => exact Rep.mono (α := Int × Int) s h⟩
theorem A2.ints {vs : List V} {xs : List Int} (h : A2 (rep K H) vs xs) : vs = xs.map V.int := by
  induction h with
  | nil => rfl
  | cons a _ ih =>
    have a' : _ = V.int _ := a
    rw [a', ih]
    rfl
theorem A2.of_ints {xs : List Int} : A2 (rep K H) (xs.map V.int) xs := by
  induction xs with
  | nil => exact .nil
  | cons x xs ih => exact .cons rfl ih
theorem A2.bools {vs : List V} {xs : List Bool} (h : A2 (rep K H) vs xs) : vs = xs.map V.bl := by
  induction h with
  | nil => rfl
  | cons a _ ih =>
    have a' : _ = V.bl _ := a
    rw [a', ih]
    rfl
end

/-! ### the heap: F, frozen, is read alone; the cells os are one's own, not in F -/
structure W (F H : Hp) (os : List (Addr × HO)) : Prop where
  same : Same F H
  own : ∀ p ∈ os, H p.1 = some p.2 ∧ F p.1 = none
  nd : os.Pairwise fun p q => p.1 ≠ q.1
theorem same_new {H : Hp} {p : Addr} {o : HO} (h : H p = none) : Same H (upd H p o) := fun a u e => by
  rw [upd_ne (ne_of_none e h)]
  exact e
section
variable {F H : Hp} {os pre post : List (Addr × HO)} {a p : Addr} {o o' : HO}
theorem W.free (w : W F H os) (n : H p = none) : F p = none := w.same.free n
theorem W.get (w : W F H (pre ++ (a, o) :: post)) : H a = some o := (w.own (a, o) (List.mem_append_right _ List.mem_cons_self)).1
theorem W.no (w : W F H (pre ++ (a, o) :: post)) : F a = none := (w.own (a, o) (List.mem_append_right _ List.mem_cons_self)).2
theorem W.ne (w : W F H os) (n : H p = none) : ∀ q ∈ os, q.1 ≠ p := fun q hq e => by
  have h := (w.own q hq).1
  rw [e, n] at h
  cases h
/-- a new thing, never to be written -/
theorem W.frz (w : W F H os) (n : H p = none) : W (upd F p o) (upd H p o) os where
  same := fun b u e => by
    by_cases hb : b = p
    · subst hb
      rw [upd_same] at e ⊢
      exact e
    · rw [upd_ne hb] at e ⊢
      exact w.same b u e
  own := fun q hq => by
    have hne := w.ne n q hq
    rw [upd_ne hne, upd_ne hne]
    exact w.own q hq
  nd := w.nd
theorem W.frzS (w : W F H os) (n : H p = none) : Same F (upd F p o) := same_new (w.free n)
/-- a new cell of one's own -/
theorem W.new (w : W F H os) (n : H p = none) : W F (upd H p o) ((p, o) :: os) where
  same := w.same.trans (same_new n)
  own := fun q hq => by
    rcases List.mem_cons.mp hq with rfl | hq
    · exact ⟨upd_same, w.free n⟩
    · rw [upd_ne (w.ne n q hq)]
      exact w.own q hq
  nd := List.pairwise_cons.mpr ⟨fun q hq => fun e => w.ne n q hq e.symm, w.nd⟩
/-- a cell of one's own is written -/
theorem W.set (w : W F H (pre ++ (a, o) :: post)) : W F (upd H a o') (pre ++ (a, o') :: post) where
  same := fun b u e => by
    have hn := w.no
    rw [upd_ne (ne_of_none e hn)]
    exact w.same b u e
  own := fun q hq => by
    have nd := w.nd
    rw [List.pairwise_append] at nd
    obtain ⟨_, n2, n3⟩ := nd
    rw [List.pairwise_cons] at n2
    rcases List.mem_append.mp hq with hq | hq
    · have hne : q.1 ≠ a := n3 q hq (a, o) List.mem_cons_self
      rw [upd_ne hne]
      exact w.own q (List.mem_append_left _ hq)
    · rcases List.mem_cons.mp hq with rfl | hq
      · exact ⟨upd_same, w.no⟩
      · have hne : q.1 ≠ a := fun e => n2.1 q hq e.symm
        rw [upd_ne hne]
        exact w.own q (List.mem_append_right _ (List.mem_cons_of_mem _ hq))
  nd := by
    have nd := w.nd
    rw [List.pairwise_append] at nd ⊢
    obtain ⟨n1, n2, n3⟩ := nd
    rw [List.pairwise_cons] at n2 ⊢
    refine ⟨n1, ⟨n2.1, n2.2⟩, fun x hx y hy => ?_⟩
    rcases List.mem_cons.mp hy with rfl | hy
    · exact n3 x hx (a, o) List.mem_cons_self
    · exact n3 x hx y (List.mem_cons_of_mem _ hy)
/-- a cell is forgotten -/
theorem W.drop (w : W F H (pre ++ (a, o) :: post)) : W F H (pre ++ post) where
  same := w.same
  own := fun q hq => w.own q (by
    rcases List.mem_append.mp hq with h | h
    · exact List.mem_append_left _ h
    · exact List.mem_append_right _ (List.mem_cons_of_mem _ h))
  nd := by
    have nd := w.nd
    rw [List.pairwise_append] at nd ⊢
    obtain ⟨n1, n2, n3⟩ := nd
    rw [List.pairwise_cons] at n2
    exact ⟨n1, n2.2, fun x hx y hy => n3 x hx y (List.mem_cons_of_mem _ hy)⟩
/-- a cell of one's own is never written again -/
theorem W.freeze (w : W F H (pre ++ (a, o) :: post)) : W (upd F a o) H (pre ++ post) where
  same := fun b u e => by
    by_cases hb : b = a
    · subst hb
      rw [upd_same] at e
      rw [← e]
      exact w.get
    · rw [upd_ne hb] at e
      exact w.same b u e
  own := fun q hq => by
    have nd := w.nd
    rw [List.pairwise_append] at nd
    obtain ⟨n1, n2, n3⟩ := nd
    rw [List.pairwise_cons] at n2
    have hne : q.1 ≠ a := by
      rcases List.mem_append.mp hq with h | h
      · exact n3 q h (a, o) List.mem_cons_self
      · exact fun e => n2.1 q h e.symm
    have h := w.drop.own q hq
    rw [upd_ne hne]
    exact h
  nd := w.drop.nd
theorem W.freezeS (w : W F H (pre ++ (a, o) :: post)) : Same F (upd F a o) := same_new w.no
/-- a cell is told first -/
theorem W.front (w : W F H (pre ++ (a, o) :: post)) : W F H ((a, o) :: (pre ++ post)) where
  same := w.same
  own := fun x hx => w.own x (by
    rcases List.mem_cons.mp hx with rfl | h
    · exact List.mem_append_right _ List.mem_cons_self
    · rcases List.mem_append.mp h with h | h
      · exact List.mem_append_left _ h
      · exact List.mem_append_right _ (List.mem_cons_of_mem _ h))
  nd := by
    have nd := w.nd
    have nd' := w.drop.nd
    rw [List.pairwise_append] at nd
    obtain ⟨n1, n2, n3⟩ := nd
    rw [List.pairwise_cons] at n2
    refine List.pairwise_cons.mpr ⟨fun x hx => ?_, nd'⟩
    rcases List.mem_append.mp hx with h | h
    · exact fun e => n3 x h (a, o) List.mem_cons_self e.symm
    · exact n2.1 x h
theorem W.swap {q : Addr × HO} (w : W F H (pre ++ (a, o) :: q :: post)) : W F H (pre ++ q :: (a, o) :: post) where
  same := w.same
  own := fun x hx => w.own x (by
    rcases List.mem_append.mp hx with h | h
    · exact List.mem_append_left _ h
    · refine List.mem_append_right _ ?_
      rcases List.mem_cons.mp h with rfl | h
      · exact List.mem_cons_of_mem _ List.mem_cons_self
      · rcases List.mem_cons.mp h with rfl | h
        · exact List.mem_cons_self
        · exact List.mem_cons_of_mem _ (List.mem_cons_of_mem _ h))
  nd := by
    have nd := w.nd
    rw [List.pairwise_append] at nd ⊢
    obtain ⟨n1, n2, n3⟩ := nd
    rw [List.pairwise_cons, List.pairwise_cons] at n2
    rw [List.pairwise_cons, List.pairwise_cons]
    refine ⟨n1, ⟨fun x hx => ?_, fun x hx => n2.1 x (List.mem_cons_of_mem _ hx), n2.2.2⟩, fun x hx y hy => ?_⟩
    · rcases List.mem_cons.mp hx with rfl | hx
      · exact fun e => n2.1 q List.mem_cons_self e.symm
      · exact n2.2.1 x hx
    · rcases List.mem_cons.mp hy with rfl | hy
      · exact n3 x hx y (List.mem_cons_of_mem _ List.mem_cons_self)
      · rcases List.mem_cons.mp hy with rfl | hy
        · exact n3 x hx (a, o) List.mem_cons_self
        · exact n3 x hx y (List.mem_cons_of_mem _ (List.mem_cons_of_mem _ hy))
end

/-! ### what a call hands back -/
section
variable {α β : Type} [Rep α] [Rep β]
/-- a value of the frozen part -/
def Ret (K : Fg) (F : Hp) (os : List (Addr × HO)) (Q : VK) (y : α) : Prop := ∀ v F' H', W F' H' os → Same F F' → rep K F' v y → Q v H'
/-- a new list, the caller's own -/
def RetL (K : Fg) (F : Hp) (os : List (Addr × HO)) (Q : VK) (ys : List α) : Prop := ∀ p vs F' H', W F' H' ((p, .lst vs) :: os) → Same F F' → A2 (rep K F') vs ys → Q (.ref p) H'
/-- a value, and what the list at a holds now -/
def RetM (K : Fg) (F : Hp) (a : Addr) (os : List (Addr × HO)) (Q : VK) (y : α × List β) : Prop :=
  ∀ v vs F' H', W F' H' ((a, .lst vs) :: os) → Same F F' → rep K F' v y.1 → A2 (rep K F') vs y.2 → Q v H'
/-- a new list, the caller's own, and what the list at a holds now -/
def RetLM (K : Fg) (F : Hp) (a : Addr) (os : List (Addr × HO)) (Q : VK) (y : List α × List β) : Prop :=
  ∀ p us vs F' H', W F' H' ((p, .lst us) :: (a, .lst vs) :: os) → Same F F' → A2 (rep K F') us y.1 → A2 (rep K F') vs y.2 → Q (.ref p) H'
def noX : Exn → Prop := fun _ => False
end
end Z
/-! Z1: loops, comprehensions and joins against their mirrors; calls by typed data -/
namespace Z
open PySem L2
open Rep (rep)

/-! ### ways that join -/
section
variable {γ δ : Type} {m : R γ} {k : γ → R δ} {P : δ → Prop} {X : Exn → Prop}
theorem joinS {t u : TS} {D : Ends} {σ : St} {H : Hp} (hm : Post (m >>= k) P X) (J : γ → St → Hp → Prop)
    (h : ∀ (N : St → Hp → Prop) (P' : γ → Prop), (∀ g, P' g → ∀ σ' H', J g σ' H' → N σ' H') → Post m P' X → t { D with nx := N } σ H)
    (h2 : ∀ g σ' H', J g σ' H' → Post (k g) P X → u D σ' H') : tSeq t u D σ H :=
  h _ _ (fun g p σ' H' j => h2 g σ' H' j p) (post_bind hm)
theorem joinT {t : TT} {σ : St} {H : Hp} {Q : Bool → Hp → Prop} (hm : Post (m >>= k) P X) (J : γ → Bool → Hp → Prop)
    (h : ∀ (Q' : Bool → Hp → Prop) (P' : γ → Prop), (∀ g, P' g → ∀ c H', J g c H' → Q' c H') → Post m P' X → t σ H Q')
    (h2 : ∀ g c H', J g c H' → Post (k g) P X → Q c H') : t σ H Q :=
  h _ _ (fun g p c H' j => h2 g c H' j p) (post_bind hm)
theorem joinE {t : TE} {σ : St} {H : Hp} {Q : VK} (hm : Post (m >>= k) P X) (J : γ → V → Hp → Prop)
    (h : ∀ (Q' : VK) (P' : γ → Prop), (∀ g, P' g → ∀ c H', J g c H' → Q' c H') → Post m P' X → t σ H Q')
    (h2 : ∀ g c H', J g c H' → Post (k g) P X → Q c H') : t σ H Q :=
  h _ _ (fun g p c H' j => h2 g c H' j p) (post_bind hm)
/-- a test of a value that is told -/
theorem cutT {t : TT} {σ : St} {H : Hp} {Q : Bool → Hp → Prop} (J : Bool → Hp → Prop) (h : ∀ Q' : Bool → Hp → Prop, (∀ c H', J c H' → Q' c H') → t σ H Q') (h2 : ∀ c H', J c H' → Q c H') : t σ H Q := h _ h2
theorem cutE {t : TE} {σ : St} {H : Hp} {Q : VK} (J : V → Hp → Prop) (h : ∀ Q' : VK, (∀ c H', J c H' → Q' c H') → t σ H Q') (h2 : ∀ c H', J c H' → Q c H') : t σ H Q := h _ h2
theorem ifB {c : Bool} {A B : Prop} (h1 : c = true → A) (h2 : c = false → B) : if c = true then A else B := by
  cases c with
  | true => exact h1 rfl
  | false => exact h2 rfl
end

/-! ### what is walked, typed -/
structure TW (J : It) {β : Type} (items : List β) (G : Hp → Prop) (Y : β → Hp → V → Hp → Prop) : Prop where
  walk : Walk J items.length G (fun i H x H' => ∃ b, items[i]? = some b ∧ Y b H x H')
section
variable {K : Fg} {F : Hp} {a : Addr} {α β : Type} [Rep α] [Rep β] {vs us : List V} {xs : List α} {ys : List β}
theorem tw_list (h : A2 (rep K F) vs xs) : TW (Itl K a) xs (fun H => SqL K H a vs) (fun b H x H' => H' = H ∧ rep K F x b) := ⟨by
  rw [← h.length]
  exact walk_list.mono (fun _ g => g) fun i H x H' _ _ y => by
    obtain ⟨y1, y2⟩ := y
    obtain ⟨b, h1, h2⟩ := h.getV y2
    exact ⟨b, h1, y1, h2⟩⟩
theorem tw_tup (h : A2 (rep K F) vs xs) : TW (Itt K a) xs (fun H => SqT K H a vs) (fun b H x H' => H' = H ∧ rep K F x b) := ⟨by
  rw [← h.length]
  exact walk_tup.mono (fun _ g => g) fun i H x H' _ _ y => by
    obtain ⟨y1, y2⟩ := y
    obtain ⟨b, h1, h2⟩ := h.getV y2
    exact ⟨b, h1, y1, h2⟩⟩
theorem rng_length (i j : Int) : (rng i j).length = (j - i).toNat := by
  unfold rng
  rw [List.length_map, List.length_range]
theorem rng_get {i j : Int} {n : Nat} (h : n < (j - i).toNat) : (rng i j)[n]? = some (i + (n : Int)) := by
  unfold rng
  rw [List.getElem?_map, List.getElem?_range h]
  rfl
theorem tw_rng {i j : Int} : TW (Itr i (j - i).toNat) (rng i j) (fun _ => True) (fun b H x H' => H' = H ∧ x = .int b) := ⟨by
  rw [rng_length]
  exact walk_range.mono (fun _ g => g) fun n H x H' hn _ y => ⟨_, rng_get hn, y.1, y.2⟩⟩
theorem tw_rng0 {j : Int} : TW (Itr 0 j.toNat) (rng 0 j) (fun _ => True) (fun b H x H' => H' = H ∧ x = .int b) := by
  have h := tw_rng (i := 0) (j := j)
  rw [Int.sub_zero] at h
  exact h
/-- pairs of a place and the item there -/
def enum (xs : List α) : List (Int × α) := (rng 0 xs.length).zip xs
theorem enum_length (xs : List α) : (enum xs).length = xs.length := by
  unfold enum
  rw [List.length_zip, rng_length]
  omega
theorem enum_get {xs : List α} {i : Nat} {x : α} (h : xs[i]? = some x) : (enum xs)[i]? = some ((i : Int), x) := by
  have hl := (List.getElem?_eq_some_iff.mp h).1
  unfold enum
  rw [List.getElem?_zip_eq_some]
  refine ⟨?_, h⟩
  rw [rng_get (by omega)]
  simp
theorem tw_enum (h : A2 (rep K F) vs xs) : TW (Ite K a) (enum xs) (fun H => SqL K H a vs) (fun b H v H' => ∃ T x, v = .ref T ∧ H T = none ∧ H' = upd H T (.tup [.int b.1, x]) ∧ rep K F x b.2) := ⟨by
  rw [enum_length, ← h.length]
  exact walk_enum.mono (fun _ g => g) fun i H x H' _ _ y => by
    obtain ⟨T, u, w, e1, e2, e3, e4, e5⟩ := y
    obtain ⟨b, h1, h2⟩ := h.getV e5
    cases e4
    exact ⟨((i : Int), b), enum_get h1, T, w, e1, e2, e3, h2⟩⟩
theorem tw_zip {b : Addr} (h : A2 (rep K F) vs xs) (h' : A2 (rep K F) us ys) : TW (Itz K a b) (xs.zip ys) (fun H => SqL K H a vs ∧ SqL K H b us) (fun p H v H' => ∃ T x y, v = .ref T ∧ H T = none ∧ H' = upd H T (.tup [x, y]) ∧ rep K F x p.1 ∧ rep K F y p.2) := ⟨by
  rw [List.length_zip, ← h.length, ← h'.length]
  exact (walk_zip rfl).mono (fun _ g => g) fun i H x H' _ _ y => by
    obtain ⟨T, u, w, e1, e2, e3, e4, e5⟩ := y
    obtain ⟨c, h1, h2⟩ := h.getV e4
    obtain ⟨d, h3, h4⟩ := h'.getV e5
    refine ⟨(c, d), ?_, T, u, w, e1, e2, e3, h2, h4⟩
    rw [List.getElem?_zip_eq_some]
    exact ⟨h1, h3⟩⟩
end

/-! ### for -/
section
variable {J : It} {β γ δ ρ : Type} {items : List β} {G : Hp → Prop} {Y : β → Hp → V → Hp → Prop} {g : TG} {tb : TS} {D : Ends} {σ : St} {H : Hp} {P : δ → Prop} {X : Exn → Prop}
theorem drop_cons {l : List β} {i : Nat} {b : β} (h : l[i]? = some b) : l.drop i = b :: l.drop (i + 1) := by
  obtain ⟨hl, e⟩ := List.getElem?_eq_some_iff.mp h
  rw [List.drop_eq_getElem_cons hl, e]
theorem forS (tw : TW J items G Y) {body : γ → β → R γ} {s0 : γ} {k : γ → R δ} (hm : Post (foldR body s0 items >>= k) P X) (I : γ → St → Hp → Prop) (h0 : I s0 σ H) (hG : ∀ c σ H, I c σ H → G H)
    (hs : ∀ (b : β) (c : γ) (x : V) (σ : St) (H H' : Hp) (N : St → Hp → Prop) (P' : γ → Prop), I c σ H → Y b H x H' → (∀ c', P' c' → ∀ σ' H', I c' σ' H' → N σ' H') → Post (body c b) P' X → g x σ H' fun σ2 H2 => tb { D with nx := N, ct := N, bk := D.nx } σ2 H2)
    (hd : ∀ c σ H, I c σ H → Post (k c) P X → D.nx σ H) :
    ∃ W : Nat → Nat → St → Hp → Prop, (∃ m, W 0 m σ H) ∧ ∀ i m σ H, W i m σ H →
      (J.stop i H ∧ D.nx σ H) ∨ (J.go i H ∧ ∃ N : St → Hp → Prop, (∀ σ' H', N σ' H' → ∃ m', m' < m ∧ W (i + 1) m' σ' H') ∧ ∀ x H', J.yld i H x H' → g x σ H' fun σ2 H2 => tb { D with nx := N, ct := N, bk := D.nx } σ2 H2) := by
  refine for_it tw.walk (fun i σ H => ∃ c, I c σ H ∧ Post (foldR body c (items.drop i) >>= k) P X) ⟨s0, h0, hm⟩ (fun i σ H _ ⟨c, h, _⟩ => hG c σ H h) ?_ ?_
  · rintro i x σ H H' hi ⟨c, h, hm⟩ ⟨b, hb, y⟩
    rw [drop_cons hb] at hm
    exact hs b c x σ H H' _ _ h y (fun c' p' σ' H' h' => ⟨c', h', p'⟩) (post_bind (pb_foldR hm))
  · rintro σ H ⟨c, h, hm⟩
    rw [List.drop_length] at hm
    exact hd c σ H h hm
/-- a for that may end the whole, or itself -/
theorem forX (tw : TW J items G Y) {body : γ → β → R (Sum ρ (Bool × γ))} {s0 : γ} {k : Sum ρ γ → R δ} (hm : Post (foldX body s0 items >>= k) P X) (I : γ → St → Hp → Prop) (h0 : I s0 σ H) (hG : ∀ c σ H, I c σ H → G H)
    (hs : ∀ (b : β) (c : γ) (x : V) (σ : St) (H H' : Hp) (N B : St → Hp → Prop) (P' : Sum ρ (Bool × γ) → Prop), I c σ H → Y b H x H' → (∀ c', P' (.inr (true, c')) → ∀ σ' H', I c' σ' H' → N σ' H') → (∀ c', P' (.inr (false, c')) → ∀ σ' H', I c' σ' H' → B σ' H') →
      (∀ z, P' (.inl z) → Post (k (.inl z)) P X) → Post (body c b) P' X → g x σ H' fun σ2 H2 => tb { D with nx := N, ct := N, bk := B } σ2 H2)
    (hd : ∀ c σ H, I c σ H → Post (k (.inr c)) P X → D.nx σ H) :
    ∃ W : Nat → Nat → St → Hp → Prop, (∃ m, W 0 m σ H) ∧ ∀ i m σ H, W i m σ H →
      (J.stop i H ∧ D.nx σ H) ∨ (J.go i H ∧ ∃ N : St → Hp → Prop, (∀ σ' H', N σ' H' → ∃ m', m' < m ∧ W (i + 1) m' σ' H') ∧ ∀ x H', J.yld i H x H' → g x σ H' fun σ2 H2 => tb { D with nx := N, ct := N, bk := D.nx } σ2 H2) := by
  refine for_it tw.walk (fun i σ H => ∃ c, I c σ H ∧ Post (foldX body c (items.drop i) >>= k) P X) ⟨s0, h0, hm⟩ (fun i σ H _ ⟨c, h, _⟩ => hG c σ H h) ?_ ?_
  · rintro i x σ H H' hi ⟨c, h, hm⟩ ⟨b, hb, y⟩
    rw [drop_cons hb] at hm
    have hm' : Post ((body c b >>= fun r => match r with
      | .inl z => (R.ok (.inl z) : R (Sum ρ γ))
      | .inr (true, s') => foldX body s' (items.drop (i + 1))
      | .inr (false, s') => R.ok (.inr s')) >>= k) P X := hm
    rw [bind_bind] at hm'
    exact hs b c x σ H H' _ _ _ h y (fun c' p' σ' H' h' => ⟨c', h', p'⟩) (fun c' p' σ' H' h' => hd c' σ' H' h' p') (fun z p' => p') (post_bind hm')
  · rintro σ H ⟨c, h, hm⟩
    rw [List.drop_length] at hm
    exact hd c σ H h hm
end
/-! ### comprehensions -/
/-- items for items, of a list that is not too long -/
def mapG {α β : Type} (f : α → R β) (xs : List α) : R (List β) := grd (decide (xs.length < 100000)) >>= fun _ => mapR f xs
/-- items for some items -/
def filR {α β : Type} (f : α → R (Option β)) : List α → R (List β)
  | [] => .ok []
  | x :: xs => f x >>= fun o => filR f xs >>= fun ys => match o with
    | some y => .ok (y :: ys)
    | none => .ok ys
def filG {α β : Type} (f : α → R (Option β)) (xs : List α) : R (List β) := grd (decide (xs.length < 100000)) >>= fun _ => filR f xs
/-- items for items, by a state that turns -/
def mapSt {α β γ : Type} (f : γ → α → R (β × γ)) : γ → List α → R (List β × γ)
  | s, [] => .ok ([], s)
  | s, x :: xs => f s x >>= fun p => mapSt f p.2 xs >>= fun q => .ok (p.1 :: q.1, q.2)
def mapStG {α β γ : Type} (f : γ → α → R (β × γ)) (s : γ) (xs : List α) : R (List β × γ) := grd (decide (xs.length < 100000)) >>= fun _ => mapSt f s xs
/-- items for some items, by a state that turns -/
def filSt {α β γ : Type} (f : γ → α → R (Option β × γ)) : γ → List α → R (List β × γ)
  | s, [] => .ok ([], s)
  | s, x :: xs => f s x >>= fun p => filSt f p.2 xs >>= fun q => match p.1 with
    | some y => .ok (y :: q.1, q.2)
    | none => .ok q
def filStG {α β γ : Type} (f : γ → α → R (Option β × γ)) (s : γ) (xs : List α) : R (List β × γ) := grd (decide (xs.length < 100000)) >>= fun _ => filSt f s xs
section
variable {J : It} {β γ δ ε : Type} {items : List β} {G : Hp → Prop} {Y : β → Hp → V → Hp → Prop} {g : TG} {tt : TT} {te : TE} {P : ε → Prop} {X : Exn → Prop} {K : Fg} {vs : List Nat} {σ : St} {F H1 : Hp} {os : List (Addr × HO)} {D : Addr} {Qd : Hp → Prop}
/-- what is asked of a comprehension's list D behind its walk J: by the readings' own words -/
abbrev LcAsk (J : It) (g : TG) (tt : TT) (te : TE) (vs : List Nat) (σ : St) (H1 : Hp) (D : Addr) (Qd : Hp → Prop) : Prop :=
  ∃ W : Nat → Nat → Hp → Prop, (∃ m, W 0 m (upd H1 D (.lst []))) ∧ ∀ i m H, W i m H →
      (J.stop i H ∧ Qd H) ∨ (J.go i H ∧ ∃ Nx : Hp → Prop, (∀ H', Nx H' → ∃ m', m' < m ∧ W (i + 1) m' H') ∧ ∀ x H', J.yld i H x H' → g x (wipe σ vs) H' fun σ2 H2 => wipe σ2 vs = wipe σ vs ∧ tt σ2 H2 fun b H3 =>
        if b = true then te σ2 H3 fun y H4 => ∃ acc, H4 D = some (.lst acc) ∧ acc.length < sizeLine ∧ Nx (upd H4 D (.lst (acc ++ [y]))) else Nx H3)
/-- the state and the items told of a comprehension: os by the state -/
theorem lcFil [Rep δ] (tw : TW J items G Y) {f : γ → β → R (Option δ × γ)} {s0 : γ} {k : List δ × γ → R ε} (hm : Post (filStG f s0 items >>= k) P X) (O : γ → Hp → List (Addr × HO) → Prop) (w : W F H1 os) (o0 : O s0 F os) (nD : H1 D = none)
    (hG : ∀ c F' H' os' acc, Same F F' → W F' H' ((D, .lst acc) :: os') → O c F' os' → G H')
    (hs : ∀ (b : β) (c : γ) (x : V) (F' H' H'' : Hp) (os' : List (Addr × HO)) (acc : List V) (N : V → Hp → Prop) (N0 : Hp → Prop) (P' : Option δ × γ → Prop), Same F F' → W F' H' ((D, .lst acc) :: os') → O c F' os' → Y b H' x H'' →
      (∀ d c', P' (some d, c') → ∀ y F'' H'' os'', W F'' H'' ((D, .lst acc) :: os'') → Same F' F'' → O c' F'' os'' → rep K F'' y d → N y H'') →
      (∀ c', P' (none, c') → ∀ F'' H'' os'', W F'' H'' ((D, .lst acc) :: os'') → Same F' F'' → O c' F'' os'' → N0 H'') → Post (f c b) P' X →
      g x (wipe σ vs) H'' fun σ2 H2 => wipe σ2 vs = wipe σ vs ∧ tt σ2 H2 fun b H3 => if b = true then te σ2 H3 N else N0 H3)
    (hd : ∀ c us F' H' os' ys, Same F F' → W F' H' ((D, .lst us) :: os') → O c F' os' → A2 (rep K F') us ys → Post (k (ys, c)) P X → Qd H') : LcAsk J g tt te vs σ H1 D Qd := by
  obtain ⟨hlen, hm⟩ := pb_grd (pb_assoc hm)
  have hlen : items.length < sizeLine := Nat.lt_of_lt_of_le (of_decide_eq_true hlen) line5
  refine lc_it tw.walk (fun i H => ∃ c F' os' us ys, i ≤ items.length ∧ Same F F' ∧ W F' H ((D, .lst us) :: os') ∧ O c F' os' ∧ A2 (rep K F') us ys ∧ ys.length ≤ i ∧ Post (filSt f c (items.drop i) >>= fun q => k (ys ++ q.1, q.2)) P X) ?_ ?_ ?_ ?_
  · exact ⟨s0, F, os, [], [], Nat.zero_le _, Same.refl _, w.new nD, o0, .nil, Nat.le_refl _, hm⟩
  · rintro i H _ ⟨c, F', os', us, ys, _, s, w', o, _⟩
    exact hG c F' H os' us s w' o
  · rintro i x H H' hi ⟨c, F', os', us, ys, _, s, w', o, h, hl, hm⟩ ⟨b, hb, y⟩
    rw [drop_cons hb] at hm
    have hm' : Post ((f c b >>= fun p => filSt f p.2 (items.drop (i + 1)) >>= fun q => match p.1 with
      | some y => (R.ok (y :: q.1, q.2) : R (List δ × γ))
      | none => R.ok q) >>= fun q => k (ys ++ q.1, q.2)) P X := hm
    rw [bind_bind] at hm'
    have hm2 := post_bind hm'
    have hul : us.length = ys.length := h.length
    refine hs b c x F' H H' os' us (fun y H4 => ∃ acc, H4 D = some (.lst acc) ∧ acc.length < sizeLine ∧ _) _ _ s w' o y ?_ ?_ hm2
    · intro d c' p2 y F'' H'' os'' w2 s2 o2 r2
      refine ⟨us, w2.get (pre := []), by omega, c', F'', os'', us ++ [y], ys ++ [d], hi, s.trans s2, w2.set (pre := []), o2, (h.mono s2).snoc r2, by rw [List.length_append, List.length_singleton]; omega, ?_⟩
      have p3 : Post ((filSt f c' (items.drop (i + 1)) >>= fun q => (R.ok (d :: q.1, q.2) : R (List δ × γ))) >>= fun q => k (ys ++ q.1, q.2)) P X := p2
      rw [bind_bind] at p3
      have e : (fun q : List δ × γ => (R.ok (d :: q.1, q.2) : R (List δ × γ)) >>= fun q => k (ys ++ q.1, q.2)) = fun q => k (ys ++ [d] ++ q.1, q.2) := by
        funext q
        show k (ys ++ (d :: q.1), q.2) = k (ys ++ [d] ++ q.1, q.2)
        rw [List.append_assoc]
        rfl
      rw [e] at p3
      exact p3
    · intro c' p2 F'' H'' os'' w2 s2 o2
      refine ⟨c', F'', os'', us, ys, hi, s.trans s2, w2, o2, h.mono s2, by omega, ?_⟩
      have p3 : Post ((filSt f c' (items.drop (i + 1)) >>= fun q => (R.ok q : R (List δ × γ))) >>= fun q => k (ys ++ q.1, q.2)) P X := p2
      rw [bind_bind] at p3
      exact p3
  · rintro H ⟨c, F', os', us, ys, _, s, w', o, h, _, hm⟩
    rw [List.drop_length] at hm
    have hm' : Post (k (ys ++ [], c)) P X := hm
    rw [List.append_nil] at hm'
    exact hd c us F' H os' ys s w' o h hm'
/-- without a test -/
theorem lcMap [Rep δ] (tw : TW J items G Y) {f : γ → β → R (δ × γ)} {s0 : γ} {k : List δ × γ → R ε} (hm : Post (mapStG f s0 items >>= k) P X) (O : γ → Hp → List (Addr × HO) → Prop) (w : W F H1 os) (o0 : O s0 F os) (nD : H1 D = none)
    (hG : ∀ c F' H' os' acc, Same F F' → W F' H' ((D, .lst acc) :: os') → O c F' os' → G H')
    (hs : ∀ (b : β) (c : γ) (x : V) (F' H' H'' : Hp) (os' : List (Addr × HO)) (acc : List V) (N : V → Hp → Prop) (P' : δ × γ → Prop), Same F F' → W F' H' ((D, .lst acc) :: os') → O c F' os' → Y b H' x H'' →
      (∀ d c', P' (d, c') → ∀ y F'' H'' os'', W F'' H'' ((D, .lst acc) :: os'') → Same F' F'' → O c' F'' os'' → rep K F'' y d → N y H'') → Post (f c b) P' X →
      g x (wipe σ vs) H'' fun σ2 H2 => wipe σ2 vs = wipe σ vs ∧ te σ2 H2 N)
    (hd : ∀ c us F' H' os' ys, Same F F' → W F' H' ((D, .lst us) :: os') → O c F' os' → A2 (rep K F') us ys → Post (k (ys, c)) P X → Qd H') : LcAsk J g tYes te vs σ H1 D Qd := by
  have e : ∀ (s : γ) (l : List β), filSt (fun c b => f c b >>= fun p => R.ok (some p.1, p.2)) s l = mapSt f s l := by
    intro s l
    induction l generalizing s with
    | nil => rfl
    | cons b l ih =>
      show ((f s b >>= fun p => R.ok (some p.1, p.2)) >>= fun p => filSt (fun c b => f c b >>= fun p => R.ok (some p.1, p.2)) p.2 l >>= fun q => match p.1 with
        | some y => (R.ok (y :: q.1, q.2) : R (List δ × γ))
        | none => R.ok q) = (f s b >>= fun p => mapSt f p.2 l >>= fun q => .ok (p.1 :: q.1, q.2))
      rw [bind_bind]
      refine congrArg (f s b >>= ·) ?_
      funext p
      show (filSt (fun c b => f c b >>= fun p => R.ok (some p.1, p.2)) p.2 l >>= fun q => (R.ok (p.1 :: q.1, q.2) : R (List δ × γ))) = _
      rw [ih]
  have hm' : Post (filStG (fun c b => f c b >>= fun p => R.ok (some p.1, p.2)) s0 items >>= k) P X := by
    unfold filStG
    simp only [e]
    exact hm
  refine lcFil tw hm' O w o0 nD hG (fun b c x F' H' H'' os' acc N N0 P' s w' o y hN hN0 hp => ?_) hd
  exact hs b c x F' H' H'' os' acc N _ s w' o y (fun d c' p2 y F'' H'' os'' w2 s2 o2 r2 => hN d c' p2 y F'' H'' os'' w2 s2 o2 r2) (post_bind hp)
/-- without a state -/
theorem lcM [Rep δ] (tw : TW J items G Y) {f : β → R δ} {k : List δ → R ε} (hm : Post (mapG f items >>= k) P X) (w : W F H1 os) (nD : H1 D = none)
    (hG : ∀ F' H' acc, Same F F' → W F' H' ((D, .lst acc) :: os) → G H')
    (hs : ∀ (b : β) (x : V) (F' H' H'' : Hp) (acc : List V) (N : V → Hp → Prop) (P' : δ → Prop), Same F F' → W F' H' ((D, .lst acc) :: os) → Y b H' x H'' →
      (∀ d, P' d → ∀ y F'' H'', W F'' H'' ((D, .lst acc) :: os) → Same F' F'' → rep K F'' y d → N y H'') → Post (f b) P' X →
      g x (wipe σ vs) H'' fun σ2 H2 => wipe σ2 vs = wipe σ vs ∧ te σ2 H2 N)
    (hd : ∀ us F' H' ys, Same F F' → W F' H' ((D, .lst us) :: os) → A2 (rep K F') us ys → Post (k ys) P X → Qd H') : LcAsk J g tYes te vs σ H1 D Qd := by
  have e : ∀ (l : List β), (mapSt (fun (_ : Unit) b => f b >>= fun d => R.ok (d, ())) () l >>= fun q => R.ok q.1) = mapR f l := by
    intro l
    induction l with
    | nil => rfl
    | cons b l ih =>
      show (((f b >>= fun d => R.ok (d, ())) >>= fun p => mapSt (fun (_ : Unit) b => f b >>= fun d => R.ok (d, ())) p.2 l >>= fun q => (R.ok (p.1 :: q.1, q.2) : R (List δ × Unit))) >>= fun q => R.ok q.1) = (f b >>= fun y => mapR f l >>= fun ys => R.ok (y :: ys))
      rw [bind_bind, bind_bind]
      refine congrArg (f b >>= ·) ?_
      funext d
      show ((mapSt (fun (_ : Unit) b => f b >>= fun d => R.ok (d, ())) () l >>= fun q => (R.ok (d :: q.1, q.2) : R (List δ × Unit))) >>= fun q => R.ok q.1) = _
      rw [bind_bind, ← ih, bind_bind]
      rfl
  have hm' : Post (mapStG (fun (_ : Unit) b => f b >>= fun d => R.ok (d, ())) () items >>= fun q => k q.1) P X := by
    have e2 : (mapStG (fun (_ : Unit) b => f b >>= fun d => R.ok (d, ())) () items >>= fun q => R.ok q.1) = mapG f items := by
      unfold mapStG mapG
      rw [bind_bind]
      simp only [e]
    have h2 : Post ((mapStG (fun (_ : Unit) b => f b >>= fun d => R.ok (d, ())) () items >>= fun q => R.ok q.1) >>= k) P X := by
      rw [e2]
      exact hm
    rw [bind_bind] at h2
    exact h2
  refine lcMap tw hm' (fun _ _ os' => os = os') w rfl nD (fun c F' H' os' acc s w' o => by subst o; exact hG F' H' acc s w') (fun b c x F' H' H'' os' acc N P' s w' o y hN hp => ?_) (fun c us F' H' os' ys s w' o h hm => by subst o; exact hd us F' H' ys s w' h hm)
  subst o
  exact hs b x F' H' H'' acc N _ s w' y (fun d p2 y F'' H'' w2 s2 r2 => hN d () p2 y F'' H'' _ w2 s2 rfl r2) (post_bind hp)
/-- .. with a test -/
theorem lcF [Rep δ] (tw : TW J items G Y) {f : β → R (Option δ)} {k : List δ → R ε} (hm : Post (filG f items >>= k) P X) (w : W F H1 os) (nD : H1 D = none)
    (hG : ∀ F' H' acc, Same F F' → W F' H' ((D, .lst acc) :: os) → G H')
    (hs : ∀ (b : β) (x : V) (F' H' H'' : Hp) (acc : List V) (N : V → Hp → Prop) (N0 : Hp → Prop) (P' : Option δ → Prop), Same F F' → W F' H' ((D, .lst acc) :: os) → Y b H' x H'' →
      (∀ d, P' (some d) → ∀ y F'' H'', W F'' H'' ((D, .lst acc) :: os) → Same F' F'' → rep K F'' y d → N y H'') →
      (P' none → ∀ F'' H'', W F'' H'' ((D, .lst acc) :: os) → Same F' F'' → N0 H'') → Post (f b) P' X →
      g x (wipe σ vs) H'' fun σ2 H2 => wipe σ2 vs = wipe σ vs ∧ tt σ2 H2 fun b H3 => if b = true then te σ2 H3 N else N0 H3)
    (hd : ∀ us F' H' ys, Same F F' → W F' H' ((D, .lst us) :: os) → A2 (rep K F') us ys → Post (k ys) P X → Qd H') : LcAsk J g tt te vs σ H1 D Qd := by
  have e : ∀ (l : List β), (filSt (fun (_ : Unit) b => f b >>= fun d => R.ok (d, ())) () l >>= fun q => R.ok q.1) = filR f l := by
    intro l
    induction l with
    | nil => rfl
    | cons b l ih =>
      show (((f b >>= fun d => R.ok (d, ())) >>= fun p => filSt (fun (_ : Unit) b => f b >>= fun d => R.ok (d, ())) p.2 l >>= fun q => match p.1 with
        | some y => (R.ok (y :: q.1, q.2) : R (List δ × Unit))
        | none => R.ok q) >>= fun q => R.ok q.1) = (f b >>= fun o => filR f l >>= fun ys => match o with
        | some y => .ok (y :: ys)
        | none => .ok ys)
      rw [bind_bind, bind_bind]
      refine congrArg (f b >>= ·) ?_
      funext d
      show ((filSt (fun (_ : Unit) b => f b >>= fun d => R.ok (d, ())) () l >>= fun q => match d with
        | some y => (R.ok (y :: q.1, q.2) : R (List δ × Unit))
        | none => R.ok q) >>= fun q => R.ok q.1) = _
      rw [bind_bind, ← ih, bind_bind]
      cases d <;> rfl
  have hm' : Post (filStG (fun (_ : Unit) b => f b >>= fun d => R.ok (d, ())) () items >>= fun q => k q.1) P X := by
    have e2 : (filStG (fun (_ : Unit) b => f b >>= fun d => R.ok (d, ())) () items >>= fun q => R.ok q.1) = filG f items := by
      unfold filStG filG
      rw [bind_bind]
      simp only [e]
    have h2 : Post ((filStG (fun (_ : Unit) b => f b >>= fun d => R.ok (d, ())) () items >>= fun q => R.ok q.1) >>= k) P X := by
      rw [e2]
      exact hm
    rw [bind_bind] at h2
    exact h2
  refine lcFil tw hm' (fun _ _ os' => os = os') w rfl nD (fun c F' H' os' acc s w' o => by subst o; exact hG F' H' acc s w') (fun b c x F' H' H'' os' acc N N0 P' s w' o y hN hN0 hp => ?_) (fun c us F' H' os' ys s w' o h hm => by subst o; exact hd us F' H' ys s w' h hm)
  subst o
  exact hs b x F' H' H'' acc N N0 _ s w' y (fun d p2 y F'' H'' w2 s2 r2 => hN d () p2 y F'' H'' _ w2 s2 rfl r2) (fun p2 F'' H'' w2 s2 => hN0 () p2 F'' H'' _ w2 s2 rfl) (post_bind hp)
end
end Z
namespace Z
open PySem L2
open Rep (rep)
/-! ### short words for a walk -/
section
variable {F F1 F2 H H1 : Hp} {os os' pre post : List (Addr × HO)} {a p : Addr} {o o' : HO} {K : Fg}
theorem W.frzE (w : W F H os) (n : H p = none) : ∃ F', Same F F' ∧ W F' (upd H p o) os ∧ F' p = some o := ⟨_, w.frzS n, w.frz n, upd_same⟩
theorem W.freezeE (w : W F H (pre ++ (a, o) :: post)) : ∃ F', Same F F' ∧ W F' H (pre ++ post) ∧ F' a = some o := ⟨_, w.freezeS, w.freeze, upd_same⟩
/-- a cell that was lent to a call as frozen comes back -/
theorem W.unfreeze (w : W F1 H os) (s : Same F F1) (n : F a = none) (k : F1 a = some o) : ∃ F', Same F F' ∧ W F' H ((a, o) :: os) := by
  refine ⟨fun b => if b = a then none else F1 b, fun b u e => ?_, fun b u e => ?_, fun q hq => ?_, ?_⟩
  · have hb : b ≠ a := ne_of_none e n
    show (if b = a then none else F1 b) = some u
    rw [if_neg hb]
    exact s b u e
  · by_cases hb : b = a
    · have e' : (if b = a then none else F1 b) = some u := e
      rw [if_pos hb] at e'
      cases e'
    · have e' : (if b = a then none else F1 b) = some u := e
      rw [if_neg hb] at e'
      exact w.same b u e'
  · rcases List.mem_cons.mp hq with rfl | hq
    · exact ⟨w.same _ _ k, if_pos rfl⟩
    · have h := w.own q hq
      have hb : q.1 ≠ a := fun e => by
        rw [e, k] at h
        cases h.2
      exact ⟨h.1, by show (if q.1 = a then none else F1 q.1) = none; rw [if_neg hb]; exact h.2⟩
  · refine List.pairwise_cons.mpr ⟨fun q hq e => ?_, w.nd⟩
    have h := (w.own q hq).2
    have e' : a = q.1 := e
    rw [← e', k] at h
    cases h
theorem rep_own {α : Type} [Rep α] {vs : List V} {xs : List α} (w : W F H (pre ++ (a, .lst vs) :: post)) (h : A2 (rep K F) vs xs) : rep K H (.ref a) xs := ⟨a, vs, rfl, w.get, h.mono w.same⟩
theorem rep_lst {α : Type} [Rep α] {vs : List V} {xs : List α} (q : F a = some (.lst vs)) (h : A2 (rep K F) vs xs) : rep K F (.ref a) xs := ⟨a, vs, rfl, q, h⟩
theorem rep_tup {α : Type} [Rep α] {vs : List V} {xs : List α} (q : F a = some (.tup vs)) (h : A2 (rep K F) vs xs) : rep K F (.ref a) (Tup.mk xs) := ⟨a, vs, rfl, q, h⟩
theorem rep_pair {α β : Type} [Rep α] [Rep β] {u v : V} {x : α} {y : β} (q : F a = some (.tup [u, v])) (h1 : rep K F u x) (h2 : rep K F v y) : rep K F (.ref a) (x, y) := ⟨a, u, v, rfl, q, h1, h2⟩
theorem ints_q {vs : List V} {xs : List Int} (q : SqL K H a vs) (h : A2 (rep K F) vs xs) : SqL K H a (xs.map V.int) := h.ints ▸ q
theorem Room.units65 {k : Nat} {A : Around} (r : Room k A) : A.units + 65 < cLine := by
  have := r.un
  omega
theorem sl_cut {α : Type} {r : V → α → Prop} {vs : List V} {xs : List α} (h : A2 r vs xs) (lo hi : Option Int) : A2 r (cutV vs lo hi) (((xs.drop (HT.sIx xs.length 0 lo)).take (HT.sIx xs.length xs.length hi - HT.sIx xs.length 0 lo))) := by
  unfold cutV
  rw [h.length]
  exact (h.drop _).take _
/-- xs[lo:hi] -/
def cutL {α : Type} (xs : List α) (lo hi : Option Int) : List α := (xs.drop (HT.sIx xs.length 0 lo)).take (HT.sIx xs.length xs.length hi - HT.sIx xs.length 0 lo)
end
end Z
namespace Z
open PySem L2
open Rep (rep)
/-- a while by its fuel -/
def whileR {γ : Type} (c : γ → R Bool) (b : γ → R γ) : Nat → γ → R γ
  | 0, _ => .bad
  | n + 1, s => c s >>= fun t => if t = true then b s >>= fun s' => whileR c b n s' else .ok s
section
variable {γ δ : Type} {P : δ → Prop} {X : Exn → Prop} {tc : TT} {tb : TS} {D : Ends} {σ : St} {H : Hp}
theorem whileS {c : γ → R Bool} {b : γ → R γ} {n : Nat} {s0 : γ} {k : γ → R δ} (hm : Post (whileR c b n s0 >>= k) P X) (I : γ → St → Hp → Prop) (h0 : I s0 σ H)
    (hc : ∀ (g : γ) (σ : St) (H : Hp) (Q' : Bool → Hp → Prop) (P' : Bool → Prop), I g σ H → (∀ t, P' t → ∀ H', I g σ H' → Q' t H') → Post (c g) P' X → tc σ H Q')
    (hs : ∀ (g : γ) (σ : St) (H : Hp) (N : St → Hp → Prop) (P' : γ → Prop), I g σ H → (∀ g', P' g' → ∀ σ' H', I g' σ' H' → N σ' H') → Post (b g) P' X → tb { D with nx := N, ct := N, bk := D.nx } σ H)
    (hd : ∀ g σ H, I g σ H → Post (k g) P X → D.nx σ H) : tWhile tc tb D σ H := by
  refine ⟨fun m σ H => ∃ g, I g σ H ∧ Post (whileR c b m g >>= k) P X, ⟨n, s0, h0, hm⟩, ?_⟩
  rintro m σ H ⟨g, h, hm⟩
  cases m with
  | zero => exact (show False from hm).elim
  | succ m =>
    have hm' : Post ((c g >>= fun t => if t = true then b g >>= fun s' => whileR c b m s' else .ok g) >>= k) P X := hm
    rw [bind_bind] at hm'
    refine hc g σ H _ _ h (fun t p H' h' => ?_) (post_bind hm')
    cases t with
    | false => exact iteF (hd g σ H' h' p)
    | true =>
      refine iteT ?_
      have p' : Post ((b g >>= fun s' => whileR c b m s') >>= k) P X := p
      rw [bind_bind] at p'
      exact ⟨fun σ' H' => ∃ g', I g' σ' H' ∧ Post (whileR c b m g' >>= k) P X, fun σ' H' ⟨g', h1, h2⟩ => ⟨m, Nat.lt_succ_self m, g', h1, h2⟩, hs g σ H' _ _ h' (fun g' p2 σ' H' h2 => ⟨g', h2, p2⟩) (post_bind p')⟩
end
section
variable {α β : Type} {Q : β → Prop} {E : Exn → Prop}
theorem pn_set {xs : List α} {i : Int} {x : α} {f : List α → R β} (h : Post (setI xs i x >>= f) Q E) : ∃ j ys, ixN xs.length i = some j ∧ ys = xs.set j x ∧ Post (f ys) Q E :=
  let ⟨j, a, b⟩ := pb_set h
  ⟨j, _, a, rfl, b⟩
theorem pn_app {xs : List α} {x : α} {f : List α → R β} (h : Post (app xs x >>= f) Q E) : ∃ ys, xs.length < sizeLine ∧ ys = xs ++ [x] ∧ Post (f ys) Q E :=
  let ⟨a, b⟩ := pb_app h
  ⟨_, a, rfl, b⟩
theorem pn_extend {xs ys : List α} {f : List α → R β} (h : Post (extend xs ys >>= f) Q E) : ∃ zs, xs.length + ys.length ≤ sizeLine ∧ zs = xs ++ ys ∧ Post (f zs) Q E :=
  let ⟨a, b⟩ := pb_extend h
  ⟨_, a, rfl, b⟩
theorem A2.lt {r : V → α → Prop} {vs : List V} {xs : List α} {n : Nat} (h : A2 r vs xs) (z : xs.length < n) : vs.length < n := by rw [h.length]; exact z
theorem A2.ix {r : V → α → Prop} {vs : List V} {xs : List α} {i : Int} {j : Nat} (h : A2 r vs xs) (z : ixN xs.length i = some j) : ixN vs.length i = some j := by rw [h.length]; exact z
theorem A2.le2 {γ : Type} {r : V → α → Prop} {r' : V → γ → Prop} {vs us : List V} {xs : List α} {ys : List γ} {n : Nat} (h : A2 r vs xs) (h' : A2 r' us ys) (z : xs.length + ys.length ≤ n) : vs.length + us.length ≤ n := by rw [h.length, h'.length]; exact z
/-- the last item, and the rest -/
def popI (xs : List α) : R (α × List α) := match xs.getLast? with
  | some x => .ok (x, xs.dropLast)
  | none => .bad
def popAt (xs : List α) (i : Int) : R (α × List α) := match ixN xs.length i with
  | some j => match xs[j]? with
    | some x => .ok (x, xs.eraseIdx j)
    | none => .bad
  | none => .bad
theorem pn_popAt {xs : List α} {i : Int} {f : α × List α → R β} (h : Post (popAt xs i >>= f) Q E) : ∃ j x ys, ixN xs.length i = some j ∧ xs[j]? = some x ∧ ys = xs.eraseIdx j ∧ Post (f (x, ys)) Q E := by
  unfold popAt at h
  cases e : ixN xs.length i with
  | none => rw [e] at h; exact (show False from h).elim
  | some j =>
    rw [e] at h
    cases e2 : xs[j]? with
    | none =>
      have h' : Post ((match xs[j]? with
        | some x => (R.ok (x, xs.eraseIdx j) : R (α × List α))
        | none => .bad) >>= f) Q E := h
      rw [e2] at h'
      exact (show False from h').elim
    | some x =>
      have h' : Post ((match xs[j]? with
        | some x => (R.ok (x, xs.eraseIdx j) : R (α × List α))
        | none => .bad) >>= f) Q E := h
      rw [e2] at h'
      exact ⟨j, x, _, rfl, e2, rfl, h'⟩
end
section
variable {K : Fg} {F : Hp}
theorem rep_i {i : Int} : rep K F (.int i) i := rfl
theorem rep_b {i : Bool} : rep K F (.bl i) i := rfl
theorem rep_s {i : Str} : rep K F (.str i) i := rfl
theorem rep_n : rep K F .non () := rfl
end
end Z
namespace Z
open PySem L2
section
variable {X : Cx} {D : Ends} {σ : L2.St} {H : Hp}
def tC1 (v : V) : TE := fun _ H Q => True ∧ Q v H
theorem pe_int1 {i j pos} : PE X (.Constant (.int i) j pos) (tC1 (.int i)) := ⟨fun pins s σ H Q I h => pe_int.run pins s σ H Q I h.2⟩
theorem pe_bl1 {i j pos} : PE X (.Constant (.bool i) j pos) (tC1 (.bl i)) := ⟨fun pins s σ H Q I h => pe_bl.run pins s σ H Q I h.2⟩
theorem pe_str1 {i j pos} : PE X (.Constant (.str i) j pos) (tC1 (.str i)) := ⟨fun pins s σ H Q I h => pe_str.run pins s σ H Q I h.2⟩
theorem pe_non1 {j pos} : PE X (.Constant .none j pos) (tC1 .non) := ⟨fun pins s σ H Q I h => pe_non.run pins s σ H Q I h.2⟩
theorem stepN {i : Nat} {v : V} {Q : L2.St → Hp → Prop} (h : Q (σ.set i (some v)) H) : gName i v σ H Q := h
theorem stepX (h : D.nx σ H) : tNext D σ H := h
theorem stepSeq {t u : TS} (h : t { D with nx := u D } σ H) : tSeq t u D σ H := h
theorem stepIf {c : TT} {a b : TS} (h : c σ H fun t H1 => if t = true then a D σ H1 else b D σ H1) : tIfS c a b D σ H := h
theorem stepRet {te : TE} (h : te σ H D.rt) : tRet te D σ H := h
theorem stepAsg {te : TE} {g : TG} (h : te σ H fun x H1 => g x σ H1 D.nx) : tAsg te g D σ H := h
theorem stepDrop {te : TE} (h : te σ H fun _ H1 => D.nx σ H1) : tDrop te D σ H := h
end
end Z
namespace Z
open PySem L2
open Rep (rep)
section
variable {α : Type} [Rep α] {K : Fg} {F : Hp} {v : V} {x : α}
theorem rep_none : rep K F .non (none : Option α) := rfl
theorem rep_some (h : rep K F v x) : rep K F v (some x) := h
theorem rep_pl {i : Int} : rep K F (.int i) (Thing.pl i) := rfl
theorem rep_ti {a b : Int} (h : rep K F v (a, b)) : rep K F v (Thing.ti a b) := h
end
end Z
/-! Z2: rules by typed data -/
namespace Z
open PySem L2 PySem.Spec PyProof.Rows
open Rep (rep)

/-! ### data that is compared -/
class Dat (α : Type) extends Rep α where
  toD : α → PyData
  dmax : Nat
  dp : ∀ {K : Fg} {H : Hp} {v : V} {x : α}, rep K H v x → Dp K H v (toD x)
  lay : ∀ x : α, (toD x).canLay0 = true
  dep : ∀ x : α, (toD x).depth ≤ dmax
  eqv : ∀ x y : α, PyData.eqv (toD x) (toD y) = true ↔ x = y
section
variable {α β : Type} {K : Fg} {H : Hp}
instance : Dat Int where
  toD := .int
  dmax := 0
  dp := fun h => by
    have h' : _ = V.int _ := h
    subst h'
    exact .int _
  lay := fun x => by simp only [PyData.canLay0]
  dep := fun x => by simp only [PyData.depth, Nat.le_refl]
  eqv := fun x y => by simp [PyData.eqv]
instance : Dat Bool where
  toD := .bool
  dmax := 0
  dp := fun h => by
    have h' : _ = V.bl _ := h
    subst h'
    exact .bl _
  lay := fun x => by simp only [PyData.canLay0]
  dep := fun x => by simp only [PyData.depth, Nat.le_refl]
  eqv := fun x y => by simp [PyData.eqv]
instance datOptInt : Dat (Option Int) where
  toD := fun x => match x with
    | none => .none
    | some i => .int i
  dmax := 0
  dp := fun {K H v x} h => by
    cases x with
    | none =>
      have h' : v = V.non := h
      subst h'
      exact .non
    | some i =>
      have h' : v = V.int i := h
      subst h'
      exact .int _
  lay := fun x => by cases x <;> simp only [PyData.canLay0]
  dep := fun x => by cases x <;> simp only [PyData.depth, Nat.le_refl]
  eqv := fun x y => by cases x <;> cases y <;> simp [PyData.eqv]
instance datPair [Dat α] [Dat β] : Dat (α × β) where
  toD := fun x => .tuple [Dat.toD x.1, Dat.toD x.2]
  dmax := max (Dat.dmax α) (Dat.dmax β) + 1
  dp := fun {K H v x} h => by
    obtain ⟨a, u, w, rfl, q, h1, h2⟩ := h
    exact .tup (SqT.of q) (.cons (Dat.dp h1) (.cons (Dat.dp h2) .nil))
  lay := fun x => by simp only [PyData.canLay0, PyData.canLayAll0, Dat.lay, Bool.and_true]
  dep := fun x => by
    have h1 := Dat.dep x.1
    have h2 := Dat.dep x.2
    simp only [PyData.depth, PyData.depthAll]
    omega
  eqv := fun x y => by
    obtain ⟨x1, x2⟩ := x
    obtain ⟨y1, y2⟩ := y
    simp only [PyData.eqv, PyData.eqvAll, Bool.and_true, Bool.and_eq_true, Dat.eqv, Prod.mk.injEq]
theorem dp_all [Dat α] : ∀ {vs : List V} {xs : List α}, A2 (rep K H) vs xs → DpAll K H vs (xs.map Dat.toD)
  | _, _, .nil => .nil
  | _, _, .cons h t => .cons (Dat.dp h) (dp_all t)
theorem lay_all [Dat α] : ∀ xs : List α, PyData.canLayAll0 (xs.map Dat.toD) = true
  | [] => by simp only [List.map_nil, PyData.canLayAll0]
  | x :: xs => by simp only [List.map_cons, PyData.canLayAll0, Dat.lay, lay_all xs, Bool.and_true]
theorem dep_all [Dat α] : ∀ xs : List α, PyData.depthAll (xs.map Dat.toD) ≤ Dat.dmax α
  | [] => by simp only [List.map_nil, PyData.depthAll, Nat.zero_le]
  | x :: xs => by
    have h1 := dep_all xs
    have h2 := Dat.dep x
    simp only [List.map_cons, PyData.depthAll]
    omega
theorem eqv_all [Dat α] : ∀ xs ys : List α, PyData.eqvAll (xs.map Dat.toD) (ys.map Dat.toD) = true ↔ xs = ys
  | [], [] => by simp [PyData.eqvAll]
  | x :: xs, [] => by simp [PyData.eqvAll]
  | [], y :: ys => by simp [PyData.eqvAll]
  | x :: xs, y :: ys => by simp only [List.map_cons, PyData.eqvAll, Bool.and_eq_true, Dat.eqv, eqv_all xs ys, List.cons.injEq]
instance datList [Dat α] : Dat (List α) where
  toD := fun xs => .list (xs.map Dat.toD)
  dmax := Dat.dmax α + 1
  dp := fun {K H v x} h => by
    obtain ⟨a, vs, rfl, q, h⟩ := h
    exact .lst (SqL.of q) (dp_all h)
  lay := fun x => by
    simp only [PyData.canLay0]
    exact lay_all x
  dep := fun x => by
    have h := dep_all x
    simp only [PyData.depth]
    omega
  eqv := fun x y => by
    simp only [PyData.eqv]
    exact eqv_all x y
instance datTup [Dat α] : Dat (Tup α) where
  toD := fun xs => .tuple (xs.l.map Dat.toD)
  dmax := Dat.dmax α + 1
  dp := fun {K H v x} h => by
    obtain ⟨a, vs, rfl, q, h⟩ := h
    exact .tup (SqT.of q) (dp_all h)
  lay := fun x => by
    simp only [PyData.canLay0]
    exact lay_all x.l
  dep := fun x => by
    have h := dep_all x.l
    simp only [PyData.depth]
    omega
  eqv := fun x y => by
    obtain ⟨x⟩ := x
    obtain ⟨y⟩ := y
    simp only [PyData.eqv, Tup.mk.injEq]
    exact eqv_all x y
instance datThing : Dat Thing where
  toD := fun x => match x with
    | .pl i => .int i
    | .ti a b => .tuple [.int a, .int b]
  dmax := 1
  dp := fun {K H v x} h => by
    cases x with
    | pl i =>
      have h' : v = V.int i := h
      subst h'
      exact .int _
    | ti a b =>
      obtain ⟨p, u, w, rfl, q, h1, h2⟩ := (show rep K H v (a, b) from h)
      have h1' : u = V.int a := h1
      have h2' : w = V.int b := h2
      subst h1' h2'
      exact .tup (SqT.of q) (.cons (.int _) (.cons (.int _) .nil))
  lay := fun x => by cases x <;> simp [PyData.canLay0, PyData.canLayAll0]
  dep := fun x => by cases x <;> simp [PyData.depth, PyData.depthAll]
  eqv := fun x y => by cases x <;> cases y <;> simp [PyData.eqv, PyData.eqvAll]
instance datScr : Dat Scr where
  toD := fun xs => .list (xs.l.map PyData.int)
  dmax := 1
  dp := fun {K H v x} h => by
    obtain ⟨a, rfl, q⟩ := h
    have e : ∀ l : List Int, DpAll K H (l.map V.int) (l.map PyData.int) := fun l => by
      induction l with
      | nil => exact .nil
      | cons x l ih => exact .cons (.int _) ih
    exact .lst q (e x.l)
  lay := fun x => by
    simp only [PyData.canLay0]
    exact lay_all (α := Int) x.l
  dep := fun x => by
    have h := dep_all (α := Int) x.l
    have h' : PyData.depthAll (x.l.map PyData.int) ≤ 0 := h
    simp only [PyData.depth]
    omega
  eqv := fun x y => by
    obtain ⟨x⟩ := x
    obtain ⟨y⟩ := y
    simp only [PyData.eqv, Scr.mk.injEq]
    exact eqv_all (α := Int) x y
theorem shapedD [Dat α] (hd : Dat.dmax α ≤ 60) (x : α) : SeqAt.shaped (Dat.toD x) = true := by
  have h := Dat.dep x
  show ((Dat.toD x).canLay0 && decide ((Dat.toD x).depth ≤ 64)) = true
  rw [Bool.and_eq_true]
  exact ⟨Dat.lay x, decide_eq_true (by omega)⟩
theorem eqvD [Dat α] [DecidableEq α] (x y : α) : PyData.eqv (Dat.toD x) (Dat.toD y) = decide (x = y) := by
  by_cases h : x = y
  · rw [decide_eq_true h]
    exact (Dat.eqv x y).mpr h
  · rw [decide_eq_false h]
    exact Bool.eq_false_iff.mpr fun e => h ((Dat.eqv x y).mp e)
theorem anyD [Dat α] [DecidableEq α] (x : α) : ∀ ys : List α, ((ys.map Dat.toD).any fun z => PyData.eqv z (Dat.toD x)) = decide (x ∈ ys)
  | [] => by simp
  | y :: ys => by
    rw [List.map_cons, List.any_cons, anyD x ys, eqvD]
    by_cases h : y = x
    · subst h; simp
    · have h' : ¬ x = y := fun e => h e.symm
      simp [h, h']
end

section
variable {X : Cx} {α β : Type} {K : Fg}
/-- ==, != of data -/
theorem op_eqDt (hK : X.K = K) (α : Type) [Dat α] [DecidableEq α] (hd : Dat.dmax α ≤ 60) (hu : X.A.units + 64 < cLine) : OpR X (compareOp .Eq) (fun x y H Q => ∃ a b : α, rep K H x a ∧ rep K H y b ∧ Q (.bl (decide (a = b))) H) := by
  subst hK
  intro pins s σ H x y v u Q I rx ry ⟨a, b, h1, h2, q⟩
  exact op_eqD hu pins s σ H x y v u Q I rx ry ⟨Dat.toD a, Dat.toD b, Dat.dp h1, Dat.dp h2, shapedD hd a, shapedD hd b, by rw [eqvD]; exact q⟩
theorem op_neDt (hK : X.K = K) (α : Type) [Dat α] [DecidableEq α] (hd : Dat.dmax α ≤ 60) (hu : X.A.units + 64 < cLine) : OpR X (compareOp .NotEq) (fun x y H Q => ∃ a b : α, rep K H x a ∧ rep K H y b ∧ Q (.bl (!decide (a = b))) H) := by
  subst hK
  intro pins s σ H x y v u Q I rx ry ⟨a, b, h1, h2, q⟩
  exact op_neD hu pins s σ H x y v u Q I rx ry ⟨Dat.toD a, Dat.toD b, Dat.dp h1, Dat.dp h2, shapedD hd a, shapedD hd b, by rw [eqvD]; exact q⟩
/-- in, not in a list, a tuple of data -/
theorem op_inL (hK : X.K = K) (α : Type) [Dat α] [DecidableEq α] (hd : Dat.dmax α ≤ 50) (hu : X.A.units + 65 < cLine) : OpR X (compareOp .In) (fun x y H Q => ∃ (a : α) (b : List α), rep K H x a ∧ rep K H y b ∧ Q (.bl (decide (a ∈ b))) H) := by
  subst hK
  intro pins s σ H x y v u Q I rx ry ⟨a, b, h1, h2, q⟩
  exact op_inD hu pins s σ H x y v u Q I rx ry ⟨Dat.toD a, b.map Dat.toD, Dat.dp h1, Dat.dp h2, shapedD (by omega) a, shapedD (α := List α) (by show Dat.dmax α + 1 ≤ 60; omega) b, by rw [anyD]; exact q⟩
theorem op_notInL (hK : X.K = K) (α : Type) [Dat α] [DecidableEq α] (hd : Dat.dmax α ≤ 50) (hu : X.A.units + 65 < cLine) : OpR X (compareOp .NotIn) (fun x y H Q => ∃ (a : α) (b : List α), rep K H x a ∧ rep K H y b ∧ Q (.bl (!decide (a ∈ b))) H) := by
  subst hK
  intro pins s σ H x y v u Q I rx ry ⟨a, b, h1, h2, q⟩
  exact op_notInD hu pins s σ H x y v u Q I rx ry ⟨Dat.toD a, b.map Dat.toD, Dat.dp h1, Dat.dp h2, shapedD (by omega) a, shapedD (α := List α) (by show Dat.dmax α + 1 ≤ 60; omega) b, by rw [anyD]; exact q⟩
theorem op_inT (hK : X.K = K) (α : Type) [Dat α] [DecidableEq α] (hd : Dat.dmax α ≤ 50) (hu : X.A.units + 65 < cLine) : OpR X (compareOp .In) (fun x y H Q => ∃ (a : α) (b : Tup α), rep K H x a ∧ rep K H y b ∧ Q (.bl (decide (a ∈ b.l))) H) := by
  subst hK
  intro pins s σ H x y v u Q I rx ry ⟨a, b, h1, h2, q⟩
  have sd := shapedD (by omega : Dat.dmax α ≤ 60) a
  have se : SeqAt.shaped (.tuple (b.l.map Dat.toD)) = true := shapedD (α := Tup α) (by show Dat.dmax α + 1 ≤ 60; omega) b
  obtain ⟨as, r1⟩ := Dp.reads I (Dat.toD a) x v (Dat.dp h1) rx
  obtain ⟨bs, r2⟩ := Dp.reads I (.tuple (b.l.map Dat.toD)) y u (Dat.dp h2) ry
  refine SeqAt.in_tuple_reads r2 r1 (SeqAt.canLay_of_shaped se) (SeqAt.canLay_of_shaped sd) (room_in_shaped sd hu) ?_
  rw [anyD]
  exact ⟨.bl _, H, I, rfl, q⟩
theorem op_notInT (hK : X.K = K) (α : Type) [Dat α] [DecidableEq α] (hd : Dat.dmax α ≤ 50) (hu : X.A.units + 65 < cLine) : OpR X (compareOp .NotIn) (fun x y H Q => ∃ (a : α) (b : Tup α), rep K H x a ∧ rep K H y b ∧ Q (.bl (!decide (a ∈ b.l))) H) := by
  subst hK
  intro pins s σ H x y v u Q I rx ry ⟨a, b, h1, h2, q⟩
  have sd := shapedD (by omega : Dat.dmax α ≤ 60) a
  have se : SeqAt.shaped (.tuple (b.l.map Dat.toD)) = true := shapedD (α := Tup α) (by show Dat.dmax α + 1 ≤ 60; omega) b
  obtain ⟨as, r1⟩ := Dp.reads I (Dat.toD a) x v (Dat.dp h1) rx
  obtain ⟨bs, r2⟩ := Dp.reads I (.tuple (b.l.map Dat.toD)) y u (Dat.dp h2) ry
  refine SeqAt.notIn_tuple_reads r2 r1 (SeqAt.canLay_of_shaped se) (SeqAt.canLay_of_shaped sd) (room_in_shaped sd hu) ?_
  rw [anyD]
  exact ⟨.bl _, H, I, rfl, q⟩
/-- == of texts -/
theorem decS (x y : Str) : decide (V.str x = V.str y) = decide (x = y) := by
  by_cases h : x = y
  · subst h; simp
  · rw [decide_eq_false h, decide_eq_false (fun e => h (V.str.inj e))]
theorem op_eqS : OpR X (compareOp .Eq) (fun x y H Q => ∃ a b : Str, x = .str a ∧ y = .str b ∧ Q (.bl (decide (a = b))) H) := by
  intro pins s σ H x y v u Q I rx ry ⟨a, b, h1, h2, q⟩
  subst h1 h2
  exact op_eq pins s σ H _ _ v u Q I rx ry ⟨rfl, by rw [decS]; exact q⟩
theorem op_neS : OpR X (compareOp .NotEq) (fun x y H Q => ∃ a b : Str, x = .str a ∧ y = .str b ∧ Q (.bl (!decide (a = b))) H) := by
  intro pins s σ H x y v u Q I rx ry ⟨a, b, h1, h2, q⟩
  subst h1 h2
  exact op_ne pins s σ H _ _ v u Q I rx ry ⟨rfl, by rw [decS]; exact q⟩
/-- == of truths -/
theorem decB (x y : Bool) : decide (V.bl x = V.bl y) = decide (x = y) := by
  cases x <;> cases y <;> rfl
theorem op_eqB : OpR X (compareOp .Eq) (fun x y H Q => ∃ a b : Bool, x = .bl a ∧ y = .bl b ∧ Q (.bl (decide (a = b))) H) := by
  intro pins s σ H x y v u Q I rx ry ⟨a, b, h1, h2, q⟩
  subst h1 h2
  exact op_eq pins s σ H _ _ v u Q I rx ry ⟨rfl, by rw [decB]; exact q⟩
theorem op_neB : OpR X (compareOp .NotEq) (fun x y H Q => ∃ a b : Bool, x = .bl a ∧ y = .bl b ∧ Q (.bl (!decide (a = b))) H) := by
  intro pins s σ H x y v u Q I rx ry ⟨a, b, h1, h2, q⟩
  subst h1 h2
  exact op_ne pins s σ H _ _ v u Q I rx ry ⟨rfl, by rw [decB]; exact q⟩

/-! ### built-ins -/
theorem call_lenN (hK : X.K = K) : CallR X (.builtin "len") (fun xs H Q => ∃ (p : Addr) (ys : List V) (n : Nat), xs = [.ref p] ∧ (SqL K H p ys ∨ SqT K H p ys) ∧ ys.length = n ∧ Q (.int (n : Int)) H) := by
  subst hK
  intro pins s σ H xs us Q I r ⟨p, ys, n, e, h, hn, q⟩
  subst hn
  exact call_len_seq pins s σ H xs us Q I r ⟨p, ys, e, h, q⟩
def absI (i : Int) : Int := if i < 0 then -i else i
def max2 (i j : Int) : Int := if j > i then j else i
def min2 (i j : Int) : Int := if j < i then j else i
/-- the greatest, the least of a list -/
def maxL (xs : List Int) : R Int := ofO xs.max?
def minL (xs : List Int) : R Int := ofO xs.min?
theorem pb_max {δ : Type} {xs : List Int} {f : Int → R δ} {P : δ → Prop} {E : Exn → Prop} (h : Post (maxL xs >>= f) P E) : ∃ m, xs.max? = some m ∧ Post (f m) P E := pb_ofO h
theorem pb_min {δ : Type} {xs : List Int} {f : Int → R δ} {P : δ → Prop} {E : Exn → Prop} (h : Post (minL xs >>= f) P E) : ∃ m, xs.min? = some m ∧ Post (f m) P E := pb_ofO h
theorem cr_maxI (hK : X.K = K) (hc : X.calm = true) : CallR X (.builtin "max") (fun vs H Q => ∃ (a : Addr) (ns : List Int) (m : Int), vs = [V.ref a] ∧ SqL K H a (ns.map V.int) ∧ ns.max? = some m ∧ Q (.int m) H) := by
  subst hK
  intro pins s σ H xs us Q I r ⟨a, ns, m, e, h, hm, q⟩
  obtain ⟨h1, h2⟩ := List.max?_eq_some_iff.mp hm
  refine cr_max hc pins s σ H xs us Q I r ⟨a, ns, e, h, ?_, fun k h3 h4 => ?_⟩
  · exact List.length_pos_of_mem h1
  · have e1 : k = m := Int.le_antisymm (h2 k h3) (h4 m h1)
    subst e1
    exact q
theorem cr_minI (hK : X.K = K) (hc : X.calm = true) : CallR X (.builtin "min") (fun vs H Q => ∃ (a : Addr) (ns : List Int) (m : Int), vs = [V.ref a] ∧ SqL K H a (ns.map V.int) ∧ ns.min? = some m ∧ Q (.int m) H) := by
  subst hK
  intro pins s σ H xs us Q I r ⟨a, ns, m, e, h, hm, q⟩
  obtain ⟨h1, h2⟩ := List.min?_eq_some_iff.mp hm
  refine cr_min hc pins s σ H xs us Q I r ⟨a, ns, e, h, ?_, fun k h3 h4 => ?_⟩
  · exact List.length_pos_of_mem h1
  · have e1 : k = m := Int.le_antisymm (h4 m h1) (h2 k h3)
    subst e1
    exact q
/-- the ints in order -/
def sortI (xs : List Int) : List Int := xs.mergeSort fun a b => decide (a ≤ b)
theorem sortI_perm (xs : List Int) : (sortI xs).Perm xs := List.mergeSort_perm xs _
theorem sortI_sorted (xs : List Int) : (sortI xs).Pairwise (· ≤ ·) := by
  have h := List.pairwise_mergeSort (le := fun a b : Int => decide (a ≤ b)) (fun a b c h1 h2 => by simp only [decide_eq_true_eq] at *; omega) (fun a b => by simp only [Bool.or_eq_true, decide_eq_true_eq]; omega) xs
  exact h.imp fun h => by simpa using h
theorem sort_uniq {xs ys : List Int} (h : xs.Perm ys) (hx : xs.Pairwise (· ≤ ·)) (hy : ys.Pairwise (· ≤ ·)) : xs = ys := by
  induction xs generalizing ys with
  | nil => exact (List.nil_perm.mp h).symm
  | cons x xs ih =>
    cases ys with
    | nil => exact absurd h.symm (by simp)
    | cons y ys =>
      rw [List.pairwise_cons] at hx hy
      have e : x = y := by
        have h1 : x ∈ y :: ys := h.mem_iff.mp List.mem_cons_self
        have h2 : y ∈ x :: xs := h.mem_iff.mpr List.mem_cons_self
        rcases List.mem_cons.mp h1 with h1 | h1
        · exact h1
        · rcases List.mem_cons.mp h2 with h2 | h2
          · exact h2.symm
          · have := hx.1 y h2
            have := hy.1 x h1
            omega
      subst e
      rw [ih (List.perm_cons x |>.mp h) hx.2 hy.2]
theorem sortI_eq {xs ys : List Int} (h : ys.Perm xs) (hy : ys.Pairwise (· ≤ ·)) : ys = sortI xs := sort_uniq (h.trans (sortI_perm xs).symm) hy (sortI_sorted xs)
theorem cr_sortI (hK : X.K = K) : CallR X (.builtin "sorted") (fun vs H Q => ∃ (a : Addr) (ns : List Int), vs = [V.ref a] ∧ SqL K H a (ns.map V.int) ∧ ∀ p, H p = none → Q (.ref p) (upd H p (.lst ((sortI ns).map V.int)))) := by
  subst hK
  intro pins s σ H xs us Q I r ⟨a, ns, e, h, q⟩
  refine cr_sortedI pins s σ H xs us Q I r ⟨a, ns, e, h, fun ns' p h1 h2 hp => ?_⟩
  rw [sortI_eq h1 h2]
  exact q p hp
theorem ix_listK (hK : X.K = K) : IxR X (rIxL K) := hK ▸ ix_list
theorem ix_tupK (hK : X.K = K) : IxR X (rIxT K) := hK ▸ ix_tup
theorem sl_listK (hK : X.K = K) : SlR X (rSlL K) := hK ▸ sl_list
theorem cr_sumK (hK : X.K = K) (hc : X.calm = true) : CallR X (.builtin "sum") (rSum K) := hK ▸ cr_sum hc
theorem call_list_ofK (hK : X.K = K) : CallR X (.type "list") (fun xs H Q => ∃ p ys, xs = [.ref p] ∧ (SqL K H p ys ∨ SqT K H p ys) ∧ ∀ l, H l = none → Q (.ref l) (upd H l (.lst ys))) := hK ▸ call_list_of
theorem call_tuple_ofK (hK : X.K = K) : CallR X (.type "tuple") (fun xs H Q => ∃ p ys, xs = [.ref p] ∧ ((SqL K H p ys ∧ ∀ l, H l = none → Q (.ref l) (upd H l (.tup ys))) ∨ (SqT K H p ys ∧ Q (.ref p) H))) := hK ▸ call_tuple_of
theorem pi_listK {tg l : Expr} {tl : TE} (hK : X.K = K) (hl : PE X l tl) : PI X tg l (iList K tl) := hK ▸ pi_list hl
theorem pi_tupK {tg l : Expr} {tl : TE} (hK : X.K = K) (hl : PE X l tl) : PI X tg l (iTup K tl) := hK ▸ pi_tup hl
theorem pi_k {tg l : Expr} {wi : Fg → TI} (hK : X.K = K) (h : PI X tg l (wi X.K)) : PI X tg l (wi K) := hK ▸ h
theorem pe_k {e : Expr} {t : Fg → TE} (hK : X.K = K) (h : PE X e (t X.K)) : PE X e (t K) := hK ▸ h
theorem pg_k {tg : Expr} {t : Fg → TG} (hK : X.K = K) (h : PG X tg (t X.K)) : PG X tg (t K) := hK ▸ h
end
end Z
/-! Z3: sets of tuples by their number, isinstance -/
namespace Z
open PySem L2 PySem.Spec PyProof.Rows
open Rep (rep)
/-- each once -/
def nub {α : Type} [DecidableEq α] : List α → List α
  | [] => []
  | x :: xs => if x ∈ xs then nub xs else x :: nub xs
section
variable {α : Type} [DecidableEq α]
theorem nub_mem {y : α} : ∀ {xs : List α}, y ∈ nub xs ↔ y ∈ xs
  | [] => Iff.rfl
  | x :: xs => by
    unfold nub
    by_cases h : x ∈ xs
    · rw [if_pos h, nub_mem]
      exact ⟨List.mem_cons_of_mem _, fun q => (List.mem_cons.mp q).elim (fun e => e ▸ h) id⟩
    · rw [if_neg h, List.mem_cons, List.mem_cons, nub_mem]
theorem nub_nodup : ∀ (xs : List α), (nub xs).Nodup
  | [] => List.nodup_nil
  | x :: xs => by
    unfold nub
    by_cases h : x ∈ xs
    · rw [if_pos h]
      exact nub_nodup xs
    · rw [if_neg h]
      exact List.nodup_cons.mpr ⟨fun q => h (nub_mem.mp q), nub_nodup xs⟩
theorem nub_le : ∀ (xs : List α), (nub xs).length ≤ xs.length
  | [] => Nat.le_refl _
  | x :: xs => by
    unfold nub
    have := nub_le xs
    by_cases h : x ∈ xs
    · rw [if_pos h, List.length_cons]
      omega
    · rw [if_neg h, List.length_cons, List.length_cons]
      omega
theorem nub_len : ∀ {xs : List α}, (nub xs).length = xs.length ↔ xs.Nodup
  | [] => by simp [nub]
  | x :: xs => by
    unfold nub
    by_cases h : x ∈ xs
    · rw [if_pos h, List.length_cons]
      have := nub_le xs
      constructor
      · intro e
        omega
      · intro e
        exact absurd h (List.nodup_cons.mp e).1
    · rw [if_neg h, List.length_cons, List.length_cons, List.nodup_cons]
      constructor
      · intro e
        exact ⟨h, nub_len.mp (by omega)⟩
      · intro e
        rw [nub_len.mpr e.2]
theorem nodup_le : ∀ {xs ys : List α}, xs.Nodup → (∀ y ∈ xs, y ∈ ys) → xs.length ≤ ys.length
  | [], _, _, _ => Nat.zero_le _
  | x :: xs, ys, h, hs => by
    obtain ⟨h1, h2⟩ := List.nodup_cons.mp h
    have hx : x ∈ ys := hs x List.mem_cons_self
    have := nodup_le (xs := xs) (ys := ys.erase x) h2 fun y hy => (List.mem_erase_of_ne (show y ≠ x from fun e => by subst e; exact h1 hy)).mpr (hs y (List.mem_cons_of_mem _ hy))
    rw [List.length_erase_of_mem hx] at this
    have := List.length_pos_of_mem hx
    rw [List.length_cons]
    omega
theorem nodup_len {xs ys : List α} (h1 : xs.Nodup) (h2 : ys.Nodup) (h : ∀ y, y ∈ xs ↔ y ∈ ys) : xs.length = ys.length := by
  refine Nat.le_antisymm ?_ ?_
  · exact nodup_le h1 fun y hy => (h y).mp hy
  · exact nodup_le h2 fun y hy => (h y).mpr hy
end
section
variable {X : Cx} {K : Fg} {P : Program} {w : World} {F H : Hp}
/-- tuples of ints by their places -/
theorem tups_ks : ∀ {vs : List V} {xs : List (Tup Int)}, A2 (rep K H) vs xs → ∃ ks : List (Addr × List Int), vs = ks.map (fun p => V.ref p.1) ∧ ks.map (·.2) = xs.map (·.l) ∧ ∀ p ∈ ks, H p.1 = some (.tup (p.2.map V.int))
  | _, _, .nil => ⟨[], rfl, rfl, fun _ h => nomatch h⟩
  | _, _, .cons (x := x) h t => by
    obtain ⟨ks, h1, h2, h3⟩ := tups_ks t
    obtain ⟨a, us, rfl, q, hu⟩ := h
    refine ⟨(a, x.l) :: ks, by rw [h1]; rfl, by rw [List.map_cons, List.map_cons, h2], fun p hp => ?_⟩
    rcases List.mem_cons.mp hp with rfl | hp
    · rw [← hu.ints]
      exact q
    · exact h3 p hp
theorem setT0_len {pins : List (Addr × Obj)} {σ : L2.St} {s : Shared} {a : Addr} {L : List (Addr × List Int)} {Q : VK} (I : Inv X pins σ H s) (R : SetT0 X.prog X.w s.heap a L) (q : (L.map (·.2)).Nodup → Q (.int (L.length : Nat)) H) :
    wpAny (model X.prog X.w) X.A (call (.builtin "len") [.ref a]) (EP X pins σ Q) X.xe s := by
  obtain ⟨es, ep, t, ⟨o, ho, hex, hd⟩, hr, ht, hn, _, _, _, hf⟩ := R.ex
  have hsz : es.size = L.length := by
    have h := congrArg List.length hr
    unfold rowsOf at h
    rw [Array.length_toList, List.length_map] at h
    exact h
  have hps : t.place.size = L.length := by
    have := ht.sz
    rw [List.length_map] at this
    exact this
  have hroom := R.ex
  obtain ⟨_, _, t', ⟨o', ho', _, hd'⟩, _, _, _, _, _, hm, _⟩ := hroom
  rw [ho] at ho'
  cases ho'
  rw [hd] at hd'
  cases hd'
  have hfit : t.fits es.size = true := by
    unfold SetTable.fits SetTable.fill
    rw [ht.dm, hps, hsz]
    simp
    omega
  exact call_len_set ho hex hd hfit (by rw [hsz]; omega) ⟨.int (L.length : Nat), H, I.tok _, ⟨_, by rw [hsz]⟩, q hn⟩
/-- set(xs) of tuples, then len of it -/
theorem cr_setT (hK : X.K = K) (hP : X.prog = P) (hw : X.w = w) (hc : X.calm = true) (hu : X.A.units + 64 < cLine) : CallR X (.type "set") (fun xs H Q => ∃ (ys : List (Tup Int)) (v : V), xs = [v] ∧ rep K H v ys ∧ ys.length < 64 ∧
    ∀ a L, H a = none → ((L.map (·.2)).Nodup → L.length = (nub ys).length) → Q (.ref a) (upd H a (SetTO P w a L))) := by
  subst hK hP hw
  intro pins s σ H xs us Q I r ⟨ys, v, e, hr, hl, q⟩
  obtain ⟨a, vs, rfl, hq, h⟩ := hr
  obtain ⟨ks, h1, h2, h3⟩ := tups_ks h
  subst h1
  have hks : ks.length = ys.length := by
    have := congrArg List.length h2
    simpa using this
  refine cr_setOfT hc hu pins s σ H xs us Q I r ⟨a, ks, e, SqL.of hq, fun p hp => SqT.of (h3 p hp), by omega, fun b L hb hsub hall => q b L hb fun hn => ?_⟩
  have key : (L.map (·.2)).length = ((nub ys).map (·.l)).length := by
    refine nodup_len hn ?_ fun y => ?_
    · have inj : ∀ x y : Tup Int, x.l = y.l → x = y := fun x y e => by cases x; cases y; simp at e; rw [e]
      refine List.Pairwise.map (R := (· ≠ ·)) _ (fun x y hxy e => hxy (inj x y e)) (nub_nodup ys)
    · constructor
      · intro hy
        obtain ⟨p, hp, rfl⟩ := List.mem_map.mp hy
        have h4 : p.2 ∈ ks.map (·.2) := List.mem_map.mpr ⟨p, hsub p hp, rfl⟩
        rw [h2] at h4
        obtain ⟨z, hz, e⟩ := List.mem_map.mp h4
        exact List.mem_map.mpr ⟨z, nub_mem.mpr hz, e⟩
      · intro hy
        obtain ⟨z, hz, rfl⟩ := List.mem_map.mp hy
        have h4 : z.l ∈ ks.map (·.2) := by
          rw [h2]
          exact List.mem_map.mpr ⟨z, nub_mem.mp hz, rfl⟩
        obtain ⟨p, hp, e⟩ := List.mem_map.mp h4
        rw [← e]
        exact hall p hp
  rw [List.length_map, List.length_map] at key
  exact key
theorem call_lenT (hP : X.prog = P) (hw : X.w = w) : CallR X (.builtin "len") (fun xs H Q => ∃ (a : Addr) (L : List (Addr × List Int)) (n : Nat), xs = [.ref a] ∧ H a = some (SetTO P w a L) ∧ ((L.map (·.2)).Nodup → L.length = n) ∧ Q (.int (n : Nat)) H) := by
  subst hP hw
  intro pins s σ H xs us Q I r ⟨a, L, n, e, ha, hn, q⟩
  subst e
  rw [Vals.ref1 r]
  have R : SetT0 X.prog X.w s.heap a L := (show ObjOk X.prog X.w H s.heap a (SetTO X.prog X.w a L) from I.hok a _ ha).1
  exact setT0_len I R fun nd => by rw [hn nd]; exact q
/-- isinstance of a plain value and a built-in class -/
theorem call_isB (hK : X.K = K) : CallR X (.builtin "isinstance") (fun xs H Q => ∃ (x : V) (a b : String) (r : Bool), xs = [x, .ty b] ∧ TyOf K H x (.type a) ∧ kitB a b = some r ∧ Q (.bl r) H) := by
  subst hK
  intro pins s σ H xs us Q I r ⟨x, a, b, c, e, h1, h2, q⟩
  exact call_isi pins s σ H xs us Q I r ⟨x, .ty b, .type a, .type b, c, e, .ty b, .base h1, kit_ty h2, q⟩
end
end Z
namespace Z
open PySem L2 PySem.Spec PyProof.Rows
open Rep (rep)
section
variable {α : Type}
/-- the first place of an item -/
def fidx [DecidableEq α] (y : α) : List α → Option Nat
  | [] => none
  | x :: xs => if x = y then some 0 else (fidx y xs).map (· + 1)
def idxR [DecidableEq α] (xs : List α) (y : α) : R Int := ofO ((fidx y xs).map fun j => ((j : Nat) : Int))
theorem fidx_spec [DecidableEq α] {y : α} : ∀ {xs : List α} {j : Nat}, fidx y xs = some j → xs[j]? = some y ∧ ∀ m z, m < j → xs[m]? = some z → z ≠ y
  | [], j, h => nomatch h
  | x :: xs, j, h => by
    unfold fidx at h
    by_cases e : x = y
    · rw [if_pos e] at h
      cases h
      subst e
      exact ⟨rfl, fun m z hm => absurd hm (Nat.not_lt_zero _)⟩
    · rw [if_neg e] at h
      cases q : fidx y xs with
      | none => rw [q] at h; cases h
      | some k =>
        rw [q] at h
        cases h
        obtain ⟨h1, h2⟩ := fidx_spec q
        refine ⟨by simpa using h1, fun m z hm hz => ?_⟩
        cases m with
        | zero =>
          simp at hz
          subst hz
          exact e
        | succ m => exact h2 m z (Nat.lt_of_succ_lt_succ hm) (by simpa using hz)
variable {δ : Type} {P : δ → Prop} {E : Exn → Prop}
theorem pb_idx [DecidableEq α] {xs : List α} {y : α} {f : Int → R δ} (h : Post (idxR xs y >>= f) P E) : ∃ j : Nat, fidx y xs = some j ∧ Post (f (j : Int)) P E := by
  unfold idxR at h
  cases q : fidx y xs with
  | none => rw [q] at h; exact (show False from h).elim
  | some j => rw [q] at h; exact ⟨j, rfl, h⟩
end
section
variable {X : Cx} {K : Fg} {F H : Hp}
theorem A2.strs {vs : List V} {xs : List Str} (h : A2 (rep K H) vs xs) : vs = xs.map V.str := by
  induction h with
  | nil => rfl
  | cons a _ ih =>
    have a' : _ = V.str _ := a
    rw [a', ih]
    rfl
theorem bools_q {a : Addr} {vs : List V} {xs : List Bool} (q : SqL K H a vs) (h : A2 (rep K F) vs xs) : SqL K H a (xs.map V.bl) := h.bools ▸ q
theorem strs_q {a : Addr} {vs : List V} {xs : List Str} (q : SqL K H a vs) (h : A2 (rep K F) vs xs) : SqL K H a (xs.map V.str) := h.strs ▸ q
theorem mt_indexS (hK : X.K = K) : MtR X "list.index" (fun x xs H Q => ∃ (a : Addr) (ys : List Str) (y : Str) (j : Nat), x = V.ref a ∧ xs = [.str y] ∧ SqL K H a (ys.map V.str) ∧ fidx y ys = some j ∧ Q (.int (j : Int)) H) := by
  subst hK
  intro pins s σ H x xs v us Q I rx rxs ⟨a, ys, y, j, e1, e2, hs, hj, q⟩
  obtain ⟨h1, h2⟩ := fidx_spec hj
  refine mt_index pins s σ H x xs v us Q I rx rxs ⟨a, _, .str y, j, .str y, e1, e2, hs, rfl, ?_, ?_, ?_, fun m z hm hz => ?_, q⟩
  · rw [List.all_eq_true]
    intro z hz
    obtain ⟨t, _, rfl⟩ := List.mem_map.mp hz
    rfl
  · rw [List.getElem?_map, h1]
    rfl
  · show (y == y) = true
    simp
  · rw [List.getElem?_map] at hz
    cases e : ys[m]? with
    | none => rw [e] at hz; cases hz
    | some t =>
      rw [e] at hz
      cases hz
      have := h2 m t hm e
      show (t == y) = false
      simpa using this
theorem mt_indexI (hK : X.K = K) : MtR X "list.index" (fun x xs H Q => ∃ (a : Addr) (ys : List Int) (y : Int) (j : Nat), x = V.ref a ∧ xs = [.int y] ∧ SqL K H a (ys.map V.int) ∧ fidx y ys = some j ∧ Q (.int (j : Int)) H) := by
  subst hK
  intro pins s σ H x xs v us Q I rx rxs ⟨a, ys, y, j, e1, e2, hs, hj, q⟩
  obtain ⟨h1, h2⟩ := fidx_spec hj
  refine mt_index pins s σ H x xs v us Q I rx rxs ⟨a, _, .int y, j, .int y, e1, e2, hs, rfl, ?_, ?_, ?_, fun m z hm hz => ?_, q⟩
  · rw [List.all_eq_true]
    intro z hz
    obtain ⟨t, _, rfl⟩ := List.mem_map.mp hz
    rfl
  · rw [List.getElem?_map, h1]
    rfl
  · show (y == y) = true
    simp
  · rw [List.getElem?_map] at hz
    cases e : ys[m]? with
    | none => rw [e] at hz; cases hz
    | some t =>
      rw [e] at hz
      cases hz
      have := h2 m t hm e
      show (t == y) = false
      simpa using this
theorem cr_allK (hK : X.K = K) (hc : X.calm = true) : CallR X (.builtin "all") (rAll K) := hK ▸ cr_all hc
theorem cr_anyK (hK : X.K = K) (hc : X.calm = true) : CallR X (.builtin "any") (rAny K) := hK ▸ cr_any hc
end
end Z
namespace HT
open PySem PySem.Spec PyProof.Rows
section
variable {prog : Program} {w : World} {A : Around} {E : Value → Shared → Prop} {s : Shared}
/-- t[::-1] of a tuple of two -/
theorem zrev_two {t sl : Addr} {x y vs : Value} {Q : Value → Shared → Prop} (ht : IsTup s.heap t #[x, y]) (hs : s.heap.IsSliceOf sl .none .none vs) (pl : IsPart .none none) (ps : IsPart vs (some (-1)))
    (h : Q (.ref s.heap.objs.size) { s with heap := s.heap.push { cls := .type "tuple", data := .seq #[y, x] } }) : wpAny (model prog w) A (getItem (.ref t) (.ref sl)) Q E s := by
  have htake : sizeOk (.seq #[y, x]) := by
    show 2 ≤ sizeLine
    decide
  obtain ⟨os, hos, hcs, hds⟩ := id hs
  have hTs : s.TypeIs (.ref sl) "slice" := ⟨os, hos, hcs⟩
  unfold getItem
  try with_reducible refine wpAny_holding ?_
  first | refine wpAny_bind (wpAny_pure ?_) | skip
  refine wpAny_bind (wpAny_sequenceKey ht.typeIs (by decide) ?_)
  refine wpAny_bind (wpAny_callSpecial?_slot (name := Str.ofString "__getitem__") ht.typeIs PyProof.Rows.slot_tuple_getitem
    (wpAny_call_entry PyProof.Rows.slot_tuple_getitem ht.typeIs entry_tuple_getitem ?_ (args_tuple_getitem _ _)))
  show wpAny _ _ (Builtin.Tuple.tupleItemsOf (.ref t) >>= _) _ _ s
  refine wpAny_bind (tupleItemsOf_ ht ?_)
  refine wpAny_bind (wpAny_typeOf hTs ?_)
  rw [if_pos (by decide)]
  have key : ∀ {A' : Around} {E' : Value → Shared → Prop} {R : Int × Int × Nat → Shared → Prop}, R ((1 : Int), -1, 2) s → wpAny (model prog w) A' (Builtin.Slice.sliceApplied (.ref sl) (pure (2 : Int))) R E' s := by
    intro A' E' R hR
    unfold Builtin.Slice.sliceApplied Builtin.Slice.sliceFields
    refine wpAny_bind (wpAny_bind (wpAny_field hos hds (x := .none) rfl (wpAny_bind (wpAny_field hos hds (x := .none) rfl (wpAny_bind (wpAny_field hos hds (x := vs) rfl (wpAny_pure ?_)))))))
    refine wpAny_bind (slicePart_ ps ?_)
    show wpAny _ _ (if ((-1 : Int) == 0) = true then _ else _) _ _ s
    rw [if_neg (by decide)]
    refine wpAny_bind (slicePart_ pl (wpAny_bind (slicePart_ pl (wpAny_bind (wpAny_pure ?_)))))
    show wpAny _ _ (match Builtin.Slice.sliceAdjust none none (-1) (2 : Int) with | (lo, hi) => pure (lo, (-1 : Int), Builtin.Slice.slicePlaces lo hi (-1))) _ _ s
    exact wpAny_pure hR
  refine wpAny_bind (key ?_)
  show wpAny _ _ (if ((1 : Int) == 0 && (-1 : Int) == 1 && (2 : Nat) == 2) = true then _ else _) _ _ s
  rw [if_neg (by decide)]
  first
    | exact wpAny_bind (m := Builtin.Tuple.tupleExact _) (wpAny_newObj_type (wpAny_pure ⟨_, rfl, wpAny_pure h⟩) htake)
    | exact wpAny_bind (m := Builtin.Tuple.tupleExact _) (wpAny_newObj_type (wpAny_bind (wpAny_pure (wpAny_pure ⟨_, rfl, wpAny_pure h⟩))) htake)
    | exact wpAny_bind (wpAny_bind (m := Builtin.Tuple.tupleExact _) (wpAny_newObj_type (wpAny_pure (wpAny_pure ⟨_, rfl, wpAny_pure h⟩)) htake))
    | exact wpAny_bind (wpAny_bind (m := Builtin.Tuple.tupleExact _) (wpAny_newObj_type (wpAny_pure ⟨_, rfl, wpAny_pure h⟩) htake))
end
end HT
namespace Z
open PySem L2 PySem.Spec PyProof.Rows
open Rep (rep)
section
variable {X : Cx} {K : Fg} {F H : Hp}
def tRev2 (te : TE) : TE := fun σ H Q => te σ H fun x H1 => ∃ a u w, x = .ref a ∧ H1 a = some (.tup [u, w]) ∧ ∀ p, H1 p = none → Q (.ref p) (upd H1 p (.tup [w, u]))
theorem pe_rev2 {e : Expr} {te : TE} {k : Nat} {p1 p2 p3 pos : Pos} (he : PE X e te) : PE X (.Subscript e (.Slice none none (some (.UnaryOp .USub (.Constant (.int 1) k p1) p2)) p3) pos) (tRev2 te) := by
  refine ⟨fun pins s σ H Q I h => ?_⟩
  refine Subscript_ (thn (he.run pins s σ H _ I h) fun v s1 ⟨x, H1, I1, r1, q1⟩ => ?_)
  obtain ⟨a, c, d, ex, hx, q⟩ := q1
  subst ex
  cases r1
  have hst : PO X (some (.UnaryOp .USub (.Constant (.int 1) k p1) p2)) (tPart (tUn (rU fun i => .int (-i)) (tC (.int 1)))) := po_some (pe_un un_neg pe_int)
  refine wpAny_Slice (thn (po_none.run pins s1 σ H1 (fun o H2 => o = none ∧ H2 = H1) I1 ⟨rfl, rfl⟩) fun vl s2 ⟨l, H2, I2, pl, el, e2⟩ => ?_)
  subst el e2
  refine thn (po_none.run pins s2 σ H2 (fun o H3 => o = none ∧ H3 = H2) I2 ⟨rfl, rfl⟩) fun vu s3 ⟨u, H3, I3, pu, eu, e3⟩ => ?_
  subst eu e3
  refine thn (hst.run pins s3 σ H3 (fun o H4 => o = some (-1) ∧ H4 = H3) I3 ⟨1, rfl, -1, rfl, rfl, rfl⟩) fun vs s4 ⟨o, H4, I4, ps, eo, e4⟩ => ?_
  subst eo e4
  have I5 : Inv X pins σ H4 { s4 with heap := s4.heap.push { cls := .type "slice", data := .fields #[vl, vu, vs] } } := I4.kept (t' := s4.toks) fun b ob q => Heap.get?_push_of_some _ q
  obtain ⟨its, r, ht, hz⟩ := I5.tuple (SqT.of hx)
  cases r with
  | cons r1 r' =>
    rename_i uu us
    cases r' with
    | cons r2 r'' =>
      rename_i ww ws
      cases r''
      cases pl
      cases pu
      show wpAny (model X.prog X.w) X.A (subscriptTail e (.Slice none none (some (.UnaryOp .USub (.Constant (.int 1) k p1) p2)) p3) (.ref a) (.ref s4.heap.objs.size)) (EP X pins σ Q) X.xe { s4 with heap := s4.heap.push { cls := .type "slice", data := .fields #[.none, .none, vs] } }
      refine tail_any (ops := [.ref a, .ref s4.heap.objs.size]) ht.typeIs (PyProof.Rows.slot_tuple_getitem.lookup) ?_ (by with_unfolding_all rfl)
      refine HT.zrev_two ht (Heap.IsSliceOf.new _ .none .none vs) .none ps ?_
      exact ⟨.ref _, _, I5.laid (t' := s4.toks) (o := .tup [d, c]) (fun b ob q => Heap.get?_push_of_some _ q) (Nat.le_refl _) ⟨by show 2 ≤ sizeLine; decide, [ww, uu], .cons r2 (.cons r1 .nil), IsTup.new _ _⟩, rfl, q _ (I5.hok.fresh (Nat.le_refl _))⟩
/-- two things turned about -/
def rev2 {α : Type} (xs : List α) : R (List α) := match xs with
  | [x, y] => .ok [y, x]
  | _ => .bad
theorem pb_rev2 {α δ : Type} {xs : List α} {f : List α → R δ} {P : δ → Prop} {E : Exn → Prop} (h : Post (rev2 xs >>= f) P E) : ∃ x y, xs = [x, y] ∧ Post (f [y, x]) P E := by
  cases xs with
  | nil => exact (show False from h).elim
  | cons x xs =>
    cases xs with
    | nil => exact (show False from h).elim
    | cons y xs =>
      cases xs with
      | nil => exact ⟨x, y, rfl, h⟩
      | cons z xs => exact (show False from h).elim
theorem A2.two {α : Type} {r : V → α → Prop} {vs : List V} {x y : α} (h : A2 r vs [x, y]) : ∃ u w, vs = [u, w] ∧ r u x ∧ r w y := by
  cases h with
  | cons a t =>
    cases t with
    | cons b t =>
      cases t
      exact ⟨_, _, rfl, a, b⟩
/-- xs * k -/
def repL {α : Type} (xs : List α) (k : Int) : List α := (List.replicate k.toNat xs).flatten
def repR {α : Type} (xs : List α) (k : Int) : R (List α) := if -(2 ^ 62) ≤ k ∧ k < 2 ^ 62 ∧ xs.length * k.toNat < 100000 then .ok (repL xs k) else .bad
theorem pb_rep {α δ : Type} {xs : List α} {k : Int} {f : List α → R δ} {P : δ → Prop} {E : Exn → Prop} (h : Post (repR xs k >>= f) P E) : ∃ ys, (-(2 ^ 63) ≤ k ∧ k < 2 ^ 63 ∧ xs.length * k.toNat ≤ sizeLine) ∧ ys = repL xs k ∧ Post (f ys) P E := by
  obtain ⟨⟨a, b, c⟩, d⟩ := pb_if h
  exact ⟨_, ⟨by omega, by omega, Nat.le_of_lt (Nat.lt_of_lt_of_le c line5)⟩, rfl, d⟩
theorem A2.flat {α : Type} {r : V → α → Prop} {vs : List V} {xs : List α} (h : A2 r vs xs) (n : Nat) : A2 r (List.replicate n vs).flatten (List.replicate n xs).flatten := by
  induction n with
  | zero => exact .nil
  | succ n ih =>
    rw [List.replicate_succ, List.replicate_succ, List.flatten_cons, List.flatten_cons]
    exact h.append ih
/-! ### None -/
class NonN (α : Type) extends Rep α where
  no : ∀ {K : Fg} {H : Hp} {v : V} {x : α}, rep K H v x → v ≠ .non
instance : NonN Int := ⟨fun h e => by have h' : _ = V.int _ := h; rw [h'] at e; cases e⟩
instance : NonN Bool := ⟨fun h e => by have h' : _ = V.bl _ := h; rw [h'] at e; cases e⟩
instance {α β : Type} [Rep α] [Rep β] : NonN (α × β) := ⟨fun {K H v x} h q => by
  obtain ⟨a, u, w, e, _⟩ := h
  rw [e] at q
  cases q⟩
instance {α : Type} [Rep α] : NonN (List α) := ⟨fun {K H v x} h q => by
  obtain ⟨a, u, e, _⟩ := h
  rw [e] at q
  cases q⟩
instance {α : Type} [Rep α] : NonN (Tup α) := ⟨fun {K H v x} h q => by
  obtain ⟨a, u, e, _⟩ := h
  rw [e] at q
  cases q⟩
theorem isN_eq {α : Type} [NonN α] {v : V} {o : Option α} (h : rep K F v o) : decide (v = .non) = o.isNone := by
  cases o with
  | none =>
    have h' : v = V.non := h
    rw [h']
    rfl
  | some x => exact decide_eq_false (NonN.no (α := α) h)
theorem op_isN2 : OpR X (compareOp .Is) (fun x y H Q => y = V.non ∧ ∃ b, decide (x = .non) = b ∧ Q (.bl b) H) := by
  intro pins s σ H x y v u Q I rx ry ⟨e, b, hb, q⟩
  exact op_isN pins s σ H x y v u Q I rx ry ⟨e, by rw [hb]; exact q⟩
theorem op_notN2 : OpR X (compareOp .IsNot) (fun x y H Q => y = V.non ∧ ∃ b, decide (x = .non) = b ∧ Q (.bl (!b)) H) := by
  intro pins s σ H x y v u Q I rx ry ⟨e, b, hb, q⟩
  exact op_notN pins s σ H x y v u Q I rx ry ⟨e, by rw [hb]; exact q⟩
instance datOptBool : Dat (Option Bool) where
  toD := fun x => match x with
    | none => .none
    | some i => .bool i
  dmax := 0
  dp := fun {K H v x} h => by
    cases x with
    | none =>
      have h' : v = V.non := h
      subst h'
      exact .non
    | some i =>
      have h' : v = V.bl i := h
      subst h'
      exact .bl _
  lay := fun x => by cases x <;> simp only [PyData.canLay0]
  dep := fun x => by cases x <;> simp only [PyData.depth, Nat.le_refl]
  eqv := fun x y => by cases x <;> cases y <;> simp [PyData.eqv]
end
end Z
/-! ZM: lemmas about mirrors -/
namespace Z
open PySem L2
section
variable {α β γ : Type}
theorem foldR_inv {f : β → α → R β} (I : β → Prop) : ∀ {xs : List α} {s : β}, I s → (∀ s x, I s → x ∈ xs → ∃ s', f s x = R.ok s' ∧ I s') → ∃ s', foldR f s xs = R.ok s' ∧ I s'
  | [], s, h, _ => ⟨s, rfl, h⟩
  | x :: xs, s, h, hf => by
    obtain ⟨s', e, h'⟩ := hf s x h List.mem_cons_self
    obtain ⟨s2, e2, h2⟩ := foldR_inv I (xs := xs) (s := s') h' fun s y hs hy => hf s y hs (List.mem_cons_of_mem _ hy)
    exact ⟨s2, by show (f s x >>= fun s' => foldR f s' xs) = _; rw [e]; exact e2, h2⟩
/-- with how many items are gone through -/
theorem foldR_invN {f : β → α → R β} (I : Nat → β → Prop) : ∀ {xs : List α} {n : Nat} {s : β}, I n s → (∀ n s x, I n s → x ∈ xs → ∃ s', f s x = R.ok s' ∧ I (n + 1) s') → ∃ s', foldR f s xs = R.ok s' ∧ I (n + xs.length) s'
  | [], n, s, h, _ => ⟨s, rfl, h⟩
  | x :: xs, n, s, h, hf => by
    obtain ⟨s', e, h'⟩ := hf n s x h List.mem_cons_self
    obtain ⟨s2, e2, h2⟩ := foldR_invN I (xs := xs) (n := n + 1) (s := s') h' fun n s y hs hy => hf n s y hs (List.mem_cons_of_mem _ hy)
    refine ⟨s2, by show (f s x >>= fun s' => foldR f s' xs) = _; rw [e]; exact e2, ?_⟩
    rw [List.length_cons, show n + (xs.length + 1) = n + 1 + xs.length by omega]
    exact h2
theorem foldX_inv {ρ : Type} {f : β → α → R (Sum ρ (Bool × β))} (I : β → Prop) : ∀ {xs : List α} {s : β}, I s → (∀ s x, I s → x ∈ xs → ∃ s', f s x = R.ok (.inr (true, s')) ∧ I s') → ∃ s', foldX f s xs = R.ok (.inr s') ∧ I s'
  | [], s, h, _ => ⟨s, rfl, h⟩
  | x :: xs, s, h, hf => by
    obtain ⟨s', e, h'⟩ := hf s x h List.mem_cons_self
    obtain ⟨s2, e2, h2⟩ := foldX_inv I (xs := xs) (s := s') h' fun s y hs hy => hf s y hs (List.mem_cons_of_mem _ hy)
    refine ⟨s2, ?_, h2⟩
    show (f s x >>= fun r => match r with
      | .inl z => R.ok (.inl z)
      | .inr (true, s') => foldX f s' xs
      | .inr (false, s') => R.ok (.inr s')) = _
    rw [e]
    exact e2
/-- a search that never ends the whole -/
theorem foldX_unit {ρ : Type} {f : Unit → α → R (Sum ρ (Bool × Unit))} {xs : List α} (hf : ∀ x ∈ xs, f () x = R.ok (.inr (true, ()))) : foldX f () xs = R.ok (.inr ()) := by
  obtain ⟨s, e, _⟩ := foldX_inv (fun _ => True) (f := f) (xs := xs) (s := ()) trivial fun s x _ hx => ⟨(), hf x hx, trivial⟩
  exact e
theorem mapR_ok {f : α → R β} {g : α → β} : ∀ {xs : List α}, (∀ x ∈ xs, f x = R.ok (g x)) → mapR f xs = R.ok (xs.map g)
  | [], _ => rfl
  | x :: xs, h => by
    show (f x >>= fun y => mapR f xs >>= fun ys => R.ok (y :: ys)) = _
    rw [h x List.mem_cons_self, mapR_ok fun y hy => h y (List.mem_cons_of_mem _ hy)]
    rfl
theorem mapG_ok {f : α → R β} {g : α → β} {xs : List α} (hl : xs.length < 100000) (h : ∀ x ∈ xs, f x = R.ok (g x)) : mapG f xs = R.ok (xs.map g) := by
  unfold mapG
  rw [grd_t (decide_eq_true hl)]
  exact mapR_ok h
theorem mapR_ex {f : α → R β} (p : β → Prop) : ∀ {xs : List α}, (∀ x ∈ xs, ∃ y, f x = R.ok y ∧ p y) → ∃ ys, mapR f xs = R.ok ys ∧ ys.length = xs.length ∧ ∀ y ∈ ys, p y
  | [], _ => ⟨[], rfl, rfl, fun _ h => nomatch h⟩
  | x :: xs, h => by
    obtain ⟨y, e, hy⟩ := h x List.mem_cons_self
    obtain ⟨ys, e2, hl, hp⟩ := mapR_ex p fun y hy => h y (List.mem_cons_of_mem _ hy)
    refine ⟨y :: ys, ?_, by rw [List.length_cons, List.length_cons, hl], fun z hz => ?_⟩
    · show (f x >>= fun y => mapR f xs >>= fun ys => R.ok (y :: ys)) = _
      rw [e, e2]
      rfl
    · rcases List.mem_cons.mp hz with rfl | hz
      · exact hy
      · exact hp z hz
theorem mapG_ex {f : α → R β} (p : β → Prop) {xs : List α} (hl : xs.length < 100000) (h : ∀ x ∈ xs, ∃ y, f x = R.ok y ∧ p y) : ∃ ys, mapG f xs = R.ok ys ∧ ys.length = xs.length ∧ ∀ y ∈ ys, p y := by
  unfold mapG
  rw [grd_t (decide_eq_true hl)]
  exact mapR_ex p h
theorem filR_ok {f : α → R (Option β)} {g : α → Option β} : ∀ {xs : List α}, (∀ x ∈ xs, f x = R.ok (g x)) → filR f xs = R.ok (xs.filterMap g)
  | [], _ => rfl
  | x :: xs, h => by
    show (f x >>= fun o => filR f xs >>= fun ys => match o with
      | some y => R.ok (y :: ys)
      | none => R.ok ys) = _
    rw [h x List.mem_cons_self, filR_ok fun y hy => h y (List.mem_cons_of_mem _ hy)]
    show (match g x with
      | some y => R.ok (y :: xs.filterMap g)
      | none => R.ok (xs.filterMap g)) = R.ok ((x :: xs).filterMap g)
    rw [List.filterMap_cons]
    cases g x <;> rfl
theorem filG_ok {f : α → R (Option β)} {g : α → Option β} {xs : List α} (hl : xs.length < 100000) (h : ∀ x ∈ xs, f x = R.ok (g x)) : filG f xs = R.ok (xs.filterMap g) := by
  unfold filG
  rw [grd_t (decide_eq_true hl)]
  exact filR_ok h
theorem getI_nat {xs : List α} {i : Int} (h0 : 0 ≤ i) (h1 : i < xs.length) : ∃ x, getI xs i = R.ok x ∧ x ∈ xs ∧ xs[i.toNat]? = some x := by
  have hj : i.toNat < xs.length := by omega
  refine ⟨xs[i.toNat], ?_, List.getElem_mem hj, List.getElem?_eq_getElem hj⟩
  unfold getI
  have e : atI xs i = some xs[i.toNat] := by
    have := atI_nat (xs := xs) (j := i.toNat) (v := xs[i.toNat]) (List.getElem?_eq_getElem hj)
    rw [Int.toNat_of_nonneg h0] at this
    exact this
  rw [e]
  rfl
theorem getI_eq {xs : List α} {i : Int} {x : α} (h0 : 0 ≤ i) (h : xs[i.toNat]? = some x) : getI xs i = R.ok x := by
  have h1 := (List.getElem?_eq_some_iff.mp h).1
  obtain ⟨y, e, _, e2⟩ := getI_nat (xs := xs) (i := i) h0 (by omega)
  rw [h] at e2
  cases e2
  exact e
theorem getI_last {xs : List α} (x : α) : getI (xs ++ [x]) (-1) = R.ok x := by
  unfold getI
  rw [atI_last]
  rfl
theorem setI_nat {xs : List α} {i : Int} {x : α} (h0 : 0 ≤ i) (h1 : i < xs.length) : setI xs i x = R.ok (xs.set i.toNat x) := by
  have e : ixN xs.length i = some i.toNat := by
    unfold ixN
    rw [if_pos h0, if_pos h1]
  unfold setI
  rw [e]
theorem app_ok {xs : List α} {x : α} (h : xs.length < 100000) : app xs x = R.ok (xs ++ [x]) := by
  unfold app
  rw [if_pos h]
theorem extend_ok {xs ys : List α} (h : xs.length + ys.length < 100000) : extend xs ys = R.ok (xs ++ ys) := by
  unfold extend
  rw [if_pos h]
theorem modI_ok {i j : Int} (h : 0 < j) : modI i j = R.ok (i % j) := by
  unfold modI
  rw [if_pos h]
theorem divI_ok {i j : Int} (h : 0 < j) (h2 : j < 1073741824) : divI i j = R.ok (i / j) := by
  unfold divI
  rw [if_pos ⟨h, h2⟩]
theorem mulI_ok {i j : Int} (h : (-(2 ^ 64) < i ∧ i < 2 ^ 64) ∨ (-(2 ^ 64) < j ∧ j < 2 ^ 64)) : mulI i j = R.ok (i * j) := by
  unfold mulI
  rw [if_pos h]
theorem rngI_ok {i j : Int} (h1 : -(2 ^ 62) ≤ i) (h2 : i < 2 ^ 62) (h3 : -(2 ^ 62) ≤ j) (h4 : j < 2 ^ 62) : rngI i j = R.ok (rng i j) := by
  unfold rngI
  rw [if_pos ⟨h1, h2, h3, h4⟩]
theorem rng_mem {i j k : Int} : k ∈ rng i j ↔ i ≤ k ∧ k < j := by
  unfold rng
  rw [List.mem_map]
  constructor
  · rintro ⟨n, hn, rfl⟩
    have := List.mem_range.mp hn
    omega
  · intro h
    exact ⟨(k - i).toNat, List.mem_range.mpr (by omega), by omega⟩
/-! ### what holds of a result, step by step -/
section
variable {P Q : α → Prop} {S : β → Prop} {X : Exn → Prop}
theorem po_bind {m : R α} {k : α → R β} (h : Post m Q X) (hk : ∀ a, Q a → Post (k a) S X) : Post (m >>= k) S X := by
  cases m with
  | ok a => exact hk a h
  | exc e => exact h
  | bad => exact h
theorem po_ok {a : α} (h : P a) : Post (R.ok a) P X := h
theorem po_eq {m : R α} {a : α} (h : m = R.ok a) (hp : P a) : Post m P X := by
  rw [h]
  exact hp
theorem po_if {c : Prop} [Decidable c] {m n : R α} (h1 : c → Post m P X) (h2 : ¬ c → Post n P X) : Post (if c then m else n) P X := by
  by_cases h : c
  · rw [if_pos h]
    exact h1 h
  · rw [if_neg h]
    exact h2 h
theorem po_ex {m : R α} (h : Post m P noX) : ∃ a, m = R.ok a ∧ P a := by
  cases m with
  | ok a => exact ⟨a, rfl, h⟩
  | exc e => exact (show False from h).elim
  | bad => exact (show False from h).elim
theorem po_iff {m : R α} {a : α} (h : Post m (· = a) noX) : m = R.ok a := by
  obtain ⟨b, e, rfl⟩ := po_ex h
  exact e
theorem po_grd {b : Bool} {k : Unit → R β} (h : b = true) (hk : Post (k ()) S X) : Post (grd b >>= k) S X := by
  rw [grd_t h]
  exact hk
theorem po_get {xs : List α} {i : Int} {k : α → R β} (h0 : 0 ≤ i) (h1 : i < xs.length) (hk : ∀ x, x ∈ xs → xs[i.toNat]? = some x → Post (k x) S X) : Post (getI xs i >>= k) S X := by
  obtain ⟨x, e, h2, h3⟩ := getI_nat h0 h1
  rw [e]
  exact hk x h2 h3
theorem po_getE {xs : List α} {i : Int} {x : α} {k : α → R β} (h : getI xs i = R.ok x) (hk : Post (k x) S X) : Post (getI xs i >>= k) S X := by
  rw [h]
  exact hk
theorem po_last {xs : List α} {k : α → R β} (h : xs ≠ []) (hk : ∀ x, x ∈ xs → Post (k x) S X) : Post (getI xs (-1) >>= k) S X := by
  obtain ⟨ys, y, rfl⟩ : ∃ ys y, xs = ys ++ [y] := ⟨xs.dropLast, xs.getLast h, (List.dropLast_concat_getLast h).symm⟩
  rw [getI_last]
  exact hk y (List.mem_append_right _ List.mem_cons_self)
theorem po_set {xs : List α} {i : Int} {x : α} {k : List α → R β} (h0 : 0 ≤ i) (h1 : i < xs.length) (hk : Post (k (xs.set i.toNat x)) S X) : Post (setI xs i x >>= k) S X := by
  rw [setI_nat h0 h1]
  exact hk
theorem po_app {xs : List α} {x : α} {k : List α → R β} (h : xs.length < 100000) (hk : Post (k (xs ++ [x])) S X) : Post (app xs x >>= k) S X := by
  rw [app_ok h]
  exact hk
theorem po_extend {xs ys : List α} {k : List α → R β} (h : xs.length + ys.length < 100000) (hk : Post (k (xs ++ ys)) S X) : Post (extend xs ys >>= k) S X := by
  rw [extend_ok h]
  exact hk
theorem po_mod {i j : Int} {k : Int → R β} (h : 0 < j) (hk : 0 ≤ i % j → i % j < j → Post (k (i % j)) S X) : Post (modI i j >>= k) S X := by
  rw [modI_ok h]
  exact hk (Int.emod_nonneg _ (by omega)) (Int.emod_lt_of_pos _ h)
theorem po_div {i j : Int} {k : Int → R β} (h : 0 < j) (h2 : j < 1073741824) (hk : Post (k (i / j)) S X) : Post (divI i j >>= k) S X := by
  rw [divI_ok h h2]
  exact hk
theorem po_mul {i j : Int} {k : Int → R β} (h : (-(2 ^ 64) < i ∧ i < 2 ^ 64) ∨ (-(2 ^ 64) < j ∧ j < 2 ^ 64)) (hk : Post (k (i * j)) S X) : Post (mulI i j >>= k) S X := by
  rw [mulI_ok h]
  exact hk
theorem po_rng {i j : Int} {k : List Int → R β} (h1 : -(2 ^ 62) ≤ i) (h2 : i < 2 ^ 62) (h3 : -(2 ^ 62) ≤ j) (h4 : j < 2 ^ 62) (hk : Post (k (rng i j)) S X) : Post (rngI i j >>= k) S X := by
  rw [rngI_ok h1 h2 h3 h4]
  exact hk
theorem po_fold {f : β → α → R β} {s : β} {xs : List α} (I : β → Prop) (h0 : I s) (hf : ∀ s x, I s → x ∈ xs → Post (f s x) I X) : Post (foldR f s xs) I X := by
  induction xs generalizing s with
  | nil => exact h0
  | cons x xs ih =>
    show Post (f s x >>= fun s' => foldR f s' xs) I X
    exact po_bind (hf s x h0 List.mem_cons_self) fun s' h' => ih h' fun s y hs hy => hf s y hs (List.mem_cons_of_mem _ hy)
/-- .. with the number of turns gone -/
theorem po_foldN {f : β → α → R β} {s : β} {xs : List α} (I : Nat → β → Prop) (h0 : I 0 s) (hf : ∀ n s x, n < xs.length → I n s → xs[n]? = some x → Post (f s x) (I (n + 1)) X) : Post (foldR f s xs) (I xs.length) X := by
  have key : ∀ (l : List α) (n : Nat) (s : β), xs.drop n = l → n ≤ xs.length → I n s → Post (foldR f s l) (I xs.length) X := by
    intro l
    induction l with
    | nil =>
      intro n s e hn h
      have : xs.length ≤ n := by
        have := congrArg List.length e
        rw [List.length_drop, List.length_nil] at this
        omega
      rw [show xs.length = n by omega]
      exact h
    | cons x l ih =>
      intro n s e hn h
      have hlt : n < xs.length := by
        have := congrArg List.length e
        rw [List.length_drop, List.length_cons] at this
        omega
      have e1 : xs[n] :: xs.drop (n + 1) = x :: l := (List.drop_eq_getElem_cons hlt).symm.trans e
      injection e1 with e2 e3
      show Post (f s x >>= fun s' => foldR f s' l) _ X
      exact po_bind (hf n s x hlt h (by rw [List.getElem?_eq_getElem hlt, e2])) fun s' h' => ih (n + 1) s' e3 (by omega) h'
  exact key xs 0 s rfl (Nat.zero_le _) h0
theorem po_foldX {ρ : Type} {f : β → α → R (Sum ρ (Bool × β))} {s : β} {xs : List α} (I : β → Prop) (h0 : I s) (hf : ∀ s x, I s → x ∈ xs → Post (f s x) (fun r => ∃ s', r = .inr (true, s') ∧ I s') X) : Post (foldX f s xs) (fun r => ∃ s', r = .inr s' ∧ I s') X := by
  induction xs generalizing s with
  | nil => exact ⟨s, rfl, h0⟩
  | cons x xs ih =>
    refine po_bind (S := fun r => ∃ s', r = Sum.inr s' ∧ I s') (k := fun r => match r with
      | .inl z => (R.ok (.inl z) : R (Sum ρ β))
      | .inr (true, s') => foldX f s' xs
      | .inr (false, s') => R.ok (.inr s')) (hf s x h0 List.mem_cons_self) fun r hr => ?_
    obtain ⟨s', rfl, h'⟩ := hr
    exact ih h' fun s y hs hy => hf s y hs (List.mem_cons_of_mem _ hy)
theorem po_mapG {f : α → R β} {xs : List α} (p : β → Prop) (hl : xs.length < 100000) (hf : ∀ x ∈ xs, Post (f x) p X) : Post (mapG f xs) (fun ys => ys.length = xs.length ∧ ∀ y ∈ ys, p y) X := by
  unfold mapG
  rw [grd_t (decide_eq_true hl)]
  show Post (mapR f xs) _ X
  clear hl
  induction xs with
  | nil => exact ⟨rfl, fun _ h => nomatch h⟩
  | cons x xs ih =>
    show Post (f x >>= fun y => mapR f xs >>= fun ys => R.ok (y :: ys)) _ X
    refine po_bind (hf x List.mem_cons_self) fun y hy => po_bind (ih fun z hz => hf z (List.mem_cons_of_mem _ hz)) fun ys ⟨h1, h2⟩ => ?_
    refine ⟨by rw [List.length_cons, List.length_cons, h1], fun z hz => ?_⟩
    rcases List.mem_cons.mp hz with rfl | hz
    · exact hy
    · exact h2 z hz
end
theorem cut_head (xs : List α) : cutL xs none (some 1) = xs.take 1 := by
  unfold cutL
  have e : HT.sIx xs.length xs.length (some 1) = min 1 xs.length := HT.sIx_nat xs.length xs.length 1
  have e0 : HT.sIx xs.length 0 none = 0 := rfl
  rw [e, e0, List.drop_zero]
  cases xs with
  | nil => rfl
  | cons x xs => simp
theorem cut_last (xs : List α) : cutL xs (some (-1)) none = xs.drop (xs.length - 1) := by
  unfold cutL
  have e : HT.sIx xs.length 0 (some (-1)) = xs.length - 1 := by
    unfold HT.sIx
    simp only [show ((-1 : Int) < 0) = True from eq_true (by decide), if_true]
    omega
  have e0 : HT.sIx xs.length xs.length none = xs.length := rfl
  rw [e, e0]
  refine List.take_of_length_le ?_
  rw [List.length_drop]
  exact Nat.le_refl _
end
end Z
namespace G
open PySem L2 Z
open Rep (rep)
def top (i : Nat) : Stmt := PySem.Challenge.pw_farhail_k32_grids_known_at_once.main.body.getD i (.Pass ⟨0, 0, 0, 0⟩)
abbrev s_side_number : Stmt := top 1
abbrev s_grid_known : Stmt := top 2
abbrev s_law_cell_at : Stmt := top 4
abbrev s_law_folded : Stmt := top 5
abbrev s_law_state : Stmt := top 6
abbrev s_law_next : Stmt := top 7
abbrev s_law_great : Stmt := top 8
abbrev s_law_spot : Stmt := top 9
abbrev s_law_two : Stmt := top 10
abbrev s_law_unlike : Stmt := top 11
abbrev s_law_words : Stmt := top 12
abbrev s_law_told : Stmt := top 13
abbrev s_law : Stmt := top 14
/-! ### the mirrors -/
/-! side_number -/
def side_number (x_sizes : (Tup Int)) (x_one : (Tup Int)) (x_other : (Tup Int)) : R (Option Int) := do
  let r4 ← foldX (fun (g4 : Unit) (b4 : Int) => do
      let t5 ← getI x_sizes.l ((1 : Int) - b4)
      let j6 ← (do
        let t7 ← getI x_one.l b4
        let t8 ← getI x_other.l b4
        if (decide (t7 = t8)) = true then do
          let t10 ← getI x_one.l b4
          let t11 ← getI x_sizes.l b4
          R.ok (decide (t10 ∈ (Tup.mk [(0 : Int), (t11 - (1 : Int))] : (Tup Int)).l))
        else do
          R.ok false : R (Bool))
      if j6 = true then do
        let t17 ← getI x_one.l ((1 : Int) - b4)
        let t18 ← getI x_other.l ((1 : Int) - b4)
        if (decide ((sortI ([t17, t18] : (List Int))) = ([(0 : Int), (t5 - (1 : Int))] : (List Int)))) = true then do
          R.ok (.inl (some b4))
        else do
          R.ok (.inr (true, ()))
      else do
        R.ok (.inr (true, ()))) () (rng 0 (2 : Int))
  match r4 with
  | .inl z => R.ok z
  | .inr g4 => do
    R.ok none
/-! grid_known -/
def grid_known (x_wide : Int) (x_high : Int) (x_one : (Tup Int)) (x_other : (Tup Int)) : R Bool := do
  let y5 ← side_number (Tup.mk [x_wide, x_high] : (Tup Int)) x_one x_other
  R.ok (!y5.isNone)
/-! _law_cell_at -/
def law_cell_at (x_script : Scr) (x_k : Int) : R Int := do
  if (decide (x_k < (x_script.l.length : Int))) = true then do
    let t3 ← getI x_script.l x_k
    R.ok t3
  else do
    let g4 ← (do
      if (!decide (x_script = (⟨([] : (List Int))⟩ : Scr))) = true then do
        let t9 ← modI x_k (x_script.l.length : Int)
        let t10 ← getI x_script.l t9
        R.ok (t10 % (1000003 : Int))
      else do
        R.ok (0 : Int) : R (Int))
    R.ok ((g4 + ((104729 : Int) * x_k)) + (13 : Int))
/-! _law_folded -/
def law_folded (x_script : Scr) (x_many : Int) : R (List Int) := do
  let l2 ← rngI 0 x_many
  let l3 ← mapG (fun (b3 : Int) => do
      let y5 ← law_cell_at x_script b3
      R.ok y5) l2
  let l8 ← rngI x_many (x_script.l.length : Int)
  let g7 ← foldR (fun (g7 : (List Int)) (b7 : Int) => do
      let t9 ← modI b7 x_many
      let t10 ← getI g7 t9
      let t14 ← getI x_script.l b7
      let l17 ← setI g7 t9 ((((t10 % ((10 : Int) ^ ((60 : Int) : Int).toNat)) * (48271 : Int)) + t14) % (((10 : Int) ^ ((60 : Int) : Int).toNat) + (7 : Int)))
      R.ok l17) l3 l8
  R.ok g7
/-! _law_state -/
def law_state (x_cell : Int) : R (List Int) := do
  let g1 ← (do
    if (decide (((10 : Int) ^ ((18 : Int) : Int).toNat) ≤ x_cell)) = true then do
      R.ok x_cell
    else do
      R.ok (0 : Int) : R (Int))
  R.ok ([g1, ((((x_cell % (2147483629 : Int)) + (11 : Int)) * (48271 : Int)) % (2147483647 : Int))] : (List Int))
/-! _law_next -/
def law_next (x_state : (List Int)) (x_many : Int) : R (Int × (List Int)) := do
  let t2 ← getI x_state (0 : Int)
  if (decide ((0 : Int) < t2)) = true then do
    let t4 ← getI x_state (0 : Int)
    let t5 ← modI t4 x_many
    let t6 ← getI x_state (0 : Int)
    let t7 ← divI t6 x_many
    let l8 ← setI x_state (0 : Int) t7
    R.ok (t5, l8)
  else do
    let t10 ← getI x_state (1 : Int)
    let l13 ← setI x_state (1 : Int) (((t10 * (69621 : Int)) + (40692 : Int)) % (2147483647 : Int))
    let t15 ← getI l13 (1 : Int)
    let t16 ← getI l13 (1 : Int)
    let t17 ← mulI t15 t16
    let t20 ← modI ((t17 % (2147483629 : Int)) / (8 : Int)) x_many
    R.ok (t20, l13)
/-! _law_great -/
def law_great (x_state : (List Int)) (x_top : Int) : R (Int × (List Int)) := do
  let g2 ← foldR (fun (g2 : Int × (List Int)) (b2 : Int) => do
      let y6 ← law_next g2.2 ((2 : Int) ^ ((24 : Int) : Int).toNat)
      R.ok (((g2.1 * ((2 : Int) ^ ((24 : Int) : Int).toNat)) + y6.1), y6.2)) ((0 : Int), x_state) (rng 0 (9 : Int))
  let t7 ← modI g2.1 x_top
  R.ok (t7, g2.2)
/-! _law_spot -/
def law_spot (x_state : (List Int)) (x_wide : Int) (x_high : Int) : R ((Tup Int) × (List Int)) := do
  let g4 ← foldR (fun (g4 : (List Int) × (List Int)) (b4 : Int) => do
      let y10 ← law_great g4.2 b4
      let y14 ← law_next y10.2 (6 : Int)
      let t15 ← getI ([(0 : Int), (b4 - (1 : Int)), (1 : Int), y10.1] : (List Int)) (min2 (3 : Int) y14.1)
      let l16 ← app g4.1 t15
      R.ok (l16, y14.2)) (([] : (List Int)), x_state) ([x_wide, x_high] : (List Int))
  R.ok ((Tup.mk g4.1), g4.2)
/-! _law_two -/
def law_two (x_state : (List Int)) (x_wide : Int) (x_high : Int) : R (((Tup Int) × (Tup Int)) × (List Int)) := do
  let y2 ← law_spot x_state x_wide x_high
  let y4 ← law_spot y2.2 x_wide x_high
  let g6 ← (do
    let y7 ← law_next y4.2 (3 : Int)
    if (decide (y7.1 = (0 : Int))) = true then do
      let t9 ← getI y2.1.l (0 : Int)
      let t10 ← getI y4.1.l (1 : Int)
      R.ok ((Tup.mk [t9, t10] : (Tup Int)), y7.2)
    else do
      let y13 ← law_next y7.2 (2 : Int)
      if (decide (y13.1 = (0 : Int))) = true then do
        let t15 ← getI y4.1.l (0 : Int)
        let t16 ← getI y2.1.l (1 : Int)
        R.ok ((Tup.mk [t15, t16] : (Tup Int)), y13.2)
      else do
        R.ok (y4.1, y13.2) : R ((Tup Int) × (List Int)))
  let g20 ← (do
    if (decide (y2.1 = g6.1)) = true then do
      let t22 ← getI y2.1.l (0 : Int)
      let t23 ← modI (t22 + (1 : Int)) x_wide
      let t24 ← getI y2.1.l (1 : Int)
      R.ok (Tup.mk [t23, t24] : (Tup Int))
    else do
      R.ok g6.1 : R ((Tup Int)))
  R.ok ((y2.1, g20), g6.2)
/-! _law_unlike -/
def law_unlike (x_wide : Int) (x_high : Int) (x_one : (Tup Int)) (x_other : (Tup Int)) : R Bool := do
  let l6 ← rngI 0 x_wide
  let g5 ← foldR (fun (g5 : (List (Tup Int))) (b5 : Int) => do
      let l8 ← rngI 0 x_high
      let g7 ← foldR (fun (g7 : (List (Tup Int))) (b7 : Int) => do
          let t9 ← getI x_one.l (0 : Int)
          let t10 ← getI x_one.l (1 : Int)
          let t11 ← getI x_other.l (0 : Int)
          let t12 ← getI x_other.l (1 : Int)
          let l15 ← app g7 (Tup.mk [((absI (b5 - t9)) + (absI (b7 - t10))), ((absI (b5 - t11)) + (absI (b7 - t12)))] : (Tup Int))
          R.ok l15) g5 l8
      R.ok g7) ([] : (List (Tup Int))) l6
  let _ ← grd (decide (g5.length < 64))
  R.ok (decide (((nub g5).length : Int) = (g5.length : Int)))
/-! _law_words -/
def law_words (x_wide : Int) (x_high : Int) (x_one : (Tup Int)) (x_other : (Tup Int)) : R Bool := do
  let j14 ← (do
    if (decide (x_one ∈ ([(Tup.mk [(0 : Int), (0 : Int)] : (Tup Int)), (Tup.mk [(0 : Int), (x_high - (1 : Int))] : (Tup Int)), (Tup.mk [(x_wide - (1 : Int)), (0 : Int)] : (Tup Int)), (Tup.mk [(x_wide - (1 : Int)), (x_high - (1 : Int))] : (Tup Int))] : (List (Tup Int))))) = true then do
      if (decide (x_other ∈ ([(Tup.mk [(0 : Int), (0 : Int)] : (Tup Int)), (Tup.mk [(0 : Int), (x_high - (1 : Int))] : (Tup Int)), (Tup.mk [(x_wide - (1 : Int)), (0 : Int)] : (Tup Int)), (Tup.mk [(x_wide - (1 : Int)), (x_high - (1 : Int))] : (Tup Int))] : (List (Tup Int))))) = true then do
        let j17 ← (do
          let t18 ← getI x_one.l (0 : Int)
          let t19 ← getI x_other.l (0 : Int)
          if (decide (t18 = t19)) = true then do
            R.ok true
          else do
            let t22 ← getI x_one.l (1 : Int)
            let t23 ← getI x_other.l (1 : Int)
            R.ok (decide (t22 = t23)) : R (Bool))
        R.ok j17
      else do
        R.ok false
    else do
      R.ok false : R (Bool))
  R.ok j14
/-! _law_told -/
def law_told (x_wide : Int) (x_high : Int) (x_one : (Tup Int)) (x_other : (Tup Int)) : R (Option Bool) := do
  let y3 ← grid_known x_wide x_high x_one x_other
  let y4 ← grid_known x_wide x_high x_other x_one
  let l7 ← rev2 x_one.l
  let l9 ← rev2 x_other.l
  let y11 ← grid_known x_high x_wide (Tup.mk l7 : Tup Int) (Tup.mk l9 : Tup Int)
  let l12 ← app ([y3, y4] : (List Bool)) y11
  let t14 ← getI x_one.l (0 : Int)
  let t15 ← getI x_one.l (1 : Int)
  let t18 ← getI x_other.l (0 : Int)
  let t19 ← getI x_other.l (1 : Int)
  let y22 ← grid_known x_wide x_high (Tup.mk [((x_wide - (1 : Int)) - t14), t15] : (Tup Int)) (Tup.mk [((x_wide - (1 : Int)) - t18), t19] : (Tup Int))
  let l23 ← app l12 y22
  let j25 ← (do
    let l26 ← mapG (fun (b26 : Bool) => do
        R.ok true) l23
    if (!(l26.all id)) = true then do
      R.ok true
    else do
      let l35 ← repR (cutL l23 none (some (1 : Int))) (4 : Int)
      R.ok (!decide (l23 = l35)) : R (Bool))
  if j25 = true then do
    R.ok none
  else do
    let t43 ← getI l23 (0 : Int)
    R.ok (some t43)
/-! law -/
def law (x_script : Scr) : R Bool := do
  let y3 ← law_folded x_script (10 : Int)
  let r2 ← foldX (fun (g2 : Unit) (b2 : Int) => do
      let y7 ← law_state b2
      let y9 ← law_next y7 (4 : Int)
      let y10 ← law_next y9.2 (4 : Int)
      let y11 ← law_two y10.2 ((2 : Int) + y9.1) ((2 : Int) + y10.1)
      let y15 ← law_unlike ((2 : Int) + y9.1) ((2 : Int) + y10.1) y11.1.1 y11.1.2
      let j16 ← (do
        let y17 ← law_told ((2 : Int) + y9.1) ((2 : Int) + y10.1) y11.1.1 y11.1.2
        if (!decide (y17 = (some y15))) = true then do
          R.ok true
        else do
          let y21 ← law_words ((2 : Int) + y9.1) ((2 : Int) + y10.1) y11.1.1 y11.1.2
          R.ok (!decide (y21 = y15)) : R (Bool))
      if j16 = true then do
        R.ok (.inl false)
      else do
        let y30 ← law_next y11.2 (3 : Int)
        let t31 ← getI ([(9 : Int), ((10 : Int) ^ ((20 : Int) : Int).toNat), (((10 : Int) ^ ((60 : Int) : Int).toNat) - (1 : Int))] : (List Int)) y30.1
        let y32 ← law_great y30.2 t31
        let y39 ← law_next y32.2 (3 : Int)
        let t40 ← getI ([(9 : Int), ((10 : Int) ^ ((20 : Int) : Int).toNat), (((10 : Int) ^ ((60 : Int) : Int).toNat) - (1 : Int))] : (List Int)) y39.1
        let y41 ← law_great y39.2 t40
        let y43 ← law_two y41.2 ((2 : Int) + y32.1) ((2 : Int) + y41.1)
        let y47 ← law_told ((2 : Int) + y32.1) ((2 : Int) + y41.1) y43.1.1 y43.1.2
        let y49 ← law_words ((2 : Int) + y32.1) ((2 : Int) + y41.1) y43.1.1 y43.1.2
        if (!decide (y47 = (some y49))) = true then do
          R.ok (.inl false)
        else do
          R.ok (.inr (true, ()))) () y3
  match r2 with
  | .inl z => R.ok z
  | .inr g2 => do
    R.ok true
/-! ### what the top has written -/
structure Dn (K : Fg) (mg : Str → Option Value) (x : Str) (st : Stmt) (ps : List Str) (f : Addr) (fd : FuncData) : Prop where
  fn : Fun K x x st f fd
  mg : mg x = some (.ref f)
  b : Binds K fd ps []
structure Tx (K : Fg) (mg : Str → Option Value) (A : Nat → Addr) (FD : Nat → FuncData) : Prop where
  d1 : Dn K mg "side_number" s_side_number ["sizes", "one", "other"] (A 1) (FD 1)
  d2 : Dn K mg "grid_known" s_grid_known ["wide", "high", "one", "other"] (A 2) (FD 2)
  d4 : Dn K mg "_law_cell_at" s_law_cell_at ["script", "k"] (A 4) (FD 4)
  d5 : Dn K mg "_law_folded" s_law_folded ["script", "many"] (A 5) (FD 5)
  d6 : Dn K mg "_law_state" s_law_state ["cell"] (A 6) (FD 6)
  d7 : Dn K mg "_law_next" s_law_next ["state", "many"] (A 7) (FD 7)
  d8 : Dn K mg "_law_great" s_law_great ["state", "top"] (A 8) (FD 8)
  d9 : Dn K mg "_law_spot" s_law_spot ["state", "wide", "high"] (A 9) (FD 9)
  d10 : Dn K mg "_law_two" s_law_two ["state", "wide", "high"] (A 10) (FD 10)
  d11 : Dn K mg "_law_unlike" s_law_unlike ["wide", "high", "one", "other"] (A 11) (FD 11)
  d12 : Dn K mg "_law_words" s_law_words ["wide", "high", "one", "other"] (A 12) (FD 12)
  d13 : Dn K mg "_law_told" s_law_told ["wide", "high", "one", "other"] (A 13) (FD 13)
  d14 : Dn K mg "law" s_law ["script"] (A 14) (FD 14)
  n_abs : mg "abs" = none
  n_all : mg "all" = none
  n_bool : mg "bool" = none
  n_isinstance : mg "isinstance" = none
  n_len : mg "len" = none
  n_min : mg "min" = none
  n_range : mg "range" = none
  n_set : mg "set" = none
  n_sorted : mg "sorted" = none
  n_tuple : mg "tuple" = none
section
variable {P : Program} {w : World} {K : PySem.W.Frag} {mg : Str → Option Value} {base : Heap} {A : Nat → Addr} {FD : Nat → FuncData}
def sp_side_number (K : Fg) : Sp := fun vs H Q E => ∃ (F : Hp) (os : List (Addr × HO)) (v_sizes : V) (x_sizes : (Tup Int)) (v_one : V) (x_one : (Tup Int)) (v_other : V) (x_other : (Tup Int)), vs = [v_sizes, v_one, v_other] ∧ W F H (os) ∧ rep K F v_sizes x_sizes ∧ rep K F v_one x_one ∧ rep K F v_other x_other ∧ Post (side_number x_sizes x_one x_other) (Ret K F os Q) noX
theorem sc_side_number : FnScope ["sizes", "one", "other", "at", "last"] ["sizes", "one", "other"] (defScope s_side_number) := ⟨rfl, rfl, rfl, by decide +kernel, rfl, by decide +kernel, by decide +kernel⟩
theorem ok_side_number (T : Tx K mg A FD) : FnOk P w K mg base CX0 1 (A 1) (FD 1) ["sizes", "one", "other"] (sp_side_number K) := by
  refine T.d1.fn.ok sc_side_number (fun vs H Q E h => ?_) (fun cdv Ar outer s H vs Q E hr h => ?_)
  · obtain ⟨F, os, v_sizes, x_sizes, v_one, x_one, v_other, x_other, rfl, _⟩ := h
    rfl
  · obtain ⟨F0, os, v_sizes, x_sizes, v_one, x_one, v_other, x_other, rfl, w0, r_sizes, r_one, r_other, hm⟩ := h
    have sF : Same F0 F0 := Same.refl _
    obtain ⟨a1, vs1, rfl, q1, h1⟩ := r_sizes
    obtain ⟨a2, vs2, rfl, q2, h2⟩ := r_one
    obtain ⟨a3, vs3, rfl, q3, h3⟩ := r_other
    refine ⟨_, (pss_cons (ps_for PassesOwn.never rfl (pi_range1 (by rfl) T.n_range (pa_cons pe_int pa_nil)) (pg_name (i := 3) sc_side_number.nd rfl (Or.inl rfl)) (pss_cons (ps_set (i := 4) sc_side_number.nd rfl (Or.inl rfl) (pe_op op_sub (pe_ix (ix_tupK (K := K) rfl) (pv 0) (pe_op op_sub pe_int (pv 3)) (fun _ _ => rfl)) pe_int)) (pss_one (ps_if (PW.pt (pw_and (pt_cmp (pc_eqI (pe_ix (ix_tupK (K := K) rfl) (pv 1) (pv 3) (fun _ _ => rfl)) (pe_ix (ix_tupK (K := K) rfl) (pv 2) (pv 3) (fun _ _ => rfl)))) (pw_and1 (pt_cmpR (op_inT (K := K) rfl Int (by decide) (Room.units65 hr)) (pe_ix (ix_tupK (K := K) rfl) (pv 1) (pv 3) (fun _ _ => rfl)) (pe_tup (pa_cons pe_int (pa_cons (pe_op op_sub (pe_ix (ix_tupK (K := K) rfl) (pv 0) (pv 3) (fun _ _ => rfl)) pe_int) pa_nil))) (by rfl))))) (pss_one (ps_if (pt_cmpR (op_eqDt (K := K) rfl (List Int) (by decide) hr.units) (pe_callB (cr_sortI (K := K) rfl) (by rfl) T.n_sorted (by decide +kernel) (pa_cons (pe_lst (pa_cons (pe_ix (ix_tupK (K := K) rfl) (pv 1) (pe_op op_sub pe_int (pv 3)) (fun _ _ => rfl)) (pa_cons (pe_ix (ix_tupK (K := K) rfl) (pv 2) (pe_op op_sub pe_int (pv 3)) (fun _ _ => rfl)) pa_nil))) pa_nil)) (pe_lst (pa_cons pe_int (pa_cons (pv 4) pa_nil))) (nomark _)) (pss_one (ps_ret (pv 3))) pss_nil)) pss_nil)))) (pss_one (ps_ret pe_non))), ?_⟩
    refine ⟨_, rfl, (by decide), (by decide), ?_⟩
    refine forX (tw_rng0 (j := (2 : Int))) hm (fun (g4 : Unit) σ H' => ∃ (F' : Hp) (o4_4 : Option V) (o4_3 : Option V), σ = [some (.ref a1), some (.ref a2), some (.ref a3), o4_3, o4_4] ∧ Same F0 F' ∧ W F' H' (os)) ⟨_, _, _, rfl, Same.refl _, w0⟩ (fun _ _ _ _ => trivial) ?_ ?_
    · -- a turn
      intro b4 g4 x4 σ4 H4 H4' N4 B4 P4 hI hy hN4 hB4 hZ4 hm
      obtain ⟨F4, o4_4, o4_3, rfl, s4, w4⟩ := hI
      replace q1 := s4 _ _ q1
      replace h1 := A2.mono s4 h1
      replace q2 := s4 _ _ q2
      replace h2 := A2.mono s4 h2
      replace q3 := s4 _ _ q3
      replace h3 := A2.mono s4 h3
      replace sF := sF.trans s4
      obtain ⟨rfl, rfl⟩ := hy
      obtain ⟨t5, e5, hm⟩ := pb_get hm
      obtain ⟨u5, f5, r5⟩ := A2.at h1 e5
      obtain rfl : u5 = V.int t5 := r5
      refine ⟨_, rfl, _, rfl, _, _, rfl, rfl, _, _, _, _, rfl, rfl, SqT.of (w4.same _ _ q1), f5, _, _, rfl, rfl, ?_⟩
      refine stepN ?_
      try dsimp only
      refine stepIf ?_
      refine joinT hm (fun (j6 : Bool) c H' => c = j6 ∧ ∃ (F' : Hp), Same F4 F' ∧ W F' H' (os)) ?_ ?_
      · intro Q6 P6 q6 hm
        obtain ⟨t7, e7, hm⟩ := pb_get hm
        obtain ⟨u7, f7, r7⟩ := A2.at h2 e7
        obtain rfl : u7 = V.int t7 := r7
        obtain ⟨t8, e8, hm⟩ := pb_get hm
        obtain ⟨u8, f8, r8⟩ := A2.at h3 e8
        obtain rfl : u8 = V.int t8 := r8
        refine ⟨_, rfl, _, rfl, _, _, _, _, rfl, rfl, SqT.of (w4.same _ _ q2), f7, _, rfl, _, rfl, _, _, _, _, rfl, rfl, SqT.of (w4.same _ _ q3), f8, _, _, rfl, rfl, _, rfl, ?_⟩
        refine post_ite hm (fun k9 hm => ?_) (fun k9 hm => ?_)
        · skip
          obtain ⟨t10, e10, hm⟩ := pb_get hm
          obtain ⟨u10, f10, r10⟩ := A2.at h2 e10
          obtain rfl : u10 = V.int t10 := r10
          obtain ⟨t11, e11, hm⟩ := pb_get hm
          obtain ⟨u11, f11, r11⟩ := A2.at h1 e11
          obtain rfl : u11 = V.int t11 := r11
          have h12 : A2 (rep K F4) [(.int 0), (.int (t11 - (1 : Int)))] (Tup.mk [(0 : Int), (t11 - (1 : Int))] : (Tup Int)).l := .cons rep_i (.cons rep_i (.nil))
          refine ⟨_, rfl, _, rfl, _, _, _, _, rfl, rfl, SqT.of (w4.same _ _ q2), f10, _, rfl, _, rfl, _, _, _, _, rfl, rfl, SqT.of (w4.same _ _ q1), f11, _, _, rfl, rfl, (by show 2 ≤ sizeLine; decide), fun p13 n13 => ?_⟩
          obtain ⟨F13, s13, w13, q13⟩ := w4.frzE (o := .tup [(.int 0), (.int (t11 - (1 : Int)))]) n13
          replace h1 := A2.mono s13 h1
          replace q1 := s13 _ _ q1
          replace h2 := A2.mono s13 h2
          replace q2 := s13 _ _ q2
          replace h3 := A2.mono s13 h3
          replace q3 := s13 _ _ q3
          replace h12 := A2.mono s13 h12
          replace sF := sF.trans s13
          exact ⟨(t10 : Int), _, rep_i, (Rep.mono w13.same (rep_tup q13 h12)), _, rfl, q6 _ (post_ok hm) _ _ ⟨rfl, _, s13, w13⟩⟩
        · skip
          exact q6 _ (post_ok hm) _ _ ⟨rfl, _, Same.refl _, w4⟩
      intro j6 c6 H6 hc6 hm
      obtain ⟨rfl, F6, s6, w6⟩ := hc6
      replace h1 := A2.mono s6 h1
      replace q1 := s6 _ _ q1
      replace h2 := A2.mono s6 h2
      replace q2 := s6 _ _ q2
      replace h3 := A2.mono s6 h3
      replace q3 := s6 _ _ q3
      replace sF := sF.trans s6
      refine post_ite hm (fun k16 hm => ?_) (fun k16 hm => ?_)
      · skip
        obtain ⟨t17, e17, hm⟩ := pb_get hm
        obtain ⟨u17, f17, r17⟩ := A2.at h2 e17
        obtain rfl : u17 = V.int t17 := r17
        obtain ⟨t18, e18, hm⟩ := pb_get hm
        obtain ⟨u18, f18, r18⟩ := A2.at h3 e18
        obtain rfl : u18 = V.int t18 := r18
        have h19 : A2 (rep K F6) [(.int t17), (.int t18)] ([t17, t18] : (List Int)) := .cons rep_i (.cons rep_i (.nil))
        refine ⟨_, rfl, _, rfl, _, _, rfl, rfl, _, _, _, _, rfl, rfl, SqT.of (w6.same _ _ q2), f17, _, rfl, _, rfl, _, _, rfl, rfl, _, _, _, _, rfl, rfl, SqT.of (w6.same _ _ q3), f18, (by show 2 ≤ sizeLine; decide), fun p20 n20 => ?_⟩
        have w20 : W F6 _ ((p20, .lst [(.int t17), (.int t18)]) :: os) := w6.new n20
        have h21 : A2 (rep K F6) ((sortI ([t17, t18] : (List Int))).map V.int) (sortI ([t17, t18] : (List Int))) := A2.of_ints
        refine ⟨_, _, rfl, ints_q (SqL.of (w20.get (pre := []))) h19, fun p22 n22 => ?_⟩
        have w22 : W F6 _ ((p22, .lst ((sortI ([t17, t18] : (List Int))).map V.int)) :: (p20, .lst [(.int t17), (.int t18)]) :: os) := w20.new n22
        have h23 : A2 (rep K F6) [(.int 0), (.int (t5 - (1 : Int)))] ([(0 : Int), (t5 - (1 : Int))] : (List Int)) := .cons rep_i (.cons rep_i (.nil))
        refine ⟨_, rfl, (by show 2 ≤ sizeLine; decide), fun p24 n24 => ?_⟩
        have w24 : W F6 _ ((p24, .lst [(.int 0), (.int (t5 - (1 : Int)))]) :: (p22, .lst ((sortI ([t17, t18] : (List Int))).map V.int)) :: (p20, .lst [(.int t17), (.int t18)]) :: os) := w22.new n24
        refine ⟨((sortI ([t17, t18] : (List Int))) : (List Int)), (([(0 : Int), (t5 - (1 : Int))] : (List Int)) : (List Int)), (rep_own (pre := [_]) w24 h21), (rep_own (pre := []) w24 h23), _, rfl, ?_⟩
        have w25 : W F6 _ ((p22, .lst ((sortI ([t17, t18] : (List Int))).map V.int)) :: (p20, .lst [(.int t17), (.int t18)]) :: os) := w24.drop (pre := [])
        have w26 : W F6 _ ((p20, .lst [(.int t17), (.int t18)]) :: os) := w25.drop (pre := [])
        have w27 : W F6 _ (os) := w26.drop (pre := [])
        refine post_ite hm (fun k28 hm => ?_) (fun k28 hm => ?_)
        · skip
          have hm := hZ4 _ (post_ok hm)
          exact ⟨_, rfl, (post_ok hm) _ _ _ w27 sF (rep_some rep_i)⟩
        · skip
          exact hN4 _ (post_ok hm) _ _ ⟨_, _, _, rfl, (s4.trans s6), w27⟩
      · skip
        exact hN4 _ (post_ok hm) _ _ ⟨_, _, _, rfl, (s4.trans s6), w6⟩
    intro g4 σ4 H4 hI hm
    obtain ⟨F4, o4_4, o4_3, rfl, s4, w4⟩ := hI
    replace q1 := s4 _ _ q1
    replace h1 := A2.mono s4 h1
    replace q2 := s4 _ _ q2
    replace h2 := A2.mono s4 h2
    replace q3 := s4 _ _ q3
    replace h3 := A2.mono s4 h3
    replace sF := sF.trans s4
    exact (post_ok hm) _ _ _ w4 sF rep_none
def sp_grid_known (K : Fg) : Sp := fun vs H Q E => ∃ (F : Hp) (os : List (Addr × HO)) (x_wide : Int) (x_high : Int) (v_one : V) (x_one : (Tup Int)) (v_other : V) (x_other : (Tup Int)), vs = [.int x_wide, .int x_high, v_one, v_other] ∧ W F H (os) ∧ rep K F v_one x_one ∧ rep K F v_other x_other ∧ Post (grid_known x_wide x_high x_one x_other) (Ret K F os Q) noX
theorem sc_grid_known : FnScope ["wide", "high", "one", "other"] ["wide", "high", "one", "other"] (defScope s_grid_known) := ⟨rfl, rfl, rfl, by decide +kernel, rfl, by decide +kernel, by decide +kernel⟩
theorem ok_grid_known (T : Tx K mg A FD) : FnOk P w K mg base CX0 2 (A 2) (FD 2) ["wide", "high", "one", "other"] (sp_grid_known K) := by
  refine T.d2.fn.ok sc_grid_known (fun vs H Q E h => ?_) (fun cdv Ar outer s H vs Q E hr h => ?_)
  · obtain ⟨F, os, x_wide, x_high, v_one, x_one, v_other, x_other, rfl, _⟩ := h
    rfl
  · obtain ⟨F0, os, x_wide, x_high, v_one, x_one, v_other, x_other, rfl, w0, r_one, r_other, hm⟩ := h
    have sF : Same F0 F0 := Same.refl _
    obtain ⟨a1, vs1, rfl, q1, h1⟩ := r_one
    obtain ⟨a2, vs2, rfl, q2, h2⟩ := r_other
    refine ⟨_, (pss_one (ps_ret (pe_cmpR op_notN2 (pe_call (ok_side_number T) (hr.mono (by decide)) rfl T.d1.mg T.d1.fn.kp T.d1.b .nil pass0 (pa_cons (pe_tup (pa_cons (pv 0) (pa_cons (pv 1) pa_nil))) (pa_cons (pv 2) (pa_cons (pv 3) pa_nil)))) pe_non (nomark _)))), ?_⟩
    have h3 : A2 (rep K F0) [(.int x_wide), (.int x_high)] (Tup.mk [x_wide, x_high] : (Tup Int)).l := .cons rep_i (.cons rep_i (.nil))
    refine ⟨_, rfl, _, rfl, (by show 2 ≤ sizeLine; decide), fun p4 n4 => ?_⟩
    obtain ⟨F4, s4, w4, q4⟩ := w0.frzE (o := .tup [(.int x_wide), (.int x_high)]) n4
    replace q1 := s4 _ _ q1
    replace h1 := A2.mono s4 h1
    replace q2 := s4 _ _ q2
    replace h2 := A2.mono s4 h2
    replace h3 := A2.mono s4 h3
    replace sF := sF.trans s4
    refine ⟨_, rfl, _, rfl, _, _, _, ((Tup.mk [x_wide, x_high] : (Tup Int)) : (Tup Int)), _, (x_one : (Tup Int)), _, (x_other : (Tup Int)), rfl, w4, (rep_tup q4 h3), (rep_tup q1 h1), (rep_tup q2 h2), ?_⟩
    refine (post_bind hm).mono (fun y5 hm v5 F5 H5 w5 s5 r5 => ?_) (fun _ z => z)
    replace q1 := s5 _ _ q1
    replace h1 := A2.mono s5 h1
    replace q2 := s5 _ _ q2
    replace h2 := A2.mono s5 h2
    replace h3 := A2.mono s5 h3
    replace q4 := s5 _ _ q4
    replace sF := sF.trans s5
    exact ⟨rfl, _, isN_eq r5, (post_ok hm) _ _ _ w5 sF rep_b⟩
def sp_law_cell_at (K : Fg) : Sp := fun vs H Q E => ∃ (F : Hp) (os : List (Addr × HO)) (v_script : V) (x_script : Scr) (x_k : Int), vs = [v_script, .int x_k] ∧ W F H (os) ∧ rep K F v_script x_script ∧ Post (law_cell_at x_script x_k) (Ret K F os Q) noX
theorem sc_law_cell_at : FnScope ["script", "k", "cell"] ["script", "k"] (defScope s_law_cell_at) := ⟨rfl, rfl, rfl, by decide +kernel, rfl, by decide +kernel, by decide +kernel⟩
theorem ok_law_cell_at (T : Tx K mg A FD) : FnOk P w K mg base CX0 1 (A 4) (FD 4) ["script", "k"] (sp_law_cell_at K) := by
  refine T.d4.fn.ok sc_law_cell_at (fun vs H Q E h => ?_) (fun cdv Ar outer s H vs Q E hr h => ?_)
  · obtain ⟨F, os, v_script, x_script, x_k, rfl, _⟩ := h
    rfl
  · obtain ⟨F0, os, v_script, x_script, x_k, rfl, w0, r_script, hm⟩ := h
    have sF : Same F0 F0 := Same.refl _
    obtain ⟨a1, rfl, q1⟩ := r_script
    have h1 : A2 (rep K F0) (x_script.l.map V.int) x_script.l := A2.of_ints
    refine ⟨_, (pss_cons (ps_if (pt_cmp (pc_lt (pv 1) (pe_callB (call_lenN (K := K) rfl) (by rfl) T.n_len (by decide +kernel) (pa_cons (pv 0) pa_nil)))) (pss_one (ps_ret (pe_ix (ix_listK (K := K) rfl) (pv 0) (pv 1) (fun _ _ => rfl)))) pss_nil) (pss_cons (ps_set (i := 2) sc_law_cell_at.nd rfl (Or.inl rfl) pe_int1) (pss_cons (ps_if (pt_cmpR (op_neDt (K := K) rfl Scr (by decide) hr.units) (pv 0) (pe_lst pa_nil) (nomark _)) (pss_one (ps_set (i := 2) sc_law_cell_at.nd rfl (Or.inl rfl) (pe_op op_mod (pe_ix (ix_listK (K := K) rfl) (pv 0) (pe_op op_mod (pv 1) (pe_callB (call_lenN (K := K) rfl) (by rfl) T.n_len (by decide +kernel) (pa_cons (pv 0) pa_nil))) (fun _ _ => rfl)) pe_int))) pss_nil) (pss_one (ps_ret (pe_op op_add (pe_op op_add (pv 2) (pe_op op_mul pe_int (pv 1))) pe_int)))))), ?_⟩
    refine ⟨_, rfl, _, rfl, _, _, _, rfl, .inl (w0.same.seq q1), h1.length, _, _, rfl, rfl, _, rfl, ?_⟩
    refine post_ite hm (fun k2 hm => ?_) (fun k2 hm => ?_)
    · skip
      obtain ⟨t3, e3, hm⟩ := pb_get hm
      obtain ⟨u3, f3, r3⟩ := A2.at h1 e3
      obtain rfl : u3 = V.int t3 := r3
      exact ⟨_, rfl, _, rfl, _, _, _, _, rfl, rfl, w0.same.seq q1, f3, (post_ok hm) _ _ _ w0 sF rep_i⟩
    · skip
      refine ⟨trivial, ?_⟩
      refine stepN ?_
      try dsimp only
      refine joinS hm (fun (g4 : Int) σ H' => ∃ (F' : Hp), σ = [some (.ref a1), some (.int x_k), some (.int g4)] ∧ Same F0 F' ∧ W F' H' (os)) ?_ ?_
      · intro N4 P4 hN4 hm
        have h5 : A2 (rep K F0) [] ([] : (List Int)) := .nil
        refine ⟨_, rfl, (by show 0 ≤ sizeLine; decide), fun p6 n6 => ?_⟩
        have w6 : W F0 _ ((p6, .lst []) :: os) := w0.new n6
        refine ⟨(x_script : Scr), (⟨([] : (List Int))⟩ : Scr), (Rep.mono w6.same ⟨_, rfl, q1⟩), ⟨_, rfl, SqL.of (w6.get (pre := []))⟩, _, rfl, ?_⟩
        have w7 : W F0 _ (os) := w6.drop (pre := [])
        refine post_ite hm (fun k8 hm => ?_) (fun k8 hm => ?_)
        · skip
          obtain ⟨c9, hm⟩ := pb_mod hm
          obtain ⟨t10, e10, hm⟩ := pb_get hm
          obtain ⟨u10, f10, r10⟩ := A2.at h1 e10
          obtain rfl : u10 = V.int t10 := r10
          exact ⟨_, rfl, _, rfl, _, rfl, _, _, _, rfl, .inl (w7.same.seq q1), h1.length, _, _, rfl, rfl, c9, _, _, _, _, rfl, rfl, w7.same.seq q1, f10, _, _, rfl, rfl, (by show (0 : Int) < (1000003 : Int); decide), hN4 _ (post_ok hm) _ _ ⟨_, rfl, Same.refl _, w7⟩⟩
        · skip
          exact hN4 _ (post_ok hm) _ _ ⟨_, rfl, Same.refl _, w7⟩
      intro g4 σ4 H4 hI hm
      obtain ⟨F4, rfl, s4, w4⟩ := hI
      replace h1 := A2.mono s4 h1
      replace q1 := s4.seq q1
      replace sF := sF.trans s4
      exact ⟨_, rfl, _, rfl, _, _, rfl, rfl, (.inl (by constructor <;> decide)), _, _, rfl, rfl, _, _, rfl, rfl, (post_ok hm) _ _ _ w4 sF rep_i⟩
def sp_law_folded (K : Fg) : Sp := fun vs H Q E => ∃ (F : Hp) (os : List (Addr × HO)) (v_script : V) (x_script : Scr) (x_many : Int), vs = [v_script, .int x_many] ∧ W F H (os) ∧ rep K F v_script x_script ∧ Post (law_folded x_script x_many) (RetL K F os Q) noX
theorem sc_law_folded : FnScope ["script", "many", "cells", "k", "at"] ["script", "many"] (defScope s_law_folded) := ⟨rfl, rfl, rfl, by decide +kernel, rfl, by decide +kernel, by decide +kernel⟩
theorem ok_law_folded (T : Tx K mg A FD) : FnOk P w K mg base CX0 2 (A 5) (FD 5) ["script", "many"] (sp_law_folded K) := by
  refine T.d5.fn.ok sc_law_folded (fun vs H Q E h => ?_) (fun cdv Ar outer s H vs Q E hr h => ?_)
  · obtain ⟨F, os, v_script, x_script, x_many, rfl, _⟩ := h
    rfl
  · obtain ⟨F0, os, v_script, x_script, x_many, rfl, w0, r_script, hm⟩ := h
    have sF : Same F0 F0 := Same.refl _
    obtain ⟨a1, rfl, q1⟩ := r_script
    have h1 : A2 (rep K F0) (x_script.l.map V.int) x_script.l := A2.of_ints
    refine ⟨_, (pss_cons (ps_setLc (i := 2) (own := [("k", 3)]) (g := gName 3) (by rfl) sc_law_folded.nd rfl rfl (sw_true rfl rfl rfl (by decide +kernel)) (pi_range1 (by rfl) T.n_range (pa_cons (pv 1) pa_nil)) (blkOk_by (own := [("k", 3)]) (N := ["script", "many", "cells", "k", "at"]) (sc := defScope s_law_folded) (by decide +kernel)) (fun _ _ _ _ _ => (pg_name (i := 3) sc_law_folded.nd rfl (Or.inl rfl))) (fun _ _ _ _ _ => pts_nil) (fun _ _ _ _ _ => (pe_call (ok_law_cell_at T) (hr.mono (by decide)) rfl T.d4.mg T.d4.fn.kp T.d4.b .nil pass0 (pa_cons (pv 0) (pa_cons (pv 3) pa_nil))))) (pss_cons (ps_for PassesOwn.never rfl (pi_range2 (by rfl) T.n_range (pa_cons (pv 1) (pa_cons (pe_callB (call_lenN (K := K) rfl) (by rfl) T.n_len (by decide +kernel) (pa_cons (pv 0) pa_nil)) pa_nil))) (pg_name (i := 3) sc_law_folded.nd rfl (Or.inl rfl)) (pss_cons (ps_set (i := 4) sc_law_folded.nd rfl (Or.inl rfl) (pe_op op_mod (pv 3) (pv 1))) (pss_one (ps_asg (pe_op op_mod (pe_op op_add (pe_op op_mul (pe_op op_mod (pe_ix (ix_listK (K := K) rfl) (pv 2) (pv 4) (fun _ _ => rfl)) (pe_op op_pow pe_int pe_int)) pe_int) (pe_ix (ix_listK (K := K) rfl) (pv 0) (pv 3) (fun _ _ => rfl))) (pe_op op_add (pe_op op_pow pe_int pe_int) pe_int)) (pg_sub (pv 2) (pv 4) set_list))))) (pss_one (ps_ret (pv 2))))), ?_⟩
    obtain ⟨c2, hm⟩ := pb_rng hm
    refine ⟨_, rfl, _, rfl, c2.2.2.1, c2.2.2.2, fun D3 nD3 => ?_⟩
    refine lcM (K := K) (tw_rng0 (j := x_many)) hm w0 nD3 (fun F' H' acc s w => trivial) ?_ ?_
    · -- one turn
      intro b3 x3 F3 H3 H3' acc3 N3 P3 s3 w3 y3 hN3 hm
      replace q1 := s3.seq q1
      replace h1 := A2.mono s3 h1
      replace sF := sF.trans s3
      obtain ⟨rfl, rfl⟩ := y3
      refine ⟨rfl, _, rfl, _, rfl, _, _, _, (x_script : Scr), _, rfl, w3, ⟨_, rfl, q1⟩, ?_⟩
      refine (post_bind hm).mono (fun y5 hm v5 F5 H5 w5 s5 r5 => ?_) (fun _ z => z)
      replace q1 := s5.seq q1
      replace h1 := A2.mono s5 h1
      replace sF := sF.trans s5
      obtain rfl : v5 = V.int y5 := r5
      exact hN3 _ (post_ok hm) _ _ _ w5 s5 rep_i
    intro us3 F3 H3 ys3 s3 w3 gg3 hm
    replace q1 := s3.seq q1
    replace h1 := A2.mono s3 h1
    replace sF := sF.trans s3
    obtain ⟨c8, hm⟩ := pb_rng hm
    refine ⟨_, rfl, _, rfl, _, _, _, rfl, .inl (w3.same.seq q1), h1.length, _, _, rfl, c8, ?_⟩
    refine forS (tw_rng (i := x_many) (j := (x_script.l.length : Int))) hm (fun (g7 : (List Int)) σ H' => ∃ (F' : Hp) (vs7_0 : List V) (o7_4 : Option V) (o7_3 : Option V), σ = [some (.ref a1), some (.int x_many), some (.ref D3), o7_3, o7_4] ∧ Same F3 F' ∧ W F' H' ((D3, .lst vs7_0) :: os) ∧ A2 (rep K F') vs7_0 g7) ⟨_, _, _, _, rfl, Same.refl _, w3, gg3⟩ (fun _ _ _ _ => trivial) ?_ ?_
    · -- a turn
      intro b7 g7 x7 σ7 H7 H7' N7 P7 hI hy hN7 hm
      obtain ⟨F7, vs7_0, o7_4, o7_3, rfl, s7, w7, h7_0⟩ := hI
      replace h1 := A2.mono s7 h1
      replace q1 := s7.seq q1
      replace sF := sF.trans s7
      obtain ⟨rfl, rfl⟩ := hy
      obtain ⟨c9, hm⟩ := pb_mod hm
      obtain ⟨t10, e10, hm⟩ := pb_get hm
      obtain ⟨u10, f10, r10⟩ := A2.at h7_0 e10
      obtain rfl : u10 = V.int t10 := r10
      obtain ⟨t14, e14, hm⟩ := pb_get hm
      obtain ⟨u14, f14, r14⟩ := A2.at h1 e14
      obtain rfl : u14 = V.int t14 := r14
      obtain ⟨j17, l17, z17, e17, hm⟩ := pn_set hm
      refine ⟨_, rfl, _, rfl, _, _, rfl, rfl, c9, _, rfl, _, rfl, _, _, _, _, rfl, rfl, SqL.of (w7.get (pre := [])), f10, _, _, rfl, rfl, (by refine ⟨?_, ?_, ?_⟩ <;> decide), _, _, rfl, rfl, (by show (0 : Int) < ((10 : Int) ^ ((60 : Int) : Int).toNat); decide), _, _, rfl, rfl, (.inr (by constructor <;> decide)), _, rfl, _, rfl, _, _, _, _, rfl, rfl, w7.same.seq q1, f14, _, _, rfl, rfl, _, _, rfl, rfl, (by refine ⟨?_, ?_, ?_⟩ <;> decide), _, _, rfl, rfl, _, _, rfl, rfl, (by show (0 : Int) < (((10 : Int) ^ ((60 : Int) : Int).toNat) + (7 : Int)); decide), _, rfl, _, rfl, _, _, _, _, rfl, rfl, (w7.get (pre := [])), (A2.ix h7_0 z17), ?_⟩
      have h17 : A2 (rep K F7) (vs7_0.set j17 (.int ((((t10 % ((10 : Int) ^ ((60 : Int) : Int).toNat)) * (48271 : Int)) + t14) % (((10 : Int) ^ ((60 : Int) : Int).toNat) + (7 : Int))))) l17 := e17 ▸ A2.set rep_i j17 h7_0
      have w18 : W F7 _ ((D3, .lst (vs7_0.set j17 (.int ((((t10 % ((10 : Int) ^ ((60 : Int) : Int).toNat)) * (48271 : Int)) + t14) % (((10 : Int) ^ ((60 : Int) : Int).toNat) + (7 : Int)))))) :: os) := w7.set (pre := [])
      exact hN7 _ (post_ok hm) _ _ ⟨_, _, _, _, rfl, s7, w18, h17⟩
    intro g7 σ7 H7 hI hm
    obtain ⟨F7, vs7_0, o7_4, o7_3, rfl, s7, w7, h7_0⟩ := hI
    replace h1 := A2.mono s7 h1
    replace q1 := s7.seq q1
    replace sF := sF.trans s7
    exact ⟨_, rfl, (post_ok hm) _ _ _ _ w7 sF h7_0⟩
def sp_law_state (K : Fg) : Sp := fun vs H Q E => ∃ (F : Hp) (os : List (Addr × HO)) (x_cell : Int), vs = [.int x_cell] ∧ W F H (os) ∧ Post (law_state x_cell) (RetL K F os Q) noX
theorem sc_law_state : FnScope ["cell", "left"] ["cell"] (defScope s_law_state) := ⟨rfl, rfl, rfl, by decide +kernel, rfl, by decide +kernel, by decide +kernel⟩
theorem ok_law_state (T : Tx K mg A FD) : FnOk P w K mg base CX0 1 (A 6) (FD 6) ["cell"] (sp_law_state K) := by
  refine T.d6.fn.ok sc_law_state (fun vs H Q E h => ?_) (fun cdv Ar outer s H vs Q E hr h => ?_)
  · obtain ⟨F, os, x_cell, rfl, _⟩ := h
    rfl
  · obtain ⟨F0, os, x_cell, rfl, w0, hm⟩ := h
    have sF : Same F0 F0 := Same.refl _
    refine ⟨_, (pss_cons (ps_set (i := 1) sc_law_state.nd rfl (Or.inl rfl) pe_int1) (pss_cons (ps_if (pt_cmp (pc_ge (pv 0) (pe_op op_pow pe_int pe_int))) (pss_one (ps_set (i := 1) sc_law_state.nd rfl (Or.inl rfl) (pv 0))) pss_nil) (pss_one (ps_ret (pe_lst (pa_cons (pv 1) (pa_cons (pe_op op_mod (pe_op op_mul (pe_op op_add (pe_op op_mod (pv 0) pe_int) pe_int) pe_int) pe_int) pa_nil))))))), ?_⟩
    refine ⟨trivial, ?_⟩
    refine stepN ?_
    try dsimp only
    refine joinS hm (fun (g1 : Int) σ H' => ∃ (F' : Hp), σ = [some (.int x_cell), some (.int g1)] ∧ Same F0 F' ∧ W F' H' (os)) ?_ ?_
    · intro N1 P1 hN1 hm
      refine ⟨_, rfl, _, _, rfl, rfl, (by refine ⟨?_, ?_, ?_⟩ <;> decide), _, _, rfl, rfl, _, rfl, ?_⟩
      refine post_ite hm (fun k3 hm => ?_) (fun k3 hm => ?_)
      · skip
        exact ⟨_, rfl, hN1 _ (post_ok hm) _ _ ⟨_, rfl, Same.refl _, w0⟩⟩
      · skip
        exact hN1 _ (post_ok hm) _ _ ⟨_, rfl, Same.refl _, w0⟩
    intro g1 σ1 H1 hI hm
    obtain ⟨F1, rfl, s1, w1⟩ := hI
    replace sF := sF.trans s1
    have h7 : A2 (rep K F1) [(.int g1), (.int ((((x_cell % (2147483629 : Int)) + (11 : Int)) * (48271 : Int)) % (2147483647 : Int)))] ([g1, ((((x_cell % (2147483629 : Int)) + (11 : Int)) * (48271 : Int)) % (2147483647 : Int))] : (List Int)) := .cons rep_i (.cons rep_i (.nil))
    refine ⟨_, rfl, _, rfl, _, _, rfl, rfl, (by show (0 : Int) < (2147483629 : Int); decide), _, _, rfl, rfl, _, _, rfl, rfl, (.inr (by constructor <;> decide)), _, _, rfl, rfl, (by show (0 : Int) < (2147483647 : Int); decide), (by show 2 ≤ sizeLine; decide), fun p8 n8 => ?_⟩
    have w8 : W F1 _ ((p8, .lst [(.int g1), (.int ((((x_cell % (2147483629 : Int)) + (11 : Int)) * (48271 : Int)) % (2147483647 : Int)))]) :: os) := w1.new n8
    exact (post_ok hm) _ _ _ _ w8 sF h7
def sp_law_next (K : Fg) : Sp := fun vs H Q E => ∃ (F : Hp) (os : List (Addr × HO)) (a_state : Addr) (vs_state : List V) (x_state : (List Int)) (x_many : Int), vs = [.ref a_state, .int x_many] ∧ W F H ((a_state, .lst vs_state) :: os) ∧ A2 (rep K F) vs_state x_state ∧ Post (law_next x_state x_many) (RetM K F a_state os Q) noX
theorem sc_law_next : FnScope ["state", "many", "found"] ["state", "many"] (defScope s_law_next) := ⟨rfl, rfl, rfl, by decide +kernel, rfl, by decide +kernel, by decide +kernel⟩
theorem ok_law_next (T : Tx K mg A FD) : FnOk P w K mg base CX0 1 (A 7) (FD 7) ["state", "many"] (sp_law_next K) := by
  refine T.d7.fn.ok sc_law_next (fun vs H Q E h => ?_) (fun cdv Ar outer s H vs Q E hr h => ?_)
  · obtain ⟨F, os, a_state, vs_state, x_state, x_many, rfl, _⟩ := h
    rfl
  · obtain ⟨F0, os, a_state, vs_state, x_state, x_many, rfl, w0, h_state, hm⟩ := h
    have sF : Same F0 F0 := Same.refl _
    refine ⟨_, (pss_cons (ps_if (pt_cmp (pc_gt (pe_ix (ix_listK (K := K) rfl) (pv 0) pe_int (fun _ _ => rfl)) pe_int)) (pss_cons (ps_set (i := 2) sc_law_next.nd rfl (Or.inl rfl) (pe_op op_mod (pe_ix (ix_listK (K := K) rfl) (pv 0) pe_int (fun _ _ => rfl)) (pv 1))) (pss_cons (ps_asg (pe_op op_fdiv (pe_ix (ix_listK (K := K) rfl) (pv 0) pe_int (fun _ _ => rfl)) (pv 1)) (pg_sub (pv 0) pe_int set_list)) (pss_one (ps_ret (pv 2))))) pss_nil) (pss_cons (ps_asg (pe_op op_mod (pe_op op_add (pe_op op_mul (pe_ix (ix_listK (K := K) rfl) (pv 0) pe_int (fun _ _ => rfl)) pe_int) pe_int) pe_int) (pg_sub (pv 0) pe_int set_list)) (pss_one (ps_ret (pe_op op_mod (pe_op op_fdiv (pe_op op_mod (pe_op op_mul (pe_ix (ix_listK (K := K) rfl) (pv 0) pe_int (fun _ _ => rfl)) (pe_ix (ix_listK (K := K) rfl) (pv 0) pe_int (fun _ _ => rfl))) pe_int) pe_int) (pv 1)))))), ?_⟩
    obtain ⟨t2, e2, hm⟩ := pb_get hm
    obtain ⟨u2, f2, r2⟩ := A2.at h_state e2
    obtain rfl : u2 = V.int t2 := r2
    refine ⟨_, rfl, _, _, _, _, rfl, rfl, SqL.of (w0.get (pre := [])), f2, _, _, rfl, rfl, _, rfl, ?_⟩
    refine post_ite hm (fun k3 hm => ?_) (fun k3 hm => ?_)
    · skip
      obtain ⟨t4, e4, hm⟩ := pb_get hm
      obtain ⟨u4, f4, r4⟩ := A2.at h_state e4
      obtain rfl : u4 = V.int t4 := r4
      obtain ⟨c5, hm⟩ := pb_mod hm
      obtain ⟨t6, e6, hm⟩ := pb_get hm
      obtain ⟨u6, f6, r6⟩ := A2.at h_state e6
      obtain rfl : u6 = V.int t6 := r6
      obtain ⟨c7, hm⟩ := pb_div hm
      obtain ⟨j8, l8, z8, e8, hm⟩ := pn_set hm
      refine ⟨_, rfl, _, _, _, _, rfl, rfl, SqL.of (w0.get (pre := [])), f4, _, rfl, _, _, rfl, rfl, c5, _, rfl, _, _, _, _, rfl, rfl, SqL.of (w0.get (pre := [])), f6, _, rfl, _, _, rfl, rfl, c7, _, rfl, _, _, _, _, rfl, rfl, (w0.get (pre := [])), (A2.ix h_state z8), ?_⟩
      have h8 : A2 (rep K F0) (vs_state.set j8 (.int (t6 / x_many))) l8 := e8 ▸ A2.set rep_i j8 h_state
      have w9 : W F0 _ ((a_state, .lst (vs_state.set j8 (.int (t6 / x_many)))) :: os) := w0.set (pre := [])
      exact ⟨_, rfl, (post_ok hm) _ _ _ _ w9 sF rep_i h8⟩
    · skip
      obtain ⟨t10, e10, hm⟩ := pb_get hm
      obtain ⟨u10, f10, r10⟩ := A2.at h_state e10
      obtain rfl : u10 = V.int t10 := r10
      obtain ⟨j13, l13, z13, e13, hm⟩ := pn_set hm
      refine ⟨_, rfl, _, _, _, _, rfl, rfl, SqL.of (w0.get (pre := [])), f10, _, _, rfl, rfl, (.inr (by constructor <;> decide)), _, _, rfl, rfl, _, _, rfl, rfl, (by show (0 : Int) < (2147483647 : Int); decide), _, rfl, _, _, _, _, rfl, rfl, (w0.get (pre := [])), (A2.ix h_state z13), ?_⟩
      have h13 : A2 (rep K F0) (vs_state.set j13 (.int (((t10 * (69621 : Int)) + (40692 : Int)) % (2147483647 : Int)))) l13 := e13 ▸ A2.set rep_i j13 h_state
      have w14 : W F0 _ ((a_state, .lst (vs_state.set j13 (.int (((t10 * (69621 : Int)) + (40692 : Int)) % (2147483647 : Int))))) :: os) := w0.set (pre := [])
      obtain ⟨t15, e15, hm⟩ := pb_get hm
      obtain ⟨u15, f15, r15⟩ := A2.at h13 e15
      obtain rfl : u15 = V.int t15 := r15
      obtain ⟨t16, e16, hm⟩ := pb_get hm
      obtain ⟨u16, f16, r16⟩ := A2.at h13 e16
      obtain rfl : u16 = V.int t16 := r16
      obtain ⟨c17, hm⟩ := pb_mul hm
      obtain ⟨c20, hm⟩ := pb_mod hm
      exact ⟨_, rfl, _, _, _, _, rfl, rfl, SqL.of (w14.get (pre := [])), f15, _, rfl, _, _, _, _, rfl, rfl, SqL.of (w14.get (pre := [])), f16, _, _, rfl, rfl, c17, _, _, rfl, rfl, (by show (0 : Int) < (2147483629 : Int); decide), _, _, rfl, rfl, (by constructor <;> decide), _, rfl, _, _, rfl, rfl, c20, (post_ok hm) _ _ _ _ w14 sF rep_i h13⟩
def sp_law_great (K : Fg) : Sp := fun vs H Q E => ∃ (F : Hp) (os : List (Addr × HO)) (a_state : Addr) (vs_state : List V) (x_state : (List Int)) (x_top : Int), vs = [.ref a_state, .int x_top] ∧ W F H ((a_state, .lst vs_state) :: os) ∧ A2 (rep K F) vs_state x_state ∧ Post (law_great x_state x_top) (RetM K F a_state os Q) noX
theorem sc_law_great : FnScope ["state", "top", "found", "k"] ["state", "top"] (defScope s_law_great) := ⟨rfl, rfl, rfl, by decide +kernel, rfl, by decide +kernel, by decide +kernel⟩
theorem ok_law_great (T : Tx K mg A FD) : FnOk P w K mg base CX0 2 (A 8) (FD 8) ["state", "top"] (sp_law_great K) := by
  refine T.d8.fn.ok sc_law_great (fun vs H Q E h => ?_) (fun cdv Ar outer s H vs Q E hr h => ?_)
  · obtain ⟨F, os, a_state, vs_state, x_state, x_top, rfl, _⟩ := h
    rfl
  · obtain ⟨F0, os, a_state, vs_state, x_state, x_top, rfl, w0, h_state, hm⟩ := h
    have sF : Same F0 F0 := Same.refl _
    refine ⟨_, (pss_cons (ps_set (i := 2) sc_law_great.nd rfl (Or.inl rfl) pe_int1) (pss_cons (ps_for PassesOwn.never rfl (pi_range1 (by rfl) T.n_range (pa_cons pe_int pa_nil)) (pg_name (i := 3) sc_law_great.nd rfl (Or.inl rfl)) (pss_one (ps_set (i := 2) sc_law_great.nd rfl (Or.inl rfl) (pe_op op_add (pe_op op_mul (pv 2) (pe_op op_pow pe_int pe_int)) (pe_call (ok_law_next T) (hr.mono (by decide)) rfl T.d7.mg T.d7.fn.kp T.d7.b .nil pass0 (pa_cons (pv 0) (pa_cons (pe_op op_pow pe_int pe_int) pa_nil))))))) (pss_one (ps_ret (pe_op op_mod (pv 2) (pv 1)))))), ?_⟩
    refine ⟨trivial, _, rfl, (by decide), (by decide), ?_⟩
    refine forS (tw_rng0 (j := (9 : Int))) hm (fun (g2 : Int × (List Int)) σ H' => ∃ (F' : Hp) (vs2_0 : List V) (o2_3 : Option V), σ = [some (.ref a_state), some (.int x_top), some (.int g2.1), o2_3] ∧ Same F0 F' ∧ W F' H' ((a_state, .lst vs2_0) :: os) ∧ A2 (rep K F') vs2_0 g2.2) ⟨_, _, _, rfl, Same.refl _, w0, h_state⟩ (fun _ _ _ _ => trivial) ?_ ?_
    · -- a turn
      intro b2 g2 x2 σ2 H2 H2' N2 P2 hI hy hN2 hm
      obtain ⟨F2, vs2_0, o2_3, rfl, s2, w2, h2_0⟩ := hI
      replace sF := sF.trans s2
      obtain ⟨rfl, rfl⟩ := hy
      refine ⟨_, rfl, _, _, rfl, rfl, (by refine ⟨?_, ?_, ?_⟩ <;> decide), _, _, rfl, rfl, (.inr (by constructor <;> decide)), _, rfl, _, _, rfl, rfl, (by refine ⟨?_, ?_, ?_⟩ <;> decide), _, _, _, _, _, _, rfl, w2, h2_0, ?_⟩
      refine (post_bind hm).mono (fun y6 hm v6 vs6 F6 H6 w6 s6 r6 h6 => ?_) (fun _ z => z)
      replace sF := sF.trans s6
      obtain rfl : v6 = V.int y6.1 := r6
      exact ⟨_, _, rfl, rfl, hN2 _ (post_ok hm) _ _ ⟨_, _, _, rfl, (s2.trans s6), w6, h6⟩⟩
    intro g2 σ2 H2 hI hm
    obtain ⟨F2, vs2_0, o2_3, rfl, s2, w2, h2_0⟩ := hI
    replace sF := sF.trans s2
    obtain ⟨c7, hm⟩ := pb_mod hm
    exact ⟨_, rfl, _, rfl, _, _, rfl, rfl, c7, (post_ok hm) _ _ _ _ w2 sF rep_i h2_0⟩
def sp_law_spot (K : Fg) : Sp := fun vs H Q E => ∃ (F : Hp) (os : List (Addr × HO)) (a_state : Addr) (vs_state : List V) (x_state : (List Int)) (x_wide : Int) (x_high : Int), vs = [.ref a_state, .int x_wide, .int x_high] ∧ W F H ((a_state, .lst vs_state) :: os) ∧ A2 (rep K F) vs_state x_state ∧ Post (law_spot x_state x_wide x_high) (RetM K F a_state os Q) noX
theorem sc_law_spot : FnScope ["state", "wide", "high", "found", "size"] ["state", "wide", "high"] (defScope s_law_spot) := ⟨rfl, rfl, rfl, by decide +kernel, rfl, by decide +kernel, by decide +kernel⟩
theorem ok_law_spot (T : Tx K mg A FD) : FnOk P w K mg base CX0 3 (A 9) (FD 9) ["state", "wide", "high"] (sp_law_spot K) := by
  refine T.d9.fn.ok sc_law_spot (fun vs H Q E h => ?_) (fun cdv Ar outer s H vs Q E hr h => ?_)
  · obtain ⟨F, os, a_state, vs_state, x_state, x_wide, x_high, rfl, _⟩ := h
    rfl
  · obtain ⟨F0, os, a_state, vs_state, x_state, x_wide, x_high, rfl, w0, h_state, hm⟩ := h
    have sF : Same F0 F0 := Same.refl _
    refine ⟨_, (pss_cons (ps_set (i := 3) sc_law_spot.nd rfl (Or.inl rfl) (pe_lst pa_nil)) (pss_cons (ps_for PassesOwn.never rfl (pi_listK (K := K) rfl (pe_lst (pa_cons (pv 1) (pa_cons (pv 2) pa_nil)))) (pg_name (i := 4) sc_law_spot.nd rfl (Or.inl rfl)) (pss_one (ps_expr (pe_bm PySem.F.plainAttrs_list PySem.F.slot_list_append PySem.F.type_list_append mt_append (pv 3) (pa_cons (pe_ix (ix_listK (K := K) rfl) (pe_lst (pa_cons pe_int (pa_cons (pe_op op_sub (pv 4) pe_int) (pa_cons pe_int (pa_cons (pe_call (ok_law_great T) (hr.mono (by decide)) rfl T.d8.mg T.d8.fn.kp T.d8.b .nil pass0 (pa_cons (pv 0) (pa_cons (pv 4) pa_nil))) pa_nil))))) (pe_callB (call_min2 rfl) (by rfl) T.n_min (by decide +kernel) (pa_cons pe_int (pa_cons (pe_call (ok_law_next T) (hr.mono (by decide)) rfl T.d7.mg T.d7.fn.kp T.d7.b .nil pass0 (pa_cons (pv 0) (pa_cons pe_int pa_nil))) pa_nil))) (fun _ _ => rfl)) pa_nil))))) (pss_one (ps_ret (pe_callTy (call_tuple_ofK (K := K) rfl) (by rfl) T.n_tuple (by decide +kernel) (pa_cons (pv 3) pa_nil)))))), ?_⟩
    have h2 : A2 (rep K F0) [] ([] : (List Int)) := .nil
    refine ⟨(by show 0 ≤ sizeLine; decide), fun p3 n3 => ?_⟩
    have w3 : W F0 _ ((p3, .lst []) :: (a_state, .lst vs_state) :: os) := w0.new n3
    have h5 : A2 (rep K F0) [(.int x_wide), (.int x_high)] ([x_wide, x_high] : (List Int)) := .cons rep_i (.cons rep_i (.nil))
    refine ⟨_, rfl, _, rfl, (by show 2 ≤ sizeLine; decide), fun p6 n6 => ?_⟩
    have w6 : W F0 _ ((p6, .lst [(.int x_wide), (.int x_high)]) :: (p3, .lst []) :: (a_state, .lst vs_state) :: os) := w3.new n6
    obtain ⟨F7, s7, w7, q7⟩ : ∃ F', Same F0 F' ∧ W F' _ ((p3, .lst []) :: (a_state, .lst vs_state) :: os) ∧ F' p6 = some (.lst [(.int x_wide), (.int x_high)]) := w6.freezeE (pre := [])
    replace h2 := A2.mono s7 h2
    replace h_state := A2.mono s7 h_state
    replace h5 := A2.mono s7 h5
    replace sF := sF.trans s7
    refine ⟨_, rfl, ⟨_, SqL.of (w7.same _ _ q7)⟩, ?_⟩
    refine forS (tw_list (a := p6) h5) hm (fun (g4 : (List Int) × (List Int)) σ H' => ∃ (F' : Hp) (vs4_0 : List V) (vs4_1 : List V) (o4_4 : Option V), σ = [some (.ref a_state), some (.int x_wide), some (.int x_high), some (.ref p3), o4_4] ∧ Same F7 F' ∧ W F' H' ((p3, .lst vs4_0) :: (a_state, .lst vs4_1) :: os) ∧ A2 (rep K F') vs4_0 g4.1 ∧ A2 (rep K F') vs4_1 g4.2) ⟨_, _, _, _, rfl, Same.refl _, w7, h2, h_state⟩ (fun g σ H' hI => by obtain ⟨F', _, _, _, _, s, w, _⟩ := hI; exact SqL.of (w.same _ _ (s _ _ q7))) ?_ ?_
    · -- a turn
      intro b4 g4 x4 σ4 H4 H4' N4 P4 hI hy hN4 hm
      obtain ⟨F4, vs4_0, vs4_1, o4_4, rfl, s4, w4, h4_0, h4_1⟩ := hI
      replace h5 := A2.mono s4 h5
      replace q7 := s4 _ _ q7
      replace sF := sF.trans s4
      obtain ⟨rfl, r8⟩ := hy
      obtain rfl : x4 = V.int b4 := r8
      have w9 : W F4 _ ((a_state, .lst vs4_1) :: (p3, .lst vs4_0) :: os) := w4.front (pre := [_])
      refine ⟨_, rfl, .inl ⟨rfl, _, SqL.of (w4.get (pre := []))⟩, _, rfl, _, _, rfl, rfl, _, rfl, _, rfl, _, _, _, _, _, _, rfl, w9, h4_1, ?_⟩
      refine (post_bind hm).mono (fun y10 hm v10 vs10 F10 H10 w10 s10 r10 h10 => ?_) (fun _ z => z)
      replace h4_0 := A2.mono s10 h4_0
      replace sF := sF.trans s10
      obtain rfl : v10 = V.int y10.1 := r10
      have h11 : A2 (rep K F10) [(.int 0), (.int (b4 - (1 : Int))), (.int 1), (.int y10.1)] ([(0 : Int), (b4 - (1 : Int)), (1 : Int), y10.1] : (List Int)) := .cons rep_i (.cons rep_i (.cons rep_i (.cons rep_i (.nil))))
      refine ⟨(by show 4 ≤ sizeLine; decide), fun p12 n12 => ?_⟩
      have w12 : W F10 _ ((p12, .lst [(.int 0), (.int (b4 - (1 : Int))), (.int 1), (.int y10.1)]) :: (a_state, .lst vs10) :: (p3, .lst vs4_0) :: os) := w10.new n12
      have w13 : W F10 _ ((a_state, .lst vs10) :: (p12, .lst [(.int 0), (.int (b4 - (1 : Int))), (.int 1), (.int y10.1)]) :: (p3, .lst vs4_0) :: os) := w12.front (pre := [_])
      refine ⟨_, rfl, _, _, _, _, _, _, rfl, w13, h10, ?_⟩
      refine (post_bind hm).mono (fun y14 hm v14 vs14 F14 H14 w14 s14 r14 h14 => ?_) (fun _ z => z)
      replace h4_0 := A2.mono s14 h4_0
      replace h11 := A2.mono s14 h11
      replace sF := sF.trans s14
      obtain rfl : v14 = V.int y14.1 := r14
      obtain ⟨t15, e15, hm⟩ := pb_get hm
      obtain ⟨u15, f15, r15⟩ := A2.at h11 e15
      obtain rfl : u15 = V.int t15 := r15
      obtain ⟨l16, z16, e16, hm⟩ := pn_app hm
      refine ⟨_, _, rfl, _, _, _, _, rfl, rfl, SqL.of (w14.get (pre := [_])), f15, _, _, _, rfl, rfl, (w14.get (pre := [_, _])), (A2.lt h4_0 z16), ?_⟩
      have h16 : A2 (rep K F14) (vs4_0 ++ [(.int t15)]) l16 := e16 ▸ A2.snoc h4_0 rep_i
      have w17 : W F14 _ ((a_state, .lst vs14) :: (p12, .lst [(.int 0), (.int (b4 - (1 : Int))), (.int 1), (.int y10.1)]) :: (p3, .lst (vs4_0 ++ [(.int t15)])) :: os) := w14.set (pre := [_, _])
      have w18 : W F14 _ ((a_state, .lst vs14) :: (p3, .lst (vs4_0 ++ [(.int t15)])) :: os) := w17.drop (pre := [_])
      have w19 : W F14 _ ((p3, .lst (vs4_0 ++ [(.int t15)])) :: (a_state, .lst vs14) :: os) := w18.front (pre := [_])
      exact hN4 _ (post_ok hm) _ _ ⟨_, _, _, _, rfl, (s4.trans (s10.trans s14)), w19, h16, h14⟩
    intro g4 σ4 H4 hI hm
    obtain ⟨F4, vs4_0, vs4_1, o4_4, rfl, s4, w4, h4_0, h4_1⟩ := hI
    replace h5 := A2.mono s4 h5
    replace q7 := s4 _ _ q7
    replace sF := sF.trans s4
    have h20 : A2 (rep K F4) vs4_0 g4.1 := h4_0
    refine ⟨_, rfl, _, _, rfl, .inl ⟨SqL.of (w4.get (pre := [])), fun p21 n21 => ?_⟩⟩
    obtain ⟨F21, s21, w21, q21⟩ := w4.frzE (o := .tup vs4_0) n21
    replace h4_0 := A2.mono s21 h4_0
    replace h4_1 := A2.mono s21 h4_1
    replace h20 := A2.mono s21 h20
    replace sF := sF.trans s21
    have w22 : W F21 _ ((a_state, .lst vs4_1) :: os) := w21.drop (pre := [])
    exact (post_ok hm) _ _ _ _ w22 sF (rep_tup q21 h20) h4_1
def sp_law_two (K : Fg) : Sp := fun vs H Q E => ∃ (F : Hp) (os : List (Addr × HO)) (a_state : Addr) (vs_state : List V) (x_state : (List Int)) (x_wide : Int) (x_high : Int), vs = [.ref a_state, .int x_wide, .int x_high] ∧ W F H ((a_state, .lst vs_state) :: os) ∧ A2 (rep K F) vs_state x_state ∧ Post (law_two x_state x_wide x_high) (RetM K F a_state os Q) noX
theorem sc_law_two : FnScope ["state", "wide", "high", "one", "other"] ["state", "wide", "high"] (defScope s_law_two) := ⟨rfl, rfl, rfl, by decide +kernel, rfl, by decide +kernel, by decide +kernel⟩
theorem ok_law_two (T : Tx K mg A FD) : FnOk P w K mg base CX0 4 (A 10) (FD 10) ["state", "wide", "high"] (sp_law_two K) := by
  refine T.d10.fn.ok sc_law_two (fun vs H Q E h => ?_) (fun cdv Ar outer s H vs Q E hr h => ?_)
  · obtain ⟨F, os, a_state, vs_state, x_state, x_wide, x_high, rfl, _⟩ := h
    rfl
  · obtain ⟨F0, os, a_state, vs_state, x_state, x_wide, x_high, rfl, w0, h_state, hm⟩ := h
    have sF : Same F0 F0 := Same.refl _
    refine ⟨_, (pss_cons (ps_par (i := 3) (j := 4) rfl sc_law_two.nd rfl rfl (by decide) rfl rfl (pa_cons (pe_call (ok_law_spot T) (hr.mono (by decide)) rfl T.d9.mg T.d9.fn.kp T.d9.b .nil pass0 (pa_cons (pv 0) (pa_cons (pv 1) (pa_cons (pv 2) pa_nil)))) (pa_cons (pe_call (ok_law_spot T) (hr.mono (by decide)) rfl T.d9.mg T.d9.fn.kp T.d9.b .nil pass0 (pa_cons (pv 0) (pa_cons (pv 1) (pa_cons (pv 2) pa_nil)))) pa_nil)) rfl) (pss_cons (ps_if (pt_cmp (pc_eqI (pe_call (ok_law_next T) (hr.mono (by decide)) rfl T.d7.mg T.d7.fn.kp T.d7.b .nil pass0 (pa_cons (pv 0) (pa_cons pe_int pa_nil))) pe_int)) (pss_one (ps_set (i := 4) sc_law_two.nd rfl (Or.inl rfl) (pe_tup (pa_cons (pe_ix (ix_tupK (K := K) rfl) (pv 3) pe_int (fun _ _ => rfl)) (pa_cons (pe_ix (ix_tupK (K := K) rfl) (pv 4) pe_int (fun _ _ => rfl)) pa_nil))))) (pss_one (ps_if (pt_cmp (pc_eqI (pe_call (ok_law_next T) (hr.mono (by decide)) rfl T.d7.mg T.d7.fn.kp T.d7.b .nil pass0 (pa_cons (pv 0) (pa_cons pe_int pa_nil))) pe_int)) (pss_one (ps_set (i := 4) sc_law_two.nd rfl (Or.inl rfl) (pe_tup (pa_cons (pe_ix (ix_tupK (K := K) rfl) (pv 4) pe_int (fun _ _ => rfl)) (pa_cons (pe_ix (ix_tupK (K := K) rfl) (pv 3) pe_int (fun _ _ => rfl)) pa_nil))))) pss_nil))) (pss_cons (ps_if (pt_cmpR (op_eqDt (K := K) rfl (Tup Int) (by decide) hr.units) (pv 3) (pv 4) (nomark _)) (pss_one (ps_set (i := 4) sc_law_two.nd rfl (Or.inl rfl) (pe_tup (pa_cons (pe_op op_mod (pe_op op_add (pe_ix (ix_tupK (K := K) rfl) (pv 3) pe_int (fun _ _ => rfl)) pe_int) (pv 1)) (pa_cons (pe_ix (ix_tupK (K := K) rfl) (pv 3) pe_int (fun _ _ => rfl)) pa_nil))))) pss_nil) (pss_one (ps_ret (pe_tup (pa_cons (pv 3) (pa_cons (pv 4) pa_nil)))))))), ?_⟩
    refine ⟨_, rfl, _, rfl, _, rfl, _, _, _, _, _, _, _, rfl, w0, h_state, ?_⟩
    refine (post_bind hm).mono (fun y2 hm v2 vs2 F2 H2 w2 s2 r2 h2 => ?_) (fun _ z => z)
    replace sF := sF.trans s2
    obtain ⟨a3, vs3, rfl, q3, h3⟩ := r2
    refine ⟨_, rfl, _, rfl, _, rfl, _, _, _, _, _, _, _, rfl, w2, h2, ?_⟩
    refine (post_bind hm).mono (fun y4 hm v4 vs4 F4 H4 w4 s4 r4 h4 => ?_) (fun _ z => z)
    replace q3 := s4 _ _ q3
    replace h3 := A2.mono s4 h3
    replace sF := sF.trans s4
    obtain ⟨a5, vs5, rfl, q5, h5⟩ := r4
    refine ⟨_, _, rfl, ?_⟩
    try dsimp only
    refine joinS hm (fun (g6 : (Tup Int) × (List Int)) σ H' => ∃ (F' : Hp) (v6_4 : V) (vs6_0 : List V), σ = [some (.ref a_state), some (.int x_wide), some (.int x_high), some (.ref a3), some v6_4] ∧ Same F4 F' ∧ W F' H' ((a_state, .lst vs6_0) :: os) ∧ rep K F' v6_4 (g6.1 : (Tup Int)) ∧ A2 (rep K F') vs6_0 g6.2) ?_ ?_
    · intro N6 P6 hN6 hm
      refine ⟨_, rfl, _, _, _, _, _, _, rfl, w4, h4, ?_⟩
      refine (post_bind hm).mono (fun y7 hm v7 vs7 F7 H7 w7 s7 r7 h7 => ?_) (fun _ z => z)
      replace h3 := A2.mono s7 h3
      replace q3 := s7 _ _ q3
      replace h5 := A2.mono s7 h5
      replace q5 := s7 _ _ q5
      replace sF := sF.trans s7
      obtain rfl : v7 = V.int y7.1 := r7
      refine ⟨_, _, rfl, rfl, _, rfl, ?_⟩
      refine post_ite hm (fun k8 hm => ?_) (fun k8 hm => ?_)
      · skip
        obtain ⟨t9, e9, hm⟩ := pb_get hm
        obtain ⟨u9, f9, r9⟩ := A2.at h3 e9
        obtain rfl : u9 = V.int t9 := r9
        obtain ⟨t10, e10, hm⟩ := pb_get hm
        obtain ⟨u10, f10, r10⟩ := A2.at h5 e10
        obtain rfl : u10 = V.int t10 := r10
        have h11 : A2 (rep K F7) [(.int t9), (.int t10)] (Tup.mk [t9, t10] : (Tup Int)).l := .cons rep_i (.cons rep_i (.nil))
        refine ⟨_, rfl, _, _, _, _, rfl, rfl, SqT.of (w7.same _ _ q3), f9, _, rfl, _, _, _, _, rfl, rfl, SqT.of (w7.same _ _ q5), f10, (by show 2 ≤ sizeLine; decide), fun p12 n12 => ?_⟩
        obtain ⟨F12, s12, w12, q12⟩ := w7.frzE (o := .tup [(.int t9), (.int t10)]) n12
        replace h3 := A2.mono s12 h3
        replace q3 := s12 _ _ q3
        replace h5 := A2.mono s12 h5
        replace q5 := s12 _ _ q5
        replace h7 := A2.mono s12 h7
        replace h11 := A2.mono s12 h11
        replace sF := sF.trans s12
        exact hN6 _ (post_ok hm) _ _ ⟨_, _, _, rfl, (s7.trans s12), w12, (rep_tup q12 h11), h7⟩
      · skip
        refine ⟨_, rfl, _, _, _, _, _, _, rfl, w7, h7, ?_⟩
        refine (post_bind hm).mono (fun y13 hm v13 vs13 F13 H13 w13 s13 r13 h13 => ?_) (fun _ z => z)
        replace h3 := A2.mono s13 h3
        replace q3 := s13 _ _ q3
        replace h5 := A2.mono s13 h5
        replace q5 := s13 _ _ q5
        replace sF := sF.trans s13
        obtain rfl : v13 = V.int y13.1 := r13
        refine ⟨_, _, rfl, rfl, _, rfl, ?_⟩
        refine post_ite hm (fun k14 hm => ?_) (fun k14 hm => ?_)
        · skip
          obtain ⟨t15, e15, hm⟩ := pb_get hm
          obtain ⟨u15, f15, r15⟩ := A2.at h5 e15
          obtain rfl : u15 = V.int t15 := r15
          obtain ⟨t16, e16, hm⟩ := pb_get hm
          obtain ⟨u16, f16, r16⟩ := A2.at h3 e16
          obtain rfl : u16 = V.int t16 := r16
          have h17 : A2 (rep K F13) [(.int t15), (.int t16)] (Tup.mk [t15, t16] : (Tup Int)).l := .cons rep_i (.cons rep_i (.nil))
          refine ⟨_, rfl, _, _, _, _, rfl, rfl, SqT.of (w13.same _ _ q5), f15, _, rfl, _, _, _, _, rfl, rfl, SqT.of (w13.same _ _ q3), f16, (by show 2 ≤ sizeLine; decide), fun p18 n18 => ?_⟩
          obtain ⟨F18, s18, w18, q18⟩ := w13.frzE (o := .tup [(.int t15), (.int t16)]) n18
          replace h3 := A2.mono s18 h3
          replace q3 := s18 _ _ q3
          replace h5 := A2.mono s18 h5
          replace q5 := s18 _ _ q5
          replace h13 := A2.mono s18 h13
          replace h17 := A2.mono s18 h17
          replace sF := sF.trans s18
          exact hN6 _ (post_ok hm) _ _ ⟨_, _, _, rfl, (s7.trans (s13.trans s18)), w18, (rep_tup q18 h17), h13⟩
        · skip
          exact hN6 _ (post_ok hm) _ _ ⟨_, _, _, rfl, (s7.trans s13), w13, (rep_tup q5 h5), h13⟩
    intro g6 σ6 H6 hI hm
    obtain ⟨F6, v6_4, vs6_0, rfl, s6, w6, r6_4, h6_0⟩ := hI
    replace h3 := A2.mono s6 h3
    replace q3 := s6 _ _ q3
    replace h5 := A2.mono s6 h5
    replace q5 := s6 _ _ q5
    replace sF := sF.trans s6
    obtain ⟨a19, vs19, rfl, q19, h19⟩ := r6_4
    try dsimp only
    refine joinS hm (fun (g20 : (Tup Int)) σ H' => ∃ (F' : Hp) (v20_4 : V), σ = [some (.ref a_state), some (.int x_wide), some (.int x_high), some (.ref a3), some v20_4] ∧ Same F6 F' ∧ W F' H' ((a_state, .lst vs6_0) :: os) ∧ rep K F' v20_4 (g20 : (Tup Int))) ?_ ?_
    · intro N20 P20 hN20 hm
      refine ⟨_, rfl, _, rfl, (y2.1 : (Tup Int)), (g6.1 : (Tup Int)), (Rep.mono w6.same (rep_tup q3 h3)), (Rep.mono w6.same (rep_tup q19 h19)), _, rfl, ?_⟩
      refine post_ite hm (fun k21 hm => ?_) (fun k21 hm => ?_)
      · skip
        obtain ⟨t22, e22, hm⟩ := pb_get hm
        obtain ⟨u22, f22, r22⟩ := A2.at h3 e22
        obtain rfl : u22 = V.int t22 := r22
        obtain ⟨c23, hm⟩ := pb_mod hm
        obtain ⟨t24, e24, hm⟩ := pb_get hm
        obtain ⟨u24, f24, r24⟩ := A2.at h3 e24
        obtain rfl : u24 = V.int t24 := r24
        have h25 : A2 (rep K F6) [(.int ((t22 + (1 : Int)) % x_wide)), (.int t24)] (Tup.mk [((t22 + (1 : Int)) % x_wide), t24] : (Tup Int)).l := .cons rep_i (.cons rep_i (.nil))
        refine ⟨_, rfl, _, _, _, _, rfl, rfl, SqT.of (w6.same _ _ q3), f22, _, _, rfl, rfl, _, rfl, _, _, rfl, rfl, c23, _, rfl, _, _, _, _, rfl, rfl, SqT.of (w6.same _ _ q3), f24, (by show 2 ≤ sizeLine; decide), fun p26 n26 => ?_⟩
        obtain ⟨F26, s26, w26, q26⟩ := w6.frzE (o := .tup [(.int ((t22 + (1 : Int)) % x_wide)), (.int t24)]) n26
        replace h3 := A2.mono s26 h3
        replace q3 := s26 _ _ q3
        replace h19 := A2.mono s26 h19
        replace q19 := s26 _ _ q19
        replace h6_0 := A2.mono s26 h6_0
        replace h25 := A2.mono s26 h25
        replace sF := sF.trans s26
        exact hN20 _ (post_ok hm) _ _ ⟨_, _, rfl, s26, w26, (rep_tup q26 h25)⟩
      · skip
        exact hN20 _ (post_ok hm) _ _ ⟨_, _, rfl, Same.refl _, w6, (rep_tup q19 h19)⟩
    intro g20 σ20 H20 hI hm
    obtain ⟨F20, v20_4, rfl, s20, w20, r20_4⟩ := hI
    replace h3 := A2.mono s20 h3
    replace q3 := s20 _ _ q3
    replace h19 := A2.mono s20 h19
    replace q19 := s20 _ _ q19
    replace h6_0 := A2.mono s20 h6_0
    replace sF := sF.trans s20
    obtain ⟨a27, vs27, rfl, q27, h27⟩ := r20_4
    refine ⟨_, rfl, _, rfl, (by show 2 ≤ sizeLine; decide), fun p28 n28 => ?_⟩
    obtain ⟨F28, s28, w28, q28⟩ := w20.frzE (o := .tup [(.ref a3), (.ref a27)]) n28
    replace h3 := A2.mono s28 h3
    replace q3 := s28 _ _ q3
    replace h27 := A2.mono s28 h27
    replace q27 := s28 _ _ q27
    replace h6_0 := A2.mono s28 h6_0
    replace sF := sF.trans s28
    exact (post_ok hm) _ _ _ _ w28 sF (rep_pair q28 (rep_tup q3 h3) (rep_tup q27 h27)) h6_0
def sp_law_unlike (K : Fg) : Sp := fun vs H Q E => ∃ (F : Hp) (os : List (Addr × HO)) (x_wide : Int) (x_high : Int) (v_one : V) (x_one : (Tup Int)) (v_other : V) (x_other : (Tup Int)), vs = [.int x_wide, .int x_high, v_one, v_other] ∧ W F H (os) ∧ rep K F v_one x_one ∧ rep K F v_other x_other ∧ Post (law_unlike x_wide x_high x_one x_other) (Ret K F os Q) noX
theorem sc_law_unlike : FnScope ["wide", "high", "one", "other", "codes", "x", "y"] ["wide", "high", "one", "other"] (defScope s_law_unlike) := ⟨rfl, rfl, rfl, by decide +kernel, rfl, by decide +kernel, by decide +kernel⟩
theorem ok_law_unlike (T : Tx K mg A FD) : FnOk P w K mg base CX0 1 (A 11) (FD 11) ["wide", "high", "one", "other"] (sp_law_unlike K) := by
  refine T.d11.fn.ok sc_law_unlike (fun vs H Q E h => ?_) (fun cdv Ar outer s H vs Q E hr h => ?_)
  · obtain ⟨F, os, x_wide, x_high, v_one, x_one, v_other, x_other, rfl, _⟩ := h
    rfl
  · obtain ⟨F0, os, x_wide, x_high, v_one, x_one, v_other, x_other, rfl, w0, r_one, r_other, hm⟩ := h
    have sF : Same F0 F0 := Same.refl _
    obtain ⟨a1, vs1, rfl, q1, h1⟩ := r_one
    obtain ⟨a2, vs2, rfl, q2, h2⟩ := r_other
    refine ⟨_, (pss_cons (ps_set (i := 4) sc_law_unlike.nd rfl (Or.inl rfl) (pe_lst pa_nil)) (pss_cons (ps_for PassesOwn.never rfl (pi_range1 (by rfl) T.n_range (pa_cons (pv 0) pa_nil)) (pg_name (i := 5) sc_law_unlike.nd rfl (Or.inl rfl)) (pss_one (ps_for PassesOwn.never rfl (pi_range1 (by rfl) T.n_range (pa_cons (pv 1) pa_nil)) (pg_name (i := 6) sc_law_unlike.nd rfl (Or.inl rfl)) (pss_one (ps_expr (pe_bm PySem.F.plainAttrs_list PySem.F.slot_list_append PySem.F.type_list_append mt_append (pv 4) (pa_cons (pe_tup (pa_cons (pe_op op_add (pe_callB call_abs (by rfl) T.n_abs (by decide +kernel) (pa_cons (pe_op op_sub (pv 5) (pe_ix (ix_tupK (K := K) rfl) (pv 2) pe_int (fun _ _ => rfl))) pa_nil)) (pe_callB call_abs (by rfl) T.n_abs (by decide +kernel) (pa_cons (pe_op op_sub (pv 6) (pe_ix (ix_tupK (K := K) rfl) (pv 2) pe_int (fun _ _ => rfl))) pa_nil))) (pa_cons (pe_op op_add (pe_callB call_abs (by rfl) T.n_abs (by decide +kernel) (pa_cons (pe_op op_sub (pv 5) (pe_ix (ix_tupK (K := K) rfl) (pv 3) pe_int (fun _ _ => rfl))) pa_nil)) (pe_callB call_abs (by rfl) T.n_abs (by decide +kernel) (pa_cons (pe_op op_sub (pv 6) (pe_ix (ix_tupK (K := K) rfl) (pv 3) pe_int (fun _ _ => rfl))) pa_nil))) pa_nil))) pa_nil))))))) (pss_one (ps_ret (pe_cmp (pc_eqI (pe_callB (call_lenT (P := P) (w := w) rfl rfl) (by rfl) T.n_len (by decide +kernel) (pa_cons (pe_callTy (cr_setT (K := K) (P := P) (w := w) rfl rfl rfl rfl hr.units) (by rfl) T.n_set (by decide +kernel) (pa_cons (pv 4) pa_nil)) pa_nil)) (pe_callB (call_lenN (K := K) rfl) (by rfl) T.n_len (by decide +kernel) (pa_cons (pv 4) pa_nil)))))))), ?_⟩
    have h3 : A2 (rep K F0) [] ([] : (List (Tup Int))) := .nil
    refine ⟨(by show 0 ≤ sizeLine; decide), fun p4 n4 => ?_⟩
    have w4 : W F0 _ ((p4, .lst []) :: os) := w0.new n4
    obtain ⟨c6, hm⟩ := pb_rng hm
    refine ⟨_, rfl, _, rfl, c6.2.2.1, c6.2.2.2, ?_⟩
    refine forS (tw_rng0 (j := x_wide)) hm (fun (g5 : (List (Tup Int))) σ H' => ∃ (F' : Hp) (vs5_0 : List V) (o5_6 : Option V) (o5_5 : Option V), σ = [some (.int x_wide), some (.int x_high), some (.ref a1), some (.ref a2), some (.ref p4), o5_5, o5_6] ∧ Same F0 F' ∧ W F' H' ((p4, .lst vs5_0) :: os) ∧ A2 (rep K F') vs5_0 g5) ⟨_, _, _, _, rfl, Same.refl _, w4, h3⟩ (fun _ _ _ _ => trivial) ?_ ?_
    · -- a turn
      intro b5 g5 x5 σ5 H5 H5' N5 P5 hI hy hN5 hm
      obtain ⟨F5, vs5_0, o5_6, o5_5, rfl, s5, w5, h5_0⟩ := hI
      replace h1 := A2.mono s5 h1
      replace q1 := s5 _ _ q1
      replace h2 := A2.mono s5 h2
      replace q2 := s5 _ _ q2
      replace sF := sF.trans s5
      obtain ⟨rfl, rfl⟩ := hy
      obtain ⟨c8, hm⟩ := pb_rng hm
      refine ⟨_, rfl, _, rfl, c8.2.2.1, c8.2.2.2, ?_⟩
      refine forS (tw_rng0 (j := x_high)) hm (fun (g7 : (List (Tup Int))) σ H' => ∃ (F' : Hp) (vs7_0 : List V) (o7_6 : Option V), σ = [some (.int x_wide), some (.int x_high), some (.ref a1), some (.ref a2), some (.ref p4), some (.int b5), o7_6] ∧ Same F5 F' ∧ W F' H' ((p4, .lst vs7_0) :: os) ∧ A2 (rep K F') vs7_0 g7) ⟨_, _, _, rfl, Same.refl _, w5, h5_0⟩ (fun _ _ _ _ => trivial) ?_ ?_
      · -- a turn
        intro b7 g7 x7 σ7 H7 H7' N7 P7 hI hy hN7 hm
        obtain ⟨F7, vs7_0, o7_6, rfl, s7, w7, h7_0⟩ := hI
        replace h1 := A2.mono s7 h1
        replace q1 := s7 _ _ q1
        replace h2 := A2.mono s7 h2
        replace q2 := s7 _ _ q2
        replace sF := sF.trans s7
        obtain ⟨rfl, rfl⟩ := hy
        obtain ⟨t9, e9, hm⟩ := pb_get hm
        obtain ⟨u9, f9, r9⟩ := A2.at h1 e9
        obtain rfl : u9 = V.int t9 := r9
        obtain ⟨t10, e10, hm⟩ := pb_get hm
        obtain ⟨u10, f10, r10⟩ := A2.at h1 e10
        obtain rfl : u10 = V.int t10 := r10
        obtain ⟨t11, e11, hm⟩ := pb_get hm
        obtain ⟨u11, f11, r11⟩ := A2.at h2 e11
        obtain rfl : u11 = V.int t11 := r11
        obtain ⟨t12, e12, hm⟩ := pb_get hm
        obtain ⟨u12, f12, r12⟩ := A2.at h2 e12
        obtain rfl : u12 = V.int t12 := r12
        have h13 : A2 (rep K F7) [(.int ((absI (b5 - t9)) + (absI (b7 - t10)))), (.int ((absI (b5 - t11)) + (absI (b7 - t12))))] (Tup.mk [((absI (b5 - t9)) + (absI (b7 - t10))), ((absI (b5 - t11)) + (absI (b7 - t12)))] : (Tup Int)).l := .cons rep_i (.cons rep_i (.nil))
        refine ⟨_, rfl, .inl ⟨rfl, _, SqL.of (w7.get (pre := []))⟩, _, rfl, _, rfl, _, _, _, _, rfl, rfl, SqT.of (w7.same _ _ q1), f9, _, _, rfl, rfl, _, rfl, _, rfl, _, rfl, _, _, _, _, rfl, rfl, SqT.of (w7.same _ _ q1), f10, _, _, rfl, rfl, _, rfl, _, _, rfl, rfl, _, rfl, _, rfl, _, _, _, _, rfl, rfl, SqT.of (w7.same _ _ q2), f11, _, _, rfl, rfl, _, rfl, _, rfl, _, rfl, _, _, _, _, rfl, rfl, SqT.of (w7.same _ _ q2), f12, _, _, rfl, rfl, _, rfl, _, _, rfl, rfl, (by show 2 ≤ sizeLine; decide), fun p14 n14 => ?_⟩
        obtain ⟨F14, s14, w14, q14⟩ := w7.frzE (o := .tup [(.int ((absI (b5 - t9)) + (absI (b7 - t10)))), (.int ((absI (b5 - t11)) + (absI (b7 - t12))))]) n14
        replace h1 := A2.mono s14 h1
        replace q1 := s14 _ _ q1
        replace h2 := A2.mono s14 h2
        replace q2 := s14 _ _ q2
        replace h7_0 := A2.mono s14 h7_0
        replace h13 := A2.mono s14 h13
        replace sF := sF.trans s14
        obtain ⟨l15, z15, e15, hm⟩ := pn_app hm
        refine ⟨_, _, _, rfl, rfl, (w14.get (pre := [])), (A2.lt h7_0 z15), ?_⟩
        have h15 : A2 (rep K F14) (vs7_0 ++ [(.ref p14)]) l15 := e15 ▸ A2.snoc h7_0 (rep_tup q14 h13)
        have w16 : W F14 _ ((p4, .lst (vs7_0 ++ [(.ref p14)])) :: os) := w14.set (pre := [])
        exact hN7 _ (post_ok hm) _ _ ⟨_, _, _, rfl, (s7.trans s14), w16, h15⟩
      intro g7 σ7 H7 hI hm
      obtain ⟨F7, vs7_0, o7_6, rfl, s7, w7, h7_0⟩ := hI
      replace h1 := A2.mono s7 h1
      replace q1 := s7 _ _ q1
      replace h2 := A2.mono s7 h2
      replace q2 := s7 _ _ q2
      replace sF := sF.trans s7
      exact hN5 _ (post_ok hm) _ _ ⟨_, _, _, _, rfl, (s5.trans s7), w7, h7_0⟩
    intro g5 σ5 H5 hI hm
    obtain ⟨F5, vs5_0, o5_6, o5_5, rfl, s5, w5, h5_0⟩ := hI
    replace h1 := A2.mono s5 h1
    replace q1 := s5 _ _ q1
    replace h2 := A2.mono s5 h2
    replace q2 := s5 _ _ q2
    replace sF := sF.trans s5
    obtain ⟨c17, hm⟩ := pb_grd hm
    refine ⟨_, rfl, _, _, rfl, (rep_own (pre := []) w5 h5_0), of_decide_eq_true c17, fun p17 L17 n17 nd17 => ?_⟩
    obtain ⟨F17, s17, w17, q17⟩ := w5.frzE (o := SetTO P w p17 L17) n17
    replace h1 := A2.mono s17 h1
    replace q1 := s17 _ _ q1
    replace h2 := A2.mono s17 h2
    replace q2 := s17 _ _ q2
    replace h5_0 := A2.mono s17 h5_0
    replace sF := sF.trans s17
    have w18 : W F17 _ (os) := w17.drop (pre := [])
    exact ⟨_, _, _, rfl, w17.same _ _ q17, nd17, _, rfl, _, _, _, rfl, .inl (SqL.of (w17.get (pre := []))), h5_0.length, _, _, rfl, rfl, (post_ok hm) _ _ _ w18 sF rep_b⟩
def sp_law_words (K : Fg) : Sp := fun vs H Q E => ∃ (F : Hp) (os : List (Addr × HO)) (x_wide : Int) (x_high : Int) (v_one : V) (x_one : (Tup Int)) (v_other : V) (x_other : (Tup Int)), vs = [.int x_wide, .int x_high, v_one, v_other] ∧ W F H (os) ∧ rep K F v_one x_one ∧ rep K F v_other x_other ∧ Post (law_words x_wide x_high x_one x_other) (Ret K F os Q) noX
theorem sc_law_words : FnScope ["wide", "high", "one", "other", "corners"] ["wide", "high", "one", "other"] (defScope s_law_words) := ⟨rfl, rfl, rfl, by decide +kernel, rfl, by decide +kernel, by decide +kernel⟩
theorem ok_law_words (T : Tx K mg A FD) : FnOk P w K mg base CX0 1 (A 12) (FD 12) ["wide", "high", "one", "other"] (sp_law_words K) := by
  refine T.d12.fn.ok sc_law_words (fun vs H Q E h => ?_) (fun cdv Ar outer s H vs Q E hr h => ?_)
  · obtain ⟨F, os, x_wide, x_high, v_one, x_one, v_other, x_other, rfl, _⟩ := h
    rfl
  · obtain ⟨F0, os, x_wide, x_high, v_one, x_one, v_other, x_other, rfl, w0, r_one, r_other, hm⟩ := h
    have sF : Same F0 F0 := Same.refl _
    obtain ⟨a1, vs1, rfl, q1, h1⟩ := r_one
    obtain ⟨a2, vs2, rfl, q2, h2⟩ := r_other
    refine ⟨_, (pss_cons (ps_set (i := 4) sc_law_words.nd rfl (Or.inl rfl) (pe_lst (pa_cons (pe_tup (pa_cons pe_int (pa_cons pe_int pa_nil))) (pa_cons (pe_tup (pa_cons pe_int (pa_cons (pe_op op_sub (pv 1) pe_int) pa_nil))) (pa_cons (pe_tup (pa_cons (pe_op op_sub (pv 0) pe_int) (pa_cons pe_int pa_nil))) (pa_cons (pe_tup (pa_cons (pe_op op_sub (pv 0) pe_int) (pa_cons (pe_op op_sub (pv 1) pe_int) pa_nil))) pa_nil)))))) (pss_one (ps_ret (pe_and (pe_cmpR (op_inL (K := K) rfl (Tup Int) (by decide) (Room.units65 hr)) (pv 2) (pv 4) (by rfl)) (pe_and (pe_cmpR (op_inL (K := K) rfl (Tup Int) (by decide) (Room.units65 hr)) (pv 3) (pv 4) (by rfl)) (pe_one (pe_or (pe_cmp (pc_eqI (pe_ix (ix_tupK (K := K) rfl) (pv 2) pe_int (fun _ _ => rfl)) (pe_ix (ix_tupK (K := K) rfl) (pv 3) pe_int (fun _ _ => rfl)))) (pe_one (pe_cmp (pc_eqI (pe_ix (ix_tupK (K := K) rfl) (pv 2) pe_int (fun _ _ => rfl)) (pe_ix (ix_tupK (K := K) rfl) (pv 3) pe_int (fun _ _ => rfl)))))))))))), ?_⟩
    have h3 : A2 (rep K F0) [(.int 0), (.int 0)] (Tup.mk [(0 : Int), (0 : Int)] : (Tup Int)).l := .cons rep_i (.cons rep_i (.nil))
    refine ⟨(by show 2 ≤ sizeLine; decide), fun p4 n4 => ?_⟩
    obtain ⟨F4, s4, w4, q4⟩ := w0.frzE (o := .tup [(.int 0), (.int 0)]) n4
    replace q1 := s4 _ _ q1
    replace h1 := A2.mono s4 h1
    replace q2 := s4 _ _ q2
    replace h2 := A2.mono s4 h2
    replace h3 := A2.mono s4 h3
    replace sF := sF.trans s4
    have h5 : A2 (rep K F4) [(.int 0), (.int (x_high - (1 : Int)))] (Tup.mk [(0 : Int), (x_high - (1 : Int))] : (Tup Int)).l := .cons rep_i (.cons rep_i (.nil))
    refine ⟨_, rfl, _, _, rfl, rfl, (by show 2 ≤ sizeLine; decide), fun p6 n6 => ?_⟩
    obtain ⟨F6, s6, w6, q6⟩ := w4.frzE (o := .tup [(.int 0), (.int (x_high - (1 : Int)))]) n6
    replace q1 := s6 _ _ q1
    replace h1 := A2.mono s6 h1
    replace q2 := s6 _ _ q2
    replace h2 := A2.mono s6 h2
    replace h3 := A2.mono s6 h3
    replace q4 := s6 _ _ q4
    replace h5 := A2.mono s6 h5
    replace sF := sF.trans s6
    have h7 : A2 (rep K F6) [(.int (x_wide - (1 : Int))), (.int 0)] (Tup.mk [(x_wide - (1 : Int)), (0 : Int)] : (Tup Int)).l := .cons rep_i (.cons rep_i (.nil))
    refine ⟨_, rfl, _, _, rfl, rfl, (by show 2 ≤ sizeLine; decide), fun p8 n8 => ?_⟩
    obtain ⟨F8, s8, w8, q8⟩ := w6.frzE (o := .tup [(.int (x_wide - (1 : Int))), (.int 0)]) n8
    replace q1 := s8 _ _ q1
    replace h1 := A2.mono s8 h1
    replace q2 := s8 _ _ q2
    replace h2 := A2.mono s8 h2
    replace h3 := A2.mono s8 h3
    replace q4 := s8 _ _ q4
    replace h5 := A2.mono s8 h5
    replace q6 := s8 _ _ q6
    replace h7 := A2.mono s8 h7
    replace sF := sF.trans s8
    have h9 : A2 (rep K F8) [(.int (x_wide - (1 : Int))), (.int (x_high - (1 : Int)))] (Tup.mk [(x_wide - (1 : Int)), (x_high - (1 : Int))] : (Tup Int)).l := .cons rep_i (.cons rep_i (.nil))
    refine ⟨_, rfl, _, _, rfl, rfl, _, rfl, _, _, rfl, rfl, (by show 2 ≤ sizeLine; decide), fun p10 n10 => ?_⟩
    obtain ⟨F10, s10, w10, q10⟩ := w8.frzE (o := .tup [(.int (x_wide - (1 : Int))), (.int (x_high - (1 : Int)))]) n10
    replace q1 := s10 _ _ q1
    replace h1 := A2.mono s10 h1
    replace q2 := s10 _ _ q2
    replace h2 := A2.mono s10 h2
    replace h3 := A2.mono s10 h3
    replace q4 := s10 _ _ q4
    replace h5 := A2.mono s10 h5
    replace q6 := s10 _ _ q6
    replace h7 := A2.mono s10 h7
    replace q8 := s10 _ _ q8
    replace h9 := A2.mono s10 h9
    replace sF := sF.trans s10
    have h11 : A2 (rep K F10) [(.ref p4), (.ref p6), (.ref p8), (.ref p10)] ([(Tup.mk [(0 : Int), (0 : Int)] : (Tup Int)), (Tup.mk [(0 : Int), (x_high - (1 : Int))] : (Tup Int)), (Tup.mk [(x_wide - (1 : Int)), (0 : Int)] : (Tup Int)), (Tup.mk [(x_wide - (1 : Int)), (x_high - (1 : Int))] : (Tup Int))] : (List (Tup Int))) := .cons (rep_tup q4 h3) (.cons (rep_tup q6 h5) (.cons (rep_tup q8 h7) (.cons (rep_tup q10 h9) (.nil))))
    refine ⟨(by show 4 ≤ sizeLine; decide), fun p12 n12 => ?_⟩
    have w12 : W F10 _ ((p12, .lst [(.ref p4), (.ref p6), (.ref p8), (.ref p10)]) :: os) := w10.new n12
    obtain ⟨F13, s13, w13, q13⟩ : ∃ F', Same F10 F' ∧ W F' _ (os) ∧ F' p12 = some (.lst [(.ref p4), (.ref p6), (.ref p8), (.ref p10)]) := w12.freezeE (pre := [])
    replace q1 := s13 _ _ q1
    replace h1 := A2.mono s13 h1
    replace q2 := s13 _ _ q2
    replace h2 := A2.mono s13 h2
    replace h3 := A2.mono s13 h3
    replace q4 := s13 _ _ q4
    replace h5 := A2.mono s13 h5
    replace q6 := s13 _ _ q6
    replace h7 := A2.mono s13 h7
    replace q8 := s13 _ _ q8
    replace h9 := A2.mono s13 h9
    replace q10 := s13 _ _ q10
    replace h11 := A2.mono s13 h11
    replace sF := sF.trans s13
    refine stepN ?_
    try dsimp only
    refine stepRet ?_
    refine joinE hm (fun (j14 : Bool) c H' => c = V.bl j14 ∧ ∃ (F' : Hp), Same F13 F' ∧ W F' H' (os)) ?_ ?_
    · intro Q14 P14 q14 hm
      refine ⟨_, rfl, _, rfl, (x_one : (Tup Int)), _, (Rep.mono w13.same (rep_tup q1 h1)), (Rep.mono w13.same (rep_lst q13 h11)), _, rfl, ?_⟩
      refine post_ite hm (fun k15 hm => ?_) (fun k15 hm => ?_)
      · skip
        refine ⟨_, rfl, _, rfl, (x_other : (Tup Int)), _, (Rep.mono w13.same (rep_tup q2 h2)), (Rep.mono w13.same (rep_lst q13 h11)), _, rfl, ?_⟩
        refine post_ite hm (fun k16 hm => ?_) (fun k16 hm => ?_)
        · skip
          refine joinE hm (fun (j17 : Bool) c H' => c = V.bl j17 ∧ ∃ (F' : Hp), Same F13 F' ∧ W F' H' (os)) ?_ ?_
          · intro Q17 P17 q17 hm
            obtain ⟨t18, e18, hm⟩ := pb_get hm
            obtain ⟨u18, f18, r18⟩ := A2.at h1 e18
            obtain rfl : u18 = V.int t18 := r18
            obtain ⟨t19, e19, hm⟩ := pb_get hm
            obtain ⟨u19, f19, r19⟩ := A2.at h2 e19
            obtain rfl : u19 = V.int t19 := r19
            refine ⟨_, rfl, _, _, _, _, rfl, rfl, SqT.of (w13.same _ _ q1), f18, _, rfl, _, _, _, _, rfl, rfl, SqT.of (w13.same _ _ q2), f19, _, _, rfl, rfl, _, rfl, ?_⟩
            refine post_ite hm (fun k20 hm => ?_) (fun k20 hm => ?_)
            · skip
              exact q17 _ (post_ok hm) _ _ ⟨rfl, _, Same.refl _, w13⟩
            · skip
              obtain ⟨t22, e22, hm⟩ := pb_get hm
              obtain ⟨u22, f22, r22⟩ := A2.at h1 e22
              obtain rfl : u22 = V.int t22 := r22
              obtain ⟨t23, e23, hm⟩ := pb_get hm
              obtain ⟨u23, f23, r23⟩ := A2.at h2 e23
              obtain rfl : u23 = V.int t23 := r23
              exact ⟨_, rfl, _, _, _, _, rfl, rfl, SqT.of (w13.same _ _ q1), f22, _, rfl, _, _, _, _, rfl, rfl, SqT.of (w13.same _ _ q2), f23, _, _, rfl, rfl, q17 _ (post_ok hm) _ _ ⟨rfl, _, Same.refl _, w13⟩⟩
          intro j17 c17 H17 hc17 hm
          obtain ⟨rfl, F17, s17, w17⟩ := hc17
          replace h1 := A2.mono s17 h1
          replace q1 := s17 _ _ q1
          replace h2 := A2.mono s17 h2
          replace q2 := s17 _ _ q2
          replace h11 := A2.mono s17 h11
          replace q13 := s17 _ _ q13
          replace sF := sF.trans s17
          exact q14 _ (post_ok hm) _ _ ⟨rfl, _, s17, w17⟩
        · skip
          exact q14 _ (post_ok hm) _ _ ⟨rfl, _, Same.refl _, w13⟩
      · skip
        exact q14 _ (post_ok hm) _ _ ⟨rfl, _, Same.refl _, w13⟩
    intro j14 c14 H14 hc14 hm
    obtain ⟨rfl, F14, s14, w14⟩ := hc14
    replace h1 := A2.mono s14 h1
    replace q1 := s14 _ _ q1
    replace h2 := A2.mono s14 h2
    replace q2 := s14 _ _ q2
    replace h11 := A2.mono s14 h11
    replace q13 := s14 _ _ q13
    replace sF := sF.trans s14
    exact (post_ok hm) _ _ _ w14 sF rep_b
def sp_law_told (K : Fg) : Sp := fun vs H Q E => ∃ (F : Hp) (os : List (Addr × HO)) (x_wide : Int) (x_high : Int) (v_one : V) (x_one : (Tup Int)) (v_other : V) (x_other : (Tup Int)), vs = [.int x_wide, .int x_high, v_one, v_other] ∧ W F H (os) ∧ rep K F v_one x_one ∧ rep K F v_other x_other ∧ Post (law_told x_wide x_high x_one x_other) (Ret K F os Q) noX
theorem sc_law_told : FnScope ["wide", "high", "one", "other", "found", "told"] ["wide", "high", "one", "other"] (defScope s_law_told) := ⟨rfl, rfl, rfl, by decide +kernel, rfl, by decide +kernel, by decide +kernel⟩
theorem ok_law_told (T : Tx K mg A FD) : FnOk P w K mg base CX0 3 (A 13) (FD 13) ["wide", "high", "one", "other"] (sp_law_told K) := by
  refine T.d13.fn.ok sc_law_told (fun vs H Q E h => ?_) (fun cdv Ar outer s H vs Q E hr h => ?_)
  · obtain ⟨F, os, x_wide, x_high, v_one, x_one, v_other, x_other, rfl, _⟩ := h
    rfl
  · obtain ⟨F0, os, x_wide, x_high, v_one, x_one, v_other, x_other, rfl, w0, r_one, r_other, hm⟩ := h
    have sF : Same F0 F0 := Same.refl _
    obtain ⟨a1, vs1, rfl, q1, h1⟩ := r_one
    obtain ⟨a2, vs2, rfl, q2, h2⟩ := r_other
    refine ⟨_, (pss_cons (ps_set (i := 4) sc_law_told.nd rfl (Or.inl rfl) (pe_lst (pa_cons (pe_call (ok_grid_known T) (hr.mono (by decide)) rfl T.d2.mg T.d2.fn.kp T.d2.b .nil pass0 (pa_cons (pv 0) (pa_cons (pv 1) (pa_cons (pv 2) (pa_cons (pv 3) pa_nil))))) (pa_cons (pe_call (ok_grid_known T) (hr.mono (by decide)) rfl T.d2.mg T.d2.fn.kp T.d2.b .nil pass0 (pa_cons (pv 0) (pa_cons (pv 1) (pa_cons (pv 3) (pa_cons (pv 2) pa_nil))))) pa_nil)))) (pss_cons (ps_expr (pe_bm PySem.F.plainAttrs_list PySem.F.slot_list_append PySem.F.type_list_append mt_append (pv 4) (pa_cons (pe_call (ok_grid_known T) (hr.mono (by decide)) rfl T.d2.mg T.d2.fn.kp T.d2.b .nil pass0 (pa_cons (pv 1) (pa_cons (pv 0) (pa_cons (pe_rev2 (pv 2)) (pa_cons (pe_rev2 (pv 3)) pa_nil))))) pa_nil))) (pss_cons (ps_expr (pe_bm PySem.F.plainAttrs_list PySem.F.slot_list_append PySem.F.type_list_append mt_append (pv 4) (pa_cons (pe_call (ok_grid_known T) (hr.mono (by decide)) rfl T.d2.mg T.d2.fn.kp T.d2.b .nil pass0 (pa_cons (pv 0) (pa_cons (pv 1) (pa_cons (pe_tup (pa_cons (pe_op op_sub (pe_op op_sub (pv 0) pe_int) (pe_ix (ix_tupK (K := K) rfl) (pv 2) pe_int (fun _ _ => rfl))) (pa_cons (pe_ix (ix_tupK (K := K) rfl) (pv 2) pe_int (fun _ _ => rfl)) pa_nil))) (pa_cons (pe_tup (pa_cons (pe_op op_sub (pe_op op_sub (pv 0) pe_int) (pe_ix (ix_tupK (K := K) rfl) (pv 3) pe_int (fun _ _ => rfl))) (pa_cons (pe_ix (ix_tupK (K := K) rfl) (pv 3) pe_int (fun _ _ => rfl)) pa_nil))) pa_nil))))) pa_nil))) (pss_cons (ps_if (PW.pt (pw_or (pt_not (pt_val (pe_callB (cr_allK (K := K) rfl rfl) (by rfl) T.n_all (by decide +kernel) (pa_cons (pe_lc (own := [("told", 5)]) (g := gName 5) (by rfl) sc_law_told.nd (pi_listK (K := K) rfl (pv 4)) (blkOk_by (own := [("told", 5)]) (N := ["wide", "high", "one", "other", "found", "told"]) (sc := defScope s_law_told) (by decide +kernel)) (fun _ _ _ _ _ => (pg_name (i := 5) sc_law_told.nd rfl (Or.inl rfl))) (fun _ _ _ _ _ => pts_nil) (fun _ _ _ _ _ => (pe_callB (call_isB (K := K) rfl) (by rfl) T.n_isinstance (by decide +kernel) (pa_cons (pv 5) (pa_cons (pe_bltn (v := .ty "bool") (by rfl) T.n_bool (by decide +kernel) rfl) pa_nil))))) pa_nil)))) (pw_or1 (pt_cmpR (op_neDt (K := K) rfl (List Bool) (by decide) hr.units) (pv 4) (pe_op op_rep (pe_slice (sl_listK (K := K) rfl) (pv 4) po_none (po_some pe_int)) pe_int) (nomark _))))) (pss_one (ps_ret pe_non)) pss_nil) (pss_one (ps_ret (pe_ix (ix_listK (K := K) rfl) (pv 4) pe_int (fun _ _ => rfl)))))))), ?_⟩
    refine ⟨_, rfl, _, rfl, _, rfl, _, rfl, _, _, _, _, _, (x_one : (Tup Int)), _, (x_other : (Tup Int)), rfl, w0, (rep_tup q1 h1), (rep_tup q2 h2), ?_⟩
    refine (post_bind hm).mono (fun y3 hm v3 F3 H3 w3 s3 r3 => ?_) (fun _ z => z)
    replace q1 := s3 _ _ q1
    replace h1 := A2.mono s3 h1
    replace q2 := s3 _ _ q2
    replace h2 := A2.mono s3 h2
    replace sF := sF.trans s3
    obtain rfl : v3 = V.bl y3 := r3
    refine ⟨_, rfl, _, rfl, _, rfl, _, rfl, _, _, _, _, _, (x_other : (Tup Int)), _, (x_one : (Tup Int)), rfl, w3, (rep_tup q2 h2), (rep_tup q1 h1), ?_⟩
    refine (post_bind hm).mono (fun y4 hm v4 F4 H4 w4 s4 r4 => ?_) (fun _ z => z)
    replace q1 := s4 _ _ q1
    replace h1 := A2.mono s4 h1
    replace q2 := s4 _ _ q2
    replace h2 := A2.mono s4 h2
    replace sF := sF.trans s4
    obtain rfl : v4 = V.bl y4 := r4
    have h5 : A2 (rep K F4) [(.bl y3), (.bl y4)] ([y3, y4] : (List Bool)) := .cons rep_b (.cons rep_b (.nil))
    refine ⟨(by show 2 ≤ sizeLine; decide), fun p6 n6 => ?_⟩
    have w6 : W F4 _ ((p6, .lst [(.bl y3), (.bl y4)]) :: os) := w4.new n6
    obtain ⟨x7, y7, e7, hm⟩ := pb_rev2 hm
    have i7 := h1
    rw [e7] at i7
    obtain ⟨u7, z7, f7, j7, k7⟩ := A2.two i7
    have h7 : A2 (rep K F4) [z7, u7] [y7, x7] := .cons k7 (.cons j7 .nil)
    refine ⟨_, rfl, .inl ⟨rfl, _, SqL.of (w6.get (pre := []))⟩, _, rfl, _, rfl, _, rfl, _, _, _, rfl, (f7 ▸ (w6.same _ _ q1)), fun p8 n8 => ?_⟩
    obtain ⟨F8, s8, w8, q8⟩ := w6.frzE (o := .tup [z7, u7]) n8
    replace h1 := A2.mono s8 h1
    replace q1 := s8 _ _ q1
    replace h2 := A2.mono s8 h2
    replace q2 := s8 _ _ q2
    replace h5 := A2.mono s8 h5
    replace h7 := A2.mono s8 h7
    replace sF := sF.trans s8
    obtain ⟨x9, y9, e9, hm⟩ := pb_rev2 hm
    have i9 := h2
    rw [e9] at i9
    obtain ⟨u9, z9, f9, j9, k9⟩ := A2.two i9
    have h9 : A2 (rep K F8) [z9, u9] [y9, x9] := .cons k9 (.cons j9 .nil)
    refine ⟨_, rfl, _, _, _, rfl, (f9 ▸ (w8.same _ _ q2)), fun p10 n10 => ?_⟩
    obtain ⟨F10, s10, w10, q10⟩ := w8.frzE (o := .tup [z9, u9]) n10
    replace h1 := A2.mono s10 h1
    replace q1 := s10 _ _ q1
    replace h2 := A2.mono s10 h2
    replace q2 := s10 _ _ q2
    replace h5 := A2.mono s10 h5
    replace h7 := A2.mono s10 h7
    replace q8 := s10 _ _ q8
    replace h9 := A2.mono s10 h9
    replace sF := sF.trans s10
    refine ⟨_, _, _, _, _, ((Tup.mk [y7, x7] : Tup Int) : (Tup Int)), _, ((Tup.mk [y9, x9] : Tup Int) : (Tup Int)), rfl, w10, (rep_tup q8 h7), (rep_tup q10 h9), ?_⟩
    refine (post_bind hm).mono (fun y11 hm v11 F11 H11 w11 s11 r11 => ?_) (fun _ z => z)
    replace h1 := A2.mono s11 h1
    replace q1 := s11 _ _ q1
    replace h2 := A2.mono s11 h2
    replace q2 := s11 _ _ q2
    replace h5 := A2.mono s11 h5
    replace h7 := A2.mono s11 h7
    replace q8 := s11 _ _ q8
    replace h9 := A2.mono s11 h9
    replace q10 := s11 _ _ q10
    replace sF := sF.trans s11
    obtain rfl : v11 = V.bl y11 := r11
    obtain ⟨l12, z12, e12, hm⟩ := pn_app hm
    refine ⟨_, _, _, rfl, rfl, (w11.get (pre := [])), (A2.lt h5 z12), ?_⟩
    have h12 : A2 (rep K F11) ([(.bl y3), (.bl y4)] ++ [(.bl y11)]) l12 := e12 ▸ A2.snoc h5 rep_b
    have w13 : W F11 _ ((p6, .lst ([(.bl y3), (.bl y4)] ++ [(.bl y11)])) :: os) := w11.set (pre := [])
    obtain ⟨t14, e14, hm⟩ := pb_get hm
    obtain ⟨u14, f14, r14⟩ := A2.at h1 e14
    obtain rfl : u14 = V.int t14 := r14
    obtain ⟨t15, e15, hm⟩ := pb_get hm
    obtain ⟨u15, f15, r15⟩ := A2.at h1 e15
    obtain rfl : u15 = V.int t15 := r15
    have h16 : A2 (rep K F11) [(.int ((x_wide - (1 : Int)) - t14)), (.int t15)] (Tup.mk [((x_wide - (1 : Int)) - t14), t15] : (Tup Int)).l := .cons rep_i (.cons rep_i (.nil))
    refine ⟨_, rfl, .inl ⟨rfl, _, SqL.of (w13.get (pre := []))⟩, _, rfl, _, rfl, _, rfl, _, _, rfl, rfl, _, rfl, _, _, _, _, rfl, rfl, SqT.of (w13.same _ _ q1), f14, _, _, rfl, rfl, _, rfl, _, _, _, _, rfl, rfl, SqT.of (w13.same _ _ q1), f15, (by show 2 ≤ sizeLine; decide), fun p17 n17 => ?_⟩
    obtain ⟨F17, s17, w17, q17⟩ := w13.frzE (o := .tup [(.int ((x_wide - (1 : Int)) - t14)), (.int t15)]) n17
    replace h1 := A2.mono s17 h1
    replace q1 := s17 _ _ q1
    replace h2 := A2.mono s17 h2
    replace q2 := s17 _ _ q2
    replace h12 := A2.mono s17 h12
    replace h16 := A2.mono s17 h16
    replace sF := sF.trans s17
    obtain ⟨t18, e18, hm⟩ := pb_get hm
    obtain ⟨u18, f18, r18⟩ := A2.at h2 e18
    obtain rfl : u18 = V.int t18 := r18
    obtain ⟨t19, e19, hm⟩ := pb_get hm
    obtain ⟨u19, f19, r19⟩ := A2.at h2 e19
    obtain rfl : u19 = V.int t19 := r19
    have h20 : A2 (rep K F17) [(.int ((x_wide - (1 : Int)) - t18)), (.int t19)] (Tup.mk [((x_wide - (1 : Int)) - t18), t19] : (Tup Int)).l := .cons rep_i (.cons rep_i (.nil))
    refine ⟨_, rfl, _, _, rfl, rfl, _, rfl, _, _, _, _, rfl, rfl, SqT.of (w17.same _ _ q2), f18, _, _, rfl, rfl, _, rfl, _, _, _, _, rfl, rfl, SqT.of (w17.same _ _ q2), f19, (by show 2 ≤ sizeLine; decide), fun p21 n21 => ?_⟩
    obtain ⟨F21, s21, w21, q21⟩ := w17.frzE (o := .tup [(.int ((x_wide - (1 : Int)) - t18)), (.int t19)]) n21
    replace h1 := A2.mono s21 h1
    replace q1 := s21 _ _ q1
    replace h2 := A2.mono s21 h2
    replace q2 := s21 _ _ q2
    replace h12 := A2.mono s21 h12
    replace h16 := A2.mono s21 h16
    replace q17 := s21 _ _ q17
    replace h20 := A2.mono s21 h20
    replace sF := sF.trans s21
    refine ⟨_, _, _, _, _, ((Tup.mk [((x_wide - (1 : Int)) - t14), t15] : (Tup Int)) : (Tup Int)), _, ((Tup.mk [((x_wide - (1 : Int)) - t18), t19] : (Tup Int)) : (Tup Int)), rfl, w21, (rep_tup q17 h16), (rep_tup q21 h20), ?_⟩
    refine (post_bind hm).mono (fun y22 hm v22 F22 H22 w22 s22 r22 => ?_) (fun _ z => z)
    replace h1 := A2.mono s22 h1
    replace q1 := s22 _ _ q1
    replace h2 := A2.mono s22 h2
    replace q2 := s22 _ _ q2
    replace h12 := A2.mono s22 h12
    replace h16 := A2.mono s22 h16
    replace q17 := s22 _ _ q17
    replace h20 := A2.mono s22 h20
    replace q21 := s22 _ _ q21
    replace sF := sF.trans s22
    obtain rfl : v22 = V.bl y22 := r22
    obtain ⟨l23, z23, e23, hm⟩ := pn_app hm
    refine ⟨_, _, _, rfl, rfl, (w22.get (pre := [])), (A2.lt h12 z23), ?_⟩
    have h23 : A2 (rep K F22) (([(.bl y3), (.bl y4)] ++ [(.bl y11)]) ++ [(.bl y22)]) l23 := e23 ▸ A2.snoc h12 rep_b
    have w24 : W F22 _ ((p6, .lst (([(.bl y3), (.bl y4)] ++ [(.bl y11)]) ++ [(.bl y22)])) :: os) := w22.set (pre := [])
    try dsimp only
    refine stepSeq (stepIf ?_)
    refine joinT hm (fun (j25 : Bool) c H' => c = j25 ∧ ∃ (F' : Hp), Same F22 F' ∧ W F' H' ((p6, .lst (([(.bl y3), (.bl y4)] ++ [(.bl y11)]) ++ [(.bl y22)])) :: os)) ?_ ?_
    · intro Q25 P25 q25 hm
      refine ⟨_, rfl, _, rfl, ⟨_, SqL.of (w24.get (pre := []))⟩, fun D26 nD26 => ?_⟩
      refine lcM (K := K) (tw_list (a := p6) h23) hm w24 nD26 (fun F' H' acc s w => SqL.of (w.get (pre := [_]))) ?_ ?_
      · -- one turn
        intro b26 x26 F26 H26 H26' acc26 N26 P26 s26 w26 y26 hN26 hm
        replace h1 := A2.mono s26 h1
        replace q1 := s26 _ _ q1
        replace h2 := A2.mono s26 h2
        replace q2 := s26 _ _ q2
        replace h23 := A2.mono s26 h23
        replace sF := sF.trans s26
        obtain ⟨rfl, r28⟩ := y26
        obtain rfl : x26 = V.bl b26 := r28
        exact ⟨rfl, _, rfl, _, _, _, true, rfl, (.bl _), (by decide +kernel), hN26 _ (post_ok hm) _ _ _ w26 (Same.refl _) rep_b⟩
      intro us26 F26 H26 ys26 s26 w26 gg26 hm
      replace h1 := A2.mono s26 h1
      replace q1 := s26 _ _ q1
      replace h2 := A2.mono s26 h2
      replace q2 := s26 _ _ q2
      replace h23 := A2.mono s26 h23
      replace sF := sF.trans s26
      refine ⟨_, _, rfl, bools_q (SqL.of (w26.get (pre := []))) gg26, _, rfl, ?_⟩
      refine post_ite hm (fun k30 hm => ?_) (fun k30 hm => ?_)
      · skip
        have w32 : W F26 _ ((p6, .lst (([(.bl y3), (.bl y4)] ++ [(.bl y11)]) ++ [(.bl y22)])) :: os) := w26.drop (pre := [])
        exact q25 _ (post_ok hm) _ _ ⟨rfl, _, s26, w32⟩
      · skip
        have h33 : A2 (rep K F26) (cutV (([(.bl y3), (.bl y4)] ++ [(.bl y11)]) ++ [(.bl y22)]) none (some (1 : Int))) (cutL l23 none (some (1 : Int))) := sl_cut h23 _ _
        refine ⟨_, rfl, _, rfl, _, rfl, _, _, rfl, SqL.of (w26.get (pre := [_])), fun p34 n34 => ?_⟩
        have w34 : W F26 _ ((p34, .lst (cutV (([(.bl y3), (.bl y4)] ++ [(.bl y11)]) ++ [(.bl y22)]) none (some (1 : Int)))) :: (D26, .lst us26) :: (p6, .lst (([(.bl y3), (.bl y4)] ++ [(.bl y11)]) ++ [(.bl y22)])) :: os) := w26.new n34
        obtain ⟨l35, z35, e35, hm⟩ := pb_rep hm
        have h35 : A2 (rep K F26) (List.replicate (4 : Int).toNat (cutV (([(.bl y3), (.bl y4)] ++ [(.bl y11)]) ++ [(.bl y22)]) none (some (1 : Int)))).flatten l35 := e35 ▸ A2.flat h33 _
        refine ⟨_, _, _, rfl, rfl, (w34.get (pre := [])), z35.1, z35.2.1, (by rw [h33.length]; exact z35.2.2), fun p36 n36 => ?_⟩
        have w36 : W F26 _ ((p36, .lst (List.replicate (4 : Int).toNat (cutV (([(.bl y3), (.bl y4)] ++ [(.bl y11)]) ++ [(.bl y22)]) none (some (1 : Int)))).flatten) :: (p34, .lst (cutV (([(.bl y3), (.bl y4)] ++ [(.bl y11)]) ++ [(.bl y22)]) none (some (1 : Int)))) :: (D26, .lst us26) :: (p6, .lst (([(.bl y3), (.bl y4)] ++ [(.bl y11)]) ++ [(.bl y22)])) :: os) := w34.new n36
        have w38 : W F26 _ ((p34, .lst (cutV (([(.bl y3), (.bl y4)] ++ [(.bl y11)]) ++ [(.bl y22)]) none (some (1 : Int)))) :: (D26, .lst us26) :: (p6, .lst (([(.bl y3), (.bl y4)] ++ [(.bl y11)]) ++ [(.bl y22)])) :: os) := w36.drop (pre := [])
        have w39 : W F26 _ ((D26, .lst us26) :: (p6, .lst (([(.bl y3), (.bl y4)] ++ [(.bl y11)]) ++ [(.bl y22)])) :: os) := w38.drop (pre := [])
        have w40 : W F26 _ ((p6, .lst (([(.bl y3), (.bl y4)] ++ [(.bl y11)]) ++ [(.bl y22)])) :: os) := w39.drop (pre := [])
        exact ⟨(l23 : (List Bool)), (l35 : (List Bool)), (rep_own (pre := [_, _, _]) w36 h23), (rep_own (pre := []) w36 h35), _, rfl, q25 _ (post_ok hm) _ _ ⟨rfl, _, s26, w40⟩⟩
    intro j25 c25 H25 hc25 hm
    obtain ⟨rfl, F25, s25, w25⟩ := hc25
    replace h1 := A2.mono s25 h1
    replace q1 := s25 _ _ q1
    replace h2 := A2.mono s25 h2
    replace q2 := s25 _ _ q2
    replace h23 := A2.mono s25 h23
    replace sF := sF.trans s25
    refine post_ite hm (fun k41 hm => ?_) (fun k41 hm => ?_)
    · skip
      have w42 : W F25 _ (os) := w25.drop (pre := [])
      exact (post_ok hm) _ _ _ w42 sF rep_none
    · skip
      obtain ⟨t43, e43, hm⟩ := pb_get hm
      obtain ⟨u43, f43, r43⟩ := A2.at h23 e43
      obtain rfl : u43 = V.bl t43 := r43
      have w44 : W F25 _ (os) := w25.drop (pre := [])
      exact ⟨_, rfl, _, _, _, _, rfl, rfl, SqL.of (w25.get (pre := [])), f43, (post_ok hm) _ _ _ w44 sF (rep_some rep_b)⟩
def sp_law (K : Fg) : Sp := fun vs H Q E => ∃ (F : Hp) (os : List (Addr × HO)) (v_script : V) (x_script : Scr), vs = [v_script] ∧ W F H (os) ∧ rep K F v_script x_script ∧ Post (law x_script) (Ret K F os Q) noX
theorem sc_law : FnScope ["script", "cell", "state", "wide", "high", "one", "other", "due"] ["script"] (defScope s_law) := ⟨rfl, rfl, rfl, by decide +kernel, rfl, by decide +kernel, by decide +kernel⟩
theorem ok_law (T : Tx K mg A FD) : FnOk P w K mg base CX0 5 (A 14) (FD 14) ["script"] (sp_law K) := by
  refine T.d14.fn.ok sc_law (fun vs H Q E h => ?_) (fun cdv Ar outer s H vs Q E hr h => ?_)
  · obtain ⟨F, os, v_script, x_script, rfl, _⟩ := h
    rfl
  · obtain ⟨F0, os, v_script, x_script, rfl, w0, r_script, hm⟩ := h
    have sF : Same F0 F0 := Same.refl _
    obtain ⟨a1, rfl, q1⟩ := r_script
    have h1 : A2 (rep K F0) (x_script.l.map V.int) x_script.l := A2.of_ints
    refine ⟨_, (pss_cons (ps_for PassesOwn.never rfl (pi_listK (K := K) rfl (pe_call (ok_law_folded T) (hr.mono (by decide)) rfl T.d5.mg T.d5.fn.kp T.d5.b .nil pass0 (pa_cons (pv 0) (pa_cons pe_int pa_nil)))) (pg_name (i := 1) sc_law.nd rfl (Or.inl rfl)) (pss_cons (ps_set (i := 2) sc_law.nd rfl (Or.inl rfl) (pe_call (ok_law_state T) (hr.mono (by decide)) rfl T.d6.mg T.d6.fn.kp T.d6.b .nil pass0 (pa_cons (pv 1) pa_nil))) (pss_cons (ps_par (i := 3) (j := 4) rfl sc_law.nd rfl rfl (by decide) rfl rfl (pa_cons (pe_op op_add pe_int (pe_call (ok_law_next T) (hr.mono (by decide)) rfl T.d7.mg T.d7.fn.kp T.d7.b .nil pass0 (pa_cons (pv 2) (pa_cons pe_int pa_nil)))) (pa_cons (pe_op op_add pe_int (pe_call (ok_law_next T) (hr.mono (by decide)) rfl T.d7.mg T.d7.fn.kp T.d7.b .nil pass0 (pa_cons (pv 2) (pa_cons pe_int pa_nil)))) pa_nil)) rfl) (pss_cons (ps_asg (pe_call (ok_law_two T) (hr.mono (by decide)) rfl T.d10.mg T.d10.fn.kp T.d10.b .nil pass0 (pa_cons (pv 2) (pa_cons (pv 3) (pa_cons (pv 4) pa_nil)))) (pg_k (K := K) (t := fun K => gTup K 2 _) rfl (pg_tup (n := 2) rfl (pgs_cons (pg_name (i := 5) sc_law.nd rfl (Or.inl rfl)) (pgs_cons (pg_name (i := 6) sc_law.nd rfl (Or.inl rfl)) pgs_nil))))) (pss_cons (ps_set (i := 7) sc_law.nd rfl (Or.inl rfl) (pe_call (ok_law_unlike T) (hr.mono (by decide)) rfl T.d11.mg T.d11.fn.kp T.d11.b .nil pass0 (pa_cons (pv 3) (pa_cons (pv 4) (pa_cons (pv 5) (pa_cons (pv 6) pa_nil)))))) (pss_cons (ps_if (PW.pt (pw_or (pt_cmpR (op_neDt (K := K) rfl (Option Bool) (by decide) hr.units) (pe_call (ok_law_told T) (hr.mono (by decide)) rfl T.d13.mg T.d13.fn.kp T.d13.b .nil pass0 (pa_cons (pv 3) (pa_cons (pv 4) (pa_cons (pv 5) (pa_cons (pv 6) pa_nil))))) (pv 7) (nomark _)) (pw_or1 (pt_cmpR op_neB (pe_call (ok_law_words T) (hr.mono (by decide)) rfl T.d12.mg T.d12.fn.kp T.d12.b .nil pass0 (pa_cons (pv 3) (pa_cons (pv 4) (pa_cons (pv 5) (pa_cons (pv 6) pa_nil))))) (pv 7) (nomark _))))) (pss_one (ps_ret pe_bl)) pss_nil) (pss_cons (ps_set (i := 3) sc_law.nd rfl (Or.inl rfl) (pe_op op_add pe_int (pe_call (ok_law_great T) (hr.mono (by decide)) rfl T.d8.mg T.d8.fn.kp T.d8.b .nil pass0 (pa_cons (pv 2) (pa_cons (pe_ix (ix_listK (K := K) rfl) (pe_lst (pa_cons pe_int (pa_cons (pe_op op_pow pe_int pe_int) (pa_cons (pe_op op_sub (pe_op op_pow pe_int pe_int) pe_int) pa_nil)))) (pe_call (ok_law_next T) (hr.mono (by decide)) rfl T.d7.mg T.d7.fn.kp T.d7.b .nil pass0 (pa_cons (pv 2) (pa_cons pe_int pa_nil))) (fun _ _ => rfl)) pa_nil))))) (pss_cons (ps_set (i := 4) sc_law.nd rfl (Or.inl rfl) (pe_op op_add pe_int (pe_call (ok_law_great T) (hr.mono (by decide)) rfl T.d8.mg T.d8.fn.kp T.d8.b .nil pass0 (pa_cons (pv 2) (pa_cons (pe_ix (ix_listK (K := K) rfl) (pe_lst (pa_cons pe_int (pa_cons (pe_op op_pow pe_int pe_int) (pa_cons (pe_op op_sub (pe_op op_pow pe_int pe_int) pe_int) pa_nil)))) (pe_call (ok_law_next T) (hr.mono (by decide)) rfl T.d7.mg T.d7.fn.kp T.d7.b .nil pass0 (pa_cons (pv 2) (pa_cons pe_int pa_nil))) (fun _ _ => rfl)) pa_nil))))) (pss_cons (ps_asg (pe_call (ok_law_two T) (hr.mono (by decide)) rfl T.d10.mg T.d10.fn.kp T.d10.b .nil pass0 (pa_cons (pv 2) (pa_cons (pv 3) (pa_cons (pv 4) pa_nil)))) (pg_k (K := K) (t := fun K => gTup K 2 _) rfl (pg_tup (n := 2) rfl (pgs_cons (pg_name (i := 5) sc_law.nd rfl (Or.inl rfl)) (pgs_cons (pg_name (i := 6) sc_law.nd rfl (Or.inl rfl)) pgs_nil))))) (pss_one (ps_if (pt_cmpR (op_neDt (K := K) rfl (Option Bool) (by decide) hr.units) (pe_call (ok_law_told T) (hr.mono (by decide)) rfl T.d13.mg T.d13.fn.kp T.d13.b .nil pass0 (pa_cons (pv 3) (pa_cons (pv 4) (pa_cons (pv 5) (pa_cons (pv 6) pa_nil))))) (pe_call (ok_law_words T) (hr.mono (by decide)) rfl T.d12.mg T.d12.fn.kp T.d12.b .nil pass0 (pa_cons (pv 3) (pa_cons (pv 4) (pa_cons (pv 5) (pa_cons (pv 6) pa_nil))))) (nomark _)) (pss_one (ps_ret pe_bl)) pss_nil))))))))))) (pss_one (ps_ret pe_bl))), ?_⟩
    refine ⟨_, rfl, _, _, _, (x_script : Scr), _, rfl, w0, ⟨_, rfl, q1⟩, ?_⟩
    refine (post_bind hm).mono (fun y3 hm p3 us3 F3 H3 w3 s3 g3 => ?_) (fun _ z => z)
    replace q1 := s3.seq q1
    replace h1 := A2.mono s3 h1
    replace sF := sF.trans s3
    obtain ⟨F5, s5, w5, q5⟩ : ∃ F', Same F3 F' ∧ W F' _ (os) ∧ F' p3 = some (.lst us3) := w3.freezeE (pre := [])
    replace q1 := s5.seq q1
    replace h1 := A2.mono s5 h1
    replace g3 := A2.mono s5 g3
    replace sF := sF.trans s5
    refine ⟨_, rfl, ⟨_, SqL.of (w5.same _ _ q5)⟩, ?_⟩
    refine forX (tw_list (a := p3) g3) hm (fun (g2 : Unit) σ H' => ∃ (F' : Hp) (o2_2 : Option V) (o2_3 : Option V) (o2_4 : Option V) (o2_5 : Option V) (o2_6 : Option V) (o2_7 : Option V) (o2_1 : Option V), σ = [some (.ref a1), o2_1, o2_2, o2_3, o2_4, o2_5, o2_6, o2_7] ∧ Same F5 F' ∧ W F' H' (os)) ⟨_, _, _, _, _, _, _, _, rfl, Same.refl _, w5⟩ (fun g σ H' hI => by obtain ⟨F', _, _, _, _, _, _, _, _, s, w⟩ := hI; exact SqL.of (w.same _ _ (s _ _ q5))) ?_ ?_
    · -- a turn
      intro b2 g2 x2 σ2 H2 H2' N2 B2 P2 hI hy hN2 hB2 hZ2 hm
      obtain ⟨F2, o2_2, o2_3, o2_4, o2_5, o2_6, o2_7, o2_1, rfl, s2, w2⟩ := hI
      replace q1 := s2.seq q1
      replace h1 := A2.mono s2 h1
      replace g3 := A2.mono s2 g3
      replace q5 := s2 _ _ q5
      replace sF := sF.trans s2
      obtain ⟨rfl, r6⟩ := hy
      obtain rfl : x2 = V.int b2 := r6
      refine ⟨_, rfl, _, _, _, rfl, w2, ?_⟩
      refine (post_bind hm).mono (fun y7 hm p7 us7 F7 H7 w7 s7 g7 => ?_) (fun _ z => z)
      replace h1 := A2.mono s7 h1
      replace q1 := s7.seq q1
      replace sF := sF.trans s7
      refine ⟨_, rfl, _, _, _, _, _, _, rfl, w7, g7, ?_⟩
      refine (post_bind hm).mono (fun y9 hm v9 vs9 F9 H9 w9 s9 r9 h9 => ?_) (fun _ z => z)
      replace h1 := A2.mono s9 h1
      replace q1 := s9.seq q1
      replace sF := sF.trans s9
      obtain rfl : v9 = V.int y9.1 := r9
      refine ⟨_, _, rfl, rfl, _, rfl, _, _, _, _, _, _, rfl, w9, h9, ?_⟩
      refine (post_bind hm).mono (fun y10 hm v10 vs10 F10 H10 w10 s10 r10 h10 => ?_) (fun _ z => z)
      replace h1 := A2.mono s10 h1
      replace q1 := s10.seq q1
      replace sF := sF.trans s10
      obtain rfl : v10 = V.int y10.1 := r10
      refine ⟨_, _, rfl, rfl, _, _, rfl, _, rfl, _, rfl, _, rfl, _, _, _, _, _, _, _, rfl, w10, h10, ?_⟩
      refine (post_bind hm).mono (fun y11 hm v11 vs11 F11 H11 w11 s11 r11 h11 => ?_) (fun _ z => z)
      replace h1 := A2.mono s11 h1
      replace q1 := s11.seq q1
      replace sF := sF.trans s11
      obtain ⟨a12, u12, z12, rfl, q12, r12a, r12b⟩ := r11
      obtain ⟨a13, vs13, rfl, q13, h13⟩ := r12a
      obtain ⟨a14, vs14, rfl, q14, h14⟩ := r12b
      refine ⟨_, _, rfl, SqT.of (w11.same _ _ q12), rfl, _, _, rfl, _, _, rfl, rfl, _, rfl, _, rfl, _, rfl, _, rfl, _, _, _, _, _, (y11.1.1 : (Tup Int)), _, (y11.1.2 : (Tup Int)), rfl, w11, (rep_tup q13 h13), (rep_tup q14 h14), ?_⟩
      refine (post_bind hm).mono (fun y15 hm v15 F15 H15 w15 s15 r15 => ?_) (fun _ z => z)
      replace h1 := A2.mono s15 h1
      replace q1 := s15.seq q1
      replace h13 := A2.mono s15 h13
      replace q13 := s15 _ _ q13
      replace h14 := A2.mono s15 h14
      replace q14 := s15 _ _ q14
      replace h11 := A2.mono s15 h11
      replace sF := sF.trans s15
      obtain rfl : v15 = V.bl y15 := r15
      refine stepN ?_
      try dsimp only
      refine stepSeq (stepIf ?_)
      refine joinT hm (fun (j16 : Bool) c H' => c = j16 ∧ ∃ (F' : Hp), Same F15 F' ∧ W F' H' ((p7, .lst vs11) :: os)) ?_ ?_
      · intro Q16 P16 q16 hm
        refine ⟨_, rfl, _, rfl, _, rfl, _, rfl, _, _, _, _, _, (y11.1.1 : (Tup Int)), _, (y11.1.2 : (Tup Int)), rfl, w15, (rep_tup q13 h13), (rep_tup q14 h14), ?_⟩
        refine (post_bind hm).mono (fun y17 hm v17 F17 H17 w17 s17 r17 => ?_) (fun _ z => z)
        replace h1 := A2.mono s17 h1
        replace q1 := s17.seq q1
        replace h13 := A2.mono s17 h13
        replace q13 := s17 _ _ q13
        replace h14 := A2.mono s17 h14
        replace q14 := s17 _ _ q14
        replace h11 := A2.mono s17 h11
        replace sF := sF.trans s17
        refine ⟨_, rfl, (y17 : (Option Bool)), ((some y15) : (Option Bool)), (Rep.mono w17.same r17), (Rep.mono w17.same (rep_some rep_b)), _, rfl, ?_⟩
        refine post_ite hm (fun k19 hm => ?_) (fun k19 hm => ?_)
        · skip
          exact q16 _ (post_ok hm) _ _ ⟨rfl, _, s17, w17⟩
        · skip
          refine ⟨_, rfl, _, rfl, _, rfl, _, rfl, _, _, _, _, _, (y11.1.1 : (Tup Int)), _, (y11.1.2 : (Tup Int)), rfl, w17, (rep_tup q13 h13), (rep_tup q14 h14), ?_⟩
          refine (post_bind hm).mono (fun y21 hm v21 F21 H21 w21 s21 r21 => ?_) (fun _ z => z)
          replace h1 := A2.mono s21 h1
          replace q1 := s21.seq q1
          replace h13 := A2.mono s21 h13
          replace q13 := s21 _ _ q13
          replace h14 := A2.mono s21 h14
          replace q14 := s21 _ _ q14
          replace h11 := A2.mono s21 h11
          replace r17 := Rep.mono s21 r17
          replace sF := sF.trans s21
          obtain rfl : v21 = V.bl y21 := r21
          exact ⟨_, rfl, _, _, rfl, rfl, _, rfl, q16 _ (post_ok hm) _ _ ⟨rfl, _, (s17.trans s21), w21⟩⟩
      intro j16 c16 H16 hc16 hm
      obtain ⟨rfl, F16, s16, w16⟩ := hc16
      replace h1 := A2.mono s16 h1
      replace q1 := s16.seq q1
      replace h13 := A2.mono s16 h13
      replace q13 := s16 _ _ q13
      replace h14 := A2.mono s16 h14
      replace q14 := s16 _ _ q14
      replace h11 := A2.mono s16 h11
      replace sF := sF.trans s16
      refine post_ite hm (fun k23 hm => ?_) (fun k23 hm => ?_)
      · skip
        have hm := hZ2 _ (post_ok hm)
        have w24 : W F16 _ (os) := w16.drop (pre := [])
        exact (post_ok hm) _ _ _ w24 sF rep_b
      · skip
        have h27 : A2 (rep K F16) [(.int 9), (.int ((10 : Int) ^ ((20 : Int) : Int).toNat)), (.int (((10 : Int) ^ ((60 : Int) : Int).toNat) - (1 : Int)))] ([(9 : Int), ((10 : Int) ^ ((20 : Int) : Int).toNat), (((10 : Int) ^ ((60 : Int) : Int).toNat) - (1 : Int))] : (List Int)) := .cons rep_i (.cons rep_i (.cons rep_i (.nil)))
        refine ⟨_, rfl, _, _, rfl, rfl, (by refine ⟨?_, ?_, ?_⟩ <;> decide), _, _, rfl, rfl, (by refine ⟨?_, ?_, ?_⟩ <;> decide), _, _, rfl, rfl, (by show 3 ≤ sizeLine; decide), fun p28 n28 => ?_⟩
        have w28 : W F16 _ ((p28, .lst [(.int 9), (.int ((10 : Int) ^ ((20 : Int) : Int).toNat)), (.int (((10 : Int) ^ ((60 : Int) : Int).toNat) - (1 : Int)))]) :: (p7, .lst vs11) :: os) := w16.new n28
        have w29 : W F16 _ ((p7, .lst vs11) :: (p28, .lst [(.int 9), (.int ((10 : Int) ^ ((20 : Int) : Int).toNat)), (.int (((10 : Int) ^ ((60 : Int) : Int).toNat) - (1 : Int)))]) :: os) := w28.front (pre := [_])
        refine ⟨_, rfl, _, _, _, _, _, _, rfl, w29, h11, ?_⟩
        refine (post_bind hm).mono (fun y30 hm v30 vs30 F30 H30 w30 s30 r30 h30 => ?_) (fun _ z => z)
        replace h1 := A2.mono s30 h1
        replace q1 := s30.seq q1
        replace h13 := A2.mono s30 h13
        replace q13 := s30 _ _ q13
        replace h14 := A2.mono s30 h14
        replace q14 := s30 _ _ q14
        replace h27 := A2.mono s30 h27
        replace sF := sF.trans s30
        obtain rfl : v30 = V.int y30.1 := r30
        obtain ⟨t31, e31, hm⟩ := pb_get hm
        obtain ⟨u31, f31, r31⟩ := A2.at h27 e31
        obtain rfl : u31 = V.int t31 := r31
        refine ⟨_, _, _, _, rfl, rfl, SqL.of (w30.get (pre := [_])), f31, _, _, _, _, _, _, rfl, w30, h30, ?_⟩
        refine (post_bind hm).mono (fun y32 hm v32 vs32 F32 H32 w32 s32 r32 h32 => ?_) (fun _ z => z)
        replace h1 := A2.mono s32 h1
        replace q1 := s32.seq q1
        replace h13 := A2.mono s32 h13
        replace q13 := s32 _ _ q13
        replace h14 := A2.mono s32 h14
        replace q14 := s32 _ _ q14
        replace h27 := A2.mono s32 h27
        replace sF := sF.trans s32
        obtain rfl : v32 = V.int y32.1 := r32
        have w33 : W F32 _ ((p7, .lst vs32) :: os) := w32.drop (pre := [_])
        have h36 : A2 (rep K F32) [(.int 9), (.int ((10 : Int) ^ ((20 : Int) : Int).toNat)), (.int (((10 : Int) ^ ((60 : Int) : Int).toNat) - (1 : Int)))] ([(9 : Int), ((10 : Int) ^ ((20 : Int) : Int).toNat), (((10 : Int) ^ ((60 : Int) : Int).toNat) - (1 : Int))] : (List Int)) := .cons rep_i (.cons rep_i (.cons rep_i (.nil)))
        refine ⟨_, _, rfl, rfl, _, rfl, _, _, rfl, rfl, (by refine ⟨?_, ?_, ?_⟩ <;> decide), _, _, rfl, rfl, (by refine ⟨?_, ?_, ?_⟩ <;> decide), _, _, rfl, rfl, (by show 3 ≤ sizeLine; decide), fun p37 n37 => ?_⟩
        have w37 : W F32 _ ((p37, .lst [(.int 9), (.int ((10 : Int) ^ ((20 : Int) : Int).toNat)), (.int (((10 : Int) ^ ((60 : Int) : Int).toNat) - (1 : Int)))]) :: (p7, .lst vs32) :: os) := w33.new n37
        have w38 : W F32 _ ((p7, .lst vs32) :: (p37, .lst [(.int 9), (.int ((10 : Int) ^ ((20 : Int) : Int).toNat)), (.int (((10 : Int) ^ ((60 : Int) : Int).toNat) - (1 : Int)))]) :: os) := w37.front (pre := [_])
        refine ⟨_, rfl, _, _, _, _, _, _, rfl, w38, h32, ?_⟩
        refine (post_bind hm).mono (fun y39 hm v39 vs39 F39 H39 w39 s39 r39 h39 => ?_) (fun _ z => z)
        replace h1 := A2.mono s39 h1
        replace q1 := s39.seq q1
        replace h13 := A2.mono s39 h13
        replace q13 := s39 _ _ q13
        replace h14 := A2.mono s39 h14
        replace q14 := s39 _ _ q14
        replace h36 := A2.mono s39 h36
        replace sF := sF.trans s39
        obtain rfl : v39 = V.int y39.1 := r39
        obtain ⟨t40, e40, hm⟩ := pb_get hm
        obtain ⟨u40, f40, r40⟩ := A2.at h36 e40
        obtain rfl : u40 = V.int t40 := r40
        refine ⟨_, _, _, _, rfl, rfl, SqL.of (w39.get (pre := [_])), f40, _, _, _, _, _, _, rfl, w39, h39, ?_⟩
        refine (post_bind hm).mono (fun y41 hm v41 vs41 F41 H41 w41 s41 r41 h41 => ?_) (fun _ z => z)
        replace h1 := A2.mono s41 h1
        replace q1 := s41.seq q1
        replace h13 := A2.mono s41 h13
        replace q13 := s41 _ _ q13
        replace h14 := A2.mono s41 h14
        replace q14 := s41 _ _ q14
        replace h36 := A2.mono s41 h36
        replace sF := sF.trans s41
        obtain rfl : v41 = V.int y41.1 := r41
        have w42 : W F41 _ ((p7, .lst vs41) :: os) := w41.drop (pre := [_])
        refine ⟨_, _, rfl, rfl, _, rfl, _, rfl, _, rfl, _, _, _, _, _, _, _, rfl, w42, h41, ?_⟩
        refine (post_bind hm).mono (fun y43 hm v43 vs43 F43 H43 w43 s43 r43 h43 => ?_) (fun _ z => z)
        replace h1 := A2.mono s43 h1
        replace q1 := s43.seq q1
        replace h13 := A2.mono s43 h13
        replace q13 := s43 _ _ q13
        replace h14 := A2.mono s43 h14
        replace q14 := s43 _ _ q14
        replace sF := sF.trans s43
        obtain ⟨a44, u44, z44, rfl, q44, r44a, r44b⟩ := r43
        obtain ⟨a45, vs45, rfl, q45, h45⟩ := r44a
        obtain ⟨a46, vs46, rfl, q46, h46⟩ := r44b
        refine ⟨_, _, rfl, SqT.of (w43.same _ _ q44), rfl, _, _, rfl, _, _, rfl, rfl, _, rfl, _, rfl, _, rfl, _, rfl, _, _, _, _, _, (y43.1.1 : (Tup Int)), _, (y43.1.2 : (Tup Int)), rfl, w43, (rep_tup q45 h45), (rep_tup q46 h46), ?_⟩
        refine (post_bind hm).mono (fun y47 hm v47 F47 H47 w47 s47 r47 => ?_) (fun _ z => z)
        replace h1 := A2.mono s47 h1
        replace q1 := s47.seq q1
        replace h45 := A2.mono s47 h45
        replace q45 := s47 _ _ q45
        replace h46 := A2.mono s47 h46
        replace q46 := s47 _ _ q46
        replace h43 := A2.mono s47 h43
        replace sF := sF.trans s47
        refine ⟨_, rfl, _, rfl, _, rfl, _, rfl, _, _, _, _, _, (y43.1.1 : (Tup Int)), _, (y43.1.2 : (Tup Int)), rfl, w47, (rep_tup q45 h45), (rep_tup q46 h46), ?_⟩
        refine (post_bind hm).mono (fun y49 hm v49 F49 H49 w49 s49 r49 => ?_) (fun _ z => z)
        replace h1 := A2.mono s49 h1
        replace q1 := s49.seq q1
        replace h45 := A2.mono s49 h45
        replace q45 := s49 _ _ q45
        replace h46 := A2.mono s49 h46
        replace q46 := s49 _ _ q46
        replace h43 := A2.mono s49 h43
        replace r47 := Rep.mono s49 r47
        replace sF := sF.trans s49
        obtain rfl : v49 = V.bl y49 := r49
        refine ⟨(y47 : (Option Bool)), ((some y49) : (Option Bool)), (Rep.mono w49.same r47), (Rep.mono w49.same (rep_some rep_b)), _, rfl, ?_⟩
        refine post_ite hm (fun k50 hm => ?_) (fun k50 hm => ?_)
        · skip
          have hm := hZ2 _ (post_ok hm)
          have w51 : W F49 _ (os) := w49.drop (pre := [])
          exact (post_ok hm) _ _ _ w51 sF rep_b
        · skip
          have w52 : W F49 _ (os) := w49.drop (pre := [])
          exact hN2 _ (post_ok hm) _ _ ⟨_, _, _, _, _, _, _, _, rfl, (s2.trans (s7.trans (s9.trans (s10.trans (s11.trans (s15.trans (s16.trans (s30.trans (s32.trans (s39.trans (s41.trans (s43.trans (s47.trans s49))))))))))))), w52⟩
    intro g2 σ2 H2 hI hm
    obtain ⟨F2, o2_2, o2_3, o2_4, o2_5, o2_6, o2_7, o2_1, rfl, s2, w2⟩ := hI
    replace q1 := s2.seq q1
    replace h1 := A2.mono s2 h1
    replace g3 := A2.mono s2 g3
    replace q5 := s2 _ _ q5
    replace sF := sF.trans s2
    exact (post_ok hm) _ _ _ w2 sF rep_b
end
end G
namespace G
open PySem Z L2
/-! ### the plain law -/
abbrev T2 (a b : Int) : Tup Int := ⟨[a, b]⟩
/-- a whole side between the two -/
def Kn (W H a b c d : Int) : Prop := (a = c ∧ (a = 0 ∨ a = W - 1) ∧ ((b = 0 ∧ d = H - 1) ∨ (b = H - 1 ∧ d = 0))) ∨ (b = d ∧ (b = 0 ∨ b = H - 1) ∧ ((a = 0 ∧ c = W - 1) ∨ (a = W - 1 ∧ c = 0)))
instance (W H a b c d : Int) : Decidable (Kn W H a b c d) := by unfold Kn; infer_instance
/-- two corners of one side -/
def Co (W H a b : Int) : Prop := (a = 0 ∧ b = 0) ∨ (a = 0 ∧ b = H - 1) ∨ (a = W - 1 ∧ b = 0) ∨ (a = W - 1 ∧ b = H - 1)
instance (W H a b : Int) : Decidable (Co W H a b) := by unfold Co; infer_instance
def Wd (W H a b c d : Int) : Prop := Co W H a b ∧ Co W H c d ∧ (a = c ∨ b = d)
instance (W H a b c d : Int) : Decidable (Wd W H a b c d) := by unfold Wd; infer_instance
theorem kn_wd {W H a b c d : Int} (hW : 2 ≤ W) (hH : 2 ≤ H) (hn : ¬ (a = c ∧ b = d)) : Kn W H a b c d ↔ Wd W H a b c d := by
  unfold Kn Wd Co
  omega
theorem kn_swap {W H a b c d : Int} : Kn W H c d a b ↔ Kn W H a b c d := by
  unfold Kn
  omega
theorem kn_turn {W H a b c d : Int} : Kn H W b a d c ↔ Kn W H a b c d := by
  unfold Kn
  omega
theorem kn_mirror {W H a b c d : Int} : Kn W H (W - 1 - a) b (W - 1 - c) d ↔ Kn W H a b c d := by
  unfold Kn
  omega
theorem sort2 (x y : Int) : sortI [x, y] = if x ≤ y then [x, y] else [y, x] := by
  split
  · exact (sortI_eq (List.Perm.refl _) (by simpa using by assumption)).symm
  · exact (sortI_eq (List.Perm.swap _ _ _) (by simp; omega)).symm
theorem sort_two {x y L : Int} (hL : 0 ≤ L) : sortI [x, y] = [0, L] ↔ (x = 0 ∧ y = L) ∨ (x = L ∧ y = 0) := by
  rw [sort2]
  split <;> simp <;> omega
theorem at0 (a b : Int) : getI [a, b] 0 = R.ok a := rfl
theorem at1 (a b : Int) : getI [a, b] 1 = R.ok b := rfl
theorem rng2 : rng 0 2 = [0, 1] := rfl
theorem grid_eq {W H a b c d : Int} (hW : 2 ≤ W) (hH : 2 ≤ H) : grid_known W H (T2 a b) (T2 c d) = R.ok (decide (Kn W H a b c d)) := by
  have e0 : (1 : Int) - 0 = 1 := rfl
  have e1 : (1 : Int) - 1 = 0 := rfl
  unfold grid_known side_number
  simp only [rng2, foldX, e0, e1, at0, at1, ok_bind, List.mem_cons, List.mem_nil_iff, or_false, sort_two (show 0 ≤ H - 1 by omega), sort_two (show 0 ≤ W - 1 by omega), decide_eq_true_eq]
  by_cases h1 : a = c <;> by_cases h2 : (a = 0 ∨ a = W - 1) <;> by_cases h3 : ((b = 0 ∧ d = H - 1) ∨ (b = H - 1 ∧ d = 0)) <;> by_cases h4 : b = d <;> by_cases h5 : (b = 0 ∨ b = H - 1) <;> by_cases h6 : ((a = 0 ∧ c = W - 1) ∨ (a = W - 1 ∧ c = 0)) <;> (first | rw [if_pos h1] | rw [if_neg h1]) <;> (try rw [if_pos h2]) <;> (try rw [if_neg h2]) <;> (try rw [decide_eq_true h2]) <;> (try rw [decide_eq_false h2]) <;> (try rw [if_pos h3]) <;> (try rw [if_neg h3]) <;> (try rw [decide_eq_true h5]) <;> (try rw [decide_eq_false h5]) <;> (try rw [if_pos h4]) <;> (try rw [if_neg h4]) <;> (try rw [if_pos h5]) <;> (try rw [if_neg h5]) <;> (try rw [if_pos h6]) <;> (try rw [if_neg h6]) <;> (unfold Kn; first | exact congrArg R.ok (decide_eq_true (by omega)).symm | exact congrArg R.ok (decide_eq_false (by omega)).symm)
theorem words_eq {W H a b c d : Int} : law_words W H (T2 a b) (T2 c d) = R.ok (decide (Wd W H a b c d)) := by
  have hc : ∀ x y : Int, (T2 x y ∈ ([(Tup.mk [(0 : Int), (0 : Int)] : (Tup Int)), (Tup.mk [(0 : Int), (H - (1 : Int))] : (Tup Int)), (Tup.mk [(W - (1 : Int)), (0 : Int)] : (Tup Int)), (Tup.mk [(W - (1 : Int)), (H - (1 : Int))] : (Tup Int))] : (List (Tup Int)))) ↔ Co W H x y := by
    intro x y
    unfold Co
    simp [T2]
  unfold law_words
  simp only [hc, at0, at1, ok_bind, decide_eq_true_eq]
  by_cases h1 : Co W H a b <;> by_cases h2 : Co W H c d <;> by_cases h3 : a = c <;> by_cases h4 : b = d <;> (first | rw [if_pos h1] | rw [if_neg h1]) <;> (try rw [if_pos h2]) <;> (try rw [if_neg h2]) <;> (try rw [if_pos h3]) <;> (try rw [if_neg h3]) <;> (try rw [decide_eq_true h4]) <;> (try rw [decide_eq_false h4]) <;> first | exact congrArg R.ok (decide_eq_true (show Wd W H a b c d from ⟨h1, h2, Or.inl h3⟩)).symm | exact congrArg R.ok (decide_eq_true (show Wd W H a b c d from ⟨h1, h2, Or.inr h4⟩)).symm | exact congrArg R.ok (decide_eq_false (show ¬ Wd W H a b c d from fun z => h1 z.1)).symm | exact congrArg R.ok (decide_eq_false (show ¬ Wd W H a b c d from fun z => h2 z.2.1)).symm | exact congrArg R.ok (decide_eq_false (show ¬ Wd W H a b c d from fun z => z.2.2.elim h3 h4)).symm
theorem told_eq {W H a b c d : Int} (hW : 2 ≤ W) (hH : 2 ≤ H) : law_told W H (T2 a b) (T2 c d) = R.ok (some (decide (Kn W H a b c d))) := by
  unfold law_told
  rw [grid_eq hW hH, ok_bind, grid_eq hW hH, ok_bind]
  show (R.ok [b, a] >>= _) = _
  rw [ok_bind]
  show (R.ok [d, c] >>= _) = _
  rw [ok_bind, grid_eq hH hW, ok_bind, Z.app_ok (by simp), ok_bind, at0, ok_bind, at1, ok_bind, at0, ok_bind, at1, ok_bind, grid_eq hW hH, ok_bind, Z.app_ok (by simp), ok_bind, decide_eq_decide.mpr (kn_swap (W := W) (H := H) (a := a) (b := b) (c := c) (d := d)), decide_eq_decide.mpr (kn_turn (W := W) (H := H) (a := a) (b := b) (c := c) (d := d)), decide_eq_decide.mpr (kn_mirror (W := W) (H := H) (a := a) (b := b) (c := c) (d := d))]
  cases decide (Kn W H a b c d) <;> rfl
end G
namespace G
open PySem Z L2
/-! ### what `unlike` gathers -/
theorem fold_flat {α β : Type} {f : α → List β} {step : List β → α → R (List β)} {n : Nat} : ∀ {l : List α} {g : List β}, (∀ g b, b ∈ l → g.length < n → step g b = R.ok (g ++ f b)) → (g ++ l.flatMap f).length < n → foldR step g l = R.ok (g ++ l.flatMap f)
  | [], g, _, _ => by rw [List.flatMap_nil, List.append_nil]; rfl
  | x :: l, g, hs, hn => by
    show (step g x >>= fun s' => foldR step s' l) = _
    rw [List.flatMap_cons, ← List.append_assoc] at hn ⊢
    rw [hs g x List.mem_cons_self (by simp only [List.length_append] at hn; omega), ok_bind]
    exact fold_flat (fun g b hb => hs g b (List.mem_cons_of_mem _ hb)) hn
def df (x a : Nat) : Nat := (x - a) + (a - x)
theorem df_eq (x a : Nat) : absI ((x : Int) - (a : Int)) = (df x a : Int) := by
  unfold absI df
  split <;> omega
/-- the two ways of a cell, in one number -/
def cd (a b c d x y : Nat) : Nat := (df x a + df y b) * 64 + (df x c + df y d)
def codes (W H a b c d : Nat) : List Nat := (List.range W).flatMap fun x => (List.range H).map fun y => cd a b c d x y
def dec2 (n : Nat) : Tup Int := ⟨[((n / 64 : Nat) : Int), ((n % 64 : Nat) : Int)]⟩
theorem dec2_inj {m n : Nat} (h : dec2 m = dec2 n) : m = n := by
  unfold dec2 at h
  simp only [Tup.mk.injEq, List.cons.injEq, and_true] at h
  omega
theorem rng_nat (n : Nat) : rng 0 (n : Int) = (List.range n).map fun k : Nat => (k : Int) := by
  unfold rng
  simp
theorem nub_nodup {α : Type} [DecidableEq α] : ∀ {l : List α}, (nub l).length = l.length ↔ l.Nodup
  | [] => by simp [nub]
  | x :: l => by
    have hle : ∀ l : List α, (nub l).length ≤ l.length := by
      intro l
      induction l with
      | nil => exact Nat.le_refl _
      | cons x l ih =>
        unfold nub
        split
        · exact Nat.le_succ_of_le ih
        · exact Nat.succ_le_succ ih
    rw [List.nodup_cons]
    unfold nub
    split
    · rename_i h
      have := hle l
      rw [List.length_cons]
      constructor
      · intro e; omega
      · intro e; exact absurd h e.1
    · rename_i h
      rw [List.length_cons, List.length_cons]
      constructor
      · intro e; exact ⟨h, nub_nodup.mp (by omega)⟩
      · intro e; rw [nub_nodup.mpr e.2]
theorem flat_length {W H : Nat} {α : Type} (f : Nat → Nat → α) : ((List.range W).flatMap fun x => (List.range H).map fun y => f x y).length = W * H := by
  rw [List.length_flatMap]
  simp [List.map_const']
theorem unlike_nat {W H a b c d : Nat} (hW : W < 6) (hH : H < 6) (hd : c < W ∧ d < H) : law_unlike (W : Int) (H : Int) (T2 a b) (T2 c d) = R.ok (decide (codes W H a b c d).Nodup) := by
  have hWH : W * H < 64 := by
    have : W * H ≤ 5 * 5 := Nat.mul_le_mul (by omega) (by omega)
    omega
  have cell : ∀ x y : Nat, x < W → y < H → (⟨[(df x a : Int) + (df y b : Int), (df x c : Int) + (df y d : Int)]⟩ : Tup Int) = dec2 (cd a b c d x y) := by
    intro x y hx hy
    have h : df x c + df y d < 64 := by unfold df; omega
    unfold dec2 cd
    have e1 : ((df x a + df y b) * 64 + (df x c + df y d)) / 64 = df x a + df y b := by omega
    have e2 : ((df x a + df y b) * 64 + (df x c + df y d)) % 64 = df x c + df y d := by omega
    rw [e1, e2]
    rfl
  unfold law_unlike
  rw [rngI_ok (by omega) (by omega) (by omega) (by omega), ok_bind, rng_nat]
  have inner : ∀ (x : Nat) (g : List (Tup Int)), x < W → g.length < 100 → foldR (fun (g7 : (List (Tup Int))) (b7 : Int) => do
          let t9 ← getI (T2 a b).l (0 : Int)
          let t10 ← getI (T2 a b).l (1 : Int)
          let t11 ← getI (T2 c d).l (0 : Int)
          let t12 ← getI (T2 c d).l (1 : Int)
          let l15 ← app g7 (Tup.mk [((absI ((x : Int) - t9)) + (absI (b7 - t10))), ((absI ((x : Int) - t11)) + (absI (b7 - t12)))] : (Tup Int))
          R.ok l15) g ((List.range H).map fun k : Nat => (k : Int)) = R.ok (g ++ ((List.range H).map fun k : Nat => (k : Int)).flatMap fun y => [dec2 (cd a b c d x y.toNat)]) := by
    intro x g hx hg
    refine fold_flat (n := 1000) (fun g y hy hg => ?_) (by rw [← List.map_eq_flatMap, List.length_append, List.length_map, List.length_map, List.length_range]; omega)
    obtain ⟨y, hy', rfl⟩ := List.mem_map.mp hy
    clear hy
    replace hy := hy'
    rw [List.mem_range] at hy
    show (app g (Tup.mk [((absI ((x : Int) - a)) + (absI (y - b))), ((absI ((x : Int) - c)) + (absI (y - d)))] : (Tup Int)) >>= fun l15 => R.ok l15) = _
    rw [df_eq, df_eq, df_eq, df_eq, cell x y hx hy, Z.app_ok (by omega), ok_bind, Int.toNat_natCast]
  have e : ((List.range W).map fun k : Nat => (k : Int)).flatMap (fun x => ((List.range H).map fun k : Nat => (k : Int)).flatMap fun y => [dec2 (cd a b c d x.toNat y.toNat)]) = (codes W H a b c d).map dec2 := by
    unfold codes
    rw [List.map_flatMap, List.flatMap_map]
    refine congrArg (fun f => List.flatMap f (List.range W)) (funext fun x => ?_)
    rw [List.map_map, List.flatMap_map]
    simp only [Int.toNat_natCast]
    exact List.map_eq_flatMap.symm
  have hl : ((codes W H a b c d).map dec2).length = W * H := by
    rw [List.length_map]
    exact flat_length _
  rw [fold_flat (f := fun x => ((List.range H).map fun k : Nat => (k : Int)).flatMap fun y => [dec2 (cd a b c d x.toNat y.toNat)]) (n := 100) (fun g x hx hg => ?_) (by rw [e, List.nil_append, hl]; omega), ok_bind, List.nil_append, e, grd_t (decide_eq_true (by rw [hl]; exact hWH)), ok_bind]
  · congr 1
    rw [decide_eq_decide, Int.ofNat_inj, nub_nodup]
    constructor
    · intro h
      rw [List.Nodup, List.pairwise_map] at h
      exact List.Pairwise.imp (fun hne e => hne (congrArg dec2 e)) h
    · intro h
      rw [List.Nodup, List.pairwise_map]
      exact List.Pairwise.imp (fun hne e => hne (dec2_inj e)) h
  · obtain ⟨x, hx', rfl⟩ := List.mem_map.mp hx
    clear hx
    replace hx := hx'
    rw [List.mem_range] at hx
    rw [rngI_ok (by omega) (by omega) (by omega) (by omega), ok_bind, rng_nat]
    show (foldR _ g _ >>= _) = _
    rw [inner x g hx hg, ok_bind]
    rfl
def nodupB : List Nat → Bool
  | [] => true
  | x :: l => !(l.any (Nat.beq x)) && nodupB l
theorem nodupB_iff : ∀ {l : List Nat}, nodupB l = true ↔ l.Nodup
  | [] => by simp [nodupB]
  | x :: l => by
    unfold nodupB
    rw [List.nodup_cons, Bool.and_eq_true, nodupB_iff]
    have : (!(l.any (Nat.beq x))) = true ↔ x ∉ l := by
      rw [Bool.not_eq_true', ← Bool.not_eq_true, List.any_eq_true]
      constructor
      · intro h hx; exact h ⟨x, hx, Nat.beq_refl x⟩
      · rintro h ⟨y, hy, e⟩; exact h (Nat.eq_of_beq_eq_true e ▸ hy)
    rw [this]
def wdB (W H a b c d : Nat) : Bool :=
  let co := fun x y => (Nat.beq x 0 || Nat.beq (x + 1) W) && (Nat.beq y 0 || Nat.beq (y + 1) H)
  co a b && co c d && (Nat.beq a c || Nat.beq b d)
def ltAll (n : Nat) (f : Nat → Bool) : Bool := (List.range n).all f
def lookGrid (W H : Nat) : Bool := (List.range W).all fun a => (List.range H).all fun b => (List.range W).all fun c => (List.range H).all fun d => (Nat.beq a c && Nat.beq b d) || (nodupB (codes W H a b c d) == wdB W H a b c d)
theorem looks : [2, 3, 4, 5].all (fun W => [2, 3, 4, 5].all fun H => lookGrid W H) = true := by decide +kernel
/-- a place of the grid -/
def In (W H a b : Int) : Prop := 0 ≤ a ∧ a < W ∧ 0 ≤ b ∧ b < H
theorem wdB_iff {W H a b c d : Nat} (hW : 2 ≤ W) (hH : 2 ≤ H) : wdB W H a b c d = true ↔ Wd W H a b c d := by
  have hb : ∀ x y : Nat, Nat.beq x y = true ↔ x = y := fun x y => ⟨Nat.eq_of_beq_eq_true, fun e => e ▸ Nat.beq_refl x⟩
  unfold wdB Wd Co
  simp only [Bool.and_eq_true, Bool.or_eq_true, hb]
  omega
theorem unlike_eq {W H a b c d : Int} (h0 : 2 ≤ W) (h1 : W < 6) (h2 : 2 ≤ H) (h3 : H < 6) (i : In W H a b) (j : In W H c d) (hn : ¬ (a = c ∧ b = d)) : law_unlike W H (T2 a b) (T2 c d) = R.ok (decide (Wd W H a b c d)) := by
  obtain ⟨i1, i2, i3, i4⟩ := i
  obtain ⟨j1, j2, j3, j4⟩ := j
  obtain ⟨W, rfl⟩ := Int.eq_ofNat_of_zero_le (show 0 ≤ W by omega)
  obtain ⟨H, rfl⟩ := Int.eq_ofNat_of_zero_le (show 0 ≤ H by omega)
  obtain ⟨a, rfl⟩ := Int.eq_ofNat_of_zero_le i1
  obtain ⟨b, rfl⟩ := Int.eq_ofNat_of_zero_le i3
  obtain ⟨c, rfl⟩ := Int.eq_ofNat_of_zero_le j1
  obtain ⟨d, rfl⟩ := Int.eq_ofNat_of_zero_le j3
  rw [unlike_nat (by omega) (by omega) ⟨by omega, by omega⟩]
  refine congrArg R.ok (decide_eq_decide.mpr ?_)
  rw [← wdB_iff (by omega) (by omega), ← nodupB_iff]
  have m : ∀ n : Nat, 2 ≤ n → n < 6 → n ∈ [2, 3, 4, 5] := fun n h k => by simp; omega
  have h := List.all_eq_true.mp (List.all_eq_true.mp looks W (m W (by omega) (by omega))) H (m H (by omega) (by omega))
  unfold lookGrid at h
  have h := List.all_eq_true.mp h a (List.mem_range.mpr (by omega))
  have h := List.all_eq_true.mp h b (List.mem_range.mpr (by omega))
  have h := List.all_eq_true.mp h c (List.mem_range.mpr (by omega))
  have h := List.all_eq_true.mp h d (List.mem_range.mpr (by omega))
  rw [Bool.or_eq_true, Bool.and_eq_true] at h
  rcases h with h | h
  · exact absurd ⟨by rw [Nat.eq_of_beq_eq_true h.1], by rw [Nat.eq_of_beq_eq_true h.2]⟩ hn
  · rw [eq_of_beq h]
end G
namespace G
open PySem Z L2
/-! ### draws -/
def Ok2 (s : List Int) : Prop := ∃ a b, s = [a, b] ∧ 0 ≤ a ∧ 0 ≤ b ∧ b < 2147483647
theorem next_ok {s : List Int} {m : Int} (h : Ok2 s) (h0 : 0 < m) (h1 : m < 1073741824) : Post (law_next s m) (fun p => 0 ≤ p.1 ∧ p.1 < m ∧ Ok2 p.2) noX := by
  obtain ⟨a, b, rfl, ha, hb, hb2⟩ := h
  unfold law_next
  refine po_getE (x := a) rfl ?_
  refine po_if (fun c => ?_) (fun c => ?_)
  · have c' : 0 < a := of_decide_eq_true c
    refine po_getE (x := a) rfl (po_mod h0 fun r0 r1 => po_getE (x := a) rfl (po_div h0 h1 (po_set (Int.le_refl 0) (by show (0 : Int) < 2; decide) ?_)))
    exact ⟨r0, r1, _, _, rfl, Int.ediv_nonneg ha (by omega), hb, hb2⟩
  · refine po_getE (x := b) rfl (po_set (by decide) (by show (1 : Int) < 2; decide) ?_)
    refine po_getE (x := (b * 69621 + 40692) % 2147483647) rfl (po_getE (x := (b * 69621 + 40692) % 2147483647) rfl ?_)
    have h2 : 0 ≤ (b * 69621 + 40692) % 2147483647 := Int.emod_nonneg _ (by decide)
    have h3 : (b * 69621 + 40692) % 2147483647 < 2147483647 := Int.emod_lt_of_pos _ (by decide)
    exact po_mul (by left; omega) (po_mod h0 fun r0 r1 => ⟨r0, r1, _, _, rfl, ha, h2, h3⟩)
theorem great_ok {s : List Int} {m : Int} (h : Ok2 s) (h0 : 0 < m) : Post (law_great s m) (fun p => 0 ≤ p.1 ∧ p.1 < m ∧ Ok2 p.2) noX := by
  unfold law_great
  refine po_bind (po_fold (fun g => Ok2 g.2) h fun g x hg _ => ?_) fun g hg => po_mod h0 fun r0 r1 => ⟨r0, r1, hg⟩
  exact po_bind (next_ok hg (by decide) (by decide)) fun y hy => hy.2.2
theorem cell_ok {sc : List Int} {k : Int} (h0 : 0 ≤ k) : Post (law_cell_at ⟨sc⟩ k) (fun _ => True) noX := by
  unfold law_cell_at
  refine po_if (fun c => po_get h0 (of_decide_eq_true c) fun _ _ _ => trivial) fun c => ?_
  refine po_bind (Q := fun _ => True) (po_if (fun c => ?_) fun _ => trivial) fun _ _ => trivial
  have hne : sc ≠ [] := fun e => by
    subst e
    exact absurd c (by decide)
  have hl : 0 < (sc.length : Int) := by
    have := List.length_pos_iff.mpr hne
    omega
  exact po_mod hl fun r0 r1 => po_get r0 r1 fun _ _ _ => trivial
theorem folded_ok {sc : List Int} (h : sc.length ≤ 63) : Post (law_folded ⟨sc⟩ 10) (fun l => l.length = 10) noX := by
  unfold law_folded
  refine po_rng (by omega) (by omega) (by omega) (by omega) ?_
  have h10 : (rng 0 10).length = 10 := by rw [rng_length]; rfl
  have hx : ∀ x ∈ rng 0 10, 0 ≤ x := fun x hx => (rng_mem.mp hx).1
  generalize hl : rng 0 10 = l at h10 hx ⊢
  refine po_bind (po_mapG (fun _ => True) (by rw [h10]; omega) fun x h => po_bind (cell_ok (hx x h)) fun _ _ => po_ok trivial) fun l3 h3 => ?_
  have e : rngI 10 ((⟨sc⟩ : Scr).l.length : Int) = R.ok (rng 10 sc.length) := by
    unfold rngI
    rw [if_pos]
    exact ⟨by omega, by omega, by show _ ≤ (sc.length : Int); omega, by show (sc.length : Int) < _; omega⟩
  rw [e, ok_bind]
  have h3' : l3.length = 10 := h3.1.trans h10
  refine po_bind (po_fold (fun g => g.length = 10) h3' fun g x hg hx => ?_) fun g hg => po_ok hg
  obtain ⟨hx0, hx1⟩ := rng_mem.mp hx
  refine po_mod (by decide) fun r0 r1 => po_get r0 (by omega) fun _ _ _ => po_get (by omega) hx1 fun _ _ _ => po_set r0 (by omega) ?_
  show (List.set _ _ _).length = 10
  rw [List.length_set]
  exact hg
theorem state_ok (c : Int) : Post (law_state c) Ok2 noX := by
  unfold law_state
  refine po_bind (Q := fun g => 0 ≤ g) (po_if (fun k => ?_) fun _ => Int.le_refl 0) fun g hg => ?_
  · have : (10 : Int) ^ (18 : Int).toNat ≤ c := of_decide_eq_true k
    have h2 : (0 : Int) ≤ (10 : Int) ^ (18 : Int).toNat := by decide
    show 0 ≤ c
    omega
  · exact ⟨_, _, rfl, hg, Int.emod_nonneg _ (by decide), Int.emod_lt_of_pos _ (by decide)⟩

/-! ### drawing the two -/
theorem spot_ok {s : List Int} {W H : Int} (h : Ok2 s) (hW : 2 ≤ W) (hH : 2 ≤ H) : Post (law_spot s W H) (fun p => ∃ a b, p.1 = T2 a b ∧ In W H a b ∧ Ok2 p.2) noX := by
  unfold law_spot
  have step : ∀ (g : List Int × List Int) (m : Int), Ok2 g.2 → 2 ≤ m → g.1.length < 2 → Post (do
      let y10 ← law_great g.2 m
      let y14 ← law_next y10.2 (6 : Int)
      let t15 ← getI ([(0 : Int), (m - (1 : Int)), (1 : Int), y10.1] : (List Int)) (min2 (3 : Int) y14.1)
      let l16 ← app g.1 t15
      R.ok (l16, y14.2)) (fun r => ∃ a, r.1 = g.1 ++ [a] ∧ 0 ≤ a ∧ a < m ∧ Ok2 r.2) noX := by
    intro g m hg hm hl
    refine po_bind (great_ok hg (by omega)) fun y ⟨r0, r1, hy⟩ => po_bind (next_ok hy (by decide) (by decide)) fun z ⟨z0, z1, hz⟩ => ?_
    refine po_get (by unfold min2; split <;> omega) (by unfold min2; show _ < (4 : Int); split <;> omega) fun t ht _ => po_app (by omega) ⟨t, rfl, ?_, ?_, hz⟩ <;> (simp only [List.mem_cons, List.mem_nil_iff, or_false] at ht; omega)
  refine po_bind (Q := fun g => ∃ a b, g.1 = [a, b] ∧ In W H a b ∧ Ok2 g.2) (po_bind (Q := fun g => ∃ a, g.1 = [a] ∧ 0 ≤ a ∧ a < W ∧ Ok2 g.2) (step (([] : List Int), s) W h hW (by show 0 < 2; omega)) fun g hg => ?_) fun g ⟨a, b, e, i, o⟩ => ⟨a, b, by rw [e], i, o⟩
  obtain ⟨a, e, a0, a1, o⟩ := hg
  refine po_bind (step g H o hH (by rw [e]; show 1 < 2; omega)) fun g2 ⟨b, e2, b0, b1, o2⟩ => ⟨a, b, ?_, ⟨a0, a1, b0, b1⟩, o2⟩
  show g2.1 = _
  rw [e2, e]
  rfl
theorem two_ok {s : List Int} {W H : Int} (h : Ok2 s) (hW : 2 ≤ W) (hH : 2 ≤ H) : Post (law_two s W H) (fun p => ∃ a b c d, p.1 = (T2 a b, T2 c d) ∧ In W H a b ∧ In W H c d ∧ ¬ (a = c ∧ b = d) ∧ Ok2 p.2) noX := by
  unfold law_two
  refine po_bind (spot_ok h hW hH) fun y2 ⟨a, b, e1, i1, o1⟩ => po_bind (spot_ok o1 hW hH) fun y4 ⟨c, d, e2, i2, o2⟩ => ?_
  rw [e1, e2]
  refine po_bind (Q := fun g => ∃ c d, g.1 = T2 c d ∧ In W H c d ∧ Ok2 g.2) ?_ fun g6 ⟨c, d, e6, i6, o6⟩ => ?_
  · refine po_bind (next_ok o2 (by decide) (by decide)) fun y7 ⟨_, _, h7⟩ => po_if (fun _ => ?_) fun _ => po_bind (next_ok h7 (by decide) (by decide)) fun y13 ⟨_, _, h13⟩ => po_if (fun _ => ?_) fun _ => ⟨c, d, rfl, i2, h13⟩
    · exact ⟨a, d, rfl, ⟨i1.1, i1.2.1, i2.2.2.1, i2.2.2.2⟩, h7⟩
    · exact ⟨c, b, rfl, ⟨i2.1, i2.2.1, i1.2.2.1, i1.2.2.2⟩, h13⟩
  · rw [e6]
    refine po_bind (Q := fun g => ∃ c d, g = T2 c d ∧ In W H c d ∧ ¬ (a = c ∧ b = d)) (po_if (fun k => ?_) fun k => ⟨c, d, rfl, i6, fun z => k (by rw [z.1, z.2]; simp)⟩) fun g ⟨c, d, e, i, n⟩ => ⟨a, b, c, d, by rw [e], i1, i, n, o6⟩
    rw [at0, ok_bind]
    refine po_mod (by omega) fun r0 r1 => ?_
    rw [at1, ok_bind]
    refine ⟨_, _, rfl, ⟨r0, r1, i1.2.2.1, i1.2.2.2⟩, fun z => ?_⟩
    have z := z.1
    have i := i1.1
    have j := i1.2.1
    by_cases k : a + 1 < W
    · rw [Int.emod_eq_of_lt (by omega) k] at z
      omega
    · have : a + 1 = W := by omega
      rw [this, Int.emod_self] at z
      omega
theorem told_wd {W H a b c d : Int} (hW : 2 ≤ W) (hH : 2 ≤ H) (hn : ¬ (a = c ∧ b = d)) : law_told W H (T2 a b) (T2 c d) = R.ok (some (decide (Wd W H a b c d))) := by
  rw [told_eq hW hH]
  exact congrArg (fun z => R.ok (some z)) (decide_eq_decide.mpr (kn_wd hW hH hn))
theorem law_true (ns : List Int) (hl : ns.length ≤ 63) : law ⟨ns⟩ = R.ok true := by
  refine po_iff ?_
  unfold law
  refine po_bind (folded_ok hl) fun y3 _ => ?_
  refine po_bind (po_foldX (fun _ => True) trivial fun g b hg _ => ?_) fun r ⟨_, e, _⟩ => by subst e; exact po_ok rfl
  refine po_bind (state_ok b) fun y7 h7 => po_bind (next_ok h7 (by decide) (by decide)) fun y9 ⟨w0, w1, h9⟩ => po_bind (next_ok h9 (by decide) (by decide)) fun y10 ⟨v0, v1, h10⟩ => ?_
  refine po_bind (two_ok h10 (by omega) (by omega)) fun y11 ⟨p, q, u, v, e, i, j, n, h11⟩ => ?_
  rw [e]
  show Post (law_unlike _ _ (T2 p q) (T2 u v) >>= _) _ _
  rw [unlike_eq (by omega) (by omega) (by omega) (by omega) i j n, ok_bind]
  refine po_bind (Q := fun j => j = false) ?_ fun j16 e16 => ?_
  · show Post (law_told _ _ (T2 p q) (T2 u v) >>= _) _ _
    rw [told_wd (by omega) (by omega) n, ok_bind]
    refine po_if (fun k => absurd k (by simp)) fun _ => ?_
    show Post (law_words _ _ (T2 p q) (T2 u v) >>= _) _ _
    rw [words_eq, ok_bind]
    show (!decide _) = false
    simp
  · subst e16
    refine po_if (fun k => absurd k (by decide)) fun _ => ?_
    refine po_bind (next_ok h11 (by decide) (by decide)) fun y30 ⟨r0, r1, h30⟩ => po_get r0 (by show _ < (3 : Int); omega) fun t31 m31 _ => ?_
    have p31 : 0 < t31 := by
      simp only [List.mem_cons, List.mem_nil_iff, or_false] at m31
      rcases m31 with rfl | rfl | rfl <;> decide
    refine po_bind (great_ok h30 p31) fun y32 ⟨s0, _, h32⟩ => po_bind (next_ok h32 (by decide) (by decide)) fun y39 ⟨r0, r1, h39⟩ => po_get r0 (by show _ < (3 : Int); omega) fun t40 m40 _ => ?_
    have p40 : 0 < t40 := by
      simp only [List.mem_cons, List.mem_nil_iff, or_false] at m40
      rcases m40 with rfl | rfl | rfl <;> decide
    refine po_bind (great_ok h39 p40) fun y41 ⟨s1, _, h41⟩ => po_bind (two_ok h41 (by omega) (by omega)) fun y43 ⟨p, q, u, v, e, i, j, n, h43⟩ => ?_
    rw [e]
    show Post (law_told _ _ (T2 p q) (T2 u v) >>= _) _ _
    rw [told_wd (by omega) (by omega) n, ok_bind]
    show Post (law_words _ _ (T2 p q) (T2 u v) >>= _) _ _
    rw [words_eq, ok_bind]
    exact po_if (fun k => absurd k (by simp)) fun _ => ⟨(), rfl, trivial⟩
end G
namespace G
open PySem L2 Z
open Rep (rep)
theorem dn_mk {K : Fg} {h : Heap} {mg : Str → Option Value} (X : K.In h) (G : h.Ns mainGlobals mg) {x : Str} {st : Stmt} {ps : List Str} {f : Addr} {od an : Option Addr} {sl : Array (Option Value)} {oc kV dc pm cd ct : Value}
    (a : PySem.W.nsIn K mainGlobals x = some (some (.ref f))) (l : K.lookup f = some ⟨oc, od, .func (PySem.W.fnOf x x (defArgs st) (defBody st) (defScope st) .none kV dc pm an cd ct), sl⟩) (c : PySem.W.codeIn K cd x = true) (k : PySem.W.keepIn K (.ref f) = true)
    (b : ∀ (kV doc pm : Value) (an : Option Addr) (cdv ct : Value) (us : List Value), us.length = ps.length → bindArgs (PySem.W.fnOf x x (defArgs st) (defBody st) (defScope st) .none kV doc pm an cdv ct) ⟨us, []⟩ = pure (ps.zip us)) :
    Dn K mg x st ps f (PySem.W.fnOf x x (defArgs st) (defBody st) (defScope st) .none kV dc pm an cd ct) := ⟨fun_mk l c k, PySem.W.mg_of X G a, (fun_mk l c k).binds b⟩
theorem all_mk {l : PySem.W.OpenLaw} {w : World} {K : PySem.W.Frag} {h : Heap} {mg : Str → Option Value} {fa : Addr} (X : K.In h) (G : h.Ns mainGlobals mg) (hfa : mg "law" = some (.ref fa))
    {f1 : Addr} {od1 an1 : Option Addr} {sl1 : Array (Option Value)} {oc1 kV1 dc1 pm1 cd1 ct1 : Value}
    {f2 : Addr} {od2 an2 : Option Addr} {sl2 : Array (Option Value)} {oc2 kV2 dc2 pm2 cd2 ct2 : Value}
    {f4 : Addr} {od4 an4 : Option Addr} {sl4 : Array (Option Value)} {oc4 kV4 dc4 pm4 cd4 ct4 : Value}
    {f5 : Addr} {od5 an5 : Option Addr} {sl5 : Array (Option Value)} {oc5 kV5 dc5 pm5 cd5 ct5 : Value}
    {f6 : Addr} {od6 an6 : Option Addr} {sl6 : Array (Option Value)} {oc6 kV6 dc6 pm6 cd6 ct6 : Value}
    {f7 : Addr} {od7 an7 : Option Addr} {sl7 : Array (Option Value)} {oc7 kV7 dc7 pm7 cd7 ct7 : Value}
    {f8 : Addr} {od8 an8 : Option Addr} {sl8 : Array (Option Value)} {oc8 kV8 dc8 pm8 cd8 ct8 : Value}
    {f9 : Addr} {od9 an9 : Option Addr} {sl9 : Array (Option Value)} {oc9 kV9 dc9 pm9 cd9 ct9 : Value}
    {f10 : Addr} {od10 an10 : Option Addr} {sl10 : Array (Option Value)} {oc10 kV10 dc10 pm10 cd10 ct10 : Value}
    {f11 : Addr} {od11 an11 : Option Addr} {sl11 : Array (Option Value)} {oc11 kV11 dc11 pm11 cd11 ct11 : Value}
    {f12 : Addr} {od12 an12 : Option Addr} {sl12 : Array (Option Value)} {oc12 kV12 dc12 pm12 cd12 ct12 : Value}
    {f13 : Addr} {od13 an13 : Option Addr} {sl13 : Array (Option Value)} {oc13 kV13 dc13 pm13 cd13 ct13 : Value}
    {f14 : Addr} {od14 an14 : Option Addr} {sl14 : Array (Option Value)} {oc14 kV14 dc14 pm14 cd14 ct14 : Value}
    (a1 : PySem.W.nsIn K mainGlobals "side_number" = some (some (.ref f1))) (l1 : K.lookup f1 = some ⟨oc1, od1, .func (PySem.W.fnOf "side_number" "side_number" (defArgs s_side_number) (defBody s_side_number) (defScope s_side_number) .none kV1 dc1 pm1 an1 cd1 ct1), sl1⟩) (c1 : PySem.W.codeIn K cd1 "side_number" = true) (k1 : PySem.W.keepIn K (.ref f1) = true)
    (a2 : PySem.W.nsIn K mainGlobals "grid_known" = some (some (.ref f2))) (l2 : K.lookup f2 = some ⟨oc2, od2, .func (PySem.W.fnOf "grid_known" "grid_known" (defArgs s_grid_known) (defBody s_grid_known) (defScope s_grid_known) .none kV2 dc2 pm2 an2 cd2 ct2), sl2⟩) (c2 : PySem.W.codeIn K cd2 "grid_known" = true) (k2 : PySem.W.keepIn K (.ref f2) = true)
    (a4 : PySem.W.nsIn K mainGlobals "_law_cell_at" = some (some (.ref f4))) (l4 : K.lookup f4 = some ⟨oc4, od4, .func (PySem.W.fnOf "_law_cell_at" "_law_cell_at" (defArgs s_law_cell_at) (defBody s_law_cell_at) (defScope s_law_cell_at) .none kV4 dc4 pm4 an4 cd4 ct4), sl4⟩) (c4 : PySem.W.codeIn K cd4 "_law_cell_at" = true) (k4 : PySem.W.keepIn K (.ref f4) = true)
    (a5 : PySem.W.nsIn K mainGlobals "_law_folded" = some (some (.ref f5))) (l5 : K.lookup f5 = some ⟨oc5, od5, .func (PySem.W.fnOf "_law_folded" "_law_folded" (defArgs s_law_folded) (defBody s_law_folded) (defScope s_law_folded) .none kV5 dc5 pm5 an5 cd5 ct5), sl5⟩) (c5 : PySem.W.codeIn K cd5 "_law_folded" = true) (k5 : PySem.W.keepIn K (.ref f5) = true)
    (a6 : PySem.W.nsIn K mainGlobals "_law_state" = some (some (.ref f6))) (l6 : K.lookup f6 = some ⟨oc6, od6, .func (PySem.W.fnOf "_law_state" "_law_state" (defArgs s_law_state) (defBody s_law_state) (defScope s_law_state) .none kV6 dc6 pm6 an6 cd6 ct6), sl6⟩) (c6 : PySem.W.codeIn K cd6 "_law_state" = true) (k6 : PySem.W.keepIn K (.ref f6) = true)
    (a7 : PySem.W.nsIn K mainGlobals "_law_next" = some (some (.ref f7))) (l7 : K.lookup f7 = some ⟨oc7, od7, .func (PySem.W.fnOf "_law_next" "_law_next" (defArgs s_law_next) (defBody s_law_next) (defScope s_law_next) .none kV7 dc7 pm7 an7 cd7 ct7), sl7⟩) (c7 : PySem.W.codeIn K cd7 "_law_next" = true) (k7 : PySem.W.keepIn K (.ref f7) = true)
    (a8 : PySem.W.nsIn K mainGlobals "_law_great" = some (some (.ref f8))) (l8 : K.lookup f8 = some ⟨oc8, od8, .func (PySem.W.fnOf "_law_great" "_law_great" (defArgs s_law_great) (defBody s_law_great) (defScope s_law_great) .none kV8 dc8 pm8 an8 cd8 ct8), sl8⟩) (c8 : PySem.W.codeIn K cd8 "_law_great" = true) (k8 : PySem.W.keepIn K (.ref f8) = true)
    (a9 : PySem.W.nsIn K mainGlobals "_law_spot" = some (some (.ref f9))) (l9 : K.lookup f9 = some ⟨oc9, od9, .func (PySem.W.fnOf "_law_spot" "_law_spot" (defArgs s_law_spot) (defBody s_law_spot) (defScope s_law_spot) .none kV9 dc9 pm9 an9 cd9 ct9), sl9⟩) (c9 : PySem.W.codeIn K cd9 "_law_spot" = true) (k9 : PySem.W.keepIn K (.ref f9) = true)
    (a10 : PySem.W.nsIn K mainGlobals "_law_two" = some (some (.ref f10))) (l10 : K.lookup f10 = some ⟨oc10, od10, .func (PySem.W.fnOf "_law_two" "_law_two" (defArgs s_law_two) (defBody s_law_two) (defScope s_law_two) .none kV10 dc10 pm10 an10 cd10 ct10), sl10⟩) (c10 : PySem.W.codeIn K cd10 "_law_two" = true) (k10 : PySem.W.keepIn K (.ref f10) = true)
    (a11 : PySem.W.nsIn K mainGlobals "_law_unlike" = some (some (.ref f11))) (l11 : K.lookup f11 = some ⟨oc11, od11, .func (PySem.W.fnOf "_law_unlike" "_law_unlike" (defArgs s_law_unlike) (defBody s_law_unlike) (defScope s_law_unlike) .none kV11 dc11 pm11 an11 cd11 ct11), sl11⟩) (c11 : PySem.W.codeIn K cd11 "_law_unlike" = true) (k11 : PySem.W.keepIn K (.ref f11) = true)
    (a12 : PySem.W.nsIn K mainGlobals "_law_words" = some (some (.ref f12))) (l12 : K.lookup f12 = some ⟨oc12, od12, .func (PySem.W.fnOf "_law_words" "_law_words" (defArgs s_law_words) (defBody s_law_words) (defScope s_law_words) .none kV12 dc12 pm12 an12 cd12 ct12), sl12⟩) (c12 : PySem.W.codeIn K cd12 "_law_words" = true) (k12 : PySem.W.keepIn K (.ref f12) = true)
    (a13 : PySem.W.nsIn K mainGlobals "_law_told" = some (some (.ref f13))) (l13 : K.lookup f13 = some ⟨oc13, od13, .func (PySem.W.fnOf "_law_told" "_law_told" (defArgs s_law_told) (defBody s_law_told) (defScope s_law_told) .none kV13 dc13 pm13 an13 cd13 ct13), sl13⟩) (c13 : PySem.W.codeIn K cd13 "_law_told" = true) (k13 : PySem.W.keepIn K (.ref f13) = true)
    (a14 : PySem.W.nsIn K mainGlobals "law" = some (some (.ref f14))) (l14 : K.lookup f14 = some ⟨oc14, od14, .func (PySem.W.fnOf "law" "law" (defArgs s_law) (defBody s_law) (defScope s_law) .none kV14 dc14 pm14 an14 cd14 ct14), sl14⟩) (c14 : PySem.W.codeIn K cd14 "law" = true) (k14 : PySem.W.keepIn K (.ref f14) = true)
    (z_abs : PySem.W.nsIn K mainGlobals "abs" = some none)
    (z_all : PySem.W.nsIn K mainGlobals "all" = some none)
    (z_bool : PySem.W.nsIn K mainGlobals "bool" = some none)
    (z_isinstance : PySem.W.nsIn K mainGlobals "isinstance" = some none)
    (z_len : PySem.W.nsIn K mainGlobals "len" = some none)
    (z_min : PySem.W.nsIn K mainGlobals "min" = some none)
    (z_range : PySem.W.nsIn K mainGlobals "range" = some none)
    (z_set : PySem.W.nsIn K mainGlobals "set" = some none)
    (z_sorted : PySem.W.nsIn K mainGlobals "sorted" = some none)
    (z_tuple : PySem.W.nsIn K mainGlobals "tuple" = some none) :
    ∃ fd : FuncData, (∀ (s : Shared) (v : Value), BindsTo s fd ⟨[v], []⟩ [("script", v)]) ∧ ∀ base : Heap, K.In base → base.Ns mainGlobals mg → FnOk l.prog w K mg base CX0 5 fa fd ["script"] (sp_law K) := by
  have e := hfa.symm.trans (PySem.W.mg_of X G a14)
  cases e
  let A : Nat → Addr := fun i => match i with | 1 => f1 | 2 => f2 | 4 => f4 | 5 => f5 | 6 => f6 | 7 => f7 | 8 => f8 | 9 => f9 | 10 => f10 | 11 => f11 | 12 => f12 | 13 => f13 | 14 => fa | _ => fa
  let FD : Nat → FuncData := fun i => match i with | 1 => (PySem.W.fnOf "side_number" "side_number" (defArgs s_side_number) (defBody s_side_number) (defScope s_side_number) .none kV1 dc1 pm1 an1 cd1 ct1) | 2 => (PySem.W.fnOf "grid_known" "grid_known" (defArgs s_grid_known) (defBody s_grid_known) (defScope s_grid_known) .none kV2 dc2 pm2 an2 cd2 ct2) | 4 => (PySem.W.fnOf "_law_cell_at" "_law_cell_at" (defArgs s_law_cell_at) (defBody s_law_cell_at) (defScope s_law_cell_at) .none kV4 dc4 pm4 an4 cd4 ct4) | 5 => (PySem.W.fnOf "_law_folded" "_law_folded" (defArgs s_law_folded) (defBody s_law_folded) (defScope s_law_folded) .none kV5 dc5 pm5 an5 cd5 ct5) | 6 => (PySem.W.fnOf "_law_state" "_law_state" (defArgs s_law_state) (defBody s_law_state) (defScope s_law_state) .none kV6 dc6 pm6 an6 cd6 ct6) | 7 => (PySem.W.fnOf "_law_next" "_law_next" (defArgs s_law_next) (defBody s_law_next) (defScope s_law_next) .none kV7 dc7 pm7 an7 cd7 ct7) | 8 => (PySem.W.fnOf "_law_great" "_law_great" (defArgs s_law_great) (defBody s_law_great) (defScope s_law_great) .none kV8 dc8 pm8 an8 cd8 ct8) | 9 => (PySem.W.fnOf "_law_spot" "_law_spot" (defArgs s_law_spot) (defBody s_law_spot) (defScope s_law_spot) .none kV9 dc9 pm9 an9 cd9 ct9) | 10 => (PySem.W.fnOf "_law_two" "_law_two" (defArgs s_law_two) (defBody s_law_two) (defScope s_law_two) .none kV10 dc10 pm10 an10 cd10 ct10) | 11 => (PySem.W.fnOf "_law_unlike" "_law_unlike" (defArgs s_law_unlike) (defBody s_law_unlike) (defScope s_law_unlike) .none kV11 dc11 pm11 an11 cd11 ct11) | 12 => (PySem.W.fnOf "_law_words" "_law_words" (defArgs s_law_words) (defBody s_law_words) (defScope s_law_words) .none kV12 dc12 pm12 an12 cd12 ct12) | 13 => (PySem.W.fnOf "_law_told" "_law_told" (defArgs s_law_told) (defBody s_law_told) (defScope s_law_told) .none kV13 dc13 pm13 an13 cd13 ct13) | 14 => (PySem.W.fnOf "law" "law" (defArgs s_law) (defBody s_law) (defScope s_law) .none kV14 dc14 pm14 an14 cd14 ct14) | _ => (PySem.W.fnOf "law" "law" (defArgs s_law) (defBody s_law) (defScope s_law) .none kV14 dc14 pm14 an14 cd14 ct14)
  have T : Tx K mg A FD := {
    d1 := dn_mk (st := s_side_number) (ps := ["sizes", "one", "other"]) X G a1 l1 c1 k1 fun _ _ _ _ _ _ us hl => match us, hl with | [_, _, _], _ => rfl
    d2 := dn_mk (st := s_grid_known) (ps := ["wide", "high", "one", "other"]) X G a2 l2 c2 k2 fun _ _ _ _ _ _ us hl => match us, hl with | [_, _, _, _], _ => rfl
    d4 := dn_mk (st := s_law_cell_at) (ps := ["script", "k"]) X G a4 l4 c4 k4 fun _ _ _ _ _ _ us hl => match us, hl with | [_, _], _ => rfl
    d5 := dn_mk (st := s_law_folded) (ps := ["script", "many"]) X G a5 l5 c5 k5 fun _ _ _ _ _ _ us hl => match us, hl with | [_, _], _ => rfl
    d6 := dn_mk (st := s_law_state) (ps := ["cell"]) X G a6 l6 c6 k6 fun _ _ _ _ _ _ us hl => match us, hl with | [_], _ => rfl
    d7 := dn_mk (st := s_law_next) (ps := ["state", "many"]) X G a7 l7 c7 k7 fun _ _ _ _ _ _ us hl => match us, hl with | [_, _], _ => rfl
    d8 := dn_mk (st := s_law_great) (ps := ["state", "top"]) X G a8 l8 c8 k8 fun _ _ _ _ _ _ us hl => match us, hl with | [_, _], _ => rfl
    d9 := dn_mk (st := s_law_spot) (ps := ["state", "wide", "high"]) X G a9 l9 c9 k9 fun _ _ _ _ _ _ us hl => match us, hl with | [_, _, _], _ => rfl
    d10 := dn_mk (st := s_law_two) (ps := ["state", "wide", "high"]) X G a10 l10 c10 k10 fun _ _ _ _ _ _ us hl => match us, hl with | [_, _, _], _ => rfl
    d11 := dn_mk (st := s_law_unlike) (ps := ["wide", "high", "one", "other"]) X G a11 l11 c11 k11 fun _ _ _ _ _ _ us hl => match us, hl with | [_, _, _, _], _ => rfl
    d12 := dn_mk (st := s_law_words) (ps := ["wide", "high", "one", "other"]) X G a12 l12 c12 k12 fun _ _ _ _ _ _ us hl => match us, hl with | [_, _, _, _], _ => rfl
    d13 := dn_mk (st := s_law_told) (ps := ["wide", "high", "one", "other"]) X G a13 l13 c13 k13 fun _ _ _ _ _ _ us hl => match us, hl with | [_, _, _, _], _ => rfl
    d14 := dn_mk (st := s_law) (ps := ["script"]) X G a14 l14 c14 k14 fun _ _ _ _ _ _ us hl => match us, hl with | [_], _ => rfl
    n_abs := PySem.W.mg_none_of X G z_abs
    n_all := PySem.W.mg_none_of X G z_all
    n_bool := PySem.W.mg_none_of X G z_bool
    n_isinstance := PySem.W.mg_none_of X G z_isinstance
    n_len := PySem.W.mg_none_of X G z_len
    n_min := PySem.W.mg_none_of X G z_min
    n_range := PySem.W.mg_none_of X G z_range
    n_set := PySem.W.mg_none_of X G z_set
    n_sorted := PySem.W.mg_none_of X G z_sorted
    n_tuple := PySem.W.mg_none_of X G z_tuple }
  exact ⟨(PySem.W.fnOf "law" "law" (defArgs s_law) (defBody s_law) (defScope s_law) .none kV14 dc14 pm14 an14 cd14 ct14), fun s v => .of_eq rfl, fun base _ _ => ok_law (A := A) (FD := FD) T⟩
theorem walk {l : PySem.W.OpenLaw} {q : Program} {loose : List Str} {XP : (Str → Option Value) → Heap → Prop} {YP : World → Heap → Prop} {d : DefRec} {K : Params → PySem.W.Frag} (hn : l.most = some 63) (hdf : d.params.defaults = [])
    (hY : ∀ (w : World) (h : Heap), YP w h → (K w.params).In h)
    (F : ∀ (w : World) (mg : Str → Option Value) (fa : Addr) (h : Heap), (K w.params).In h → h.Ns mainGlobals mg → mg d.name = some (.ref fa) →
      ∃ fd : FuncData, (∀ (s : Shared) (u : Value), BindsTo s fd ⟨[u], []⟩ [("script", u)]) ∧ ∀ base : Heap, (K w.params).In base → base.Ns mainGlobals mg → FnOk l.prog w (K w.params) mg base CX0 5 fa fd ["script"] (sp_law (K w.params))) :
    PySem.W.WalkO q loose XP YP l.row.toRowW d [] (fun f vs => PySem.call f vs) :=
  L2.walk_of (n := 63) (k := 5) (x := "script") (CX := fun _ => CX0) (sp := fun w => sp_law (K w.params)) hn (by decide) hdf ⟨rfl, by decide, by decide⟩ hY F
    (fun _ H a ns hl _ hS => ⟨H, [], .ref a, ⟨ns⟩, rfl, ⟨Same.refl _, (fun _ z => nomatch z), List.Pairwise.nil⟩, ⟨a, rfl, hS⟩, by rw [law_true ns hl]; exact fun v F2 H2 w s r => r⟩) fun _ _ _ _ _ z => z
end G
open PySem PySem.W PyProof.Rows
set_option maxRecDepth 100000 in
set_option maxHeartbeats 0 in
theorem PySem.Challenge.cw_farhail_k32_grids_known_at_once_holds : PySem.Challenge.rw_farhail_k32_grids_known_at_once.Holds := by
  w_on; o_law; k_head; (case hw => w_witness2)
  k_fill
  refine G.walk (l := PySem.Challenge.rw_farhail_k32_grids_known_at_once) rfl rfl (fun w h Y => PySem.W.kIn_of Y) ?F
  case F =>
    intro w mg fa h KX Gn hmg
    refine' G.all_mk KX Gn hmg ?a1 ?l1 ?c1 ?k1 ?a2 ?l2 ?c2 ?k2 ?a4 ?l4 ?c4 ?k4 ?a5 ?l5 ?c5 ?k5 ?a6 ?l6 ?c6 ?k6 ?a7 ?l7 ?c7 ?k7 ?a8 ?l8 ?c8 ?k8 ?a9 ?l9 ?c9 ?k9 ?a10 ?l10 ?c10 ?k10 ?a11 ?l11 ?c11 ?k11 ?a12 ?l12 ?c12 ?k12 ?a13 ?l13 ?c13 ?k13 ?a14 ?l14 ?c14 ?k14 ?z_abs ?z_all ?z_bool ?z_isinstance ?z_len ?z_min ?z_range ?z_set ?z_sorted ?z_tuple
    (case a1 => k_is); (case l1 => k_is); (case c1 => k_is); (case k1 => k_is)
    (case a2 => k_is); (case l2 => k_is); (case c2 => k_is); (case k2 => k_is)
    (case a4 => k_is); (case l4 => k_is); (case c4 => k_is); (case k4 => k_is)
    (case a5 => k_is); (case l5 => k_is); (case c5 => k_is); (case k5 => k_is)
    (case a6 => k_is); (case l6 => k_is); (case c6 => k_is); (case k6 => k_is)
    (case a7 => k_is); (case l7 => k_is); (case c7 => k_is); (case k7 => k_is)
    (case a8 => k_is); (case l8 => k_is); (case c8 => k_is); (case k8 => k_is)
    (case a9 => k_is); (case l9 => k_is); (case c9 => k_is); (case k9 => k_is)
    (case a10 => k_is); (case l10 => k_is); (case c10 => k_is); (case k10 => k_is)
    (case a11 => k_is); (case l11 => k_is); (case c11 => k_is); (case k11 => k_is)
    (case a12 => k_is); (case l12 => k_is); (case c12 => k_is); (case k12 => k_is)
    (case a13 => k_is); (case l13 => k_is); (case c13 => k_is); (case k13 => k_is)
    (case a14 => k_is); (case l14 => k_is); (case c14 => k_is); (case k14 => k_is)
    (case z_abs => k_is)
    (case z_all => k_is)
    (case z_bool => k_is)
    (case z_isinstance => k_is)
    (case z_len => k_is)
    (case z_min => k_is)
    (case z_range => k_is)
    (case z_set => k_is)
    (case z_sorted => k_is)
    (case z_tuple => k_is)
#print axioms PySem.Challenge.cw_farhail_k32_grids_known_at_once_holds
