import PyProof.Rows.All
import Wide.All
import OpenK.AllK
import Wide.FinOn
import HandS.ForMost
import HandS.Wide
import HandS.Walk
import HandS.Deep
import HandS.SortInts
import HandS.Flow
import HandS.IsInst
import PyProof.P3In
import HandS.TupSets
import HandS.Dict
import HandS.Conv
import HandS.SortRule
import KE.KIsAll
import HandS.Base
import HandS.Call
import HandS.Exc
import HandS.ExcOwn
import HandS.ExcIs
import HandS.ExcValue
import HandS.TryOnly
import HandS.WordsExc
import HandS.TupAny
import HandS.DictTup
import KE.KDictWalk
import KE.KExcIs
import HandS.List
import HandS.ExcInit
import HandS.ExcField
import HandS.ClsMeth
import PyProof.SumWalkG
import PyProof.TwoTypesSub
import HandS.Hot
import HandS.ExcCtx
import HandS.ExcInitHot
import HandS.Iter
import HandS.Text
import HandS.Steps
import KE.IntBitsLaws
import PyProof.AutoSeq1
import HandS.NoneIn
import HandS.SetFor
import HandS.Strs
import HandS.More
import PySem.Challenge.RW_farhail_k64_no_texts
set_option Elab.async false
set_option linter.all false
set_option maxRecDepth 100000
set_option maxHeartbeats 4000000
/-! Z0: results with refusals, data as it stands in a heap, the heap in a frozen part and cells of one's own -/
namespace Z
open PySem L2

abbrev Fg := PySem.W.Frag

/-! ### results -/
structure Exn where
  cls : Str
  arg : Int
  deriving DecidableEq

inductive R (α : Type) where
  | ok (a : α)
  | exc (e : Exn)
  | bad

def R.bind {α β : Type} (m : R α) (f : α → R β) : R β :=
  match m with
  | .ok a => f a
  | .exc e => .exc e
  | .bad => .bad
instance : Monad R where
  pure := R.ok
  bind := R.bind
section
variable {α β γ : Type}
theorem ok_bind (a : α) (f : α → R β) : (R.ok a >>= f) = f a := rfl
theorem pure_bind' (a : α) (f : α → R β) : ((pure a : R α) >>= f) = f a := rfl
theorem exc_bind (e : Exn) (f : α → R β) : ((R.exc e : R α) >>= f) = R.exc e := rfl
theorem bad_bind (f : α → R β) : ((R.bad : R α) >>= f) = R.bad := rfl
theorem pure_ok (a : α) : (pure a : R α) = R.ok a := rfl
theorem bind_bind (m : R α) (f : α → R β) (g : β → R γ) : ((m >>= f) >>= g) = (m >>= fun a => f a >>= g) := by
  cases m <;> rfl
theorem bind_ok_iff {m : R α} {f : α → R β} {b : β} : (m >>= f) = R.ok b ↔ ∃ a, m = R.ok a ∧ f a = R.ok b := by
  cases m with
  | ok a => exact ⟨fun h => ⟨a, rfl, h⟩, fun ⟨_, h1, h2⟩ => by cases h1; exact h2⟩
  | exc e => exact ⟨fun h => (nomatch (show R.exc e = R.ok b from h)), fun ⟨_, h1, _⟩ => nomatch h1⟩
  | bad => exact ⟨fun h => (nomatch (show R.bad = R.ok b from h)), fun ⟨_, h1, _⟩ => nomatch h1⟩
def grd (b : Bool) : R Unit := if b = true then .ok () else .bad
theorem grd_t {b : Bool} (h : b = true) : grd b = R.ok () := by rw [h]; rfl
def ofO (o : Option α) : R α :=
  match o with
  | some a => .ok a
  | none => .bad
theorem ofO_some (a : α) : ofO (some a) = R.ok a := rfl
/-- the item at an index of any sign -/
def getI (xs : List α) (i : Int) : R α := ofO (atI xs i)
/-- the list with another item at an index -/
def setI (xs : List α) (i : Int) (x : α) : R (List α) :=
  match ixN xs.length i with
  | some j => .ok (xs.set j x)
  | none => .bad
/-- a list of at most a thousand items grows by one -/
def app (xs : List α) (x : α) : R (List α) := if xs.length < 100000 then .ok (xs ++ [x]) else .bad
def extend (xs ys : List α) : R (List α) := if xs.length + ys.length < 100000 then .ok (xs ++ ys) else .bad
@[irreducible] def mulI (i j : Int) : R Int := if (-(2 ^ 64) < i ∧ i < 2 ^ 64) ∨ (-(2 ^ 64) < j ∧ j < 2 ^ 64) then .ok (i * j) else .bad
@[irreducible] def modI (i j : Int) : R Int := if 0 < j then .ok (i % j) else .bad
@[irreducible] def divI (i j : Int) : R Int := if 0 < j ∧ j.natAbs.log2 < 9000 then .ok (i / j) else .bad
@[irreducible] def powI (i j : Int) : R Int := if 0 ≤ j ∧ j ≤ 1000000 ∧ i.natAbs < 2 ^ 64 then .ok (i ^ j.toNat) else .bad
/-- the ints from i on below j -/
def rng (i j : Int) : List Int := (List.range (j - i).toNat).map fun (k : Nat) => i + (k : Int)
@[irreducible] def rngI (i j : Int) : R (List Int) := if -(2 ^ 62) ≤ i ∧ i < 2 ^ 62 ∧ -(2 ^ 62) ≤ j ∧ j < 2 ^ 62 then .ok (rng i j) else .bad
/-- items for items -/
def mapR (f : α → R β) : List α → R (List β)
  | [] => .ok []
  | x :: xs => do
    let y ← f x
    let ys ← mapR f xs
    pure (y :: ys)
/-- a fold whose turn may leave -/
def foldR (f : β → α → R β) : β → List α → R β
  | s, [] => .ok s
  | s, x :: xs => f s x >>= fun s' => foldR f s' xs
/-- a fold whose turn may end the whole with a value (inl), or the loop alone (inr inl) -/
def foldX {ρ : Type} (f : β → α → R (Sum ρ (Bool × β))) : β → List α → R (Sum ρ β)
  | s, [] => .ok (.inr s)
  | s, x :: xs => f s x >>= fun r =>
    match r with
    | .inl z => .ok (.inl z)
    | .inr (true, s') => foldX f s' xs
    | .inr (false, s') => .ok (.inr s')
/-- what holds of a result -/
def Post (m : R α) (P : α → Prop) (E : Exn → Prop) : Prop :=
  match m with
  | .ok a => P a
  | .exc e => E e
  | .bad => False
variable {P P' : α → Prop} {Q : β → Prop} {E E' : Exn → Prop}
theorem Post.mono {m : R α} (h : Post m P E) (hP : ∀ a, P a → P' a) (hE : ∀ e, E e → E' e) : Post m P' E' := by
  cases m with
  | ok a => exact hP a h
  | exc e => exact hE e h
  | bad => exact h
theorem post_bind {m : R α} {f : α → R β} (h : Post (m >>= f) Q E) : Post m (fun a => Post (f a) Q E) E := by
  cases m <;> exact h
theorem post_ok {a : α} (h : Post (R.ok a) P E) : P a := h
theorem pb_ok {a : α} {f : α → R β} (h : Post (R.ok a >>= f) Q E) : Post (f a) Q E := h
theorem pb_pure {a : α} {f : α → R β} (h : Post ((pure a : R α) >>= f) Q E) : Post (f a) Q E := h
theorem pb_assoc {m : R α} {f : α → R β} {g : β → R γ} {Q : γ → Prop} (h : Post ((m >>= f) >>= g) Q E) : Post (m >>= fun a => f a >>= g) Q E := by
  rw [bind_bind] at h
  exact h
theorem pb_grd {b : Bool} {f : Unit → R β} (h : Post (grd b >>= f) Q E) : b = true ∧ Post (f ()) Q E := by
  cases b with
  | true => exact ⟨rfl, h⟩
  | false => exact (show False from h).elim
theorem pb_ofO {o : Option α} {f : α → R β} (h : Post (ofO o >>= f) Q E) : ∃ a, o = some a ∧ Post (f a) Q E := by
  cases o with
  | some a => exact ⟨a, rfl, h⟩
  | none => exact (show False from h).elim
theorem pb_get {xs : List α} {i : Int} {f : α → R β} (h : Post (getI xs i >>= f) Q E) : ∃ a, atI xs i = some a ∧ Post (f a) Q E := pb_ofO h
theorem pb_set {xs : List α} {i : Int} {x : α} {f : List α → R β} (h : Post (setI xs i x >>= f) Q E) : ∃ j, ixN xs.length i = some j ∧ Post (f (xs.set j x)) Q E := by
  unfold setI at h
  cases e : ixN xs.length i with
  | some j => rw [e] at h; exact ⟨j, rfl, h⟩
  | none => rw [e] at h; exact (show False from h).elim
theorem pb_if {c : Prop} [Decidable c] {a : α} {f : α → R β} (h : Post ((if c then R.ok a else R.bad) >>= f) Q E) : c ∧ Post (f a) Q E := by
  by_cases hc : c
  · rw [if_pos hc] at h
    exact ⟨hc, h⟩
  · rw [if_neg hc] at h
    exact (show False from h).elim
theorem line5 : 100000 ≤ sizeLine := by decide
theorem pb_app {xs : List α} {x : α} {f : List α → R β} (h : Post (app xs x >>= f) Q E) : xs.length < sizeLine ∧ Post (f (xs ++ [x])) Q E :=
  let ⟨a, b⟩ := pb_if h
  ⟨Nat.lt_of_lt_of_le a line5, b⟩
theorem pb_extend {xs ys : List α} {f : List α → R β} (h : Post (extend xs ys >>= f) Q E) : xs.length + ys.length ≤ sizeLine ∧ Post (f (xs ++ ys)) Q E :=
  let ⟨a, b⟩ := pb_if h
  ⟨Nat.le_of_lt (Nat.lt_of_lt_of_le a line5), b⟩
theorem pb_mul {i j : Int} {f : Int → R β} (h : Post (mulI i j >>= f) Q E) : CMul i j ∧ Post (f (i * j)) Q E := by
  unfold mulI at h
  exact let ⟨a, b⟩ := pb_if (c := (-(2 ^ 64) < i ∧ i < 2 ^ 64) ∨ (-(2 ^ 64) < j ∧ j < 2 ^ 64)) h
  ⟨a, b⟩
theorem pb_mod {i j : Int} {f : Int → R β} (h : Post (modI i j >>= f) Q E) : 0 < j ∧ Post (f (i % j)) Q E := by
  unfold modI at h
  exact pb_if h
theorem pb_div {i j : Int} {f : Int → R β} (h : Post (divI i j >>= f) Q E) : CDivW i j ∧ Post (f (i / j)) Q E := by
  unfold divI at h
  exact let ⟨a, b⟩ := pb_if (c := 0 < j ∧ j.natAbs.log2 < 9000) h
  ⟨a, b⟩
theorem pb_pow {i j : Int} {f : Int → R β} (h : Post (powI i j >>= f) Q E) : CPow i j ∧ Post (f (i ^ j.toNat)) Q E := by
  unfold powI at h
  exact let ⟨a, b⟩ := pb_if (c := 0 ≤ j ∧ j ≤ 1000000 ∧ i.natAbs < 2 ^ 64) h
  ⟨a, b⟩
theorem pb_rng {i j : Int} {f : List Int → R β} (h : Post (rngI i j >>= f) Q E) : (-(2 ^ 62) ≤ i ∧ i < 2 ^ 62 ∧ -(2 ^ 62) ≤ j ∧ j < 2 ^ 62) ∧ Post (f (rng i j)) Q E := by
  unfold rngI at h
  exact pb_if h
theorem post_ite {c : Bool} {m n : R α} {A B : Prop} (h : Post (if c = true then m else n) P E) (ht : c = true → Post m P E → A) (hf : c = false → Post n P E → B) : if c = true then A else B := by
  cases c with
  | true => exact ht rfl h
  | false => exact hf rfl h
theorem post_ite2 {c : Bool} {m n : R α} {A : Prop} (h : Post (if c = true then m else n) P E) (ht : c = true → Post m P E → A) (hf : c = false → Post n P E → A) : A := by
  cases c with
  | true => exact ht rfl h
  | false => exact hf rfl h
theorem pb_ite {c : Bool} {m n : R α} {f : α → R β} (h : Post ((if c = true then m else n) >>= f) Q E) : Post (if c = true then m >>= f else n >>= f) Q E := by
  cases c <;> exact h
theorem pb_foldR {f : γ → α → R γ} {s : γ} {x : α} {xs : List α} {g : γ → R β} (h : Post (foldR f s (x :: xs) >>= g) Q E) : Post (f s x >>= fun s' => foldR f s' xs >>= g) Q E := by
  have h' : Post ((f s x >>= fun s' => foldR f s' xs) >>= g) Q E := h
  rw [bind_bind] at h'
  exact h'
end

/-! ### lists of values and what they stand for -/
inductive A2 {α : Type} (r : V → α → Prop) : List V → List α → Prop
  | nil : A2 r [] []
  | cons {v : V} {x : α} {vs : List V} {xs : List α} : r v x → A2 r vs xs → A2 r (v :: vs) (x :: xs)
section
variable {α : Type} {r r' : V → α → Prop} {vs us : List V} {xs ys : List α} {v : V} {x : α}
theorem A2.length : ∀ {vs : List V} {xs : List α}, A2 r vs xs → vs.length = xs.length
  | _, _, .nil => rfl
  | _, _, .cons _ t => by rw [List.length_cons, List.length_cons, A2.length t]
theorem A2.imp (f : ∀ v x, r v x → r' v x) : ∀ {vs : List V} {xs : List α}, A2 r vs xs → A2 r' vs xs
  | _, _, .nil => .nil
  | _, _, .cons h t => .cons (f _ _ h) (A2.imp f t)
theorem A2.append : ∀ {vs us : List V} {xs ys : List α}, A2 r vs xs → A2 r us ys → A2 r (vs ++ us) (xs ++ ys)
  | _, _, _, _, .nil, h => h
  | _, _, _, _, .cons a t, h => .cons a (A2.append t h)
theorem A2.snoc (h : A2 r vs xs) (a : r v x) : A2 r (vs ++ [v]) (xs ++ [x]) := h.append (.cons a .nil)
theorem A2.get : ∀ {vs : List V} {xs : List α} {i : Nat} {x : α}, A2 r vs xs → xs[i]? = some x → ∃ v, vs[i]? = some v ∧ r v x
  | _, _, _, _, .nil, e => by simp at e
  | _, _, 0, _, .cons a _, e => by simp at e; subst e; exact ⟨_, rfl, a⟩
  | _, _, i + 1, x, .cons _ t, e => by
    obtain ⟨v, h1, h2⟩ := A2.get (i := i) (x := x) t (by simpa using e)
    exact ⟨v, by simpa using h1, h2⟩
theorem A2.getV : ∀ {vs : List V} {xs : List α} {i : Nat} {v : V}, A2 r vs xs → vs[i]? = some v → ∃ x, xs[i]? = some x ∧ r v x
  | _, _, _, _, .nil, e => by simp at e
  | _, _, 0, _, .cons a _, e => by simp at e; subst e; exact ⟨_, rfl, a⟩
  | _, _, i + 1, x, .cons _ t, e => by
    obtain ⟨v, h1, h2⟩ := A2.getV (i := i) (v := x) t (by simpa using e)
    exact ⟨v, by simpa using h1, h2⟩
theorem A2.at {i : Int} (h : A2 r vs xs) (e : atI xs i = some x) : ∃ v, atI vs i = some v ∧ r v x := by
  unfold atI at e ⊢
  rw [h.length]
  cases q : ixN xs.length i with
  | none => rw [q] at e; cases e
  | some j =>
    rw [q] at e
    exact h.get e
theorem A2.set (a : r v x) : ∀ {vs : List V} {xs : List α} (i : Nat), A2 r vs xs → A2 r (vs.set i v) (xs.set i x)
  | _, _, _, .nil => .nil
  | _, _, 0, .cons _ t => .cons a t
  | _, _, i + 1, .cons q t => .cons q (A2.set a i t)
theorem A2.take : ∀ {vs : List V} {xs : List α} (n : Nat), A2 r vs xs → A2 r (vs.take n) (xs.take n)
  | _, _, 0, _ => .nil
  | _, _, _ + 1, .nil => .nil
  | _, _, n + 1, .cons a t => .cons a (A2.take n t)
theorem A2.drop : ∀ {vs : List V} {xs : List α} (n : Nat), A2 r vs xs → A2 r (vs.drop n) (xs.drop n)
  | _, _, 0, h => h
  | _, _, _ + 1, .nil => .nil
  | _, _, n + 1, .cons _ t => A2.drop n t
theorem A2.reverse : ∀ {vs : List V} {xs : List α}, A2 r vs xs → A2 r vs.reverse xs.reverse
  | _, _, .nil => .nil
  | _, _, .cons a t => by
    rw [List.reverse_cons, List.reverse_cons]
    exact (A2.reverse t).snoc a
theorem A2.eraseIdx : ∀ {vs : List V} {xs : List α} (i : Nat), A2 r vs xs → A2 r (vs.eraseIdx i) (xs.eraseIdx i)
  | _, _, _, .nil => .nil
  | _, _, 0, .cons _ t => t
  | _, _, i + 1, .cons a t => .cons a (A2.eraseIdx i t)
theorem A2.dropLast : ∀ {vs : List V} {xs : List α}, A2 r vs xs → A2 r vs.dropLast xs.dropLast
  | _, _, .nil => .nil
  | _, _, .cons _ .nil => .nil
  | _, _, .cons a (.cons b t) => .cons a (A2.dropLast (.cons b t))
theorem A2.repl {n : Nat} (a : r v x) : A2 r (List.replicate n v) (List.replicate n x) := by
  induction n with
  | zero => exact .nil
  | succ n ih => exact .cons a ih
end

/-! ### data in a heap -/
theorem Same.seqT {K : Fg} {H H' : Hp} {a : Addr} {xs : List V} (e : Same H H') (h : SqT K H a xs) : SqT K H' a xs := by
  rcases h with (h | ⟨o, h⟩) | h
  · exact .inl (.inl (e _ _ h))
  · exact .inl (.inr ⟨o, e _ _ h⟩)
  · exact .inr h
class Rep (α : Type) where
  rep : Fg → Hp → V → α → Prop
  mono : ∀ {K : Fg} {H H' : Hp} {v : V} {x : α}, Same H H' → rep K H v x → rep K H' v x
open Rep (rep)
section
variable {α β : Type} [Rep α] [Rep β] {K : Fg} {H H' : Hp} {v : V}
theorem A2.mono {vs : List V} {xs : List α} (s : Same H H') (h : A2 (rep K H) vs xs) : A2 (rep K H') vs xs := h.imp fun _ _ => Rep.mono s
instance : Rep Int := ⟨fun _ _ v x => v = .int x, fun _ h => h⟩
instance : Rep Bool := ⟨fun _ _ v x => v = .bl x, fun _ h => h⟩
instance : Rep Unit := ⟨fun _ _ v _ => v = .non, fun _ h => h⟩
instance : Rep Str := ⟨fun _ _ v x => v = .str x, fun _ h => h⟩
instance repOpt : Rep (Option α) := ⟨fun K H v x => match x with
  | none => v = .non
  | some y => rep K H v y, fun {_ _ _ _ x} s h => by
    cases x with
    | none => exact h
    | some y => exact Rep.mono (α := α) s h⟩
instance repPair : Rep (α × β) := ⟨fun K H v x => ∃ a u w, v = .ref a ∧ H a = some (.tup [u, w]) ∧ rep K H u x.1 ∧ rep K H w x.2,
  fun s ⟨a, u, w, e, q, h1, h2⟩ => ⟨a, u, w, e, s _ _ q, Rep.mono s h1, Rep.mono s h2⟩⟩
instance repList : Rep (List α) := ⟨fun K H v xs => ∃ a vs, v = .ref a ∧ H a = some (.lst vs) ∧ A2 (rep K H) vs xs,
  fun s ⟨a, vs, e, q, h⟩ => ⟨a, vs, e, s _ _ q, h.mono s⟩⟩
/-- the script -/
structure Scr where
  l : List Int
  deriving DecidableEq
instance repScr : Rep Scr := ⟨fun K H v xs => ∃ a, v = .ref a ∧ SqL K H a (xs.l.map V.int), fun s ⟨a, e, q⟩ => ⟨a, e, s.seq q⟩⟩
/-- a tuple of any number of like things -/
structure Tup (α : Type) where
  l : List α
  deriving DecidableEq
instance repTup : Rep (Tup α) := ⟨fun K H v xs => ∃ a vs, v = .ref a ∧ H a = some (.tup vs) ∧ A2 (rep K H) vs xs.l,
  fun s ⟨a, vs, e, q, h⟩ => ⟨a, vs, e, s _ _ q, h.mono s⟩⟩
/-- a place, or a pair -/
inductive Thing where
  | pl (i : Int)
  | ti (a b : Int)
  deriving DecidableEq
instance repThing : Rep Thing := ⟨fun K H v x => match x with
  | .pl i => v = .int i
  | .ti a b => rep K H v (a, b), fun {_ _ _ _ x} s h => by
    cases x with
    | pl i => exact h
    | ti a b => exact Rep.mono (α := Int × Int) s h⟩
theorem A2.ints {vs : List V} {xs : List Int} (h : A2 (rep K H) vs xs) : vs = xs.map V.int := by
  induction h with
  | nil => rfl
  | cons a _ ih =>
    have a' : _ = V.int _ := a
    rw [a', ih]
    rfl
theorem A2.of_ints {xs : List Int} : A2 (rep K H) (xs.map V.int) xs := by
  induction xs with
  | nil => exact .nil
  | cons x xs ih => exact .cons rfl ih
theorem A2.bools {vs : List V} {xs : List Bool} (h : A2 (rep K H) vs xs) : vs = xs.map V.bl := by
  induction h with
  | nil => rfl
  | cons a _ ih =>
    have a' : _ = V.bl _ := a
    rw [a', ih]
    rfl
end

/-! ### the heap: F, frozen, is read alone; the cells os are one's own, not in F -/
structure W (F H : Hp) (os : List (Addr × HO)) : Prop where
  same : Same F H
  own : ∀ p ∈ os, H p.1 = some p.2 ∧ F p.1 = none
  nd : os.Pairwise fun p q => p.1 ≠ q.1
  nt : ∀ p ∈ os, ∀ vs, p.2 ≠ .tup vs
theorem same_new {H : Hp} {p : Addr} {o : HO} (h : H p = none) : Same H (upd H p o) := fun a u e => by
  rw [upd_ne (ne_of_none e h)]
  exact e
section
variable {F H : Hp} {os pre post : List (Addr × HO)} {a p : Addr} {o o' : HO}
theorem W.free (w : W F H os) (n : H p = none) : F p = none := w.same.free n
theorem W.get (w : W F H (pre ++ (a, o) :: post)) : H a = some o := (w.own (a, o) (List.mem_append_right _ List.mem_cons_self)).1
theorem W.no (w : W F H (pre ++ (a, o) :: post)) : F a = none := (w.own (a, o) (List.mem_append_right _ List.mem_cons_self)).2
theorem W.ne (w : W F H os) (n : H p = none) : ∀ q ∈ os, q.1 ≠ p := fun q hq e => by
  have h := (w.own q hq).1
  rw [e, n] at h
  cases h
/-- a new thing, never to be written -/
theorem W.frz (w : W F H os) (n : H p = none) : W (upd F p o) (upd H p o) os where
  same := fun b u e => by
    by_cases hb : b = p
    · subst hb
      rw [upd_same] at e ⊢
      exact e
    · rw [upd_ne hb] at e ⊢
      exact w.same b u e
  own := fun q hq => by
    have hne := w.ne n q hq
    rw [upd_ne hne, upd_ne hne]
    exact w.own q hq
  nd := w.nd
  nt := w.nt
theorem W.frzS (w : W F H os) (n : H p = none) : Same F (upd F p o) := same_new (w.free n)
/-- a new cell of one's own -/
theorem W.new (w : W F H os) (n : H p = none) (ho : ∀ vs, o ≠ .tup vs := by exact fun _ h => nomatch h) : W F (upd H p o) ((p, o) :: os) where
  same := w.same.trans (same_new n)
  own := fun q hq => by
    rcases List.mem_cons.mp hq with rfl | hq
    · exact ⟨upd_same, w.free n⟩
    · rw [upd_ne (w.ne n q hq)]
      exact w.own q hq
  nd := List.pairwise_cons.mpr ⟨fun q hq => fun e => w.ne n q hq e.symm, w.nd⟩
  nt := fun q hq => by
    rcases List.mem_cons.mp hq with rfl | hq
    · exact ho
    · exact w.nt q hq
/-- a cell of one's own is written -/
theorem W.set (w : W F H (pre ++ (a, o) :: post)) (ho : ∀ vs, o' ≠ .tup vs := by exact fun _ h => nomatch h) : W F (upd H a o') (pre ++ (a, o') :: post) where
  same := fun b u e => by
    have hn := w.no
    rw [upd_ne (ne_of_none e hn)]
    exact w.same b u e
  own := fun q hq => by
    have nd := w.nd
    rw [List.pairwise_append] at nd
    obtain ⟨_, n2, n3⟩ := nd
    rw [List.pairwise_cons] at n2
    rcases List.mem_append.mp hq with hq | hq
    · have hne : q.1 ≠ a := n3 q hq (a, o) List.mem_cons_self
      rw [upd_ne hne]
      exact w.own q (List.mem_append_left _ hq)
    · rcases List.mem_cons.mp hq with rfl | hq
      · exact ⟨upd_same, w.no⟩
      · have hne : q.1 ≠ a := fun e => n2.1 q hq e.symm
        rw [upd_ne hne]
        exact w.own q (List.mem_append_right _ (List.mem_cons_of_mem _ hq))
  nd := by
    have nd := w.nd
    rw [List.pairwise_append] at nd ⊢
    obtain ⟨n1, n2, n3⟩ := nd
    rw [List.pairwise_cons] at n2 ⊢
    refine ⟨n1, ⟨n2.1, n2.2⟩, fun x hx y hy => ?_⟩
    rcases List.mem_cons.mp hy with rfl | hy
    · exact n3 x hx (a, o) List.mem_cons_self
    · exact n3 x hx y (List.mem_cons_of_mem _ hy)
  nt := fun q hq => by
    rcases List.mem_append.mp hq with hq | hq
    · exact w.nt q (List.mem_append_left _ hq)
    · rcases List.mem_cons.mp hq with rfl | hq
      · exact ho
      · exact w.nt q (List.mem_append_right _ (List.mem_cons_of_mem _ hq))
/-- a cell is forgotten -/
theorem W.drop (w : W F H (pre ++ (a, o) :: post)) : W F H (pre ++ post) where
  same := w.same
  own := fun q hq => w.own q (by
    rcases List.mem_append.mp hq with h | h
    · exact List.mem_append_left _ h
    · exact List.mem_append_right _ (List.mem_cons_of_mem _ h))
  nd := by
    have nd := w.nd
    rw [List.pairwise_append] at nd ⊢
    obtain ⟨n1, n2, n3⟩ := nd
    rw [List.pairwise_cons] at n2
    exact ⟨n1, n2.2, fun x hx y hy => n3 x hx y (List.mem_cons_of_mem _ hy)⟩
  nt := fun q hq => w.nt q (by
    rcases List.mem_append.mp hq with h | h
    · exact List.mem_append_left _ h
    · exact List.mem_append_right _ (List.mem_cons_of_mem _ h))
/-- a cell of one's own is never written again -/
theorem W.freeze (w : W F H (pre ++ (a, o) :: post)) : W (upd F a o) H (pre ++ post) where
  same := fun b u e => by
    by_cases hb : b = a
    · subst hb
      rw [upd_same] at e
      rw [← e]
      exact w.get
    · rw [upd_ne hb] at e
      exact w.same b u e
  own := fun q hq => by
    have nd := w.nd
    rw [List.pairwise_append] at nd
    obtain ⟨n1, n2, n3⟩ := nd
    rw [List.pairwise_cons] at n2
    have hne : q.1 ≠ a := by
      rcases List.mem_append.mp hq with h | h
      · exact n3 q h (a, o) List.mem_cons_self
      · exact fun e => n2.1 q h e.symm
    have h := w.drop.own q hq
    rw [upd_ne hne]
    exact h
  nd := w.drop.nd
  nt := w.drop.nt
theorem W.freezeS (w : W F H (pre ++ (a, o) :: post)) : Same F (upd F a o) := same_new w.no
/-- a cell is told first -/
theorem W.front (w : W F H (pre ++ (a, o) :: post)) : W F H ((a, o) :: (pre ++ post)) where
  same := w.same
  own := fun x hx => w.own x (by
    rcases List.mem_cons.mp hx with rfl | h
    · exact List.mem_append_right _ List.mem_cons_self
    · rcases List.mem_append.mp h with h | h
      · exact List.mem_append_left _ h
      · exact List.mem_append_right _ (List.mem_cons_of_mem _ h))
  nd := by
    have nd := w.nd
    have nd' := w.drop.nd
    rw [List.pairwise_append] at nd
    obtain ⟨n1, n2, n3⟩ := nd
    rw [List.pairwise_cons] at n2
    refine List.pairwise_cons.mpr ⟨fun x hx => ?_, nd'⟩
    rcases List.mem_append.mp hx with h | h
    · exact fun e => n3 x h (a, o) List.mem_cons_self e.symm
    · exact n2.1 x h
  nt := fun x hx => w.nt x (by
    rcases List.mem_cons.mp hx with rfl | h
    · exact List.mem_append_right _ List.mem_cons_self
    · rcases List.mem_append.mp h with h | h
      · exact List.mem_append_left _ h
      · exact List.mem_append_right _ (List.mem_cons_of_mem _ h))
end

/-! ### what a call hands back -/
section
variable {α β : Type} [Rep α] [Rep β]
/-- a value of the frozen part -/
def Ret (K : Fg) (F : Hp) (os : List (Addr × HO)) (Q : VK) (y : α) : Prop := ∀ v F' H', W F' H' os → Same F F' → rep K F' v y → Q v H'
/-- a new list, the caller's own -/
def RetL (K : Fg) (F : Hp) (os : List (Addr × HO)) (Q : VK) (ys : List α) : Prop := ∀ p vs F' H', W F' H' ((p, .lst vs) :: os) → Same F F' → A2 (rep K F') vs ys → Q (.ref p) H'
/-- a value, and what the list at a holds now -/
def RetM (K : Fg) (F : Hp) (a : Addr) (os : List (Addr × HO)) (Q : VK) (y : α × List β) : Prop :=
  ∀ v vs F' H', W F' H' ((a, .lst vs) :: os) → Same F F' → rep K F' v y.1 → A2 (rep K F') vs y.2 → Q v H'
/-- a new list, the caller's own, and what the list at a holds now -/
def RetLM (K : Fg) (F : Hp) (a : Addr) (os : List (Addr × HO)) (Q : VK) (y : List α × List β) : Prop :=
  ∀ p us vs F' H', W F' H' ((p, .lst us) :: (a, .lst vs) :: os) → Same F F' → A2 (rep K F') us y.1 → A2 (rep K F') vs y.2 → Q (.ref p) H'
def noX : Exn → Prop := fun _ => False
end
end Z
/-! Z1: loops, comprehensions and joins against their mirrors; calls by typed data -/
namespace Z
open PySem L2
open Rep (rep)

/-! ### ways that join -/
section
variable {γ δ : Type} {m : R γ} {k : γ → R δ} {P : δ → Prop} {X : Exn → Prop}
theorem joinS {t u : TS} {D : Ends} {σ : St} {H : Hp} (hm : Post (m >>= k) P X) (J : γ → St → Hp → Prop)
    (h : ∀ (N : St → Hp → Prop) (P' : γ → Prop), (∀ g, P' g → ∀ σ' H', J g σ' H' → N σ' H') → Post m P' X → t { D with nx := N } σ H)
    (h2 : ∀ g σ' H', J g σ' H' → Post (k g) P X → u D σ' H') : tSeq t u D σ H :=
  h _ _ (fun g p σ' H' j => h2 g σ' H' j p) (post_bind hm)
theorem joinT {t : TT} {σ : St} {H : Hp} {Q : Bool → Hp → Prop} (hm : Post (m >>= k) P X) (J : γ → Bool → Hp → Prop)
    (h : ∀ (Q' : Bool → Hp → Prop) (P' : γ → Prop), (∀ g, P' g → ∀ c H', J g c H' → Q' c H') → Post m P' X → t σ H Q')
    (h2 : ∀ g c H', J g c H' → Post (k g) P X → Q c H') : t σ H Q :=
  h _ _ (fun g p c H' j => h2 g c H' j p) (post_bind hm)
theorem joinE {t : TE} {σ : St} {H : Hp} {Q : VK} (hm : Post (m >>= k) P X) (J : γ → V → Hp → Prop)
    (h : ∀ (Q' : VK) (P' : γ → Prop), (∀ g, P' g → ∀ c H', J g c H' → Q' c H') → Post m P' X → t σ H Q')
    (h2 : ∀ g c H', J g c H' → Post (k g) P X → Q c H') : t σ H Q :=
  h _ _ (fun g p c H' j => h2 g c H' j p) (post_bind hm)
/-- a test of a value that is told -/
theorem cutT {t : TT} {σ : St} {H : Hp} {Q : Bool → Hp → Prop} (J : Bool → Hp → Prop) (h : ∀ Q' : Bool → Hp → Prop, (∀ c H', J c H' → Q' c H') → t σ H Q') (h2 : ∀ c H', J c H' → Q c H') : t σ H Q := h _ h2
theorem cutE {t : TE} {σ : St} {H : Hp} {Q : VK} (J : V → Hp → Prop) (h : ∀ Q' : VK, (∀ c H', J c H' → Q' c H') → t σ H Q') (h2 : ∀ c H', J c H' → Q c H') : t σ H Q := h _ h2
theorem ifB {c : Bool} {A B : Prop} (h1 : c = true → A) (h2 : c = false → B) : if c = true then A else B := by
  cases c with
  | true => exact h1 rfl
  | false => exact h2 rfl
end

/-! ### what is walked, typed -/
structure TW (J : It) {β : Type} (items : List β) (G : Hp → Prop) (Y : β → Hp → V → Hp → Prop) : Prop where
  walk : Walk J items.length G (fun i H x H' => ∃ b, items[i]? = some b ∧ Y b H x H')
section
variable {K : Fg} {F : Hp} {a : Addr} {α β : Type} [Rep α] [Rep β] {vs us : List V} {xs : List α} {ys : List β}
theorem tw_list (h : A2 (rep K F) vs xs) : TW (Itl K a) xs (fun H => SqL K H a vs) (fun b H x H' => H' = H ∧ rep K F x b) := ⟨by
  rw [← h.length]
  exact walk_list.mono (fun _ g => g) fun i H x H' _ _ y => by
    obtain ⟨y1, y2⟩ := y
    obtain ⟨b, h1, h2⟩ := h.getV y2
    exact ⟨b, h1, y1, h2⟩⟩
theorem tw_tup (h : A2 (rep K F) vs xs) : TW (Itt K a) xs (fun H => SqT K H a vs) (fun b H x H' => H' = H ∧ rep K F x b) := ⟨by
  rw [← h.length]
  exact walk_tup.mono (fun _ g => g) fun i H x H' _ _ y => by
    obtain ⟨y1, y2⟩ := y
    obtain ⟨b, h1, h2⟩ := h.getV y2
    exact ⟨b, h1, y1, h2⟩⟩
theorem rng_length (i j : Int) : (rng i j).length = (j - i).toNat := by
  unfold rng
  rw [List.length_map, List.length_range]
theorem rng_get {i j : Int} {n : Nat} (h : n < (j - i).toNat) : (rng i j)[n]? = some (i + (n : Int)) := by
  unfold rng
  rw [List.getElem?_map, List.getElem?_range h]
  rfl
theorem tw_rng {i j : Int} : TW (Itr i (j - i).toNat) (rng i j) (fun _ => True) (fun b H x H' => H' = H ∧ x = .int b) := ⟨by
  rw [rng_length]
  exact walk_range.mono (fun _ g => g) fun n H x H' hn _ y => ⟨_, rng_get hn, y.1, y.2⟩⟩
theorem tw_rng0 {j : Int} : TW (Itr 0 j.toNat) (rng 0 j) (fun _ => True) (fun b H x H' => H' = H ∧ x = .int b) := by
  have h := tw_rng (i := 0) (j := j)
  rw [Int.sub_zero] at h
  exact h
/-- pairs of a place and the item there -/
def enum (xs : List α) : List (Int × α) := (rng 0 xs.length).zip xs
theorem enum_length (xs : List α) : (enum xs).length = xs.length := by
  unfold enum
  rw [List.length_zip, rng_length]
  omega
theorem enum_get {xs : List α} {i : Nat} {x : α} (h : xs[i]? = some x) : (enum xs)[i]? = some ((i : Int), x) := by
  have hl := (List.getElem?_eq_some_iff.mp h).1
  unfold enum
  rw [List.getElem?_zip_eq_some]
  refine ⟨?_, h⟩
  rw [rng_get (by omega)]
  simp
theorem tw_enum (h : A2 (rep K F) vs xs) : TW (Ite K a) (enum xs) (fun H => SqL K H a vs) (fun b H v H' => ∃ T x, v = .ref T ∧ H T = none ∧ H' = upd H T (.tup [.int b.1, x]) ∧ rep K F x b.2) := ⟨by
  rw [enum_length, ← h.length]
  exact walk_enum.mono (fun _ g => g) fun i H x H' _ _ y => by
    obtain ⟨T, u, w, e1, e2, e3, e4, e5⟩ := y
    obtain ⟨b, h1, h2⟩ := h.getV e5
    cases e4
    exact ⟨((i : Int), b), enum_get h1, T, w, e1, e2, e3, h2⟩⟩
theorem tw_zip {b : Addr} (h : A2 (rep K F) vs xs) (h' : A2 (rep K F) us ys) : TW (Itz K a b) (xs.zip ys) (fun H => SqL K H a vs ∧ SqL K H b us) (fun p H v H' => ∃ T x y, v = .ref T ∧ H T = none ∧ H' = upd H T (.tup [x, y]) ∧ rep K F x p.1 ∧ rep K F y p.2) := ⟨by
  rw [List.length_zip, ← h.length, ← h'.length]
  exact (walk_zip rfl).mono (fun _ g => g) fun i H x H' _ _ y => by
    obtain ⟨T, u, w, e1, e2, e3, e4, e5⟩ := y
    obtain ⟨c, h1, h2⟩ := h.getV e4
    obtain ⟨d, h3, h4⟩ := h'.getV e5
    refine ⟨(c, d), ?_, T, u, w, e1, e2, e3, h2, h4⟩
    rw [List.getElem?_zip_eq_some]
    exact ⟨h1, h3⟩⟩
end

/-! ### for -/
section
variable {J : It} {β γ δ ρ : Type} {items : List β} {G : Hp → Prop} {Y : β → Hp → V → Hp → Prop} {g : TG} {tb : TS} {D : Ends} {σ : St} {H : Hp} {P : δ → Prop} {X : Exn → Prop}
theorem drop_cons {l : List β} {i : Nat} {b : β} (h : l[i]? = some b) : l.drop i = b :: l.drop (i + 1) := by
  obtain ⟨hl, e⟩ := List.getElem?_eq_some_iff.mp h
  rw [List.drop_eq_getElem_cons hl, e]
theorem forS (tw : TW J items G Y) {body : γ → β → R γ} {s0 : γ} {k : γ → R δ} (hm : Post (foldR body s0 items >>= k) P X) (I : γ → St → Hp → Prop) (h0 : I s0 σ H) (hG : ∀ c σ H, I c σ H → G H)
    (hs : ∀ (b : β) (c : γ) (x : V) (σ : St) (H H' : Hp) (N : St → Hp → Prop) (P' : γ → Prop), I c σ H → Y b H x H' → (∀ c', P' c' → ∀ σ' H', I c' σ' H' → N σ' H') → Post (body c b) P' X → g x σ H' fun σ2 H2 => tb { D with nx := N, ct := N, bk := D.nx } σ2 H2)
    (hd : ∀ c σ H, I c σ H → Post (k c) P X → D.nx σ H) :
    ∃ W : Nat → Nat → St → Hp → Prop, (∃ m, W 0 m σ H) ∧ ∀ i m σ H, W i m σ H →
      (J.stop i H ∧ D.nx σ H) ∨ (J.go i H ∧ ∃ N : St → Hp → Prop, (∀ σ' H', N σ' H' → ∃ m', m' < m ∧ W (i + 1) m' σ' H') ∧ ∀ x H', J.yld i H x H' → g x σ H' fun σ2 H2 => tb { D with nx := N, ct := N, bk := D.nx } σ2 H2) := by
  refine for_it tw.walk (fun i σ H => ∃ c, I c σ H ∧ Post (foldR body c (items.drop i) >>= k) P X) ⟨s0, h0, hm⟩ (fun i σ H _ ⟨c, h, _⟩ => hG c σ H h) ?_ ?_
  · rintro i x σ H H' hi ⟨c, h, hm⟩ ⟨b, hb, y⟩
    rw [drop_cons hb] at hm
    exact hs b c x σ H H' _ _ h y (fun c' p' σ' H' h' => ⟨c', h', p'⟩) (post_bind (pb_foldR hm))
  · rintro σ H ⟨c, h, hm⟩
    rw [List.drop_length] at hm
    exact hd c σ H h hm
/-- a for that may end the whole, or itself -/
theorem forX (tw : TW J items G Y) {body : γ → β → R (Sum ρ (Bool × γ))} {s0 : γ} {k : Sum ρ γ → R δ} (hm : Post (foldX body s0 items >>= k) P X) (I : γ → St → Hp → Prop) (h0 : I s0 σ H) (hG : ∀ c σ H, I c σ H → G H)
    (hs : ∀ (b : β) (c : γ) (x : V) (σ : St) (H H' : Hp) (N B : St → Hp → Prop) (P' : Sum ρ (Bool × γ) → Prop), I c σ H → Y b H x H' → (∀ c', P' (.inr (true, c')) → ∀ σ' H', I c' σ' H' → N σ' H') → (∀ c', P' (.inr (false, c')) → ∀ σ' H', I c' σ' H' → B σ' H') →
      (∀ z, P' (.inl z) → Post (k (.inl z)) P X) → Post (body c b) P' X → g x σ H' fun σ2 H2 => tb { D with nx := N, ct := N, bk := B } σ2 H2)
    (hd : ∀ c σ H, I c σ H → Post (k (.inr c)) P X → D.nx σ H) :
    ∃ W : Nat → Nat → St → Hp → Prop, (∃ m, W 0 m σ H) ∧ ∀ i m σ H, W i m σ H →
      (J.stop i H ∧ D.nx σ H) ∨ (J.go i H ∧ ∃ N : St → Hp → Prop, (∀ σ' H', N σ' H' → ∃ m', m' < m ∧ W (i + 1) m' σ' H') ∧ ∀ x H', J.yld i H x H' → g x σ H' fun σ2 H2 => tb { D with nx := N, ct := N, bk := D.nx } σ2 H2) := by
  refine for_it tw.walk (fun i σ H => ∃ c, I c σ H ∧ Post (foldX body c (items.drop i) >>= k) P X) ⟨s0, h0, hm⟩ (fun i σ H _ ⟨c, h, _⟩ => hG c σ H h) ?_ ?_
  · rintro i x σ H H' hi ⟨c, h, hm⟩ ⟨b, hb, y⟩
    rw [drop_cons hb] at hm
    have hm' : Post ((body c b >>= fun r => match r with
      | .inl z => (R.ok (.inl z) : R (Sum ρ γ))
      | .inr (true, s') => foldX body s' (items.drop (i + 1))
      | .inr (false, s') => R.ok (.inr s')) >>= k) P X := hm
    rw [bind_bind] at hm'
    exact hs b c x σ H H' _ _ _ h y (fun c' p' σ' H' h' => ⟨c', h', p'⟩) (fun c' p' σ' H' h' => hd c' σ' H' h' p') (fun z p' => p') (post_bind hm')
  · rintro σ H ⟨c, h, hm⟩
    rw [List.drop_length] at hm
    exact hd c σ H h hm
end
/-! ### comprehensions -/
/-- items for items, of a list that is not too long -/
def mapG {α β : Type} (f : α → R β) (xs : List α) : R (List β) := grd (decide (xs.length < 100000)) >>= fun _ => mapR f xs
/-- items for some items -/
def filR {α β : Type} (f : α → R (Option β)) : List α → R (List β)
  | [] => .ok []
  | x :: xs => f x >>= fun o => filR f xs >>= fun ys => match o with
    | some y => .ok (y :: ys)
    | none => .ok ys
def filG {α β : Type} (f : α → R (Option β)) (xs : List α) : R (List β) := grd (decide (xs.length < 100000)) >>= fun _ => filR f xs
/-- items for items, by a state that turns -/
def mapSt {α β γ : Type} (f : γ → α → R (β × γ)) : γ → List α → R (List β × γ)
  | s, [] => .ok ([], s)
  | s, x :: xs => f s x >>= fun p => mapSt f p.2 xs >>= fun q => .ok (p.1 :: q.1, q.2)
def mapStG {α β γ : Type} (f : γ → α → R (β × γ)) (s : γ) (xs : List α) : R (List β × γ) := grd (decide (xs.length < 100000)) >>= fun _ => mapSt f s xs
/-- items for some items, by a state that turns -/
def filSt {α β γ : Type} (f : γ → α → R (Option β × γ)) : γ → List α → R (List β × γ)
  | s, [] => .ok ([], s)
  | s, x :: xs => f s x >>= fun p => filSt f p.2 xs >>= fun q => match p.1 with
    | some y => .ok (y :: q.1, q.2)
    | none => .ok q
def filStG {α β γ : Type} (f : γ → α → R (Option β × γ)) (s : γ) (xs : List α) : R (List β × γ) := grd (decide (xs.length < 100000)) >>= fun _ => filSt f s xs
section
variable {J : It} {β γ δ ε : Type} {items : List β} {G : Hp → Prop} {Y : β → Hp → V → Hp → Prop} {g : TG} {tt : TT} {te : TE} {P : ε → Prop} {X : Exn → Prop} {K : Fg} {vs : List Nat} {σ : St} {F H1 : Hp} {os : List (Addr × HO)} {D : Addr} {Qd : Hp → Prop}
/-- what is asked of a comprehension's list D behind its walk J: by the readings' own words -/
abbrev LcAsk (J : It) (g : TG) (tt : TT) (te : TE) (vs : List Nat) (σ : St) (H1 : Hp) (D : Addr) (Qd : Hp → Prop) : Prop :=
  ∃ W : Nat → Nat → Hp → Prop, (∃ m, W 0 m (upd H1 D (.lst []))) ∧ ∀ i m H, W i m H →
      (J.stop i H ∧ Qd H) ∨ (J.go i H ∧ ∃ Nx : Hp → Prop, (∀ H', Nx H' → ∃ m', m' < m ∧ W (i + 1) m' H') ∧ ∀ x H', J.yld i H x H' → g x (wipe σ vs) H' fun σ2 H2 => wipe σ2 vs = wipe σ vs ∧ tt σ2 H2 fun b H3 =>
        if b = true then te σ2 H3 fun y H4 => ∃ acc, H4 D = some (.lst acc) ∧ acc.length < sizeLine ∧ Nx (upd H4 D (.lst (acc ++ [y]))) else Nx H3)
/-- the state and the items told of a comprehension: os by the state -/
theorem lcFil [Rep δ] (tw : TW J items G Y) {f : γ → β → R (Option δ × γ)} {s0 : γ} {k : List δ × γ → R ε} (hm : Post (filStG f s0 items >>= k) P X) (O : γ → Hp → List (Addr × HO) → Prop) (w : W F H1 os) (o0 : O s0 F os) (nD : H1 D = none)
    (hG : ∀ c F' H' os' acc, Same F F' → W F' H' ((D, .lst acc) :: os') → O c F' os' → G H')
    (hs : ∀ (b : β) (c : γ) (x : V) (F' H' H'' : Hp) (os' : List (Addr × HO)) (acc : List V) (N : V → Hp → Prop) (N0 : Hp → Prop) (P' : Option δ × γ → Prop), Same F F' → W F' H' ((D, .lst acc) :: os') → O c F' os' → Y b H' x H'' →
      (∀ d c', P' (some d, c') → ∀ y F'' H'' os'', W F'' H'' ((D, .lst acc) :: os'') → Same F' F'' → O c' F'' os'' → rep K F'' y d → N y H'') →
      (∀ c', P' (none, c') → ∀ F'' H'' os'', W F'' H'' ((D, .lst acc) :: os'') → Same F' F'' → O c' F'' os'' → N0 H'') → Post (f c b) P' X →
      g x (wipe σ vs) H'' fun σ2 H2 => wipe σ2 vs = wipe σ vs ∧ tt σ2 H2 fun b H3 => if b = true then te σ2 H3 N else N0 H3)
    (hd : ∀ c us F' H' os' ys, Same F F' → W F' H' ((D, .lst us) :: os') → O c F' os' → A2 (rep K F') us ys → Post (k (ys, c)) P X → Qd H') : LcAsk J g tt te vs σ H1 D Qd := by
  obtain ⟨hlen, hm⟩ := pb_grd (pb_assoc hm)
  have hlen : items.length < sizeLine := Nat.lt_of_lt_of_le (of_decide_eq_true hlen) line5
  refine lc_it tw.walk (fun i H => ∃ c F' os' us ys, i ≤ items.length ∧ Same F F' ∧ W F' H ((D, .lst us) :: os') ∧ O c F' os' ∧ A2 (rep K F') us ys ∧ ys.length ≤ i ∧ Post (filSt f c (items.drop i) >>= fun q => k (ys ++ q.1, q.2)) P X) ?_ ?_ ?_ ?_
  · exact ⟨s0, F, os, [], [], Nat.zero_le _, Same.refl _, w.new nD, o0, .nil, Nat.le_refl _, hm⟩
  · rintro i H _ ⟨c, F', os', us, ys, _, s, w', o, _⟩
    exact hG c F' H os' us s w' o
  · rintro i x H H' hi ⟨c, F', os', us, ys, _, s, w', o, h, hl, hm⟩ ⟨b, hb, y⟩
    rw [drop_cons hb] at hm
    have hm' : Post ((f c b >>= fun p => filSt f p.2 (items.drop (i + 1)) >>= fun q => match p.1 with
      | some y => (R.ok (y :: q.1, q.2) : R (List δ × γ))
      | none => R.ok q) >>= fun q => k (ys ++ q.1, q.2)) P X := hm
    rw [bind_bind] at hm'
    have hm2 := post_bind hm'
    have hul : us.length = ys.length := h.length
    refine hs b c x F' H H' os' us (fun y H4 => ∃ acc, H4 D = some (.lst acc) ∧ acc.length < sizeLine ∧ _) _ _ s w' o y ?_ ?_ hm2
    · intro d c' p2 y F'' H'' os'' w2 s2 o2 r2
      refine ⟨us, w2.get (pre := []), by omega, c', F'', os'', us ++ [y], ys ++ [d], hi, s.trans s2, w2.set (pre := []), o2, (h.mono s2).snoc r2, by rw [List.length_append, List.length_singleton]; omega, ?_⟩
      have p3 : Post ((filSt f c' (items.drop (i + 1)) >>= fun q => (R.ok (d :: q.1, q.2) : R (List δ × γ))) >>= fun q => k (ys ++ q.1, q.2)) P X := p2
      rw [bind_bind] at p3
      have e : (fun q : List δ × γ => (R.ok (d :: q.1, q.2) : R (List δ × γ)) >>= fun q => k (ys ++ q.1, q.2)) = fun q => k (ys ++ [d] ++ q.1, q.2) := by
        funext q
        show k (ys ++ (d :: q.1), q.2) = k (ys ++ [d] ++ q.1, q.2)
        rw [List.append_assoc]
        rfl
      rw [e] at p3
      exact p3
    · intro c' p2 F'' H'' os'' w2 s2 o2
      refine ⟨c', F'', os'', us, ys, hi, s.trans s2, w2, o2, h.mono s2, by omega, ?_⟩
      have p3 : Post ((filSt f c' (items.drop (i + 1)) >>= fun q => (R.ok q : R (List δ × γ))) >>= fun q => k (ys ++ q.1, q.2)) P X := p2
      rw [bind_bind] at p3
      exact p3
  · rintro H ⟨c, F', os', us, ys, _, s, w', o, h, _, hm⟩
    rw [List.drop_length] at hm
    have hm' : Post (k (ys ++ [], c)) P X := hm
    rw [List.append_nil] at hm'
    exact hd c us F' H os' ys s w' o h hm'
/-- without a test -/
theorem lcMap [Rep δ] (tw : TW J items G Y) {f : γ → β → R (δ × γ)} {s0 : γ} {k : List δ × γ → R ε} (hm : Post (mapStG f s0 items >>= k) P X) (O : γ → Hp → List (Addr × HO) → Prop) (w : W F H1 os) (o0 : O s0 F os) (nD : H1 D = none)
    (hG : ∀ c F' H' os' acc, Same F F' → W F' H' ((D, .lst acc) :: os') → O c F' os' → G H')
    (hs : ∀ (b : β) (c : γ) (x : V) (F' H' H'' : Hp) (os' : List (Addr × HO)) (acc : List V) (N : V → Hp → Prop) (P' : δ × γ → Prop), Same F F' → W F' H' ((D, .lst acc) :: os') → O c F' os' → Y b H' x H'' →
      (∀ d c', P' (d, c') → ∀ y F'' H'' os'', W F'' H'' ((D, .lst acc) :: os'') → Same F' F'' → O c' F'' os'' → rep K F'' y d → N y H'') → Post (f c b) P' X →
      g x (wipe σ vs) H'' fun σ2 H2 => wipe σ2 vs = wipe σ vs ∧ te σ2 H2 N)
    (hd : ∀ c us F' H' os' ys, Same F F' → W F' H' ((D, .lst us) :: os') → O c F' os' → A2 (rep K F') us ys → Post (k (ys, c)) P X → Qd H') : LcAsk J g tYes te vs σ H1 D Qd := by
  have e : ∀ (s : γ) (l : List β), filSt (fun c b => f c b >>= fun p => R.ok (some p.1, p.2)) s l = mapSt f s l := by
    intro s l
    induction l generalizing s with
    | nil => rfl
    | cons b l ih =>
      show ((f s b >>= fun p => R.ok (some p.1, p.2)) >>= fun p => filSt (fun c b => f c b >>= fun p => R.ok (some p.1, p.2)) p.2 l >>= fun q => match p.1 with
        | some y => (R.ok (y :: q.1, q.2) : R (List δ × γ))
        | none => R.ok q) = (f s b >>= fun p => mapSt f p.2 l >>= fun q => .ok (p.1 :: q.1, q.2))
      rw [bind_bind]
      refine congrArg (f s b >>= ·) ?_
      funext p
      show (filSt (fun c b => f c b >>= fun p => R.ok (some p.1, p.2)) p.2 l >>= fun q => (R.ok (p.1 :: q.1, q.2) : R (List δ × γ))) = _
      rw [ih]
  have hm' : Post (filStG (fun c b => f c b >>= fun p => R.ok (some p.1, p.2)) s0 items >>= k) P X := by
    unfold filStG
    simp only [e]
    exact hm
  refine lcFil tw hm' O w o0 nD hG (fun b c x F' H' H'' os' acc N N0 P' s w' o y hN hN0 hp => ?_) hd
  exact hs b c x F' H' H'' os' acc N _ s w' o y (fun d c' p2 y F'' H'' os'' w2 s2 o2 r2 => hN d c' p2 y F'' H'' os'' w2 s2 o2 r2) (post_bind hp)
/-- without a state -/
theorem lcM [Rep δ] (tw : TW J items G Y) {f : β → R δ} {k : List δ → R ε} (hm : Post (mapG f items >>= k) P X) (w : W F H1 os) (nD : H1 D = none)
    (hG : ∀ F' H' acc, Same F F' → W F' H' ((D, .lst acc) :: os) → G H')
    (hs : ∀ (b : β) (x : V) (F' H' H'' : Hp) (acc : List V) (N : V → Hp → Prop) (P' : δ → Prop), Same F F' → W F' H' ((D, .lst acc) :: os) → Y b H' x H'' →
      (∀ d, P' d → ∀ y F'' H'', W F'' H'' ((D, .lst acc) :: os) → Same F' F'' → rep K F'' y d → N y H'') → Post (f b) P' X →
      g x (wipe σ vs) H'' fun σ2 H2 => wipe σ2 vs = wipe σ vs ∧ te σ2 H2 N)
    (hd : ∀ us F' H' ys, Same F F' → W F' H' ((D, .lst us) :: os) → A2 (rep K F') us ys → Post (k ys) P X → Qd H') : LcAsk J g tYes te vs σ H1 D Qd := by
  have e : ∀ (l : List β), (mapSt (fun (_ : Unit) b => f b >>= fun d => R.ok (d, ())) () l >>= fun q => R.ok q.1) = mapR f l := by
    intro l
    induction l with
    | nil => rfl
    | cons b l ih =>
      show (((f b >>= fun d => R.ok (d, ())) >>= fun p => mapSt (fun (_ : Unit) b => f b >>= fun d => R.ok (d, ())) p.2 l >>= fun q => (R.ok (p.1 :: q.1, q.2) : R (List δ × Unit))) >>= fun q => R.ok q.1) = (f b >>= fun y => mapR f l >>= fun ys => R.ok (y :: ys))
      rw [bind_bind, bind_bind]
      refine congrArg (f b >>= ·) ?_
      funext d
      show ((mapSt (fun (_ : Unit) b => f b >>= fun d => R.ok (d, ())) () l >>= fun q => (R.ok (d :: q.1, q.2) : R (List δ × Unit))) >>= fun q => R.ok q.1) = _
      rw [bind_bind, ← ih, bind_bind]
      rfl
  have hm' : Post (mapStG (fun (_ : Unit) b => f b >>= fun d => R.ok (d, ())) () items >>= fun q => k q.1) P X := by
    have e2 : (mapStG (fun (_ : Unit) b => f b >>= fun d => R.ok (d, ())) () items >>= fun q => R.ok q.1) = mapG f items := by
      unfold mapStG mapG
      rw [bind_bind]
      simp only [e]
    have h2 : Post ((mapStG (fun (_ : Unit) b => f b >>= fun d => R.ok (d, ())) () items >>= fun q => R.ok q.1) >>= k) P X := by
      rw [e2]
      exact hm
    rw [bind_bind] at h2
    exact h2
  refine lcMap tw hm' (fun _ _ os' => os = os') w rfl nD (fun c F' H' os' acc s w' o => by subst o; exact hG F' H' acc s w') (fun b c x F' H' H'' os' acc N P' s w' o y hN hp => ?_) (fun c us F' H' os' ys s w' o h hm => by subst o; exact hd us F' H' ys s w' h hm)
  subst o
  exact hs b x F' H' H'' acc N _ s w' y (fun d p2 y F'' H'' w2 s2 r2 => hN d () p2 y F'' H'' _ w2 s2 rfl r2) (post_bind hp)
/-- .. with a test -/
theorem lcF [Rep δ] (tw : TW J items G Y) {f : β → R (Option δ)} {k : List δ → R ε} (hm : Post (filG f items >>= k) P X) (w : W F H1 os) (nD : H1 D = none)
    (hG : ∀ F' H' acc, Same F F' → W F' H' ((D, .lst acc) :: os) → G H')
    (hs : ∀ (b : β) (x : V) (F' H' H'' : Hp) (acc : List V) (N : V → Hp → Prop) (N0 : Hp → Prop) (P' : Option δ → Prop), Same F F' → W F' H' ((D, .lst acc) :: os) → Y b H' x H'' →
      (∀ d, P' (some d) → ∀ y F'' H'', W F'' H'' ((D, .lst acc) :: os) → Same F' F'' → rep K F'' y d → N y H'') →
      (P' none → ∀ F'' H'', W F'' H'' ((D, .lst acc) :: os) → Same F' F'' → N0 H'') → Post (f b) P' X →
      g x (wipe σ vs) H'' fun σ2 H2 => wipe σ2 vs = wipe σ vs ∧ tt σ2 H2 fun b H3 => if b = true then te σ2 H3 N else N0 H3)
    (hd : ∀ us F' H' ys, Same F F' → W F' H' ((D, .lst us) :: os) → A2 (rep K F') us ys → Post (k ys) P X → Qd H') : LcAsk J g tt te vs σ H1 D Qd := by
  have e : ∀ (l : List β), (filSt (fun (_ : Unit) b => f b >>= fun d => R.ok (d, ())) () l >>= fun q => R.ok q.1) = filR f l := by
    intro l
    induction l with
    | nil => rfl
    | cons b l ih =>
      show (((f b >>= fun d => R.ok (d, ())) >>= fun p => filSt (fun (_ : Unit) b => f b >>= fun d => R.ok (d, ())) p.2 l >>= fun q => match p.1 with
        | some y => (R.ok (y :: q.1, q.2) : R (List δ × Unit))
        | none => R.ok q) >>= fun q => R.ok q.1) = (f b >>= fun o => filR f l >>= fun ys => match o with
        | some y => .ok (y :: ys)
        | none => .ok ys)
      rw [bind_bind, bind_bind]
      refine congrArg (f b >>= ·) ?_
      funext d
      show ((filSt (fun (_ : Unit) b => f b >>= fun d => R.ok (d, ())) () l >>= fun q => match d with
        | some y => (R.ok (y :: q.1, q.2) : R (List δ × Unit))
        | none => R.ok q) >>= fun q => R.ok q.1) = _
      rw [bind_bind, ← ih, bind_bind]
      cases d <;> rfl
  have hm' : Post (filStG (fun (_ : Unit) b => f b >>= fun d => R.ok (d, ())) () items >>= fun q => k q.1) P X := by
    have e2 : (filStG (fun (_ : Unit) b => f b >>= fun d => R.ok (d, ())) () items >>= fun q => R.ok q.1) = filG f items := by
      unfold filStG filG
      rw [bind_bind]
      simp only [e]
    have h2 : Post ((filStG (fun (_ : Unit) b => f b >>= fun d => R.ok (d, ())) () items >>= fun q => R.ok q.1) >>= k) P X := by
      rw [e2]
      exact hm
    rw [bind_bind] at h2
    exact h2
  refine lcFil tw hm' (fun _ _ os' => os = os') w rfl nD (fun c F' H' os' acc s w' o => by subst o; exact hG F' H' acc s w') (fun b c x F' H' H'' os' acc N N0 P' s w' o y hN hN0 hp => ?_) (fun c us F' H' os' ys s w' o h hm => by subst o; exact hd us F' H' ys s w' h hm)
  subst o
  exact hs b x F' H' H'' acc N N0 _ s w' y (fun d p2 y F'' H'' w2 s2 r2 => hN d () p2 y F'' H'' _ w2 s2 rfl r2) (fun p2 F'' H'' w2 s2 => hN0 () p2 F'' H'' _ w2 s2 rfl) (post_bind hp)
end
end Z
namespace Z
open PySem L2
open Rep (rep)
/-! ### short words for a walk -/
section
variable {F F1 F2 H H1 : Hp} {os os' pre post : List (Addr × HO)} {a p : Addr} {o o' : HO} {K : Fg}
theorem W.frzE (w : W F H os) (n : H p = none) : ∃ F', Same F F' ∧ W F' (upd H p o) os ∧ F' p = some o := ⟨_, w.frzS n, w.frz n, upd_same⟩
theorem W.freezeE (w : W F H (pre ++ (a, o) :: post)) : ∃ F', Same F F' ∧ W F' H (pre ++ post) ∧ F' a = some o := ⟨_, w.freezeS, w.freeze, upd_same⟩
/-- a cell that was lent to a call as frozen comes back -/
theorem W.unfreeze (w : W F1 H os) (s : Same F F1) (n : F a = none) (k : F1 a = some o) (ho : ∀ vs, o ≠ .tup vs := by exact fun _ h => nomatch h) : ∃ F', Same F F' ∧ W F' H ((a, o) :: os) := by
  refine ⟨fun b => if b = a then none else F1 b, fun b u e => ?_, fun b u e => ?_, fun q hq => ?_, ?_, fun q hq => ?_⟩
  · have hb : b ≠ a := ne_of_none e n
    show (if b = a then none else F1 b) = some u
    rw [if_neg hb]
    exact s b u e
  · by_cases hb : b = a
    · have e' : (if b = a then none else F1 b) = some u := e
      rw [if_pos hb] at e'
      cases e'
    · have e' : (if b = a then none else F1 b) = some u := e
      rw [if_neg hb] at e'
      exact w.same b u e'
  · rcases List.mem_cons.mp hq with rfl | hq
    · exact ⟨w.same _ _ k, if_pos rfl⟩
    · have h := w.own q hq
      have hb : q.1 ≠ a := fun e => by
        rw [e, k] at h
        cases h.2
      exact ⟨h.1, by show (if q.1 = a then none else F1 q.1) = none; rw [if_neg hb]; exact h.2⟩
  · refine List.pairwise_cons.mpr ⟨fun q hq e => ?_, w.nd⟩
    have h := (w.own q hq).2
    have e' : a = q.1 := e
    rw [← e', k] at h
    cases h
  · rcases List.mem_cons.mp hq with rfl | hq
    · exact ho
    · exact w.nt q hq
theorem rep_own {α : Type} [Rep α] {vs : List V} {xs : List α} (w : W F H (pre ++ (a, .lst vs) :: post)) (h : A2 (rep K F) vs xs) : rep K H (.ref a) xs := ⟨a, vs, rfl, w.get, h.mono w.same⟩
theorem rep_lst {α : Type} [Rep α] {vs : List V} {xs : List α} (q : F a = some (.lst vs)) (h : A2 (rep K F) vs xs) : rep K F (.ref a) xs := ⟨a, vs, rfl, q, h⟩
theorem rep_tup {α : Type} [Rep α] {vs : List V} {xs : List α} (q : F a = some (.tup vs)) (h : A2 (rep K F) vs xs) : rep K F (.ref a) (Tup.mk xs) := ⟨a, vs, rfl, q, h⟩
theorem rep_pair {α β : Type} [Rep α] [Rep β] {u v : V} {x : α} {y : β} (q : F a = some (.tup [u, v])) (h1 : rep K F u x) (h2 : rep K F v y) : rep K F (.ref a) (x, y) := ⟨a, u, v, rfl, q, h1, h2⟩
theorem ints_q {vs : List V} {xs : List Int} (q : SqL K H a vs) (h : A2 (rep K F) vs xs) : SqL K H a (xs.map V.int) := h.ints ▸ q
theorem Room.units65 {k : Nat} {A : Around} (r : Room k A) : A.units + 65 < cLine := by
  have := r.un
  omega
theorem sl_cut {α : Type} {r : V → α → Prop} {vs : List V} {xs : List α} (h : A2 r vs xs) (lo hi : Option Int) : A2 r (cutV vs lo hi) (((xs.drop (HT.sIx xs.length 0 lo)).take (HT.sIx xs.length xs.length hi - HT.sIx xs.length 0 lo))) := by
  unfold cutV
  rw [h.length]
  exact (h.drop _).take _
/-- xs[lo:hi] -/
def cutL {α : Type} (xs : List α) (lo hi : Option Int) : List α := (xs.drop (HT.sIx xs.length 0 lo)).take (HT.sIx xs.length xs.length hi - HT.sIx xs.length 0 lo)
end
end Z
namespace Z
open PySem L2
open Rep (rep)
/-- a while by its fuel -/
def whileR {γ : Type} (c : γ → R Bool) (b : γ → R γ) : Nat → γ → R γ
  | 0, _ => .bad
  | n + 1, s => c s >>= fun t => if t = true then b s >>= fun s' => whileR c b n s' else .ok s
section
variable {γ δ : Type} {P : δ → Prop} {X : Exn → Prop} {tc : TT} {tb : TS} {D : Ends} {σ : St} {H : Hp}
theorem whileS {c : γ → R Bool} {b : γ → R γ} {n : Nat} {s0 : γ} {k : γ → R δ} (hm : Post (whileR c b n s0 >>= k) P X) (I : γ → St → Hp → Prop) (h0 : I s0 σ H)
    (hc : ∀ (g : γ) (σ : St) (H : Hp) (Q' : Bool → Hp → Prop) (P' : Bool → Prop), I g σ H → (∀ t, P' t → ∀ H', I g σ H' → Q' t H') → Post (c g) P' X → tc σ H Q')
    (hs : ∀ (g : γ) (σ : St) (H : Hp) (N : St → Hp → Prop) (P' : γ → Prop), I g σ H → (∀ g', P' g' → ∀ σ' H', I g' σ' H' → N σ' H') → Post (b g) P' X → tb { D with nx := N, ct := N, bk := D.nx } σ H)
    (hd : ∀ g σ H, I g σ H → Post (k g) P X → D.nx σ H) : tWhile tc tb D σ H := by
  refine ⟨fun m σ H => ∃ g, I g σ H ∧ Post (whileR c b m g >>= k) P X, ⟨n, s0, h0, hm⟩, ?_⟩
  rintro m σ H ⟨g, h, hm⟩
  cases m with
  | zero => exact (show False from hm).elim
  | succ m =>
    have hm' : Post ((c g >>= fun t => if t = true then b g >>= fun s' => whileR c b m s' else .ok g) >>= k) P X := hm
    rw [bind_bind] at hm'
    refine hc g σ H _ _ h (fun t p H' h' => ?_) (post_bind hm')
    cases t with
    | false => exact iteF (hd g σ H' h' p)
    | true =>
      refine iteT ?_
      have p' : Post ((b g >>= fun s' => whileR c b m s') >>= k) P X := p
      rw [bind_bind] at p'
      exact ⟨fun σ' H' => ∃ g', I g' σ' H' ∧ Post (whileR c b m g' >>= k) P X, fun σ' H' ⟨g', h1, h2⟩ => ⟨m, Nat.lt_succ_self m, g', h1, h2⟩, hs g σ H' _ _ h' (fun g' p2 σ' H' h2 => ⟨g', h2, p2⟩) (post_bind p')⟩
end
section
variable {α β : Type} {Q : β → Prop} {E : Exn → Prop}
theorem pn_set {xs : List α} {i : Int} {x : α} {f : List α → R β} (h : Post (setI xs i x >>= f) Q E) : ∃ j ys, ixN xs.length i = some j ∧ ys = xs.set j x ∧ Post (f ys) Q E :=
  let ⟨j, a, b⟩ := pb_set h
  ⟨j, _, a, rfl, b⟩
theorem pn_app {xs : List α} {x : α} {f : List α → R β} (h : Post (app xs x >>= f) Q E) : ∃ ys, xs.length < sizeLine ∧ ys = xs ++ [x] ∧ Post (f ys) Q E :=
  let ⟨a, b⟩ := pb_app h
  ⟨_, a, rfl, b⟩
theorem pn_extend {xs ys : List α} {f : List α → R β} (h : Post (extend xs ys >>= f) Q E) : ∃ zs, xs.length + ys.length ≤ sizeLine ∧ zs = xs ++ ys ∧ Post (f zs) Q E :=
  let ⟨a, b⟩ := pb_extend h
  ⟨_, a, rfl, b⟩
theorem A2.lt {r : V → α → Prop} {vs : List V} {xs : List α} {n : Nat} (h : A2 r vs xs) (z : xs.length < n) : vs.length < n := by rw [h.length]; exact z
theorem A2.ix {r : V → α → Prop} {vs : List V} {xs : List α} {i : Int} {j : Nat} (h : A2 r vs xs) (z : ixN xs.length i = some j) : ixN vs.length i = some j := by rw [h.length]; exact z
theorem A2.le2 {γ : Type} {r : V → α → Prop} {r' : V → γ → Prop} {vs us : List V} {xs : List α} {ys : List γ} {n : Nat} (h : A2 r vs xs) (h' : A2 r' us ys) (z : xs.length + ys.length ≤ n) : vs.length + us.length ≤ n := by rw [h.length, h'.length]; exact z
/-- the last item, and the rest -/
def popI (xs : List α) : R (α × List α) := match xs.getLast? with
  | some x => .ok (x, xs.dropLast)
  | none => .bad
def popAt (xs : List α) (i : Int) : R (α × List α) := match ixN xs.length i with
  | some j => match xs[j]? with
    | some x => .ok (x, xs.eraseIdx j)
    | none => .bad
  | none => .bad
theorem pn_popAt {xs : List α} {i : Int} {f : α × List α → R β} (h : Post (popAt xs i >>= f) Q E) : ∃ j x ys, ixN xs.length i = some j ∧ xs[j]? = some x ∧ ys = xs.eraseIdx j ∧ Post (f (x, ys)) Q E := by
  unfold popAt at h
  cases e : ixN xs.length i with
  | none => rw [e] at h; exact (show False from h).elim
  | some j =>
    rw [e] at h
    cases e2 : xs[j]? with
    | none =>
      have h' : Post ((match xs[j]? with
        | some x => (R.ok (x, xs.eraseIdx j) : R (α × List α))
        | none => .bad) >>= f) Q E := h
      rw [e2] at h'
      exact (show False from h').elim
    | some x =>
      have h' : Post ((match xs[j]? with
        | some x => (R.ok (x, xs.eraseIdx j) : R (α × List α))
        | none => .bad) >>= f) Q E := h
      rw [e2] at h'
      exact ⟨j, x, _, rfl, e2, rfl, h'⟩
end
section
variable {K : Fg} {F : Hp}
theorem rep_i {i : Int} : rep K F (.int i) i := rfl
theorem rep_b {i : Bool} : rep K F (.bl i) i := rfl
theorem rep_s {i : Str} : rep K F (.str i) i := rfl
theorem rep_n : rep K F .non () := rfl
end
end Z
namespace Z
open PySem L2
section
variable {X : Cx} {D : Ends} {σ : L2.St} {H : Hp}
def tC1 (v : V) : TE := fun _ H Q => True ∧ Q v H
theorem pe_int1 {i j pos} : PE X (.Constant (.int i) j pos) (tC1 (.int i)) := ⟨fun pins s σ H Q I h => pe_int.run pins s σ H Q I h.2⟩
theorem pe_bl1 {i j pos} : PE X (.Constant (.bool i) j pos) (tC1 (.bl i)) := ⟨fun pins s σ H Q I h => pe_bl.run pins s σ H Q I h.2⟩
theorem pe_str1 {i j pos} : PE X (.Constant (.str i) j pos) (tC1 (.str i)) := ⟨fun pins s σ H Q I h => pe_str.run pins s σ H Q I h.2⟩
theorem pe_non1 {j pos} : PE X (.Constant .none j pos) (tC1 .non) := ⟨fun pins s σ H Q I h => pe_non.run pins s σ H Q I h.2⟩
theorem stepN {i : Nat} {v : V} {Q : L2.St → Hp → Prop} (h : Q (σ.set i (some v)) H) : gName i v σ H Q := h
theorem stepX (h : D.nx σ H) : tNext D σ H := h
theorem stepSeq {t u : TS} (h : t { D with nx := u D } σ H) : tSeq t u D σ H := h
theorem stepIf {c : TT} {a b : TS} (h : c σ H fun t H1 => if t = true then a D σ H1 else b D σ H1) : tIfS c a b D σ H := h
theorem stepRet {te : TE} (h : te σ H D.rt) : tRet te D σ H := h
theorem stepAsg {te : TE} {g : TG} (h : te σ H fun x H1 => g x σ H1 D.nx) : tAsg te g D σ H := h
theorem stepDrop {te : TE} (h : te σ H fun _ H1 => D.nx σ H1) : tDrop te D σ H := h
end
end Z
namespace Z
open PySem L2
open Rep (rep)
section
variable {α : Type} [Rep α] {K : Fg} {F : Hp} {v : V} {x : α}
theorem rep_none : rep K F .non (none : Option α) := rfl
theorem rep_some (h : rep K F v x) : rep K F v (some x) := h
theorem rep_pl {i : Int} : rep K F (.int i) (Thing.pl i) := rfl
theorem rep_ti {a b : Int} (h : rep K F v (a, b)) : rep K F v (Thing.ti a b) := h
end
end Z
/-! Z2: rules by typed data -/
namespace Z
open PySem L2 PySem.Spec PyProof.Rows
open Rep (rep)

/-! ### data that is compared -/
class Dat (α : Type) extends Rep α where
  toD : α → PyData
  dmax : Nat
  dp : ∀ {K : Fg} {H : Hp} {v : V} {x : α}, rep K H v x → Dp K H v (toD x)
  lay : ∀ x : α, (toD x).canLay0 = true
  dep : ∀ x : α, (toD x).depth ≤ dmax
  eqv : ∀ x y : α, PyData.eqv (toD x) (toD y) = true ↔ x = y
section
variable {α β : Type} {K : Fg} {H : Hp}
instance : Dat Int where
  toD := .int
  dmax := 0
  dp := fun h => by
    have h' : _ = V.int _ := h
    subst h'
    exact .int _
  lay := fun x => by simp only [PyData.canLay0]
  dep := fun x => by simp only [PyData.depth, Nat.le_refl]
  eqv := fun x y => by simp [PyData.eqv]
instance : Dat Bool where
  toD := .bool
  dmax := 0
  dp := fun h => by
    have h' : _ = V.bl _ := h
    subst h'
    exact .bl _
  lay := fun x => by simp only [PyData.canLay0]
  dep := fun x => by simp only [PyData.depth, Nat.le_refl]
  eqv := fun x y => by simp [PyData.eqv]
instance datOptInt : Dat (Option Int) where
  toD := fun x => match x with
    | none => .none
    | some i => .int i
  dmax := 0
  dp := fun {K H v x} h => by
    cases x with
    | none =>
      have h' : v = V.non := h
      subst h'
      exact .non
    | some i =>
      have h' : v = V.int i := h
      subst h'
      exact .int _
  lay := fun x => by cases x <;> simp only [PyData.canLay0]
  dep := fun x => by cases x <;> simp only [PyData.depth, Nat.le_refl]
  eqv := fun x y => by cases x <;> cases y <;> simp [PyData.eqv]
instance datPair [Dat α] [Dat β] : Dat (α × β) where
  toD := fun x => .tuple [Dat.toD x.1, Dat.toD x.2]
  dmax := max (Dat.dmax α) (Dat.dmax β) + 1
  dp := fun {K H v x} h => by
    obtain ⟨a, u, w, rfl, q, h1, h2⟩ := h
    exact .tup (SqT.of q) (.cons (Dat.dp h1) (.cons (Dat.dp h2) .nil))
  lay := fun x => by simp only [PyData.canLay0, PyData.canLayAll0, Dat.lay, Bool.and_true]
  dep := fun x => by
    have h1 := Dat.dep x.1
    have h2 := Dat.dep x.2
    simp only [PyData.depth, PyData.depthAll]
    omega
  eqv := fun x y => by
    obtain ⟨x1, x2⟩ := x
    obtain ⟨y1, y2⟩ := y
    simp only [PyData.eqv, PyData.eqvAll, Bool.and_true, Bool.and_eq_true, Dat.eqv, Prod.mk.injEq]
theorem dp_all [Dat α] : ∀ {vs : List V} {xs : List α}, A2 (rep K H) vs xs → DpAll K H vs (xs.map Dat.toD)
  | _, _, .nil => .nil
  | _, _, .cons h t => .cons (Dat.dp h) (dp_all t)
theorem lay_all [Dat α] : ∀ xs : List α, PyData.canLayAll0 (xs.map Dat.toD) = true
  | [] => by simp only [List.map_nil, PyData.canLayAll0]
  | x :: xs => by simp only [List.map_cons, PyData.canLayAll0, Dat.lay, lay_all xs, Bool.and_true]
theorem dep_all [Dat α] : ∀ xs : List α, PyData.depthAll (xs.map Dat.toD) ≤ Dat.dmax α
  | [] => by simp only [List.map_nil, PyData.depthAll, Nat.zero_le]
  | x :: xs => by
    have h1 := dep_all xs
    have h2 := Dat.dep x
    simp only [List.map_cons, PyData.depthAll]
    omega
theorem eqv_all [Dat α] : ∀ xs ys : List α, PyData.eqvAll (xs.map Dat.toD) (ys.map Dat.toD) = true ↔ xs = ys
  | [], [] => by simp [PyData.eqvAll]
  | x :: xs, [] => by simp [PyData.eqvAll]
  | [], y :: ys => by simp [PyData.eqvAll]
  | x :: xs, y :: ys => by simp only [List.map_cons, PyData.eqvAll, Bool.and_eq_true, Dat.eqv, eqv_all xs ys, List.cons.injEq]
instance datList [Dat α] : Dat (List α) where
  toD := fun xs => .list (xs.map Dat.toD)
  dmax := Dat.dmax α + 1
  dp := fun {K H v x} h => by
    obtain ⟨a, vs, rfl, q, h⟩ := h
    exact .lst (SqL.of q) (dp_all h)
  lay := fun x => by
    simp only [PyData.canLay0]
    exact lay_all x
  dep := fun x => by
    have h := dep_all x
    simp only [PyData.depth]
    omega
  eqv := fun x y => by
    simp only [PyData.eqv]
    exact eqv_all x y
instance datTup [Dat α] : Dat (Tup α) where
  toD := fun xs => .tuple (xs.l.map Dat.toD)
  dmax := Dat.dmax α + 1
  dp := fun {K H v x} h => by
    obtain ⟨a, vs, rfl, q, h⟩ := h
    exact .tup (SqT.of q) (dp_all h)
  lay := fun x => by
    simp only [PyData.canLay0]
    exact lay_all x.l
  dep := fun x => by
    have h := dep_all x.l
    simp only [PyData.depth]
    omega
  eqv := fun x y => by
    obtain ⟨x⟩ := x
    obtain ⟨y⟩ := y
    simp only [PyData.eqv, Tup.mk.injEq]
    exact eqv_all x y
instance datThing : Dat Thing where
  toD := fun x => match x with
    | .pl i => .int i
    | .ti a b => .tuple [.int a, .int b]
  dmax := 1
  dp := fun {K H v x} h => by
    cases x with
    | pl i =>
      have h' : v = V.int i := h
      subst h'
      exact .int _
    | ti a b =>
      obtain ⟨p, u, w, rfl, q, h1, h2⟩ := (show rep K H v (a, b) from h)
      have h1' : u = V.int a := h1
      have h2' : w = V.int b := h2
      subst h1' h2'
      exact .tup (SqT.of q) (.cons (.int _) (.cons (.int _) .nil))
  lay := fun x => by cases x <;> simp [PyData.canLay0, PyData.canLayAll0]
  dep := fun x => by cases x <;> simp [PyData.depth, PyData.depthAll]
  eqv := fun x y => by cases x <;> cases y <;> simp [PyData.eqv, PyData.eqvAll]
instance datScr : Dat Scr where
  toD := fun xs => .list (xs.l.map PyData.int)
  dmax := 1
  dp := fun {K H v x} h => by
    obtain ⟨a, rfl, q⟩ := h
    have e : ∀ l : List Int, DpAll K H (l.map V.int) (l.map PyData.int) := fun l => by
      induction l with
      | nil => exact .nil
      | cons x l ih => exact .cons (.int _) ih
    exact .lst q (e x.l)
  lay := fun x => by
    simp only [PyData.canLay0]
    exact lay_all (α := Int) x.l
  dep := fun x => by
    have h := dep_all (α := Int) x.l
    have h' : PyData.depthAll (x.l.map PyData.int) ≤ 0 := h
    simp only [PyData.depth]
    omega
  eqv := fun x y => by
    obtain ⟨x⟩ := x
    obtain ⟨y⟩ := y
    simp only [PyData.eqv, Scr.mk.injEq]
    exact eqv_all (α := Int) x y
theorem shapedD [Dat α] (hd : Dat.dmax α ≤ 60) (x : α) : SeqAt.shaped (Dat.toD x) = true := by
  have h := Dat.dep x
  show ((Dat.toD x).canLay0 && decide ((Dat.toD x).depth ≤ 64)) = true
  rw [Bool.and_eq_true]
  exact ⟨Dat.lay x, decide_eq_true (by omega)⟩
theorem eqvD [Dat α] [DecidableEq α] (x y : α) : PyData.eqv (Dat.toD x) (Dat.toD y) = decide (x = y) := by
  by_cases h : x = y
  · rw [decide_eq_true h]
    exact (Dat.eqv x y).mpr h
  · rw [decide_eq_false h]
    exact Bool.eq_false_iff.mpr fun e => h ((Dat.eqv x y).mp e)
theorem anyD [Dat α] [DecidableEq α] (x : α) : ∀ ys : List α, ((ys.map Dat.toD).any fun z => PyData.eqv z (Dat.toD x)) = decide (x ∈ ys)
  | [] => by simp
  | y :: ys => by
    rw [List.map_cons, List.any_cons, anyD x ys, eqvD]
    by_cases h : y = x
    · subst h; simp
    · have h' : ¬ x = y := fun e => h e.symm
      simp [h, h']
end

section
variable {X : Cx} {α β : Type} {K : Fg}
/-- ==, != of data -/
theorem op_eqDt (hK : X.K = K) (α : Type) [Dat α] [DecidableEq α] (hd : Dat.dmax α ≤ 60) (hu : X.A.units + 64 < cLine) : OpR X (compareOp .Eq) (fun x y H Q => ∃ a b : α, rep K H x a ∧ rep K H y b ∧ Q (.bl (decide (a = b))) H) := by
  subst hK
  intro pins s σ H x y v u Q I rx ry ⟨a, b, h1, h2, q⟩
  exact op_eqD hu pins s σ H x y v u Q I rx ry ⟨Dat.toD a, Dat.toD b, Dat.dp h1, Dat.dp h2, shapedD hd a, shapedD hd b, by rw [eqvD]; exact q⟩
theorem op_neDt (hK : X.K = K) (α : Type) [Dat α] [DecidableEq α] (hd : Dat.dmax α ≤ 60) (hu : X.A.units + 64 < cLine) : OpR X (compareOp .NotEq) (fun x y H Q => ∃ a b : α, rep K H x a ∧ rep K H y b ∧ Q (.bl (!decide (a = b))) H) := by
  subst hK
  intro pins s σ H x y v u Q I rx ry ⟨a, b, h1, h2, q⟩
  exact op_neD hu pins s σ H x y v u Q I rx ry ⟨Dat.toD a, Dat.toD b, Dat.dp h1, Dat.dp h2, shapedD hd a, shapedD hd b, by rw [eqvD]; exact q⟩
/-- in, not in a list, a tuple of data -/
theorem op_inL (hK : X.K = K) (α : Type) [Dat α] [DecidableEq α] (hd : Dat.dmax α ≤ 50) (hu : X.A.units + 65 < cLine) : OpR X (compareOp .In) (fun x y H Q => ∃ (a : α) (b : List α), rep K H x a ∧ rep K H y b ∧ Q (.bl (decide (a ∈ b))) H) := by
  subst hK
  intro pins s σ H x y v u Q I rx ry ⟨a, b, h1, h2, q⟩
  exact op_inD hu pins s σ H x y v u Q I rx ry ⟨Dat.toD a, b.map Dat.toD, Dat.dp h1, Dat.dp h2, shapedD (by omega) a, shapedD (α := List α) (by show Dat.dmax α + 1 ≤ 60; omega) b, by rw [anyD]; exact q⟩
theorem op_notInL (hK : X.K = K) (α : Type) [Dat α] [DecidableEq α] (hd : Dat.dmax α ≤ 50) (hu : X.A.units + 65 < cLine) : OpR X (compareOp .NotIn) (fun x y H Q => ∃ (a : α) (b : List α), rep K H x a ∧ rep K H y b ∧ Q (.bl (!decide (a ∈ b))) H) := by
  subst hK
  intro pins s σ H x y v u Q I rx ry ⟨a, b, h1, h2, q⟩
  exact op_notInD hu pins s σ H x y v u Q I rx ry ⟨Dat.toD a, b.map Dat.toD, Dat.dp h1, Dat.dp h2, shapedD (by omega) a, shapedD (α := List α) (by show Dat.dmax α + 1 ≤ 60; omega) b, by rw [anyD]; exact q⟩
theorem op_inT (hK : X.K = K) (α : Type) [Dat α] [DecidableEq α] (hd : Dat.dmax α ≤ 50) (hu : X.A.units + 65 < cLine) : OpR X (compareOp .In) (fun x y H Q => ∃ (a : α) (b : Tup α), rep K H x a ∧ rep K H y b ∧ Q (.bl (decide (a ∈ b.l))) H) := by
  subst hK
  intro pins s σ H x y v u Q I rx ry ⟨a, b, h1, h2, q⟩
  have sd := shapedD (by omega : Dat.dmax α ≤ 60) a
  have se : SeqAt.shaped (.tuple (b.l.map Dat.toD)) = true := shapedD (α := Tup α) (by show Dat.dmax α + 1 ≤ 60; omega) b
  obtain ⟨as, r1⟩ := Dp.reads I (Dat.toD a) x v (Dat.dp h1) rx
  obtain ⟨bs, r2⟩ := Dp.reads I (.tuple (b.l.map Dat.toD)) y u (Dat.dp h2) ry
  refine SeqAt.in_tuple_reads r2 r1 (SeqAt.canLay_of_shaped se) (SeqAt.canLay_of_shaped sd) (room_in_shaped sd hu) ?_
  rw [anyD]
  exact ⟨.bl _, H, I, rfl, q⟩
theorem op_notInT (hK : X.K = K) (α : Type) [Dat α] [DecidableEq α] (hd : Dat.dmax α ≤ 50) (hu : X.A.units + 65 < cLine) : OpR X (compareOp .NotIn) (fun x y H Q => ∃ (a : α) (b : Tup α), rep K H x a ∧ rep K H y b ∧ Q (.bl (!decide (a ∈ b.l))) H) := by
  subst hK
  intro pins s σ H x y v u Q I rx ry ⟨a, b, h1, h2, q⟩
  have sd := shapedD (by omega : Dat.dmax α ≤ 60) a
  have se : SeqAt.shaped (.tuple (b.l.map Dat.toD)) = true := shapedD (α := Tup α) (by show Dat.dmax α + 1 ≤ 60; omega) b
  obtain ⟨as, r1⟩ := Dp.reads I (Dat.toD a) x v (Dat.dp h1) rx
  obtain ⟨bs, r2⟩ := Dp.reads I (.tuple (b.l.map Dat.toD)) y u (Dat.dp h2) ry
  refine SeqAt.notIn_tuple_reads r2 r1 (SeqAt.canLay_of_shaped se) (SeqAt.canLay_of_shaped sd) (room_in_shaped sd hu) ?_
  rw [anyD]
  exact ⟨.bl _, H, I, rfl, q⟩
/-- == of texts -/
theorem decS (x y : Str) : decide (V.str x = V.str y) = decide (x = y) := by
  by_cases h : x = y
  · subst h; simp
  · rw [decide_eq_false h, decide_eq_false (fun e => h (V.str.inj e))]
theorem op_eqS : OpR X (compareOp .Eq) (fun x y H Q => ∃ a b : Str, x = .str a ∧ y = .str b ∧ Q (.bl (decide (a = b))) H) := by
  intro pins s σ H x y v u Q I rx ry ⟨a, b, h1, h2, q⟩
  subst h1 h2
  exact op_eq pins s σ H _ _ v u Q I rx ry ⟨rfl, by rw [decS]; exact q⟩
theorem op_neS : OpR X (compareOp .NotEq) (fun x y H Q => ∃ a b : Str, x = .str a ∧ y = .str b ∧ Q (.bl (!decide (a = b))) H) := by
  intro pins s σ H x y v u Q I rx ry ⟨a, b, h1, h2, q⟩
  subst h1 h2
  exact op_ne pins s σ H _ _ v u Q I rx ry ⟨rfl, by rw [decS]; exact q⟩
/-- == of truths -/
theorem decB (x y : Bool) : decide (V.bl x = V.bl y) = decide (x = y) := by
  cases x <;> cases y <;> rfl
theorem op_eqB : OpR X (compareOp .Eq) (fun x y H Q => ∃ a b : Bool, x = .bl a ∧ y = .bl b ∧ Q (.bl (decide (a = b))) H) := by
  intro pins s σ H x y v u Q I rx ry ⟨a, b, h1, h2, q⟩
  subst h1 h2
  exact op_eq pins s σ H _ _ v u Q I rx ry ⟨rfl, by rw [decB]; exact q⟩
theorem op_neB : OpR X (compareOp .NotEq) (fun x y H Q => ∃ a b : Bool, x = .bl a ∧ y = .bl b ∧ Q (.bl (!decide (a = b))) H) := by
  intro pins s σ H x y v u Q I rx ry ⟨a, b, h1, h2, q⟩
  subst h1 h2
  exact op_ne pins s σ H _ _ v u Q I rx ry ⟨rfl, by rw [decB]; exact q⟩

/-! ### built-ins -/
theorem call_lenN (hK : X.K = K) : CallR X (.builtin "len") (fun xs H Q => ∃ (p : Addr) (ys : List V) (n : Nat), xs = [.ref p] ∧ (SqL K H p ys ∨ SqT K H p ys) ∧ ys.length = n ∧ Q (.int (n : Int)) H) := by
  subst hK
  intro pins s σ H xs us Q I r ⟨p, ys, n, e, h, hn, q⟩
  subst hn
  exact call_len_seq pins s σ H xs us Q I r ⟨p, ys, e, h, q⟩
def absI (i : Int) : Int := if i < 0 then -i else i
def max2 (i j : Int) : Int := if j > i then j else i
def min2 (i j : Int) : Int := if j < i then j else i
/-- the greatest, the least of a list -/
def maxL (xs : List Int) : R Int := ofO xs.max?
def minL (xs : List Int) : R Int := ofO xs.min?
theorem pb_max {δ : Type} {xs : List Int} {f : Int → R δ} {P : δ → Prop} {E : Exn → Prop} (h : Post (maxL xs >>= f) P E) : ∃ m, xs.max? = some m ∧ Post (f m) P E := pb_ofO h
theorem pb_min {δ : Type} {xs : List Int} {f : Int → R δ} {P : δ → Prop} {E : Exn → Prop} (h : Post (minL xs >>= f) P E) : ∃ m, xs.min? = some m ∧ Post (f m) P E := pb_ofO h
theorem cr_maxI (hK : X.K = K) (hc : X.calm = true) : CallR X (.builtin "max") (fun vs H Q => ∃ (a : Addr) (ns : List Int) (m : Int), vs = [V.ref a] ∧ SqL K H a (ns.map V.int) ∧ ns.max? = some m ∧ Q (.int m) H) := by
  subst hK
  intro pins s σ H xs us Q I r ⟨a, ns, m, e, h, hm, q⟩
  obtain ⟨h1, h2⟩ := List.max?_eq_some_iff.mp hm
  refine cr_max hc pins s σ H xs us Q I r ⟨a, ns, e, h, ?_, fun k h3 h4 => ?_⟩
  · exact List.length_pos_of_mem h1
  · have e1 : k = m := Int.le_antisymm (h2 k h3) (h4 m h1)
    subst e1
    exact q
theorem cr_minI (hK : X.K = K) (hc : X.calm = true) : CallR X (.builtin "min") (fun vs H Q => ∃ (a : Addr) (ns : List Int) (m : Int), vs = [V.ref a] ∧ SqL K H a (ns.map V.int) ∧ ns.min? = some m ∧ Q (.int m) H) := by
  subst hK
  intro pins s σ H xs us Q I r ⟨a, ns, m, e, h, hm, q⟩
  obtain ⟨h1, h2⟩ := List.min?_eq_some_iff.mp hm
  refine cr_min hc pins s σ H xs us Q I r ⟨a, ns, e, h, ?_, fun k h3 h4 => ?_⟩
  · exact List.length_pos_of_mem h1
  · have e1 : k = m := Int.le_antisymm (h4 m h1) (h2 k h3)
    subst e1
    exact q
/-- the ints in order -/
def sortI (xs : List Int) : List Int := xs.mergeSort fun a b => decide (a ≤ b)
theorem sortI_perm (xs : List Int) : (sortI xs).Perm xs := List.mergeSort_perm xs _
theorem sortI_sorted (xs : List Int) : (sortI xs).Pairwise (· ≤ ·) := by
  have h := List.pairwise_mergeSort (le := fun a b : Int => decide (a ≤ b)) (fun a b c h1 h2 => by simp only [decide_eq_true_eq] at *; omega) (fun a b => by simp only [Bool.or_eq_true, decide_eq_true_eq]; omega) xs
  exact h.imp fun h => by simpa using h
theorem sort_uniq {xs ys : List Int} (h : xs.Perm ys) (hx : xs.Pairwise (· ≤ ·)) (hy : ys.Pairwise (· ≤ ·)) : xs = ys := by
  induction xs generalizing ys with
  | nil => exact (List.nil_perm.mp h).symm
  | cons x xs ih =>
    cases ys with
    | nil => exact absurd h.symm (by simp)
    | cons y ys =>
      rw [List.pairwise_cons] at hx hy
      have e : x = y := by
        have h1 : x ∈ y :: ys := h.mem_iff.mp List.mem_cons_self
        have h2 : y ∈ x :: xs := h.mem_iff.mpr List.mem_cons_self
        rcases List.mem_cons.mp h1 with h1 | h1
        · exact h1
        · rcases List.mem_cons.mp h2 with h2 | h2
          · exact h2.symm
          · have := hx.1 y h2
            have := hy.1 x h1
            omega
      subst e
      rw [ih (List.perm_cons x |>.mp h) hx.2 hy.2]
theorem sortI_eq {xs ys : List Int} (h : ys.Perm xs) (hy : ys.Pairwise (· ≤ ·)) : ys = sortI xs := sort_uniq (h.trans (sortI_perm xs).symm) hy (sortI_sorted xs)
theorem cr_sortI (hK : X.K = K) : CallR X (.builtin "sorted") (fun vs H Q => ∃ (a : Addr) (ns : List Int), vs = [V.ref a] ∧ SqL K H a (ns.map V.int) ∧ ∀ p, H p = none → Q (.ref p) (upd H p (.lst ((sortI ns).map V.int)))) := by
  subst hK
  intro pins s σ H xs us Q I r ⟨a, ns, e, h, q⟩
  refine cr_sortedI pins s σ H xs us Q I r ⟨a, ns, e, h, fun ns' p h1 h2 hp => ?_⟩
  rw [sortI_eq h1 h2]
  exact q p hp
theorem ix_listK (hK : X.K = K) : IxR X (rIxL K) := hK ▸ ix_list
theorem ix_tupK (hK : X.K = K) : IxR X (rIxT K) := hK ▸ ix_tup
theorem sl_listK (hK : X.K = K) : SlR X (rSlL K) := hK ▸ sl_list
theorem cr_sumK (hK : X.K = K) (hc : X.calm = true) : CallR X (.builtin "sum") (rSum K) := hK ▸ cr_sum hc
theorem call_list_ofK (hK : X.K = K) : CallR X (.type "list") (fun xs H Q => ∃ p ys, xs = [.ref p] ∧ (SqL K H p ys ∨ SqT K H p ys) ∧ ∀ l, H l = none → Q (.ref l) (upd H l (.lst ys))) := hK ▸ call_list_of
theorem call_tuple_ofK (hK : X.K = K) : CallR X (.type "tuple") (fun xs H Q => ∃ p ys, xs = [.ref p] ∧ ((SqL K H p ys ∧ ∀ l, H l = none → Q (.ref l) (upd H l (.tup ys))) ∨ (SqT K H p ys ∧ Q (.ref p) H))) := hK ▸ call_tuple_of
theorem pi_listK {tg l : Expr} {tl : TE} (hK : X.K = K) (hl : PE X l tl) : PI X tg l (iList K tl) := hK ▸ pi_list hl
theorem pi_tupK {tg l : Expr} {tl : TE} (hK : X.K = K) (hl : PE X l tl) : PI X tg l (iTup K tl) := hK ▸ pi_tup hl
theorem pi_k {tg l : Expr} {wi : Fg → TI} (hK : X.K = K) (h : PI X tg l (wi X.K)) : PI X tg l (wi K) := hK ▸ h
theorem pe_k {e : Expr} {t : Fg → TE} (hK : X.K = K) (h : PE X e (t X.K)) : PE X e (t K) := hK ▸ h
theorem pg_k {tg : Expr} {t : Fg → TG} (hK : X.K = K) (h : PG X tg (t X.K)) : PG X tg (t K) := hK ▸ h
end
end Z
/-! Z3: sets of tuples by their number, isinstance -/
namespace Z
open PySem L2 PySem.Spec PyProof.Rows
open Rep (rep)
/-- each once -/
def nub {α : Type} [DecidableEq α] : List α → List α
  | [] => []
  | x :: xs => if x ∈ xs then nub xs else x :: nub xs
section
variable {α : Type} [DecidableEq α]
theorem nub_mem {y : α} : ∀ {xs : List α}, y ∈ nub xs ↔ y ∈ xs
  | [] => Iff.rfl
  | x :: xs => by
    unfold nub
    by_cases h : x ∈ xs
    · rw [if_pos h, nub_mem]
      exact ⟨List.mem_cons_of_mem _, fun q => (List.mem_cons.mp q).elim (fun e => e ▸ h) id⟩
    · rw [if_neg h, List.mem_cons, List.mem_cons, nub_mem]
theorem nub_nodup : ∀ (xs : List α), (nub xs).Nodup
  | [] => List.nodup_nil
  | x :: xs => by
    unfold nub
    by_cases h : x ∈ xs
    · rw [if_pos h]
      exact nub_nodup xs
    · rw [if_neg h]
      exact List.nodup_cons.mpr ⟨fun q => h (nub_mem.mp q), nub_nodup xs⟩
theorem nub_le : ∀ (xs : List α), (nub xs).length ≤ xs.length
  | [] => Nat.le_refl _
  | x :: xs => by
    unfold nub
    have := nub_le xs
    by_cases h : x ∈ xs
    · rw [if_pos h, List.length_cons]
      omega
    · rw [if_neg h, List.length_cons, List.length_cons]
      omega
theorem nub_len : ∀ {xs : List α}, (nub xs).length = xs.length ↔ xs.Nodup
  | [] => by simp [nub]
  | x :: xs => by
    unfold nub
    by_cases h : x ∈ xs
    · rw [if_pos h, List.length_cons]
      have := nub_le xs
      constructor
      · intro e
        omega
      · intro e
        exact absurd h (List.nodup_cons.mp e).1
    · rw [if_neg h, List.length_cons, List.length_cons, List.nodup_cons]
      constructor
      · intro e
        exact ⟨h, nub_len.mp (by omega)⟩
      · intro e
        rw [nub_len.mpr e.2]
theorem nodup_le : ∀ {xs ys : List α}, xs.Nodup → (∀ y ∈ xs, y ∈ ys) → xs.length ≤ ys.length
  | [], _, _, _ => Nat.zero_le _
  | x :: xs, ys, h, hs => by
    obtain ⟨h1, h2⟩ := List.nodup_cons.mp h
    have hx : x ∈ ys := hs x List.mem_cons_self
    have := nodup_le (xs := xs) (ys := ys.erase x) h2 fun y hy => (List.mem_erase_of_ne (show y ≠ x from fun e => by subst e; exact h1 hy)).mpr (hs y (List.mem_cons_of_mem _ hy))
    rw [List.length_erase_of_mem hx] at this
    have := List.length_pos_of_mem hx
    rw [List.length_cons]
    omega
theorem nodup_len {xs ys : List α} (h1 : xs.Nodup) (h2 : ys.Nodup) (h : ∀ y, y ∈ xs ↔ y ∈ ys) : xs.length = ys.length := by
  refine Nat.le_antisymm ?_ ?_
  · exact nodup_le h1 fun y hy => (h y).mp hy
  · exact nodup_le h2 fun y hy => (h y).mpr hy
end
section
variable {X : Cx} {K : Fg} {P : Program} {w : World} {F H : Hp}
/-- tuples of ints by their places -/
theorem tups_ks : ∀ {vs : List V} {xs : List (Tup Int)}, A2 (rep K H) vs xs → ∃ ks : List (Addr × List Int), vs = ks.map (fun p => V.ref p.1) ∧ ks.map (·.2) = xs.map (·.l) ∧ ∀ p ∈ ks, H p.1 = some (.tup (p.2.map V.int))
  | _, _, .nil => ⟨[], rfl, rfl, fun _ h => nomatch h⟩
  | _, _, .cons (x := x) h t => by
    obtain ⟨ks, h1, h2, h3⟩ := tups_ks t
    obtain ⟨a, us, rfl, q, hu⟩ := h
    refine ⟨(a, x.l) :: ks, by rw [h1]; rfl, by rw [List.map_cons, List.map_cons, h2], fun p hp => ?_⟩
    rcases List.mem_cons.mp hp with rfl | hp
    · rw [← hu.ints]
      exact q
    · exact h3 p hp
theorem setT0_len {pins : List (Addr × Obj)} {σ : L2.St} {s : Shared} {a : Addr} {L : List (Addr × List Int)} {Q : VK} (I : Inv X pins σ H s) (R : SetT0 X.prog X.w s.heap a L) (q : (L.map (·.2)).Nodup → Q (.int (L.length : Nat)) H) :
    wpAny (model X.prog X.w) X.A (call (.builtin "len") [.ref a]) (EP X pins σ Q) X.xe s := by
  obtain ⟨es, ep, t, ⟨o, ho, hex, hd⟩, hr, ht, hn, _, _, _, hf⟩ := R.ex
  have hsz : es.size = L.length := by
    have h := congrArg List.length hr
    unfold rowsOf at h
    rw [Array.length_toList, List.length_map] at h
    exact h
  have hps : t.place.size = L.length := by
    have := ht.sz
    rw [List.length_map] at this
    exact this
  have hroom := R.ex
  obtain ⟨_, _, t', ⟨o', ho', _, hd'⟩, _, _, _, _, _, hm, _⟩ := hroom
  rw [ho] at ho'
  cases ho'
  rw [hd] at hd'
  cases hd'
  have hfit : t.fits es.size = true := by
    unfold SetTable.fits SetTable.fill
    rw [ht.dm, hps, hsz]
    simp
    omega
  exact call_len_set ho hex hd hfit (by rw [hsz]; omega) ⟨.int (L.length : Nat), H, I.tok _, ⟨_, by rw [hsz]⟩, q hn⟩
/-- set(xs) of tuples, then len of it -/
theorem cr_setT (hK : X.K = K) (hP : X.prog = P) (hw : X.w = w) (hc : X.calm = true) (hu : X.A.units + 64 < cLine) : CallR X (.type "set") (fun xs H Q => ∃ (ys : List (Tup Int)) (v : V), xs = [v] ∧ rep K H v ys ∧ ys.length < 64 ∧
    ∀ a L, H a = none → ((L.map (·.2)).Nodup → L.length = (nub ys).length) → Q (.ref a) (upd H a (SetTO P w a L))) := by
  subst hK hP hw
  intro pins s σ H xs us Q I r ⟨ys, v, e, hr, hl, q⟩
  obtain ⟨a, vs, rfl, hq, h⟩ := hr
  obtain ⟨ks, h1, h2, h3⟩ := tups_ks h
  subst h1
  have hks : ks.length = ys.length := by
    have := congrArg List.length h2
    simpa using this
  refine cr_setOfT hc hu pins s σ H xs us Q I r ⟨a, ks, e, SqL.of hq, fun p hp => SqT.of (h3 p hp), by omega, fun b L hb hsub hall => q b L hb fun hn => ?_⟩
  have key : (L.map (·.2)).length = ((nub ys).map (·.l)).length := by
    refine nodup_len hn ?_ fun y => ?_
    · have inj : ∀ x y : Tup Int, x.l = y.l → x = y := fun x y e => by cases x; cases y; simp at e; rw [e]
      refine List.Pairwise.map (R := (· ≠ ·)) _ (fun x y hxy e => hxy (inj x y e)) (nub_nodup ys)
    · constructor
      · intro hy
        obtain ⟨p, hp, rfl⟩ := List.mem_map.mp hy
        have h4 : p.2 ∈ ks.map (·.2) := List.mem_map.mpr ⟨p, hsub p hp, rfl⟩
        rw [h2] at h4
        obtain ⟨z, hz, e⟩ := List.mem_map.mp h4
        exact List.mem_map.mpr ⟨z, nub_mem.mpr hz, e⟩
      · intro hy
        obtain ⟨z, hz, rfl⟩ := List.mem_map.mp hy
        have h4 : z.l ∈ ks.map (·.2) := by
          rw [h2]
          exact List.mem_map.mpr ⟨z, nub_mem.mp hz, rfl⟩
        obtain ⟨p, hp, e⟩ := List.mem_map.mp h4
        rw [← e]
        exact hall p hp
  rw [List.length_map, List.length_map] at key
  exact key
theorem call_lenT (hP : X.prog = P) (hw : X.w = w) : CallR X (.builtin "len") (fun xs H Q => ∃ (a : Addr) (L : List (Addr × List Int)) (n : Nat), xs = [.ref a] ∧ H a = some (SetTO P w a L) ∧ ((L.map (·.2)).Nodup → L.length = n) ∧ Q (.int (n : Nat)) H) := by
  subst hP hw
  intro pins s σ H xs us Q I r ⟨a, L, n, e, ha, hn, q⟩
  subst e
  rw [Vals.ref1 r]
  have R : SetT0 X.prog X.w s.heap a L := (show ObjOk X.prog X.w H s.heap a (SetTO X.prog X.w a L) from I.hok a _ ha).1
  exact setT0_len I R fun nd => by rw [hn nd]; exact q
/-- isinstance of a plain value and a built-in class -/
theorem call_isB (hK : X.K = K) : CallR X (.builtin "isinstance") (fun xs H Q => ∃ (x : V) (a b : String) (r : Bool), xs = [x, .ty b] ∧ TyOf K H x (.type a) ∧ kitB a b = some r ∧ Q (.bl r) H) := by
  subst hK
  intro pins s σ H xs us Q I r ⟨x, a, b, c, e, h1, h2, q⟩
  exact call_isi pins s σ H xs us Q I r ⟨x, .ty b, .type a, .type b, c, e, .ty b, .base h1, kit_ty h2, q⟩
end
end Z
namespace Z
open PySem L2 PySem.Spec PyProof.Rows
open Rep (rep)
section
variable {α : Type}
/-- the first place of an item -/
def fidx [DecidableEq α] (y : α) : List α → Option Nat
  | [] => none
  | x :: xs => if x = y then some 0 else (fidx y xs).map (· + 1)
def idxR [DecidableEq α] (xs : List α) (y : α) : R Int := ofO ((fidx y xs).map fun j => ((j : Nat) : Int))
theorem fidx_spec [DecidableEq α] {y : α} : ∀ {xs : List α} {j : Nat}, fidx y xs = some j → xs[j]? = some y ∧ ∀ m z, m < j → xs[m]? = some z → z ≠ y
  | [], j, h => nomatch h
  | x :: xs, j, h => by
    unfold fidx at h
    by_cases e : x = y
    · rw [if_pos e] at h
      cases h
      subst e
      exact ⟨rfl, fun m z hm => absurd hm (Nat.not_lt_zero _)⟩
    · rw [if_neg e] at h
      cases q : fidx y xs with
      | none => rw [q] at h; cases h
      | some k =>
        rw [q] at h
        cases h
        obtain ⟨h1, h2⟩ := fidx_spec q
        refine ⟨by simpa using h1, fun m z hm hz => ?_⟩
        cases m with
        | zero =>
          simp at hz
          subst hz
          exact e
        | succ m => exact h2 m z (Nat.lt_of_succ_lt_succ hm) (by simpa using hz)
variable {δ : Type} {P : δ → Prop} {E : Exn → Prop}
theorem pb_idx [DecidableEq α] {xs : List α} {y : α} {f : Int → R δ} (h : Post (idxR xs y >>= f) P E) : ∃ j : Nat, fidx y xs = some j ∧ Post (f (j : Int)) P E := by
  unfold idxR at h
  cases q : fidx y xs with
  | none => rw [q] at h; exact (show False from h).elim
  | some j => rw [q] at h; exact ⟨j, rfl, h⟩
end
section
variable {X : Cx} {K : Fg} {F H : Hp}
theorem A2.strs {vs : List V} {xs : List Str} (h : A2 (rep K H) vs xs) : vs = xs.map V.str := by
  induction h with
  | nil => rfl
  | cons a _ ih =>
    have a' : _ = V.str _ := a
    rw [a', ih]
    rfl
theorem bools_q {a : Addr} {vs : List V} {xs : List Bool} (q : SqL K H a vs) (h : A2 (rep K F) vs xs) : SqL K H a (xs.map V.bl) := h.bools ▸ q
theorem strs_q {a : Addr} {vs : List V} {xs : List Str} (q : SqL K H a vs) (h : A2 (rep K F) vs xs) : SqL K H a (xs.map V.str) := h.strs ▸ q
theorem mt_indexS (hK : X.K = K) : MtR X "list.index" (fun x xs H Q => ∃ (a : Addr) (ys : List Str) (y : Str) (j : Nat), x = V.ref a ∧ xs = [.str y] ∧ SqL K H a (ys.map V.str) ∧ fidx y ys = some j ∧ Q (.int (j : Int)) H) := by
  subst hK
  intro pins s σ H x xs v us Q I rx rxs ⟨a, ys, y, j, e1, e2, hs, hj, q⟩
  obtain ⟨h1, h2⟩ := fidx_spec hj
  refine mt_index pins s σ H x xs v us Q I rx rxs ⟨a, _, .str y, j, .str y, e1, e2, hs, rfl, ?_, ?_, ?_, fun m z hm hz => ?_, q⟩
  · rw [List.all_eq_true]
    intro z hz
    obtain ⟨t, _, rfl⟩ := List.mem_map.mp hz
    rfl
  · rw [List.getElem?_map, h1]
    rfl
  · show (y == y) = true
    simp
  · rw [List.getElem?_map] at hz
    cases e : ys[m]? with
    | none => rw [e] at hz; cases hz
    | some t =>
      rw [e] at hz
      cases hz
      have := h2 m t hm e
      show (t == y) = false
      simpa using this
theorem mt_indexI (hK : X.K = K) : MtR X "list.index" (fun x xs H Q => ∃ (a : Addr) (ys : List Int) (y : Int) (j : Nat), x = V.ref a ∧ xs = [.int y] ∧ SqL K H a (ys.map V.int) ∧ fidx y ys = some j ∧ Q (.int (j : Int)) H) := by
  subst hK
  intro pins s σ H x xs v us Q I rx rxs ⟨a, ys, y, j, e1, e2, hs, hj, q⟩
  obtain ⟨h1, h2⟩ := fidx_spec hj
  refine mt_index pins s σ H x xs v us Q I rx rxs ⟨a, _, .int y, j, .int y, e1, e2, hs, rfl, ?_, ?_, ?_, fun m z hm hz => ?_, q⟩
  · rw [List.all_eq_true]
    intro z hz
    obtain ⟨t, _, rfl⟩ := List.mem_map.mp hz
    rfl
  · rw [List.getElem?_map, h1]
    rfl
  · show (y == y) = true
    simp
  · rw [List.getElem?_map] at hz
    cases e : ys[m]? with
    | none => rw [e] at hz; cases hz
    | some t =>
      rw [e] at hz
      cases hz
      have := h2 m t hm e
      show (t == y) = false
      simpa using this
theorem cr_allK (hK : X.K = K) (hc : X.calm = true) : CallR X (.builtin "all") (rAll K) := hK ▸ cr_all hc
theorem cr_anyK (hK : X.K = K) (hc : X.calm = true) : CallR X (.builtin "any") (rAny K) := hK ▸ cr_any hc
end
end Z
namespace HT
open PySem PySem.Spec PyProof.Rows
section
variable {prog : Program} {w : World} {A : Around} {E : Value → Shared → Prop} {s : Shared}
/-- t[::-1] of a tuple of two -/
theorem zrev_two {t sl : Addr} {x y vs : Value} {Q : Value → Shared → Prop} (ht : IsTup s.heap t #[x, y]) (hs : s.heap.IsSliceOf sl .none .none vs) (pl : IsPart .none none) (ps : IsPart vs (some (-1)))
    (h : Q (.ref s.heap.objs.size) { s with heap := s.heap.push { cls := .type "tuple", data := .seq #[y, x] } }) : wpAny (model prog w) A (getItem (.ref t) (.ref sl)) Q E s := by
  have htake : sizeOk (.seq #[y, x]) := by
    show 2 ≤ sizeLine
    decide
  obtain ⟨os, hos, hcs, hds⟩ := id hs
  have hTs : s.TypeIs (.ref sl) "slice" := ⟨os, hos, hcs⟩
  unfold getItem
  try with_reducible refine wpAny_holding ?_
  first | refine wpAny_bind (wpAny_pure ?_) | skip
  refine wpAny_bind (wpAny_sequenceKey ht.typeIs (by decide) ?_)
  refine wpAny_bind (wpAny_callSpecial?_slot (name := Str.ofString "__getitem__") ht.typeIs PyProof.Rows.slot_tuple_getitem
    (wpAny_call_entry PyProof.Rows.slot_tuple_getitem ht.typeIs entry_tuple_getitem ?_ (args_tuple_getitem _ _)))
  show wpAny _ _ (Builtin.Tuple.tupleItemsOf (.ref t) >>= _) _ _ s
  refine wpAny_bind (tupleItemsOf_ ht ?_)
  refine wpAny_bind (wpAny_typeOf hTs ?_)
  rw [if_pos (by decide)]
  have key : ∀ {A' : Around} {E' : Value → Shared → Prop} {R : Int × Int × Nat → Shared → Prop}, R ((1 : Int), -1, 2) s → wpAny (model prog w) A' (Builtin.Slice.sliceApplied (.ref sl) (pure (2 : Int))) R E' s := by
    intro A' E' R hR
    unfold Builtin.Slice.sliceApplied Builtin.Slice.sliceFields
    refine wpAny_bind (wpAny_bind (wpAny_field hos hds (x := .none) rfl (wpAny_bind (wpAny_field hos hds (x := .none) rfl (wpAny_bind (wpAny_field hos hds (x := vs) rfl (wpAny_pure ?_)))))))
    refine wpAny_bind (slicePart_ ps ?_)
    show wpAny _ _ (if ((-1 : Int) == 0) = true then _ else _) _ _ s
    rw [if_neg (by decide)]
    refine wpAny_bind (slicePart_ pl (wpAny_bind (slicePart_ pl (wpAny_bind (wpAny_pure ?_)))))
    show wpAny _ _ (match Builtin.Slice.sliceAdjust none none (-1) (2 : Int) with | (lo, hi) => pure (lo, (-1 : Int), Builtin.Slice.slicePlaces lo hi (-1))) _ _ s
    exact wpAny_pure hR
  refine wpAny_bind (key ?_)
  show wpAny _ _ (if ((1 : Int) == 0 && (-1 : Int) == 1 && (2 : Nat) == 2) = true then _ else _) _ _ s
  rw [if_neg (by decide)]
  first
    | exact wpAny_bind (m := Builtin.Tuple.tupleExact _) (wpAny_newObj_type (wpAny_pure ⟨_, rfl, wpAny_pure h⟩) htake)
    | exact wpAny_bind (m := Builtin.Tuple.tupleExact _) (wpAny_newObj_type (wpAny_bind (wpAny_pure (wpAny_pure ⟨_, rfl, wpAny_pure h⟩))) htake)
    | exact wpAny_bind (wpAny_bind (m := Builtin.Tuple.tupleExact _) (wpAny_newObj_type (wpAny_pure (wpAny_pure ⟨_, rfl, wpAny_pure h⟩)) htake))
    | exact wpAny_bind (wpAny_bind (m := Builtin.Tuple.tupleExact _) (wpAny_newObj_type (wpAny_pure ⟨_, rfl, wpAny_pure h⟩) htake))
end
end HT
namespace Z
open PySem L2 PySem.Spec PyProof.Rows
open Rep (rep)
section
variable {X : Cx} {K : Fg} {F H : Hp}
def tRev2 (te : TE) : TE := fun σ H Q => te σ H fun x H1 => ∃ a u w, x = .ref a ∧ H1 a = some (.tup [u, w]) ∧ ∀ p, H1 p = none → Q (.ref p) (upd H1 p (.tup [w, u]))
theorem pe_rev2 {e : Expr} {te : TE} {k : Nat} {p1 p2 p3 pos : Pos} (he : PE X e te) : PE X (.Subscript e (.Slice none none (some (.UnaryOp .USub (.Constant (.int 1) k p1) p2)) p3) pos) (tRev2 te) := by
  refine ⟨fun pins s σ H Q I h => ?_⟩
  refine Subscript_ (thn (he.run pins s σ H _ I h) fun v s1 ⟨x, H1, I1, r1, q1⟩ => ?_)
  obtain ⟨a, c, d, ex, hx, q⟩ := q1
  subst ex
  cases r1
  have hst : PO X (some (.UnaryOp .USub (.Constant (.int 1) k p1) p2)) (tPart (tUn (rU fun i => .int (-i)) (tC (.int 1)))) := po_some (pe_un un_neg pe_int)
  refine wpAny_Slice (thn (po_none.run pins s1 σ H1 (fun o H2 => o = none ∧ H2 = H1) I1 ⟨rfl, rfl⟩) fun vl s2 ⟨l, H2, I2, pl, el, e2⟩ => ?_)
  subst el e2
  refine thn (po_none.run pins s2 σ H2 (fun o H3 => o = none ∧ H3 = H2) I2 ⟨rfl, rfl⟩) fun vu s3 ⟨u, H3, I3, pu, eu, e3⟩ => ?_
  subst eu e3
  refine thn (hst.run pins s3 σ H3 (fun o H4 => o = some (-1) ∧ H4 = H3) I3 ⟨1, rfl, -1, rfl, rfl, rfl⟩) fun vs s4 ⟨o, H4, I4, ps, eo, e4⟩ => ?_
  subst eo e4
  have I5 : Inv X pins σ H4 { s4 with heap := s4.heap.push { cls := .type "slice", data := .fields #[vl, vu, vs] } } := I4.kept (t' := s4.toks) fun b ob q => Heap.get?_push_of_some _ q
  obtain ⟨its, r, ht, hz⟩ := I5.tuple (SqT.of hx)
  cases r with
  | cons r1 r' =>
    rename_i uu us
    cases r' with
    | cons r2 r'' =>
      rename_i ww ws
      cases r''
      cases pl
      cases pu
      show wpAny (model X.prog X.w) X.A (subscriptTail e (.Slice none none (some (.UnaryOp .USub (.Constant (.int 1) k p1) p2)) p3) (.ref a) (.ref s4.heap.objs.size)) (EP X pins σ Q) X.xe { s4 with heap := s4.heap.push { cls := .type "slice", data := .fields #[.none, .none, vs] } }
      refine tail_any (ops := [.ref a, .ref s4.heap.objs.size]) ht.typeIs (PyProof.Rows.slot_tuple_getitem.lookup) ?_ (by with_unfolding_all rfl)
      refine HT.zrev_two ht (Heap.IsSliceOf.new _ .none .none vs) .none ps ?_
      exact ⟨.ref _, _, I5.laid (t' := s4.toks) (o := .tup [d, c]) (fun b ob q => Heap.get?_push_of_some _ q) (Nat.le_refl _) ⟨by show 2 ≤ sizeLine; decide, [ww, uu], .cons r2 (.cons r1 .nil), IsTup.new _ _⟩, rfl, q _ (I5.hok.fresh (Nat.le_refl _))⟩
/-- two things turned about -/
def rev2 {α : Type} (xs : List α) : R (List α) := match xs with
  | [x, y] => .ok [y, x]
  | _ => .bad
theorem pb_rev2 {α δ : Type} {xs : List α} {f : List α → R δ} {P : δ → Prop} {E : Exn → Prop} (h : Post (rev2 xs >>= f) P E) : ∃ x y, xs = [x, y] ∧ Post (f [y, x]) P E := by
  cases xs with
  | nil => exact (show False from h).elim
  | cons x xs =>
    cases xs with
    | nil => exact (show False from h).elim
    | cons y xs =>
      cases xs with
      | nil => exact ⟨x, y, rfl, h⟩
      | cons z xs => exact (show False from h).elim
theorem A2.two {α : Type} {r : V → α → Prop} {vs : List V} {x y : α} (h : A2 r vs [x, y]) : ∃ u w, vs = [u, w] ∧ r u x ∧ r w y := by
  cases h with
  | cons a t =>
    cases t with
    | cons b t =>
      cases t
      exact ⟨_, _, rfl, a, b⟩
/-- xs * k -/
def repL {α : Type} (xs : List α) (k : Int) : List α := (List.replicate k.toNat xs).flatten
@[irreducible] def repR {α : Type} (xs : List α) (k : Int) : R (List α) := if -(2 ^ 62) ≤ k ∧ k < 2 ^ 62 ∧ xs.length * k.toNat < 100000 then .ok (repL xs k) else .bad
theorem pb_rep {α δ : Type} {xs : List α} {k : Int} {f : List α → R δ} {P : δ → Prop} {E : Exn → Prop} (h : Post (repR xs k >>= f) P E) : ∃ ys, (-(2 ^ 63) ≤ k ∧ k < 2 ^ 63 ∧ xs.length * k.toNat ≤ sizeLine) ∧ ys = repL xs k ∧ Post (f ys) P E := by
  unfold repR at h
  obtain ⟨⟨a, b, c⟩, d⟩ := pb_if h
  exact ⟨_, ⟨by omega, by omega, Nat.le_of_lt (Nat.lt_of_lt_of_le c line5)⟩, rfl, d⟩
theorem A2.flat {α : Type} {r : V → α → Prop} {vs : List V} {xs : List α} (h : A2 r vs xs) (n : Nat) : A2 r (List.replicate n vs).flatten (List.replicate n xs).flatten := by
  induction n with
  | zero => exact .nil
  | succ n ih =>
    rw [List.replicate_succ, List.replicate_succ, List.flatten_cons, List.flatten_cons]
    exact h.append ih
/-! ### None -/
class NonN (α : Type) extends Rep α where
  no : ∀ {K : Fg} {H : Hp} {v : V} {x : α}, rep K H v x → v ≠ .non
instance : NonN Int := ⟨fun h e => by have h' : _ = V.int _ := h; rw [h'] at e; cases e⟩
instance : NonN Bool := ⟨fun h e => by have h' : _ = V.bl _ := h; rw [h'] at e; cases e⟩
instance {α β : Type} [Rep α] [Rep β] : NonN (α × β) := ⟨fun {K H v x} h q => by
  obtain ⟨a, u, w, e, _⟩ := h
  rw [e] at q
  cases q⟩
instance {α : Type} [Rep α] : NonN (List α) := ⟨fun {K H v x} h q => by
  obtain ⟨a, u, e, _⟩ := h
  rw [e] at q
  cases q⟩
instance {α : Type} [Rep α] : NonN (Tup α) := ⟨fun {K H v x} h q => by
  obtain ⟨a, u, e, _⟩ := h
  rw [e] at q
  cases q⟩
theorem isN_eq {α : Type} [NonN α] {v : V} {o : Option α} (h : rep K F v o) : decide (v = .non) = o.isNone := by
  cases o with
  | none =>
    have h' : v = V.non := h
    rw [h']
    rfl
  | some x => exact decide_eq_false (NonN.no (α := α) h)
theorem op_isN2 : OpR X (compareOp .Is) (fun x y H Q => y = V.non ∧ ∃ b, decide (x = .non) = b ∧ Q (.bl b) H) := by
  intro pins s σ H x y v u Q I rx ry ⟨e, b, hb, q⟩
  exact op_isN pins s σ H x y v u Q I rx ry ⟨e, by rw [hb]; exact q⟩
theorem op_notN2 : OpR X (compareOp .IsNot) (fun x y H Q => y = V.non ∧ ∃ b, decide (x = .non) = b ∧ Q (.bl (!b)) H) := by
  intro pins s σ H x y v u Q I rx ry ⟨e, b, hb, q⟩
  exact op_notN pins s σ H x y v u Q I rx ry ⟨e, by rw [hb]; exact q⟩
instance datOptBool : Dat (Option Bool) where
  toD := fun x => match x with
    | none => .none
    | some i => .bool i
  dmax := 0
  dp := fun {K H v x} h => by
    cases x with
    | none =>
      have h' : v = V.non := h
      subst h'
      exact .non
    | some i =>
      have h' : v = V.bl i := h
      subst h'
      exact .bl _
  lay := fun x => by cases x <;> simp only [PyData.canLay0]
  dep := fun x => by cases x <;> simp only [PyData.depth, Nat.le_refl]
  eqv := fun x y => by cases x <;> cases y <;> simp [PyData.eqv]
end
end Z
/-! Z4: statements never reached, tuples into the frozen part, pairs sorted, dicts of scalars, list(range), pop -/
namespace Z
open PySem L2
open Rep (rep)
section
variable {X : Cx}
theorem ps_absurd {st : Stmt} : PS X st (fun _ _ _ => False) := ⟨fun _ _ _ _ _ _ h => h.elim⟩
theorem stepAnd {t u : TT} {σ : L2.St} {H : Hp} {Q : Bool → Hp → Prop} (h : t σ H fun c H1 => if c = true then u σ H1 Q else Q false H1) : tAnd t u σ H Q := h
theorem stepOr {t u : TT} {σ : L2.St} {H : Hp} {Q : Bool → Hp → Prop} (h : t σ H fun c H1 => if c = true then Q true H1 else u σ H1 Q) : tOr t u σ H Q := h
theorem stepNot {t : TT} {σ : L2.St} {H : Hp} {Q : Bool → Hp → Prop} (h : t σ H fun c H1 => Q (!c) H1) : tNot t σ H Q := h
/-- every tuple there is may be read -/
def tupF (F H : Hp) : Hp := fun b => match F b with
  | some u => some u
  | none => match H b with
    | some (.tup vs) => some (.tup vs)
    | _ => none
theorem tupF_some {F H : Hp} {b : Addr} {u : HO} (e : F b = some u) : tupF F H b = some u := by
  unfold tupF
  rw [e]
theorem tupF_none {F H : Hp} {b : Addr} {u : HO} (e : F b = none) (h : tupF F H b = some u) : H b = some u ∧ ∃ vs, u = .tup vs := by
  unfold tupF at h
  rw [e] at h
  dsimp only at h
  split at h
  · rename_i vs e'
    cases h
    exact ⟨e', _, rfl⟩
  · cases h
theorem tupF_tup {F H : Hp} {b : Addr} {vs : List V} (e : F b = none) (h : H b = some (.tup vs)) : tupF F H b = some (.tup vs) := by
  unfold tupF
  rw [e, h]
theorem W.tups {F H : Hp} {os : List (Addr × HO)} (w : W F H os) : ∃ F', Same F F' ∧ W F' H os ∧ ∀ b vs, H b = some (.tup vs) → F' b = some (.tup vs) := by
  refine ⟨tupF F H, fun b u e => tupF_some e, ⟨fun b u e => ?_, fun p hp => ?_, w.nd, w.nt⟩, fun b vs e => ?_⟩
  · cases q : F b with
    | some u' =>
      rw [tupF_some q] at e
      cases e
      exact w.same b _ q
    | none => exact (tupF_none q e).1
  · obtain ⟨h1, h2⟩ := w.own p hp
    refine ⟨h1, ?_⟩
    cases q : tupF F H p.1 with
    | none => rfl
    | some u =>
      obtain ⟨k, vs, rfl⟩ := tupF_none h2 q
      rw [h1] at k
      exact absurd (Option.some.inj k) (w.nt p hp vs)
  · cases q : F b with
    | some u' =>
      have := w.same b _ q
      rw [e] at this
      cases this
      exact tupF_some q
    | none => exact tupF_tup q e
/-! ### sorted, of pairs -/
def leP (p q : Int × Int) : Bool := decide (p.1 < q.1 ∨ (p.1 = q.1 ∧ p.2 ≤ q.2))
def sortP (xs : List (Int × Int)) : List (Int × Int) := xs.mergeSort leP
theorem sortP_perm (xs : List (Int × Int)) : (sortP xs).Perm xs := List.mergeSort_perm xs _
theorem sortP_sorted (xs : List (Int × Int)) : (sortP xs).Pairwise fun p q => leP p q = true := by
  refine List.pairwise_mergeSort (le := leP) (fun a b c h1 h2 => ?_) (fun a b => ?_) xs
  · unfold leP at *
    simp only [decide_eq_true_eq] at *
    omega
  · unfold leP
    simp only [Bool.or_eq_true, decide_eq_true_eq]
    omega
theorem sortP_uniq {xs ys : List (Int × Int)} (h : xs.Perm ys) (hx : xs.Pairwise fun p q => leP p q = true) (hy : ys.Pairwise fun p q => leP p q = true) : xs = ys := by
  induction xs generalizing ys with
  | nil => exact (List.nil_perm.mp h).symm
  | cons x xs ih =>
    cases ys with
    | nil => exact absurd h.length_eq (by simp)
    | cons y ys =>
      rw [List.pairwise_cons] at hx hy
      have e : x = y := by
        have h1 : y ∈ x :: xs := h.mem_iff.mpr List.mem_cons_self
        have h2 : x ∈ y :: ys := h.mem_iff.mp List.mem_cons_self
        rcases List.mem_cons.mp h1 with e | h1
        · exact e.symm
        · rcases List.mem_cons.mp h2 with e | h2
          · exact e
          · have a := hx.1 y h1
            have b := hy.1 x h2
            unfold leP at a b
            simp only [decide_eq_true_eq] at a b
            exact Prod.ext (by omega) (by omega)
      subst e
      rw [ih h.cons_inv hx.2 hy.2]
theorem sortP_eq {xs ys : List (Int × Int)} (h : ys.Perm xs) (hy : ys.Pairwise fun p q => leP p q = true) : ys = sortP xs := sortP_uniq (h.trans (sortP_perm xs).symm) hy (sortP_sorted xs)
/-- which pair stands at a reference -/
def keyP (H : Hp) (v : V) : Int × Int := match v with
  | .ref t => match H t with
    | some (.tup [.int i, .int j]) => (i, j)
    | _ => (0, 0)
  | _ => (0, 0)
theorem keyP_of {K : Fg} {F H : Hp} {v : V} {x : Int × Int} (s : Same F H) (r : rep K F v x) : ∃ t, v = .ref t ∧ F t = some (.tup [.int x.1, .int x.2]) ∧ keyP H v = x := by
  obtain ⟨t, u, z, rfl, q, r1, r2⟩ := r
  obtain rfl : u = V.int x.1 := r1
  obtain rfl : z = V.int x.2 := r2
  refine ⟨t, rfl, q, ?_⟩
  have h := s _ _ q
  unfold keyP
  dsimp only
  rw [h]
theorem keyP_all {K : Fg} {F H : Hp} {vs : List V} {xs : List (Int × Int)} (s : Same F H) (h : A2 (rep K F) vs xs) : xs = vs.map (keyP H) ∧ ∀ v ∈ vs, ∃ t, v = .ref t ∧ F t = some (.tup [.int (keyP H v).1, .int (keyP H v).2]) := by
  induction h with
  | nil => exact ⟨rfl, fun _ z => nomatch z⟩
  | cons a b ih =>
    obtain ⟨t, e, q, k⟩ := keyP_of s a
    refine ⟨by rw [List.map_cons, k, ← ih.1], fun v hv => ?_⟩
    rcases List.mem_cons.mp hv with rfl | hv
    · exact ⟨t, e, by rw [k]; exact q⟩
    · exact ih.2 v hv
theorem rep_keys {K : Fg} {F H : Hp} : ∀ {ys : List V}, (∀ v ∈ ys, ∃ t, v = V.ref t ∧ F t = some (.tup [.int (keyP H v).1, .int (keyP H v).2])) → A2 (rep K F) ys (ys.map (keyP H))
  | [], _ => .nil
  | v :: ys, h => by
    obtain ⟨t, e, q⟩ := h v List.mem_cons_self
    refine .cons ?_ (rep_keys fun y hy => h y (List.mem_cons_of_mem _ hy))
    subst e
    exact ⟨t, _, _, rfl, q, rfl, rfl⟩
theorem cr_sortP {K : Fg} (hK : X.K = K) : CallR X (.builtin "sorted") (fun vs H Q => ∃ (a : Addr) (us : List V) (F : Hp) (xs : List (Int × Int)), vs = [V.ref a] ∧ SqL K H a us ∧ Same F H ∧ A2 (rep K F) us xs ∧
    ∀ p ys, H p = none → A2 (rep K F) ys (sortP xs) → Q (.ref p) (upd H p (.lst ys))) := by
  subst hK
  intro pins s σ H vs us Q I r h
  obtain ⟨a, us', F, xs, rfl, hs, sF, hA, q⟩ := h
  obtain ⟨e1, e2⟩ := keyP_all sF hA
  refine cr_sortedPO pins s σ H _ us Q I r ⟨a, us', keyP H, rfl, hs, fun x hx => ?_, fun ys p h1 h2 hp => q p ys hp ?_⟩
  · obtain ⟨t, e, k⟩ := e2 x hx
    exact ⟨t, e, sF _ _ k⟩
  · have e : ys.map (keyP H) = sortP xs := by
      refine sortP_eq ?_ ?_
      · rw [e1]
        exact h2.perm.map _
      · rw [List.pairwise_map]
        refine h1.imp fun {x y} h => ?_
        have h := SrtO.lexB_no.mp h
        unfold leP
        rw [decide_eq_true_eq]
        omega
    rw [← e]
    exact rep_keys fun v hv => e2 v (h2.perm.mem_iff.mp hv)
end
/-! ### dicts of scalars -/
section
variable {κ β γ δ : Type} [DecidableEq κ]
def mput (m : List (κ × β)) (k : κ) (v : β) : List (κ × β) := if (m.any fun p => decide (p.1 = k)) = true then m.map (fun p => if p.1 = k then (p.1, v) else p) else m ++ [(k, v)]
def mhas (m : List (κ × β)) (k : κ) : Bool := m.any fun p => decide (p.1 = k)
def mget (m : List (κ × β)) (k : κ) : Option β := (m.find? fun p => decide (p.1 = k)).map (·.2)
def mputR (m : List (κ × β)) (k : κ) (v : β) : R (List (κ × β)) := if m.length < 100000 then .ok (mput m k v) else .bad
def mgetR (m : List (κ × β)) (k : κ) : R β := ofO (mget m k)
/-- as the dict stands -/
def encM (e : κ → γ) (ev : β → V) (m : List (κ × β)) : List (γ × V) := m.map fun p => (e p.1, ev p.2)
variable [DecidableEq γ] {e : κ → γ} {ev : β → V}
theorem any_enc (he : ∀ a b, e a = e b → a = b) (m : List (κ × β)) (k : κ) : ((encM e ev m).any fun p => decide (p.1 = e k)) = m.any fun p => decide (p.1 = k) := by
  unfold encM
  rw [List.any_map]
  congr 1
  funext p
  show decide (e p.1 = e k) = decide (p.1 = k)
  by_cases h : p.1 = k
  · rw [h]; simp
  · rw [decide_eq_false h, decide_eq_false fun z => h (he _ _ z)]
theorem put_enc (he : ∀ a b, e a = e b → a = b) (m : List (κ × β)) (k : κ) (v : β) : putK (encM e ev m) (e k) (ev v) = encM e ev (mput m k v) := by
  unfold putK mput
  rw [any_enc he]
  by_cases h : (m.any fun p => decide (p.1 = k)) = true
  · rw [if_pos h, if_pos h]
    unfold encM
    rw [List.map_map, List.map_map]
    refine List.map_congr_left fun p _ => ?_
    show (if e p.1 = e k then (e p.1, ev v) else (e p.1, ev p.2)) = (fun q : κ × β => (e q.1, ev q.2)) (if p.1 = k then (p.1, v) else p)
    by_cases h : p.1 = k
    · rw [if_pos h, if_pos (congrArg e h)]
    · rw [if_neg h, if_neg fun z => h (he _ _ z)]
  · rw [if_neg h, if_neg h]
    unfold encM
    rw [List.map_append]
    rfl
theorem val_enc (he : ∀ a b, e a = e b → a = b) (k : κ) : ∀ m : List (κ × β), valV (encM e ev m) (e k) = (mget m k).map ev
  | [] => rfl
  | p :: m => by
    show valV ((e p.1, ev p.2) :: encM e ev m) (e k) = _
    unfold mget
    by_cases h : p.1 = k
    · rw [valV_pos (congrArg e h), List.find?_cons_of_pos (by simpa using h)]
      rfl
    · rw [valV_neg (fun z => h (he _ _ z)), List.find?_cons_of_neg (by simpa using h), val_enc he k m]
      rfl
theorem has_enc (he : ∀ a b, e a = e b → a = b) (m : List (κ × β)) (k : κ) : (valV (encM e ev m) (e k)).isSome = mhas m k := by
  rw [← valV_any, any_enc he]
  rfl
theorem enc_length (m : List (κ × β)) : (encM e ev m).length = m.length := List.length_map _
end
abbrev kI : Int → Key := .inl
theorem kI_inj : ∀ a b, kI a = kI b → a = b := fun _ _ h => Sum.inl.inj h
def kP (p : Int × Int) : List Key := [.inl p.1, .inl p.2]
theorem kP_inj : ∀ a b, kP a = kP b → a = b := fun a b h => by
  unfold kP at h
  injection h with h1 h2
  injection h2 with h2 _
  exact Prod.ext (Sum.inl.inj h1) (Sum.inl.inj h2)
section
variable {β : Type} {ev : β → V} {H : Hp} {a b : Addr}
theorem dget_k {m : List (Int × β)} {k : Int} (e : H a = some (.dK (encM kI ev m))) : DGet H a (.int k) ((mget m k).map ev) := by
  rw [← val_enc kI_inj]
  exact DGet.k (k := kI k) e
theorem dget_p {m : List ((Int × Int) × β)} {k : Int × Int} (e : H a = some (.dT (encM kP ev m))) (eb : H b = some (.tup [.int k.1, .int k.2])) : DGet H a (.ref b) ((mget m k).map ev) := by
  rw [← val_enc kP_inj]
  exact DGet.t (k := kP k) e eb
theorem get_has {κ : Type} [DecidableEq κ] (m : List (κ × β)) (k : κ) (f : β → V) : ((mget m k).map f).isSome = mhas m k := by
  rw [Option.isSome_map]
  unfold mget mhas
  rw [Option.isSome_map, List.isSome_find?]
theorem dput_k {m : List (Int × β)} {k : Int} {v : β} (e : H a = some (.dK (encM kI ev m))) (hl : m.length < sizeLine) : DPut H a (.int k) (ev v) (upd H a (.dK (encM kI ev (mput m k v)))) := by
  rw [← put_enc kI_inj]
  exact DPut.k (k := kI k) e (by rw [enc_length]; exact hl)
theorem dput_p {m : List ((Int × Int) × β)} {k : Int × Int} {v : β} (e : H a = some (.dT (encM kP ev m))) (eb : H b = some (.tup [.int k.1, .int k.2])) (hl : m.length < sizeLine) : DPut H a (.ref b) (ev v) (upd H a (.dT (encM kP ev (mput m k v)))) := by
  rw [← put_enc kP_inj]
  exact DPut.t (k := kP k) e eb (by rw [enc_length]; exact hl)
end
/-- the keys of a dict, as tuples that may be read -/
theorem keys_rep {β : Type} {ev : β → V} {K : Fg} {F H : Hp} (hF : ∀ b vs, H b = some (.tup vs) → F b = some (.tup vs)) : ∀ {m : List ((Int × Int) × β)} {bs : List Addr}, IsKeys H (encM kP ev m) bs → A2 (rep K F) (bs.map V.ref) (m.map (·.1))
  | [], [], _ => .nil
  | [], _ :: _, h => nomatch h
  | _ :: _, [], h => nomatch h
  | p :: m, b :: bs, .cons h1 h2 => .cons ⟨b, _, _, rfl, hF _ _ h1, rfl, rfl⟩ (keys_rep hF h2)
theorem pn_mput {κ β δ : Type} [DecidableEq κ] {m : List (κ × β)} {k : κ} {v : β} {f : List (κ × β) → R δ} {P : δ → Prop} {E : Exn → Prop} (h : Post (mputR m k v >>= f) P E) : ∃ m', m.length < sizeLine ∧ m' = mput m k v ∧ Post (f m') P E := by
  unfold mputR at h
  by_cases hl : m.length < 100000
  · rw [if_pos hl] at h
    exact ⟨_, Nat.lt_of_lt_of_le hl line5, rfl, h⟩
  · rw [if_neg hl] at h
    exact (show False from h).elim
/-! ### list(range(n)) -/
@[irreducible] def listRng (i j : Int) : R (List Int) := if -(2 ^ 62) ≤ i ∧ i < 2 ^ 62 ∧ -(2 ^ 62) ≤ j ∧ j < 2 ^ 62 ∧ (j - i).toNat ≤ 100000 then .ok (rng i j) else .bad
theorem rgV_eq (i j : Int) : rgV i j = (rng i j).map V.int := by
  unfold rgV rng
  rw [List.map_map]
  rfl
theorem pb_lrng {δ : Type} {i j : Int} {f : List Int → R δ} {P : δ → Prop} {E : Exn → Prop} (h : Post (listRng i j >>= f) P E) : ∃ l, RgOk i j ∧ l = rng i j ∧ Post (f l) P E := by
  unfold listRng at h
  by_cases hl : -(2 ^ 62) ≤ i ∧ i < 2 ^ 62 ∧ -(2 ^ 62) ≤ j ∧ j < 2 ^ 62 ∧ (j - i).toNat ≤ 100000
  · rw [if_pos hl] at h
    obtain ⟨a, b, c, d, e⟩ := hl
    exact ⟨_, ⟨a, b, c, d, by omega⟩, rfl, h⟩
  · rw [if_neg hl] at h
    exact (show False from h).elim
/-! ### a list of perhaps nothing, where nothing is nothing -/
def allS {α : Type} : List (Option α) → R (List α)
  | [] => .ok []
  | none :: _ => .bad
  | some x :: xs => allS xs >>= fun ys => .ok (x :: ys)
theorem allS_iff {α : Type} : ∀ {xs : List (Option α)} {ys : List α}, allS xs = R.ok ys ↔ xs = ys.map some
  | [], ys => by
    constructor
    · intro h; cases h; rfl
    · intro h
      cases ys with
      | nil => rfl
      | cons => cases h
  | none :: xs, ys => by
    constructor
    · intro h; cases h
    · intro h
      cases ys <;> cases h
  | some x :: xs, ys => by
    constructor
    · intro h
      obtain ⟨zs, e, h⟩ := bind_ok_iff.mp h
      cases h
      rw [allS_iff.mp e]
      rfl
    · intro h
      cases ys with
      | nil => cases h
      | cons y ys =>
        rw [List.map_cons] at h
        injection h with h1 h2
        cases h1
        show (allS xs >>= fun ys => R.ok (x :: ys)) = _
        rw [allS_iff.mpr h2]
        rfl
theorem pb_allS {α δ : Type} {xs : List (Option α)} {f : List α → R δ} {P : δ → Prop} {E : Exn → Prop} (h : Post (allS xs >>= f) P E) : ∃ ys, xs = ys.map some ∧ Post (f ys) P E := by
  cases e : allS xs with
  | ok ys =>
    rw [e] at h
    exact ⟨ys, allS_iff.mp e, h⟩
  | exc x =>
    rw [e] at h
    exfalso
    clear h
    induction xs with
    | nil => cases e
    | cons x xs ih =>
      cases x with
      | none => cases e
      | some x =>
        have e' : (allS xs >>= fun ys => R.ok (x :: ys)) = R.exc _ := e
        cases e2 : allS xs with
        | ok y => rw [e2] at e'; cases e'
        | exc y => rw [e2] at e'; cases e'; exact ih e2
        | bad => rw [e2] at e'; cases e'
  | bad =>
    rw [e] at h
    exact (show False from h).elim
theorem A2.unsome {α : Type} [Rep α] {K : Fg} {F : Hp} : ∀ {vs : List V} {ys : List α}, A2 (rep K F) vs (ys.map some) → A2 (rep K F) vs ys
  | [], [], _ => .nil
  | _ :: _, [], h => nomatch h
  | [], _ :: _, h => nomatch h
  | _ :: _, _ :: _, .cons a b => .cons a (A2.unsome b)
/-! ### pop -/
@[irreducible] def popB {α : Type} (xs : List α) (i : Int) : R (α × List α) := if -(2 ^ 62) ≤ i ∧ i < 2 ^ 62 then popAt xs i else .bad
theorem pn_popB {α β : Type} {xs : List α} {i : Int} {f : α × List α → R β} {Q : β → Prop} {E : Exn → Prop} (h : Post (popB xs i >>= f) Q E) : ∃ j x ys, (-(2 ^ 63) ≤ i ∧ i < 2 ^ 63) ∧ ixN xs.length i = some j ∧ xs[j]? = some x ∧ ys = xs.eraseIdx j ∧ Post (f (x, ys)) Q E := by
  unfold popB at h
  by_cases hi : -(2 ^ 62) ≤ i ∧ i < 2 ^ 62
  · rw [if_pos hi] at h
    obtain ⟨j, x, ys, a, b, c, d⟩ := pn_popAt h
    exact ⟨j, x, ys, by omega, a, b, c, d⟩
  · rw [if_neg hi] at h
    exact (show False from h).elim
theorem pn_popI {α β : Type} {xs : List α} {f : α × List α → R β} {Q : β → Prop} {E : Exn → Prop} (h : Post (popI xs >>= f) Q E) : ∃ x ys, xs[xs.length - 1]? = some x ∧ ys = xs.dropLast ∧ Post (f (x, ys)) Q E := by
  unfold popI at h
  rw [List.getLast?_eq_getElem?] at h
  cases e : xs[xs.length - 1]? with
  | none =>
    rw [e] at h
    exact (show False from h).elim
  | some x =>
    rw [e] at h
    exact ⟨x, _, rfl, rfl, h⟩
theorem A2.lastV {α : Type} {r : V → α → Prop} {vs : List V} {xs : List α} {x : α} (h : A2 r vs xs) (e : xs[xs.length - 1]? = some x) : ∃ u, vs[vs.length - 1]? = some u ∧ r u x := by
  rw [h.length]
  exact h.get e
/-! ### in, of a dict of scalars -/
def tDInH (ty td : TE) : TE := fun σ H Q => ty σ H fun y H1 => td σ H1 fun x H2 => ∃ a o b, x = .ref a ∧ DGet H2 a y o ∧ o.isSome = b ∧ Q (.bl b) H2
def tDNotInH (ty td : TE) : TE := fun σ H Q => ty σ H fun y H1 => td σ H1 fun x H2 => ∃ a o b, x = .ref a ∧ DGet H2 a y o ∧ o.isSome = b ∧ Q (.bl (!b)) H2
section
variable {X : Cx} {o i : Expr} {td ty : TE}
theorem pc_dinH (hu : X.A.units + 1 < cLine) (hi : PE X i ty) (ho : PE X o td) : PC X .In i o (tDInH ty td) := by
  refine ⟨fun pins s σ H Q I h => ?_⟩
  refine thn (hi.run pins s σ H _ I h) fun iv s1 ⟨y, H1, I1, ry, q1⟩ => thn (ho.run pins s1 σ H1 _ I1 q1) fun u s2 ⟨x, H2, I2, rx, a, ov, b, ex, g, eb, q2⟩ => ?_
  subst ex
  subst eb
  obtain rfl : u = Value.ref a := rx
  exact d_in hu I2 g ry fun s3 I3 => ⟨.bl ov.isSome, H2, I3, rfl, q2⟩
theorem pc_dnotinH (hu : X.A.units + 1 < cLine) (hi : PE X i ty) (ho : PE X o td) : PC X .NotIn i o (tDNotInH ty td) := by
  refine ⟨fun pins s σ H Q I h => ?_⟩
  refine thn (hi.run pins s σ H _ I h) fun iv s1 ⟨y, H1, I1, ry, q1⟩ => thn (ho.run pins s1 σ H1 _ I1 q1) fun u s2 ⟨x, H2, I2, rx, a, ov, b, ex, g, eb, q2⟩ => ?_
  subst ex
  subst eb
  obtain rfl : u = Value.ref a := rx
  exact d_notIn hu I2 g ry fun s3 I3 => ⟨.bl (!ov.isSome), H2, I3, rfl, q2⟩
end
theorem Room.units1 {k : Nat} {A : Around} (r : Room k A) : A.units + 1 < cLine := by
  have := r.un
  omega
end Z
/-! ZX: an exception caught by its class, held behind the suite as a thing of its own -/
namespace L2
open PySem PySem.Spec PyProof.Rows
/-- a caught exception of the class cls at a -/
def ExH (cls : Value) (a : Addr) : HO := .ext fun h => ∃ (oe : Obj), h.get? a = some oe ∧ Zc cls none oe ∧ ∃ vs, oe.data = .fields vs
theorem exH_ok {P : Program} {w : World} {H : Hp} {h : Heap} {a : Addr} {cls : Value} {oe : Obj} (e : h.get? a = some oe) (z : Zc cls none oe) (d : ∃ vs, oe.data = .fields vs) : ObjOk P w H h a (ExH cls a) :=
  ⟨⟨oe, e, z, d⟩, ⟨oe, e⟩, fun _ _ ⟨o, q, r⟩ k => ⟨o, k o q, r⟩⟩
section
variable {X : Cx} {pins : List (Addr × Obj)} {σ : St} {H : Hp} {s : Shared}
/-- what is pinned, and new since the def began, may be tracked -/
theorem Inv.track {a : Addr} {oe : Obj} {cls : Value} (I : Inv X ((a, oe) :: pins) σ H s) (n0 : X.s_0.heap.get? a = none) (hz : Zc cls none oe) (hd : ∃ vs, oe.data = .fields vs) (hp : ∀ p ∈ X.pn ++ pins, p.1 ≠ a) : Inv X pins σ (upd H a (ExH cls a)) s := by
  obtain ⟨ha, na, nL, nF, _⟩ := I.pin (a, oe) (List.mem_append_right _ List.mem_cons_self)
  dsimp only at ha na nL nF
  have ne0 : ∀ b o, X.s_0.heap.get? b = some o → b ≠ a := fun b o e z => by
    rw [z, n0] at e
    cases e
  refine ⟨I.ok, I.os, I.bare, ⟨I.base.keep, I.base.slot, fun b o e n hq => ?_, I.base.there, fun b xs e => ?_, fun b o u e => ?_, fun b ps e => ?_⟩, I.loc, I.cell, ?_, fun x c e => ?_, fun p hp' => ?_, fun b u e => ?_, I.len⟩
  · rw [upd_ne (ne0 b o e)]
    exact I.base.free b o e n hq
  · have q := I.base.tups b xs e
    rw [upd_ne (ne_of_none q na)]
    exact q
  · have q := I.base.frzs b o u e
    rw [upd_ne (ne_of_none q na)]
    exact q
  · obtain ⟨m, q⟩ := I.base.tbls b ps e
    exact ⟨m, by rw [upd_ne (ne_of_none q na)]; exact q⟩
  · rw [upd_ne (Ne.symm nL)]
    exact I.free
  · have hne : c ≠ a := fun z => by
      obtain ⟨v, o, ho, hc⟩ := I.cell x c e
      rw [z, ha] at ho
      cases ho
      obtain ⟨vs, hd⟩ := hd
      rw [hd] at hc
      cases hc
    rw [upd_ne hne]
    exact I.freeC x c e
  · have hp2 : p ∈ X.pn ++ ((a, oe) :: pins) := by
      rcases List.mem_append.mp hp' with z | z
      · exact List.mem_append_left _ z
      · exact List.mem_append_right _ (List.mem_cons_of_mem _ z)
    obtain ⟨e, n, ne, nf, d⟩ := I.pin p hp2
    exact ⟨e, by rw [upd_ne (hp p hp')]; exact n, ne, nf, d⟩
  · by_cases hb : b = a
    · subst hb
      rw [upd_same] at e
      cases e
      exact exH_ok ha hz hd
    · rw [upd_ne hb] at e
      refine (I.hok b u e).stay (fun c v _ q => q) (fun c q => ?_) fun c xs q => ?_
      · rw [upd_ne (ne_of_none q na)]
        exact q
      · rw [upd_ne (ne_of_none q na)]
        exact q
theorem Inv.unsuiteK {a : Addr} {q : Addr × Obj} {pn' : List (Addr × Obj)} (I : Inv (X.suite a (q :: (X.pn ++ pins))) pn' σ H s) (ok : X.Ok) : Inv X (q :: pins) σ H s :=
  ⟨ok, I.os, I.bare, I.base, I.loc, I.cell, I.free, I.freeC, fun p hp => I.pin p (List.mem_append_left _ (by
    rcases List.mem_append.mp hp with z | z
    · exact List.mem_cons_of_mem _ (List.mem_append_left _ z)
    · rcases List.mem_cons.mp z with z | z
      · rw [z]; exact List.mem_cons_self
      · exact List.mem_cons_of_mem _ (List.mem_append_right _ z))), I.hok, I.len⟩
/-- what the clause 'except x as n' wishes, where the exception is held behind the suite: slot i is n's -/
def wHold (K : PySem.W.Frag) (c : Value) (i : Nat) (ts : Addr → Value → TS) (Wout : WX) (D : Ends) : WX := fun cls d σ H =>
  ∃ b, PySem.W.exmOne K cls c = some b ∧ (b = true → d = none ∧ ∀ a, H a = none → ts a cls { nx := fun σ' H' => H' a = none → D.nx (σ'.set i none) (upd H' a (ExH cls a)), rt := fun _ _ => False, bk := fun _ _ => False, ct := fun _ _ => False } (σ.set i (some (.ref a))) H) ∧
    (b = false → Wout cls d σ H)
variable {x n : Str} {c : Value} {i : Nat} {body suite : List Stmt} {b₀ : Stmt} {np pos pos' : Pos} {tb : WX → TS} {ts : Addr → Value → TS} {Wout : WX}
theorem ps_try_hold (hs : X.stack = X.env :: X.outer) (hf : X.env.frame = some X.env.locals) (hex : X.ex = []) (hN : X.N.Nodup) (hi : X.N[i]? = some n) (hln : X.env.kindOf n = some .local) (hc : Names X x c) (tk : Takes X Wout)
    (hb : ∀ (W : WX) (pn : List (Addr × Obj)) (xe : Value → Shared → Prop), Takes (X.tr pn xe) W → PassesOwn (model X.prog X.w) X.A X.env xe → PSs (X.tr pn xe) body (tb W))
    (hsu : ∀ (a : Addr) (oe : Obj) (cls : Value) (pn : List (Addr × Obj)), PSs (X.suite a ((a, oe) :: pn)) (b₀ :: suite) (ts a cls)) :
    PS X (.Try body [.ExceptHandler (some (.Name x np)) (some n) (b₀ :: suite) pos'] [] [] pos) (fun D σ H => tb (wHold X.K c i ts Wout D) D σ H) := by
  refine ⟨fun pins s σ H D I h => ?_⟩
  have ok := I.ok
  have hfr : X.A.frames = some (X.env :: X.outer) := by rw [ok.frames, hs]
  have hloc : Loc X.env.scope n := .inl hln
  refine wpAny_Try_except ?_
  refine wpAny_mono ((hb (wHold X.K c i ts Wout D) (X.pn ++ pins) (fun e s₁ => wpAny (model X.prog X.w) X.A (noteFrame e X.env) (fun _ s₂ => wpAny (model X.prog X.w) X.A (setFlight e none) (fun _ s₃ =>
    wpAny (model X.prog X.w) X.A (handleBy e X.env [.ExceptHandler (some (.Name x np)) (some n) (b₀ :: suite) pos']) (SP X pins D) X.xe s₃) X.xe s₂) X.xe s₁) (fun u s' xx => ?_) PassesOwn.looking).run [] s σ H D (I.toTry _) h) (fun f s1 hsp => ?_) (fun e s1 he => he)
  · -- the catch
    obtain ⟨a, B, sI, pins', σ', H', cls, d, rfl, J', nb, up, sky, na, os, ag, b, hb1, hyes, hno⟩ := xx
    have J : Inv X pins σ' H' sI := J'.ofTry ok
    have sky' : Sky B (X.env :: X.outer) a (Zc cls d) X.env.locals s'.heap := by rw [← hs]; exact sky
    show wpAny (model X.prog X.w) X.A (noteFrame (.ref a) X.env) _ _ _
    refine Sky.land Zc.steady hfr hf sky' fun h3 fl3 up3 => ?_
    have J3 : Inv X pins σ' H' { s' with heap := h3 } := J.landed nb fl3.1 (up.trans up3) os ag
    obtain ⟨oe3, vs3, he3, hz3, hd3⟩ := fl3.there
    have notFr : ∀ {h : Heap} {o : Obj} {vs : Array Value}, h.FunFrames B (X.env :: X.outer) → h.get? a = some o → o.data = .fields vs → a ∉ frs (X.env :: X.outer) := fun {h o vs} ff e dd hm => by
      obtain ⟨_, o', e', hnf⟩ := ff.mem hm
      rw [e] at e'; cases e'
      exact hnf _ dd
    have nfr := notFr fl3.2.2.1 he3 hd3
    have nL : a ≠ X.env.locals := fun z => nfr (List.mem_filterMap.mpr ⟨X.env, List.mem_cons_self, by rw [hf, z]⟩)
    have nF : a ∉ X.fs := fun hm => by
      obtain ⟨e, he, q⟩ := List.mem_filterMap.mp hm
      exact nfr (List.mem_filterMap.mpr ⟨e, List.mem_cons_of_mem _ he, q⟩)
    have nB : B.get? a = none := fl3.2.1
    have nI : sI.heap.get? a = none := by
      cases e : sI.heap.get? a with
      | none => rfl
      | some o =>
        have z := nb a o e (by rw [hs]; exact nfr)
        rw [nB] at z
        cases z
    have n0 : X.s_0.heap.get? a = none := by
      cases e : X.s_0.heap.get? a with
      | none => rfl
      | some o =>
        obtain ⟨o', z⟩ := J.base.there a o e (by rw [hex]; exact fun z => nomatch z)
        rw [nI] at z
        cases z
    have hpin : ∀ p ∈ X.pn ++ pins, p.1 ≠ a := fun p hp z => by
      have e := (J.pin p hp).1
      rw [z, nI] at e
      cases e
    have S3 := J3.suite he3 hd3 na nL nF
    refine wpAny_handleBy_cons (codeAny_handlers_test ?_) (by intro q; cases q)
    have LT : PySem.W.Looks (model X.prog X.w) h3 (typeOf (.ref a)) cls := fun A Q E s k q => wpAny_typeOf_ref (k _ _ he3) (by rw [hz3.1]; exact q)
    have LM := PySem.W.exm_one (M := model X.prog X.w) (J3.kIn) LT hb1
    have test : ∀ {Q : Value → Shared → Prop} {E : Value → Shared → Prop}, Q c { s' with heap := h3 } → wpAny (model X.prog X.w) (X.A.mark (some (.ref a))) (eval (.Name x np) X.env) Q E { s' with heap := h3 } := fun {Q E} q => by
      obtain ⟨hg, hdbg, hm | ⟨hm, hv, hnn⟩⟩ := hc
      · exact ld_glob (X := X.suite a ((a, oe3) :: (X.pn ++ pins))) S3 hg hm q hdbg
      · exact ld_blt (X := X.suite a ((a, oe3) :: (X.pn ++ pins))) S3 hg hm hv q hnn hdbg
    refine test (LM.here ?_)
    cases b with
    | true =>
      obtain ⟨rfl, hyes2⟩ := hyes rfl
      refine codeAny_handlers_suite_as ?_
      refine HandSPX.lands_againZ fl3 fun h4 fl4 up4 => ?_
      have J4 : Inv X pins σ' H' { s' with heap := h4 } := J.landed nb fl4.1 ((up.trans up3).trans up4) os ag
      obtain ⟨oe4, vs4, he4, hz4, hd4⟩ := fl4.there
      have S4 := J4.suite he4 hd4 na nL nF
      refine store_ok (X := X.suite a ((a, oe4) :: (X.pn ++ pins))) (v := .ref a) S4 hN hi hloc rfl (fun s5 S5 => ?_) (.inr hln)
      refine wpAny_mono ((hsu a oe4 cls (X.pn ++ pins)).run [] s5 _ H' _ S5 (hyes2 a na)) (fun f s6 hsp => ?_) (fun _ _ z => False.elim z)
      cases f with
      | next =>
        obtain ⟨σ6, H6, S6, q6⟩ := hsp
        refine gone_ok (S6.unsuiteK ok) hN hi hln fun s7 J7 => ?_
        have na6 : H6 a = none := (J7.pin (a, oe4) (List.mem_append_right _ List.mem_cons_self)).2.1
        exact ⟨_, _, J7.track n0 hz4 ⟨_, hd4⟩ hpin, q6 na6⟩
      | brk =>
        obtain ⟨σ6, H6, S6, q6⟩ := hsp
        exact q6.elim
      | cont =>
        obtain ⟨σ6, H6, S6, q6⟩ := hsp
        exact q6.elim
      | ret u =>
        obtain ⟨v6, σ6, H6, S6, r6, q6⟩ := hsp
        exact q6.elim
    | false =>
      show wpAny _ X.A (handleBy (.ref a) X.env []) _ _ _
      refine wpAny_handleBy_nil ?_
      obtain ⟨k1, k2, k3, oe, vs, T, oT, ts', he, hz, hd, h1, hr⟩ := id fl3
      unfold PySem.passOn
      refine wpAny_bind (wpAny_field he hd h1 ?_)
      rw [if_neg (show ¬ ((Value.ref T == Value.none) = true) from by simp)]
      have fin : wpAny (model X.prog X.w) X.A (setFlight (.ref a) X.env.frame) (fun _ s4 => wpAny (model X.prog X.w) X.A (throw (.ref a) : Sem Flow) (SP X pins D) X.xe s4) X.xe { s' with heap := h3 } := by
        rw [hf]
        refine HandSPX.setFlight_upZ fl3 fun h4 hh4 up4 => wpAny_throw (tk _ _ ?_)
        exact ⟨a, B, sI, pins, σ', H', cls, d, rfl, J, nb, (up.trans up3).trans up4, .inr (.inr (by rw [hs]; exact hh4)), na, os, ag, hno rfl⟩
      first
        | exact wpAny_bind (wpAny_pure (wpAny_bind fin))
        | exact wpAny_bind fin
  · cases f with
    | next =>
      obtain ⟨σ', H', J', q⟩ := hsp
      exact wpAny_execs_nil ⟨σ', H', J'.ofTry ok, q⟩
    | brk =>
      obtain ⟨σ', H', J', q⟩ := hsp
      exact ⟨σ', H', J'.ofTry ok, q⟩
    | cont =>
      obtain ⟨σ', H', J', q⟩ := hsp
      exact ⟨σ', H', J'.ofTry ok, q⟩
    | ret u =>
      obtain ⟨v, σ', H', J', r, q⟩ := hsp
      exact ⟨v, σ', H', J'.ofTry ok, r, q⟩
/-- isinstance(e, c) of a held exception e: c one class, or a tuple of classes -/
def rIsH (K : PySem.W.Frag) (D : Addr) : List V → Hp → VK → Prop := fun xs H Q => ∃ (a : Addr) (c : V) (b : Bool), xs = [.ref a, c] ∧ H a = some (ExH (.ref D) a) ∧
  ((∃ cv, (∀ u, RelV c u → u = cv) ∧ PySem.W.kitOne K (.ref D) cv = some b) ∨ (∃ p vs its, c = .ref p ∧ H p = some (.tup vs) ∧ (∀ us, Vals vs us → us = its) ∧ PySem.W.kitAny K (.ref D) its = some b)) ∧ Q (.bl b) H
theorem call_isH {D : Addr} (C : ExcC X.K D) : CallR X (.builtin "isinstance") (rIsH X.K D) := by
  intro pins s σ H xs us Q I r h
  obtain ⟨a, c, b, rfl, hH, hc, q⟩ := h
  cases r with
  | cons rx rr =>
    cases rr with
    | cons rt rr =>
      cases rr
      cases rx
      obtain ⟨⟨oe, hget, ⟨h1, h2⟩, vs, hv⟩, _, _⟩ := I.hok a _ hH
      have J : PySem.W.InstAt s.heap a oe D none := by
        obtain ⟨oc, od, oda, osl⟩ := oe
        dsimp only at h1 h2 hv
        subst h1 h2 hv
        exact ⟨hget, rfl, rfl, trivial⟩
      have fin : ∀ tk, EP X pins σ Q (.bool b) { s with toks := tk } := fun tk => ⟨.bl b, H, I.kept (t' := tk) fun _ _ z => z, rfl, q⟩
      rcases hc with ⟨cv, hcv, e⟩ | ⟨p, vs, its, rfl, hp, hu, e⟩
      · have ec := hcv _ rt
        subst ec
        exact PySem.W.kia_one (PySem.W.handS_kitx_exc C.hg C.hk C.hs C.hd C.ha C.hn C.ht C.hm) I.kIn J e (fun z => nomatch z) fin
      · cases rt
        obtain ⟨_, its', r', ob, ho, hob1, n, hob2⟩ := I.hok p _ hp
        have := hu _ r'
        subst this
        obtain ⟨oc, od, oda, osl⟩ := ob
        dsimp only at hob1 hob2
        subst hob1 hob2
        exact PySem.W.kia_tup (PySem.W.handS_kitx_exc C.hg C.hk C.hs C.hd C.ha C.hn C.ht C.hm) I.kIn J ho e (fun z => nomatch z) fin
/-- isinstance(e, c) of a handled exception, in its suite -/
def rIsEX (K : PySem.W.Frag) (cls : Value) (d : Option Addr) (a : Addr) : List V → Hp → VK → Prop := fun xs H Q => ∃ D, cls = .ref D ∧ d = none ∧ ExcC K D ∧ ∃ (c : V) (cv : Value) (b : Bool), xs = [.ref a, c] ∧ (∀ u, RelV c u → u = cv) ∧ PySem.W.kitOne K (.ref D) cv = some b ∧ Q (.bl b) H
theorem call_isEX {K : PySem.W.Frag} {a : Addr} {cls : Value} {d : Option Addr} {oe : Obj} {pn : List (Addr × Obj)} (hK : X.K = K) (hz : Zc cls d oe) (hf : ∃ vs, oe.data = .fields vs) : CallR (X.suite a ((a, oe) :: pn)) (.builtin "isinstance") (rIsEX K cls d a) := by
  subst hK
  intro pins s σ H xs us Q I r ⟨D, e1, e2, C, h⟩
  subst e1 e2
  exact call_isE C hz hf pins s σ H xs us Q I r h
theorem call_isH' : CallR X (.builtin "isinstance") (fun xs H Q => ∃ D, ExcC X.K D ∧ rIsH X.K D xs H Q) := fun pins s σ H xs us Q I r ⟨_, C, h⟩ => call_isH C pins s σ H xs us Q I r h
theorem call_isHK {K : PySem.W.Frag} (hK : X.K = K) : CallR X (.builtin "isinstance") (fun xs H Q => ∃ D, ExcC K D ∧ rIsH K D xs H Q) := by
  subst hK
  exact call_isH'
end
end L2
namespace Z
open PySem L2
open Rep (rep)
/-- the class that a name of the text names -/
def Nm (K : Fg) (x : Str) (C : Addr) : Prop := PySem.W.nsIn K mainGlobals x = some (some (.ref C))
theorem Nm.uniq {K : Fg} {x : Str} {C D : Addr} (a : Nm K x C) (b : Nm K x D) : C = D := by
  have h := a.symm.trans b
  injection h with h
  injection h with h
  injection h
instance repExn : Rep Exn := ⟨fun K F v e => ∃ a C, v = .ref a ∧ Nm K e.cls C ∧ F a = some (ExH (.ref C) a), fun s ⟨a, C, h, n, q⟩ => ⟨a, C, h, n, s _ _ q⟩⟩
/-- what a call that lets an error out leaves -/
def RetX (K : Fg) (F : Hp) (os : List (Addr × HO)) (E : XK) : Exn → Prop := fun e => ∀ C F' H', Nm K e.cls C → W F' H' os → Same F F' → E (.ref C) none H'
/-- all that the body lets out is caught -/
def tryR {α : Type} (names : List Str) (b : R α) : R (Option Exn) := match b with
  | .ok _ => .ok none
  | .exc e => if e.cls ∈ names then .ok (some e) else .bad
  | .bad => .bad
/-- .. with a suite -/
def tryWith {α : Type} (names : List Str) (b : R α) (h : Exn → R α) : R α := match b with
  | .ok x => .ok x
  | .exc e => if e.cls ∈ names then h e else .bad
  | .bad => .bad
theorem post_tryWith {α : Type} {names : List Str} {b : R α} {h : Exn → R α} {P : α → Prop} {X : Exn → Prop} (q : Post (tryWith names b h) P X) : Post b P (fun e => e.cls ∈ names ∧ Post (h e) P X) := by
  cases b with
  | ok a => exact q
  | exc e =>
    have q' : Post (if e.cls ∈ names then h e else R.bad) P X := q
    by_cases c : e.cls ∈ names
    · rw [if_pos c] at q'
      exact ⟨c, q'⟩
    · rw [if_neg c] at q'
      exact (show False from q').elim
  | bad => exact q
theorem post_try {α : Type} {names : List Str} {b : R α} {P : Option Exn → Prop} {X : Exn → Prop} (h : Post (tryR names b) P X) : Post b (fun _ => P none) (fun e => e.cls ∈ names ∧ P (some e)) := by
  cases b with
  | ok a => exact h
  | exc e =>
    have h' : Post (if e.cls ∈ names then R.ok (some e) else R.bad) P X := h
    by_cases c : e.cls ∈ names
    · rw [if_pos c] at h'
      exact ⟨c, h'⟩
    · rw [if_neg c] at h'
      exact (show False from h').elim
  | bad => exact h
/-- isinstance of a caught error: tn, the names under the classes asked -/
def isC (names tn : List Str) (e : Exn) : R Bool := if e.cls ∈ names then .ok (decide (e.cls ∈ tn)) else .bad
theorem pb_isC {δ : Type} {names tn : List Str} {e : Exn} {f : Bool → R δ} {P : δ → Prop} {X : Exn → Prop} (h : Post (isC names tn e >>= f) P X) : e.cls ∈ names ∧ Post (f (decide (e.cls ∈ tn))) P X := by
  unfold isC at h
  by_cases c : e.cls ∈ names
  · rw [if_pos c] at h
    exact ⟨c, h⟩
  · rw [if_neg c] at h
    exact (show False from h).elim
def raiseR {α : Type} (x : Str) : R α := .exc ⟨x, 0⟩
/-- a call that lets no error out -/
def nx {α : Type} (m : R α) : R α := match m with
  | .ok a => .ok a
  | .exc _ => .bad
  | .bad => .bad
theorem post_nx {α δ : Type} {m : R α} {k : α → R δ} {P : δ → Prop} {X : Exn → Prop} (h : Post (nx m >>= k) P X) : Post m (fun a => Post (k a) P X) noX := by
  cases m with
  | ok a => exact h
  | exc e => exact (show False from h).elim
  | bad => exact (show False from h).elim
theorem kit_ref {K : Fg} {x y : Addr} {b : Bool} (h1 : PySem.W.isClsIn K y = true) (h2 : PySem.W.typeIn K (.ref y) = some (.type "type")) (h3 : PySem.W.subIn K (.ref x) (.ref y) = some b) (h4 : b = true ∨ (Value.ref x == Value.ref y) = false) : PySem.W.kitOne K (.ref x) (.ref y) = some b := by
  have e : PySem.W.kitCls K (.ref x) (.ref y) = some b := by
    have h1' : (PySem.W.clsIn K y).isSome = true := h1
    have e2 : ((PySem.W.clsIn K y).isSome && PySem.W.typeIn K (.ref y) == some (.type "type")) = true := by rw [h1', h2] <;> rfl
    show (if ((PySem.W.clsIn K y).isSome && PySem.W.typeIn K (.ref y) == some (.type "type")) = true then PySem.W.subIn K (.ref x) (.ref y) else none) = some b
    rw [if_pos e2]
    exact h3
  unfold PySem.W.kitOne
  rcases h4 with rfl | h4
  · rw [e]
    split <;> rfl
  · rw [h4, if_neg (by decide)]
    exact e
theorem kit_ty {K : Fg} {x : Addr} {T : String} {b : Bool} (h1 : PySem.W.kitMeta T = true) (h3 : PySem.W.subIn K (.ref x) (.type T) = some b) : PySem.W.kitOne K (.ref x) (.type T) = some b := by
  have e : PySem.W.kitCls K (.ref x) (.type T) = some b := by
    show (if PySem.W.kitMeta T = true then PySem.W.subIn K (.ref x) (.type T) else none) = some b
    rw [if_pos h1]
    exact h3
  unfold PySem.W.kitOne
  have h4 : (Value.ref x == Value.type T) = false := rfl
  rw [h4, if_neg (by decide)]
  exact e
/-- what is known of an own error class -/
structure XC (K : Fg) (mg : Str → Option Value) (x : Str) (C : Addr) : Prop where
  ns : Nm K x C
  gm : mg x = some (.ref C)
  xc : PySem.W.excIn K C [.type "ValueError", .type "Exception", .type "BaseException", .type "object"] "ValueError.__new__" = true
  kp : PySem.W.keepIn K (.ref C) = true
  b : PySem.W.subIn K (.ref C) (.type "BaseException") = some true
  t : PySem.W.typeIn K (.ref C) = some (.type "type")
  ex : ExcC K C
end Z
/-! Z5: regions: lists of one's own by their number in a store -/
namespace Z
open PySem L2
open Rep (rep)
/-! ### two lists, item by item -/
inductive F2 {α β : Type} (r : α → β → Prop) : List α → List β → Prop
  | nil : F2 r [] []
  | cons {a : α} {b : β} {as : List α} {bs : List β} : r a b → F2 r as bs → F2 r (a :: as) (b :: bs)
section
variable {α β : Type} {r r' : α → β → Prop} {as : List α} {bs : List β}
theorem F2.length : ∀ {as : List α} {bs : List β}, F2 r as bs → as.length = bs.length
  | _, _, .nil => rfl
  | _, _, .cons _ t => by rw [List.length_cons, List.length_cons, F2.length t]
theorem F2.imp (f : ∀ a b, r a b → r' a b) : ∀ {as : List α} {bs : List β}, F2 r as bs → F2 r' as bs
  | _, _, .nil => .nil
  | _, _, .cons h t => .cons (f _ _ h) (F2.imp f t)
theorem F2.get : ∀ {as : List α} {bs : List β} {i : Nat} {b : β}, F2 r as bs → bs[i]? = some b → ∃ a, as[i]? = some a ∧ r a b
  | _, _, _, _, .nil, e => by simp at e
  | _, _, 0, _, .cons h _, e => by simp at e; subst e; exact ⟨_, rfl, h⟩
  | _, _, i + 1, b, .cons _ t, e => by
    obtain ⟨v, h1, h2⟩ := F2.get (i := i) (b := b) t (by simpa using e)
    exact ⟨v, by simpa using h1, h2⟩
theorem F2.set {a : α} {b : β} (h : r a b) : ∀ {as : List α} {bs : List β} (i : Nat), F2 r as bs → F2 r (as.set i a) (bs.set i b)
  | _, _, _, .nil => .nil
  | _, _, 0, .cons _ t => .cons h t
  | _, _, i + 1, .cons q t => .cons q (F2.set h i t)
theorem F2.append : ∀ {as as' : List α} {bs bs' : List β}, F2 r as bs → F2 r as' bs' → F2 r (as ++ as') (bs ++ bs')
  | _, _, _, _, .nil, h => h
  | _, _, _, _, .cons a t, h => .cons a (F2.append t h)
theorem F2.snoc {a : α} {b : β} (h : F2 r as bs) (q : r a b) : F2 r (as ++ [a]) (bs ++ [b]) := h.append (.cons q .nil)
end
/-! ### a store's lists: cells -/
def nz : List Addr → List (List V) → List (Addr × HO)
  | a :: as, vs :: vss => (a, .lst vs) :: nz as vss
  | _, _ => []
theorem nz_split : ∀ {as : List Addr} {vss : List (List V)} {j : Nat} {a : Addr} {vs : List V}, as[j]? = some a → vss[j]? = some vs →
    ∃ x y, nz as vss = x ++ (a, .lst vs) :: y ∧ ∀ us, nz as (vss.set j us) = x ++ (a, .lst us) :: y
  | [], _, j, _, _, h, _ => by simp at h
  | _ :: _, [], j, _, _, _, h => by simp at h
  | b :: as, ws :: vss, 0, a, vs, h1, h2 => by
    simp at h1 h2
    subst h1 h2
    exact ⟨[], nz as vss, rfl, fun _ => rfl⟩
  | b :: as, ws :: vss, j + 1, a, vs, h1, h2 => by
    obtain ⟨x, y, e1, e2⟩ := nz_split (as := as) (vss := vss) (j := j) (a := a) (vs := vs) (by simpa using h1) (by simpa using h2)
    exact ⟨(b, .lst ws) :: x, y, by show (b, HO.lst ws) :: nz as vss = _; rw [e1]; rfl, fun us => by show (b, HO.lst ws) :: nz as (vss.set j us) = _; rw [e2]; rfl⟩
theorem nz_snoc : ∀ {as : List Addr} {vss : List (List V)} {a : Addr} {vs : List V}, as.length = vss.length → nz (as ++ [a]) (vss ++ [vs]) = nz as vss ++ [(a, .lst vs)]
  | [], [], _, _, _ => rfl
  | [], _ :: _, _, _, h => by simp at h
  | _ :: _, [], _, _, h => by simp at h
  | b :: as, ws :: vss, a, vs, h => by
    show (b, HO.lst ws) :: nz (as ++ [a]) (vss ++ [vs]) = (b, HO.lst ws) :: (nz as vss ++ [(a, .lst vs)])
    rw [nz_snoc (by simpa using h)]
section
variable {F H : Hp} {os os' pre post : List (Addr × HO)} {a p : Addr} {o : HO} {as : List Addr} {vss : List (List V)} {j : Nat} {vs : List V}
theorem W.perm (h : os.Perm os') (w : W F H os) : W F H os' where
  same := w.same
  own := fun q hq => w.own q (h.mem_iff.mpr hq)
  nd := h.pairwise_iff (fun e q => e q.symm) |>.mp w.nd
  nt := fun q hq => w.nt q (h.mem_iff.mpr hq)
/-- the j-th list of a store -/
theorem W.nget (w : W F H (pre ++ (nz as vss ++ post))) (h1 : as[j]? = some a) (h2 : vss[j]? = some vs) : H a = some (.lst vs) := by
  obtain ⟨x, y, e, _⟩ := nz_split h1 h2
  rw [e] at w
  exact (w.own (a, .lst vs) (by simp)).1
theorem W.nset (w : W F H (pre ++ (nz as vss ++ post))) (us : List V) (h1 : as[j]? = some a) (h2 : vss[j]? = some vs) : W F (upd H a (.lst us)) (pre ++ (nz as (vss.set j us) ++ post)) := by
  obtain ⟨x, y, e, e2⟩ := nz_split h1 h2
  rw [e] at w
  rw [e2]
  have w' : W F H ((pre ++ x) ++ (a, .lst vs) :: (y ++ post)) := by
    have e3 : pre ++ (x ++ (a, HO.lst vs) :: y ++ post) = (pre ++ x) ++ (a, HO.lst vs) :: (y ++ post) := by simp
    rw [← e3]
    exact w
  have w2 := w'.set (o' := .lst us)
  have e3 : pre ++ (x ++ (a, HO.lst us) :: y ++ post) = (pre ++ x) ++ (a, HO.lst us) :: (y ++ post) := by simp
  rw [e3]
  exact w2
/-- a cell goes into a store -/
theorem W.nadd (w : W F H ((p, .lst vs) :: (pre ++ (nz as vss ++ post)))) (hl : as.length = vss.length) : W F H (pre ++ (nz (as ++ [p]) (vss ++ [vs]) ++ post)) := by
  rw [nz_snoc hl]
  refine w.perm ?_
  have e : pre ++ (nz as vss ++ [(p, HO.lst vs)] ++ post) = (pre ++ nz as vss) ++ (p, HO.lst vs) :: post := by simp
  have e2 : (p, HO.lst vs) :: (pre ++ (nz as vss ++ post)) = (p, HO.lst vs) :: ((pre ++ nz as vss) ++ post) := by simp
  rw [e, e2]
  exact List.perm_middle.symm
theorem W.dropL (w : W F H (pre ++ (os ++ post))) : W F H (pre ++ post) where
  same := w.same
  own := fun q hq => w.own q (by
    rcases List.mem_append.mp hq with h | h
    · exact List.mem_append_left _ h
    · exact List.mem_append_right _ (List.mem_append_right _ h))
  nd := by
    have nd := w.nd
    rw [List.pairwise_append] at nd ⊢
    obtain ⟨n1, n2, n3⟩ := nd
    rw [List.pairwise_append] at n2
    exact ⟨n1, n2.2.1, fun x hx y hy => n3 x hx y (List.mem_append_right _ hy)⟩
  nt := fun q hq => w.nt q (by
    rcases List.mem_append.mp hq with h | h
    · exact List.mem_append_left _ h
    · exact List.mem_append_right _ (List.mem_append_right _ h))
/-- the j-th list of a store, taken out as a cell; the others forgotten -/
theorem W.ntake (w : W F H (pre ++ (nz as vss ++ post))) (h1 : as[j]? = some a) (h2 : vss[j]? = some vs) : W F H ((a, .lst vs) :: (pre ++ post)) := by
  obtain ⟨x, y, e, _⟩ := nz_split h1 h2
  rw [e] at w
  have w' : W F H ((pre ++ x) ++ (a, .lst vs) :: (y ++ post)) := by
    have e3 : pre ++ (x ++ (a, HO.lst vs) :: y ++ post) = (pre ++ x) ++ (a, HO.lst vs) :: (y ++ post) := by simp
    rw [← e3]
    exact w
  have w2 := w'.front
  have e4 : (a, HO.lst vs) :: (pre ++ x ++ (y ++ post)) = ((a, HO.lst vs) :: pre) ++ ((x ++ y) ++ post) := by simp
  rw [e4] at w2
  exact w2.dropL
/-- a whole store is never written again -/
theorem W.nfreeze : ∀ {as : List Addr} {vss : List (List V)} {F : Hp}, W F H (pre ++ (nz as vss ++ post)) → ∃ F', Same F F' ∧ W F' H (pre ++ post) ∧ ∀ (j : Nat) (a : Addr) (vs : List V), as[j]? = some a → vss[j]? = some vs → F' a = some (.lst vs)
  | [], _, F, w => ⟨F, Same.refl _, w, fun j a vs h => by simp at h⟩
  | _ :: _, [], F, w => ⟨F, Same.refl _, w, fun j a vs _ h => by simp at h⟩
  | b :: as, ws :: vss, F, w => by
    have w' : W F H (pre ++ (b, .lst ws) :: (nz as vss ++ post)) := w
    obtain ⟨F1, s1, w1, q1⟩ := w'.freezeE
    obtain ⟨F2, s2, w2, q2⟩ := W.nfreeze (as := as) (vss := vss) w1
    refine ⟨F2, s1.trans s2, w2, fun j a vs h1 h2 => ?_⟩
    cases j with
    | zero =>
      simp at h1 h2
      subst h1 h2
      exact s2 _ _ q1
    | succ j => exact q2 j a vs (by simpa using h1) (by simpa using h2)
end
/-! ### what stands in a store -/
section
variable {α β δ : Type} [Rep α] [Rep β] {K : Fg} {F F' H : Hp} {as as' : List Addr} {vss : List (List V)} {st : List (List α)}
structure Sto (K : Fg) (F : Hp) (as : List Addr) (vss : List (List V)) (st : List (List α)) : Prop where
  len : as.length = vss.length
  all : F2 (A2 (rep K F)) vss st
theorem Sto.nil : Sto K F [] [] ([] : List (List α)) := ⟨rfl, .nil⟩
theorem Sto.mono (s : Same F F') (h : Sto K F as vss st) : Sto K F' as vss st := ⟨h.len, h.all.imp fun _ _ q => q.mono s⟩
theorem Sto.len2 (h : Sto K F as vss st) : as.length = st.length := h.len.trans h.all.length
theorem Sto.get {j : Nat} {xs : List α} (h : Sto K F as vss st) (e : st[j]? = some xs) : ∃ a vs, as[j]? = some a ∧ vss[j]? = some vs ∧ A2 (rep K F) vs xs := by
  obtain ⟨vs, h1, h2⟩ := h.all.get e
  have hj := (List.getElem?_eq_some_iff.mp e).1
  rw [← h.len2] at hj
  exact ⟨as[j], vs, List.getElem?_eq_getElem hj, h1, h2⟩
theorem Sto.set {j : Nat} {vs : List V} {xs : List α} (h : Sto K F as vss st) (q : A2 (rep K F) vs xs) : Sto K F as (vss.set j vs) (st.set j xs) := ⟨by rw [List.length_set]; exact h.len, h.all.set q j⟩
theorem Sto.snoc {p : Addr} {vs : List V} {xs : List α} (h : Sto K F as vss st) (q : A2 (rep K F) vs xs) : Sto K F (as ++ [p]) (vss ++ [vs]) (st ++ [xs]) := ⟨by simp [h.len], h.all.snoc q⟩
/-- a number in a store -/
abbrev Ix := Nat
def RX (as : List Addr) (v : V) (j : Ix) : Prop := ∃ a, v = .ref a ∧ as[j]? = some a
theorem RX.mono (h : as <+: as') {v : V} {j : Ix} (q : RX as v j) : RX as' v j := by
  obtain ⟨a, e, q⟩ := q
  obtain ⟨t, rfl⟩ := h
  refine ⟨a, e, ?_⟩
  rw [List.getElem?_append_left (List.getElem?_eq_some_iff.mp q).1]
  exact q
theorem RX.new (h : as.length = n) {p : Addr} : RX (as ++ [p]) (.ref p) n := ⟨p, rfl, by rw [List.getElem?_append_right (by omega), ← h]; simp⟩
theorem IQ.mono (h : as <+: as') {a : Addr} {j : Nat} (q : as[j]? = some a) : as'[j]? = some a := by
  obtain ⟨t, rfl⟩ := h
  rw [List.getElem?_append_left (List.getElem?_eq_some_iff.mp q).1]
  exact q
theorem IQ.new {n : Nat} (h : as.length = n) {p : Addr} : (as ++ [p])[n]? = some p := by
  rw [List.getElem?_append_right (by omega), ← h]
  simp
theorem pfx_trans {as2 : List Addr} (h : as <+: as') (h' : as' <+: as2) : as <+: as2 := h.trans h'
theorem Sto.getq {j : Nat} {xs : List α} {a : Addr} (h : Sto K F as vss st) (e : st[j]? = some xs) (q : as[j]? = some a) : ∃ vs, vss[j]? = some vs ∧ A2 (rep K F) vs xs := h.all.get e
theorem pfx_refl : as <+: as := List.prefix_refl _
theorem pfx_snoc {p : Addr} : as <+: as ++ [p] := List.prefix_append _ _
/-- the list of a number -/
def getS (st : List (List α)) (j : Ix) : R (List α) := ofO st[j]?
theorem pb_getS {st : List (List α)} {j : Ix} {f : List α → R δ} {P : δ → Prop} {E : Exn → Prop} (h : Post (getS st j >>= f) P E) : ∃ xs, st[j]? = some xs ∧ Post (f xs) P E := pb_ofO h
/-- .. another list in its place -/
def setS (st : List (List α)) (j : Ix) (ys : List α) : R (List (List α)) := .ok (st.set j ys)
theorem pn_setS {st : List (List α)} {j : Ix} {ys : List α} {f : List (List α) → R δ} {P : δ → Prop} {E : Exn → Prop} (h : Post (setS st j ys >>= f) P E) : ∃ st', st' = st.set j ys ∧ Post (f st') P E := ⟨_, rfl, h⟩
/-- .. a new one -/
def newS (st : List (List α)) (ys : List α) : R (Ix × List (List α)) := .ok (st.length, st ++ [ys])
theorem pn_newS {st : List (List α)} {ys : List α} {f : Ix × List (List α) → R δ} {P : δ → Prop} {E : Exn → Prop} (h : Post (newS st ys >>= f) P E) : ∃ j st', j = st.length ∧ st' = st ++ [ys] ∧ Post (f (j, st')) P E := ⟨_, _, rfl, rfl, h⟩
/-- lists by their numbers -/
def deref (st : List (List α)) (js : List Ix) : R (List (List α)) := mapR (getS st) js
theorem deref_rep {vs : List V} {js : List Ix} {xss : List (List α)} (h : Sto K F as vss st) (hf : ∀ (j : Nat) (a : Addr) (vs : List V), as[j]? = some a → vss[j]? = some vs → F' a = some (.lst vs)) (s : Same F F')
    (hv : A2 (RX as) vs js) (e : deref st js = R.ok xss) : A2 (rep K F') vs xss := by
  induction hv generalizing xss with
  | nil =>
    cases e
    exact .nil
  | cons a b ih =>
    obtain ⟨ad, rfl, h1⟩ := a
    obtain ⟨ys, e1, e⟩ := bind_ok_iff.mp e
    obtain ⟨yss, e2, e⟩ := bind_ok_iff.mp e
    cases e
    rename_i j js' _ _
    unfold getS at e1
    cases q : st[j]? with
    | none => rw [q] at e1; cases e1
    | some zs =>
      rw [q] at e1
      cases e1
      obtain ⟨a', ws, h2, h3, h4⟩ := h.get q
      rw [h1] at h2
      cases h2
      exact .cons ⟨ad, ws, rfl, hf _ _ _ h1 h3, h4.mono s⟩ (ih e2)
theorem pb_deref {js : List Ix} {f : List (List α) → R δ} {P : δ → Prop} {E : Exn → Prop} (h : Post (deref st js >>= f) P E) : ∃ xss, deref st js = R.ok xss ∧ Post (f xss) P E := by
  cases e : deref st js with
  | ok xss =>
    rw [e] at h
    exact ⟨xss, rfl, h⟩
  | exc x =>
    exfalso
    clear h
    unfold deref at e
    induction js with
    | nil => cases e
    | cons j js ih =>
      have e' : (getS st j >>= fun y => mapR (getS st) js >>= fun ys => R.ok (y :: ys)) = R.exc x := e
      unfold getS at e'
      cases q : st[j]? with
      | none => rw [q] at e'; cases e'
      | some z =>
        rw [q] at e'
        have e2 : (mapR (getS st) js >>= fun ys => R.ok (z :: ys)) = R.exc x := e'
        cases q2 : mapR (getS st) js with
        | ok y => rw [q2] at e2; cases e2
        | exc y => rw [q2] at e2; cases e2; exact ih q2
        | bad => rw [q2] at e2; cases e2
  | bad =>
    rw [e] at h
    exact (show False from h).elim
end
section
variable {F H : Hp} {os os' pre post x : List (Addr × HO)} {a p : Addr} {o : HO} {as : List Addr} {vss : List (List V)} {j : Nat} {vs : List V}
/-! the second store -/
theorem W.as2 : pre ++ (x ++ (os ++ post)) = (pre ++ x) ++ (os ++ post) := by simp
theorem W.nget2 (w : W F H (pre ++ (x ++ (nz as vss ++ post)))) (h1 : as[j]? = some a) (h2 : vss[j]? = some vs) : H a = some (.lst vs) := (W.as2 ▸ w : W F H ((pre ++ x) ++ (nz as vss ++ post))).nget h1 h2
theorem W.nset2 (w : W F H (pre ++ (x ++ (nz as vss ++ post)))) (us : List V) (h1 : as[j]? = some a) (h2 : vss[j]? = some vs) : W F (upd H a (.lst us)) (pre ++ (x ++ (nz as (vss.set j us) ++ post))) := by
  rw [W.as2] at w ⊢
  exact w.nset us h1 h2
theorem W.nadd2 (w : W F H ((p, .lst vs) :: (pre ++ (x ++ (nz as vss ++ post))))) (hl : as.length = vss.length) : W F H (pre ++ (x ++ (nz (as ++ [p]) (vss ++ [vs]) ++ post))) := by
  rw [W.as2] at w ⊢
  exact w.nadd hl
theorem W.dropL0 (w : W F H (nz as vss ++ post)) : W F H post := W.dropL (pre := []) (os := nz as vss) w
theorem W.dropL2 (w : W F H (pre ++ (x ++ (os ++ post)))) : W F H (pre ++ (x ++ post)) := by
  rw [W.as2] at w
  have h := w.dropL
  rw [List.append_assoc] at h
  exact h
theorem W.nfreeze2 (w : W F H (pre ++ (x ++ (nz as vss ++ post)))) : ∃ F', Same F F' ∧ W F' H (pre ++ (x ++ post)) ∧ ∀ (j : Nat) (a : Addr) (vs : List V), as[j]? = some a → vss[j]? = some vs → F' a = some (.lst vs) := by
  rw [W.as2] at w
  obtain ⟨F', s, w', h⟩ := w.nfreeze
  rw [List.append_assoc] at w'
  exact ⟨F', s, w', h⟩
theorem W.ntake2 (w : W F H (pre ++ (x ++ (nz as vss ++ post)))) (h1 : as[j]? = some a) (h2 : vss[j]? = some vs) : W F H ((a, .lst vs) :: (pre ++ (x ++ post))) := by
  rw [W.as2] at w
  have h := w.ntake h1 h2
  rw [List.append_assoc] at h
  exact h
end
section
variable {K : Fg} {F : Hp} {a : Addr} {β : Type} {vs : List V} {xs : List β} {r : V → β → Prop}
theorem tw_listR (h : A2 r vs xs) : TW (Itl K a) xs (fun H => SqL K H a vs) (fun b H x H' => H' = H ∧ r x b) := ⟨by
  rw [← h.length]
  exact walk_list.mono (fun _ g => g) fun i H x H' _ _ y => by
    obtain ⟨y1, y2⟩ := y
    obtain ⟨b, h1, h2⟩ := h.getV y2
    exact ⟨b, h1, y1, h2⟩⟩
end
section
variable {F H : Hp} {os pre post x : List (Addr × HO)} {q : Addr × HO} {as : List Addr} {vss : List (List V)}
/-- a store behind the cells -/
theorem W.nback (w : W F H (q :: (nz as vss ++ (pre ++ post)))) : W F H (q :: (pre ++ (nz as vss ++ post))) := by
  refine w.perm (List.Perm.cons _ ?_)
  rw [← List.append_assoc, ← List.append_assoc]
  exact List.perm_append_comm.append_right _
variable {α : Type} [Rep α] {K : Fg} {a : Addr} {us : List V} {js : List Ix} {st xss : List (List α)}
theorem rl_all (s : Same F H) (hf : ∀ (j : Nat) (a : Addr) (vs : List V), as[j]? = some a → vss[j]? = some vs → H a = some (.lst vs)) (h : Sto K F as vss st) (hv : A2 (RX as) us js) (e : deref st js = R.ok xss) : A2 (rep K H) us xss := deref_rep h hf s hv e
theorem W.rl (w : W F H (pre ++ (nz as vss ++ post))) (qa : H a = some (.lst us)) (h : Sto K F as vss st) (hv : A2 (RX as) us js) (e : deref st js = R.ok xss) : rep K H (.ref a) xss :=
  ⟨a, us, rfl, qa, rl_all w.same (fun _ _ _ h1 h2 => w.nget h1 h2) h hv e⟩
theorem W.rl2 (w : W F H (pre ++ (x ++ (nz as vss ++ post)))) (qa : H a = some (.lst us)) (h : Sto K F as vss st) (hv : A2 (RX as) us js) (e : deref st js = R.ok xss) : rep K H (.ref a) xss :=
  ⟨a, us, rfl, qa, rl_all w.same (fun _ _ _ h1 h2 => w.nget2 h1 h2) h hv e⟩
end
/-! ### comprehensions, what is made told by the state -/
section
variable {J : It} {β γ δ ε : Type} {items : List β} {G : Hp → Prop} {Y : β → Hp → V → Hp → Prop} {g : TG} {tt : TT} {te : TE} {P : ε → Prop} {X : Exn → Prop} {K : Fg} {vs : List Nat} {σ : St} {F H1 : Hp} {os : List (Addr × HO)} {D : Addr} {Qd : Hp → Prop}
theorem lcG (tw : TW J items G Y) {f : γ → β → R (Option δ × γ)} {s0 : γ} {k : List δ × γ → R ε} (hm : Post (filStG f s0 items >>= k) P X) (O : γ → Hp → List (Addr × HO) → List V → List δ → Prop) (w : W F H1 os) (o0 : O s0 F os [] []) (nD : H1 D = none)
    (hl : ∀ c F' os' us ys, O c F' os' us ys → us.length = ys.length)
    (hG : ∀ c F' H' os' acc ys, Same F F' → W F' H' ((D, .lst acc) :: os') → O c F' os' acc ys → G H')
    (hs : ∀ (b : β) (c : γ) (x : V) (F' H' H'' : Hp) (os' : List (Addr × HO)) (acc : List V) (ys : List δ) (N : V → Hp → Prop) (N0 : Hp → Prop) (P' : Option δ × γ → Prop), Same F F' → W F' H' ((D, .lst acc) :: os') → O c F' os' acc ys → Y b H' x H'' →
      (∀ d c', P' (some d, c') → ∀ y F'' H'' os'', W F'' H'' ((D, .lst acc) :: os'') → Same F' F'' → O c' F'' os'' (acc ++ [y]) (ys ++ [d]) → N y H'') →
      (∀ c', P' (none, c') → ∀ F'' H'' os'', W F'' H'' ((D, .lst acc) :: os'') → Same F' F'' → O c' F'' os'' acc ys → N0 H'') → Post (f c b) P' X →
      g x (wipe σ vs) H'' fun σ2 H2 => wipe σ2 vs = wipe σ vs ∧ tt σ2 H2 fun b H3 => if b = true then te σ2 H3 N else N0 H3)
    (hd : ∀ c us F' H' os' ys, Same F F' → W F' H' ((D, .lst us) :: os') → O c F' os' us ys → Post (k (ys, c)) P X → Qd H') : LcAsk J g tt te vs σ H1 D Qd := by
  obtain ⟨hlen, hm⟩ := pb_grd (pb_assoc hm)
  have hlen : items.length < sizeLine := Nat.lt_of_lt_of_le (of_decide_eq_true hlen) line5
  refine lc_it tw.walk (fun i H => ∃ c F' os' us ys, i ≤ items.length ∧ Same F F' ∧ W F' H ((D, .lst us) :: os') ∧ O c F' os' us ys ∧ ys.length ≤ i ∧ Post (filSt f c (items.drop i) >>= fun q => k (ys ++ q.1, q.2)) P X) ?_ ?_ ?_ ?_
  · exact ⟨s0, F, os, [], [], Nat.zero_le _, Same.refl _, w.new nD, o0, Nat.le_refl _, hm⟩
  · rintro i H _ ⟨c, F', os', us, ys, _, s, w', o, _⟩
    exact hG c F' H os' us ys s w' o
  · rintro i x H H' hi ⟨c, F', os', us, ys, _, s, w', o, hl2, hm⟩ ⟨b, hb, y⟩
    rw [drop_cons hb] at hm
    have hm' : Post ((f c b >>= fun p => filSt f p.2 (items.drop (i + 1)) >>= fun q => match p.1 with
      | some y => (R.ok (y :: q.1, q.2) : R (List δ × γ))
      | none => R.ok q) >>= fun q => k (ys ++ q.1, q.2)) P X := hm
    rw [bind_bind] at hm'
    have hm2 := post_bind hm'
    have hul : us.length = ys.length := hl _ _ _ _ _ o
    refine hs b c x F' H H' os' us ys (fun y H4 => ∃ acc, H4 D = some (.lst acc) ∧ acc.length < sizeLine ∧ _) _ _ s w' o y ?_ ?_ hm2
    · intro d c' p2 y F'' H'' os'' w2 s2 o2
      refine ⟨us, w2.get (pre := []), by omega, c', F'', os'', us ++ [y], ys ++ [d], hi, s.trans s2, w2.set (pre := []), o2, by rw [List.length_append, List.length_singleton]; omega, ?_⟩
      have p3 : Post ((filSt f c' (items.drop (i + 1)) >>= fun q => (R.ok (d :: q.1, q.2) : R (List δ × γ))) >>= fun q => k (ys ++ q.1, q.2)) P X := p2
      rw [bind_bind] at p3
      have e : (fun q : List δ × γ => (R.ok (d :: q.1, q.2) : R (List δ × γ)) >>= fun q => k (ys ++ q.1, q.2)) = fun q => k (ys ++ [d] ++ q.1, q.2) := by
        funext q
        show k (ys ++ (d :: q.1), q.2) = k (ys ++ [d] ++ q.1, q.2)
        rw [List.append_assoc]
        rfl
      rw [e] at p3
      exact p3
    · intro c' p2 F'' H'' os'' w2 s2 o2
      refine ⟨c', F'', os'', us, ys, hi, s.trans s2, w2, o2, by omega, ?_⟩
      have p3 : Post ((filSt f c' (items.drop (i + 1)) >>= fun q => (R.ok q : R (List δ × γ))) >>= fun q => k (ys ++ q.1, q.2)) P X := p2
      rw [bind_bind] at p3
      exact p3
  · rintro H ⟨c, F', os', us, ys, _, s, w', o, _, hm⟩
    rw [List.drop_length] at hm
    have hm' : Post (k (ys ++ [], c)) P X := hm
    rw [List.append_nil] at hm'
    exact hd c us F' H os' ys s w' o hm'
theorem lcGM (tw : TW J items G Y) {f : γ → β → R (δ × γ)} {s0 : γ} {k : List δ × γ → R ε} (hm : Post (mapStG f s0 items >>= k) P X) (O : γ → Hp → List (Addr × HO) → List V → List δ → Prop) (w : W F H1 os) (o0 : O s0 F os [] []) (nD : H1 D = none)
    (hl : ∀ c F' os' us ys, O c F' os' us ys → us.length = ys.length)
    (hG : ∀ c F' H' os' acc ys, Same F F' → W F' H' ((D, .lst acc) :: os') → O c F' os' acc ys → G H')
    (hs : ∀ (b : β) (c : γ) (x : V) (F' H' H'' : Hp) (os' : List (Addr × HO)) (acc : List V) (ys : List δ) (N : V → Hp → Prop) (P' : δ × γ → Prop), Same F F' → W F' H' ((D, .lst acc) :: os') → O c F' os' acc ys → Y b H' x H'' →
      (∀ d c', P' (d, c') → ∀ y F'' H'' os'', W F'' H'' ((D, .lst acc) :: os'') → Same F' F'' → O c' F'' os'' (acc ++ [y]) (ys ++ [d]) → N y H'') → Post (f c b) P' X →
      g x (wipe σ vs) H'' fun σ2 H2 => wipe σ2 vs = wipe σ vs ∧ te σ2 H2 N)
    (hd : ∀ c us F' H' os' ys, Same F F' → W F' H' ((D, .lst us) :: os') → O c F' os' us ys → Post (k (ys, c)) P X → Qd H') : LcAsk J g tYes te vs σ H1 D Qd := by
  have e : ∀ (s : γ) (l : List β), filSt (fun c b => f c b >>= fun p => R.ok (some p.1, p.2)) s l = mapSt f s l := by
    intro s l
    induction l generalizing s with
    | nil => rfl
    | cons b l ih =>
      show ((f s b >>= fun p => R.ok (some p.1, p.2)) >>= fun p => filSt (fun c b => f c b >>= fun p => R.ok (some p.1, p.2)) p.2 l >>= fun q => match p.1 with
        | some y => (R.ok (y :: q.1, q.2) : R (List δ × γ))
        | none => R.ok q) = (f s b >>= fun p => mapSt f p.2 l >>= fun q => .ok (p.1 :: q.1, q.2))
      rw [bind_bind]
      refine congrArg (f s b >>= ·) ?_
      funext p
      show (filSt (fun c b => f c b >>= fun p => R.ok (some p.1, p.2)) p.2 l >>= fun q => (R.ok (p.1 :: q.1, q.2) : R (List δ × γ))) = _
      rw [ih]
  have hm' : Post (filStG (fun c b => f c b >>= fun p => R.ok (some p.1, p.2)) s0 items >>= k) P X := by
    unfold filStG
    simp only [e]
    exact hm
  refine lcG tw hm' O w o0 nD hl hG (fun b c x F' H' H'' os' acc ys N N0 P' s w' o y hN hN0 hp => ?_) hd
  exact hs b c x F' H' H'' os' acc ys N _ s w' o y (fun d c' p2 y F'' H'' os'' w2 s2 o2 => hN d c' p2 y F'' H'' os'' w2 s2 o2) (post_bind hp)
end
end Z
/-! Z6: constants of the module, things, dicts as written and asked -/
namespace Z
open PySem L2
open Rep (rep)
section
variable {X : Cx}
theorem pe_globI {x : Str} {n : Int} {pos : Pos} (hg : Gl X x) (h : ∃ t, X.mg x = some (.int n t)) (hd : (x == ("__debug__" : Str)) = false := by decide) : PE X (.Name x pos) (tC (.int n)) := by
  obtain ⟨t, e⟩ := h
  exact pe_glob hg e ⟨_, rfl⟩ hd
theorem call_intB : CallR X (.type "int") (fun xs H Q => ∃ k, xs = [.bl k] ∧ Q (.int (if k = true then 1 else 0)) H) := by
  intro pins s σ H xs us Q I r ⟨k, e, q⟩
  exact call_int1 pins s σ H xs us Q I r (.inr ⟨k, e, q⟩)
end
theorem call_lenDR {X : Cx} : CallR X (.builtin "len") (fun xs H Q => ∃ (a : Addr) (kvs : List (Key × V)) (n : Nat), xs = [V.ref a] ∧ H a = some (.dK kvs) ∧ kvs.length = n ∧ Q (.int (n : Int)) H) := by
  intro pins s σ H xs us Q I r ⟨a, kvs, n, e, h, hn, q⟩
  subst hn
  exact call_lenD pins s σ H xs us Q I r ⟨a, kvs, e, h, q⟩
/-- a while's fuel, not to be reckoned with -/
@[irreducible] def fu (n : Nat) : Nat := n
theorem fu_eq (n : Nat) : fu n = n := by
  unfold fu
  rfl
/-- x in l -/
abbrev inB {α : Type} [DecidableEq α] (x : α) (l : List α) : Bool := decide (x ∈ l)
theorem inB_t {α : Type} [DecidableEq α] {x : α} {l : List α} : inB x l = true ↔ x ∈ l := decide_eq_true_iff
theorem inB_f {α : Type} [DecidableEq α] {x : α} {l : List α} : inB x l = false ↔ x ∉ l := decide_eq_false_iff_not
def b2i (b : Bool) : Int := if b = true then 1 else 0
/-! ### things -/
def Thing.isPl : Thing → Bool
  | .pl _ => true
  | .ti _ _ => false
def asPl : Thing → R Int
  | .pl i => .ok i
  | .ti _ _ => .bad
def asTi : Thing → R (Int × Int)
  | .pl _ => .bad
  | .ti a b => .ok (a, b)
def mkpl (xs : List Int) : List Thing := xs.map Thing.pl
def mkti (xs : List (Int × Int)) : List Thing := xs.map fun p => Thing.ti p.1 p.2
section
variable {δ : Type} {P : δ → Prop} {E : Exn → Prop} {K : Fg} {F H : Hp}
theorem pb_asPl {t : Thing} {f : Int → R δ} (h : Post (asPl t >>= f) P E) : ∃ i, t = .pl i ∧ Post (f i) P E := by
  cases t with
  | pl i => exact ⟨i, rfl, h⟩
  | ti a b => exact (show False from h).elim
theorem pb_asTi {t : Thing} {f : Int × Int → R δ} (h : Post (asTi t >>= f) P E) : ∃ q : Int × Int, t = .ti q.1 q.2 ∧ Post (f q) P E := by
  cases t with
  | pl i => exact (show False from h).elim
  | ti a b => exact ⟨(a, b), rfl, h⟩
theorem A2.pl : ∀ {vs : List V} {xs : List Int}, A2 (rep K F) vs xs → A2 (rep K F) vs (mkpl xs)
  | _, _, .nil => .nil
  | _, _, .cons h t => .cons h (A2.pl t)
theorem A2.ti : ∀ {vs : List V} {xs : List (Int × Int)}, A2 (rep K F) vs xs → A2 (rep K F) vs (mkti xs)
  | _, _, .nil => .nil
  | _, _, .cons h t => .cons h (A2.ti t)
theorem th_ty (s : Same F H) {v : V} {t : Thing} (r : rep K F v t) : ∃ a, TyOf K H v (.type a) ∧ (a = "int" ∧ t.isPl = true ∨ a = "tuple" ∧ t.isPl = false) := by
  cases t with
  | pl i =>
    have r' : v = V.int i := r
    subst r'
    exact ⟨_, .int i, .inl ⟨rfl, rfl⟩⟩
  | ti a b =>
    obtain ⟨c, u, w, rfl, q, _⟩ := (show rep K F v (a, b) from r)
    exact ⟨_, .tup (s _ _ q), .inr ⟨rfl, rfl⟩⟩
theorem th_int (s : Same F H) {v : V} {t : Thing} (r : rep K F v t) : ∃ a, TyOf K H v (.type a) ∧ kitB a "int" = some t.isPl := by
  obtain ⟨a, h, z⟩ := th_ty s r
  rcases z with ⟨rfl, e⟩ | ⟨rfl, e⟩
  · exact ⟨_, h, by rw [e]; decide +kernel⟩
  · exact ⟨_, h, by rw [e]; decide +kernel⟩
theorem th_tuple (s : Same F H) {v : V} {t : Thing} (r : rep K F v t) : ∃ a, TyOf K H v (.type a) ∧ kitB a "tuple" = some (!t.isPl) := by
  obtain ⟨a, h, z⟩ := th_ty s r
  rcases z with ⟨rfl, e⟩ | ⟨rfl, e⟩
  · exact ⟨_, h, by rw [e]; decide +kernel⟩
  · exact ⟨_, h, by rw [e]; decide +kernel⟩
theorem th_bool (s : Same F H) {v : V} {t : Thing} (r : rep K F v t) : ∃ a, TyOf K H v (.type a) ∧ kitB a "bool" = some false := by
  obtain ⟨a, h, z⟩ := th_ty s r
  rcases z with ⟨rfl, e⟩ | ⟨rfl, e⟩
  · exact ⟨_, h, by decide +kernel⟩
  · exact ⟨_, h, by decide +kernel⟩
end
/-! ### dicts of scalars: as written, asked -/
section
variable {κ β γ : Type} [DecidableEq κ]
/-- as a display makes it -/
def mmk (l : List (κ × β)) : List (κ × β) := l.foldl (fun m p => mput m p.1 p.2) []
theorem merge_enc {ev : β → V} (l m : List (Int × β)) : mergeK (encM kI ev m) (encM kI ev l) = encM kI ev (l.foldl (fun m p => mput m p.1 p.2) m) := by
  induction l generalizing m with
  | nil => rfl
  | cons p l ih =>
    show mergeK (putK (encM kI ev m) (kI p.1) (ev p.2)) (encM kI ev l) = _
    rw [put_enc kI_inj, ih]
    rfl
end
section
variable {β δ : Type} {ev : β → V} {H : Hp} {a b : Addr} {P : δ → Prop} {E : Exn → Prop}
theorem dgets_k {m : List (Int × β)} {k : Int} {t : β} (e : H a = some (.dK (encM kI ev m))) (q : mget m k = some t) : DGet H a (.int k) (some (ev t)) := by
  have h := dget_k (k := k) e
  rw [q] at h
  exact h
theorem dgets_p {m : List ((Int × Int) × β)} {k : Int × Int} {t : β} (e : H a = some (.dT (encM kP ev m))) (eb : H b = some (.tup [.int k.1, .int k.2])) (q : mget m k = some t) : DGet H a (.ref b) (some (ev t)) := by
  have h := dget_p (k := k) e eb
  rw [q] at h
  exact h
theorem pb_mget {κ : Type} [DecidableEq κ] {m : List (κ × β)} {k : κ} {f : β → R δ} (h : Post (mgetR m k >>= f) P E) : ∃ t, mget m k = some t ∧ Post (f t) P E := pb_ofO h
theorem getD_ev (f : β → V) (o : Option β) (d : β) : (o.map f).getD (f d) = f (o.getD d) := by cases o <;> rfl
theorem isD_k {kvs : List (Key × V)} (e : H a = some (.dK kvs)) : IsD H a := .inl ⟨kvs, .inl e⟩
theorem isD_t {kvs : List (List Key × V)} (e : H a = some (.dT kvs)) : IsD H a := .inr ⟨kvs, .inl e⟩
end
def tDGet2R (td ty tx : TE) : TE := fun σ H Q => td σ H fun x H1 => ∃ a, x = .ref a ∧ IsD H1 a ∧ ty σ H1 fun y H2 => tx σ H2 fun z H3 => ∃ o r, DGet H3 a y o ∧ o.getD z = r ∧ Q r H3
section
variable {X : Cx} {o e f : Expr} {apos cpos : Pos} {td ty tx : TE}
theorem pe_dget2R (hu : X.A.units + 1 < cLine) (ho : PE X o td) (he : PE X e ty) (hf : PE X f tx) (m : M2 X o "get" apos e f cpos) : PE X (.Call (.Attribute o "get" apos) [e, f] [] cpos) (tDGet2R td ty tx) := by
  refine ⟨fun pins s σ H Q I h => ?_⟩
  refine wpAny_Call_method m.base m.few m.line PySem.F.plainAttrs_dict PySem.F.slot_dict_get PySem.F.type_dict_get (thn (ho.run pins s σ H _ I h) fun u s1 ⟨x, H1, I1, rx, a, ex, d, q1⟩ => ?_)
  subst ex
  obtain rfl : u = Value.ref a := rx
  obtain ⟨t1, t2, _⟩ := isD_at I1 d
  refine ⟨t1, t2, ?_⟩
  rw [m.trees]
  refine Calls.callWith_builtin rfl (Calls.evalArgs_plain (Calls.spliced_cons (thn (he.run pins s1 σ H1 _ I1 q1) fun iv s2 ⟨y, H2, I2, ry, q2⟩ =>
    Calls.spliced_cons (thn (hf.run pins s2 σ H2 _ I2 q2) fun fv s3 ⟨z, H3, I3, rz, ov, r, g, er, q3⟩ => Calls.spliced_nil ?_))))
  subst er
  exact d_get2 hu I3 g ry rz fun w' s4 I4 rw' => ⟨_, H3, I4, rw', q3⟩
end
/-! ### tuples cut and joined -/
section
variable {X : Cx} {K : Fg}
theorem sl_tupU (hK : X.K = K) : SlR X (fun x lo hi H Q => ∃ (a : Addr) (xs : List V) (F : Hp) (os : List (Addr × HO)), x = .ref a ∧ W F H os ∧ F a = some (.tup xs) ∧ ∀ p F' H', Same F F' → W F' H' os → F' p = some (.tup (cutV xs lo hi)) → Q (.ref p) H') := by
  subst hK
  intro pins s σ H x v vl vu lo hi sl Q I rx hs pl pu ⟨a, xs, F, os, e, w, q, h⟩
  refine sl_tupA pins s σ H x v vl vu lo hi sl Q I rx hs pl pu ⟨a, xs, e, SqT.of (w.same _ _ q), fun c => ?_, fun _ p hp => ?_⟩
  · refine h a F H (Same.refl _) w ?_
    have ec : cutV xs lo hi = xs := by
      unfold cutV
      rw [c.1, c.2]
      simp
    rw [ec]
    exact q
  · obtain ⟨F', s', w', q'⟩ := w.frzE (o := .tup (cutV xs lo hi)) hp
    exact h p F' _ s' w' q'
theorem op_catU (hK : X.K = K) : OpR X (binaryOp .Add) (fun x y H Q => ∃ (a b : Addr) (xs ys : List V) (F : Hp) (os : List (Addr × HO)), x = .ref a ∧ y = .ref b ∧ W F H os ∧ F a = some (.tup xs) ∧ F b = some (.tup ys) ∧ xs.length + ys.length ≤ sizeLine ∧
    ∀ p F' H', Same F F' → W F' H' os → F' p = some (.tup (xs ++ ys)) → Q (.ref p) H') := by
  subst hK
  intro pins s σ H x y v u Q I rx ry ⟨a, b, xs, ys, F, os, e1, e2, w, qa, qb, hl, h⟩
  refine op_catA pins s σ H x y v u Q I rx ry ⟨a, b, xs, ys, e1, e2, SqT.of (w.same _ _ qa), SqT.of (w.same _ _ qb), hl, fun c => ?_, fun c d => ?_, fun _ _ p hp => ?_⟩
  · subst c
    exact h b F H (Same.refl _) w qb
  · subst d
    exact h a F H (Same.refl _) w (by rw [List.append_nil]; exact qa)
  · obtain ⟨F', s', w', q'⟩ := w.frzE (o := .tup (xs ++ ys)) hp
    exact h p F' _ s' w' q'
end
end Z
/-! Z7: dicts of tuple keys whose values are lists of a store; their values walked -/
namespace L2
open PySem PySem.Spec PyProof.Rows
/-- the values of the locked dict at d, of tuple keys -/
def ItdT (d : Addr) (o : Obj) (kvs : List (List Key × V)) : It :=
  ⟨fun i H => H d = some (.frz o (.dT kvs)) ∧ i < kvs.length, fun i H x H' => H' = H ∧ ∃ k, kvs[i]? = some (k, x), fun i H => H d = some (.frz o (.dT kvs)) ∧ kvs.length ≤ i⟩
section
variable {X : Cx} {pins : List (Addr × Obj)} {σ : St} {H : Hp} {s : Shared} {d : Addr} {o : Obj}
theorem Inv.frzTV {kvs : List (List Key × V)} (I : Inv X pins σ H s) (h : H d = some (.frz o (.dT kvs))) :
    (d == sysModules) = false ∧ s.heap.get? d = some o ∧ o.ExactDict ∧ ∃ (es : Array DictEntry) (ep : Nat), o.data = .dict es ep ∧ es.size = kvs.length ∧
      ∀ (i : Nat) (k : List Key) (v : V), kvs[i]? = some (k, v) → ∃ en : DictEntry, es[i]? = some en ∧ RelV v en.val := by
  obtain ⟨hd, z, hs, xs, pr, o', es, ep, ho, hx, hdt, he, _⟩ := I.hok d _ h
  rw [hd] at ho
  cases ho
  refine ⟨hs, hd, hx, es, ep, hdt, ?_, fun i k v e => ?_⟩
  · have l1 : es.size = xs.length := size_of_entries he
    have l2 : kvs.length = xs.length := Paired.length pr
    omega
  · obtain ⟨b, hb, e1, e2, e3⟩ := paired_get pr e
    have q := entry_at he i
    rw [hb] at q
    exact ⟨_, q, e3⟩
end
section
variable {P : Program} {w : World} {K : PySem.W.Frag} {tg : Expr} {d : Addr} {o : Obj} {es : Array DictEntry} {ep : Nat}
theorem turn_valsT {kvs : List (List Key × V)} (it : Addr) (hod : o.data = .dict es ep) : Turn P w K tg (ItdT d o kvs) [it] it (fun i h => h.IsValIter it d i kvs.length ep) where
  mem := by simp
  obj := fun i h st b hb => by
    have e : b = it := by simpa using hb
    subst e
    obtain ⟨oi, e, c, dd⟩ := st
    exact ⟨oi, e, fun v z => by rw [dd] at z; cases z⟩
  keep := fun i h h' st k => st.at fun oi e => k it (by simp) oi e
  item := by
    intro X hP hw hK hc i pins s σ H E I hf st hg
    subst hP hw hK
    obtain ⟨hd, hi⟩ := hg
    obtain ⟨f0, f1, f2, f3, f4, f5⟩ := hf it (by simp)
    obtain ⟨hs, hgd, hx, es', ep', hdt, hsz, ent⟩ := I.frzTV hd
    obtain ⟨rfl, rfl⟩ := dict_ep hod hdt
    obtain ⟨⟨k, v⟩, hkv⟩ : ∃ p, kvs[i]? = some p := ⟨kvs[i], List.getElem?_eq_getElem hi⟩
    obtain ⟨en, hen, ru⟩ := ent i k v hkv
    have hil : i < es'.size := by omega
    have een : es'[i] = en := by
      rw [Array.getElem?_eq_getElem hil] at hen
      exact Option.some.inj hen
    rw [← hsz] at st
    refine wpAny_pyNext_values_item_raw st ⟨o, hgd, hx, hdt⟩ hil fun h' st' sb => ?_
    have I1 : Inv X pins σ H { s with heap := h' } := I.turned (t' := s.toks) (fun b ob hb e => (sb.2 b hb).trans e) f0 f1 f3 f4 f5
    obtain ⟨oi, e, c, dd⟩ := id st'
    refine ⟨_, rfl, go_of (s := { s with heap := h' }) e c dd (by decide) ⟨v, H, I1, by rw [een]; exact ru, ⟨rfl, k, hkv⟩, ?_, fun b hb => (hf b hb).1⟩⟩
    show h'.IsValIter it d (i + 1) kvs.length _
    rw [← hsz]
    exact st'
  done := by
    intro X hP hw hK hc i pins s σ H E I hf st hg
    subst hP hw hK
    obtain ⟨hd, hi⟩ := hg
    obtain ⟨f0, f1, f2, f3, f4, f5⟩ := hf it (by simp)
    obtain ⟨hs, hgd, hx, es', ep', hdt, hsz, ent⟩ := I.frzTV hd
    obtain ⟨rfl, rfl⟩ := dict_ep hod hdt
    rw [← hsz] at st
    exact wpAny_pyNext_values_end_raw (I.ok.hd hc) st ⟨o, hgd, hx, hdt⟩ (by omega) fun h' eb => ⟨rfl, I.turned (t' := s.toks) (fun b ob hb e => eb b ob hb e) f0 f1 f3 f4 f5⟩
  self := fun A i s Q E st h => wpAny_pyIter_valiter st h
end
/-- d.values() of a dict that is locked from there on -/
def iValsT (td : TE) : TI := fun σ H R => td σ H fun x H1 => ∃ d kvs, x = .ref d ∧ H1 d = some (.dT kvs) ∧ ∀ od, R (ItdT d od kvs) (upd H1 d (.frz od (.dT kvs)))
section
variable {X : Cx} {tg e : Expr} {td : TE} {apos cpos : Pos}
theorem pi_valuesT (he : PE X e td) (hbase : attributeBase e "values" X.env (eval e X.env) = eval e X.env := by rfl) (hline : (apos.endLine == cpos.line) = true := by rfl) : PI X tg (.Call (.Attribute e "values" apos) [] [] cpos) (iValsT td) := by
  refine ⟨fun pins s σ H R I h => ?_⟩
  refine wpAny_Call_method (T := "dict") (id := "dict.values") hbase rfl hline F.plainAttrs_dict F.slot_dict_values F.type_dict_values (thn (he.run pins s σ H _ I h) fun u s1 ⟨x, H0, I0, rx, d, kvs, ex, hd0, q0⟩ => ?_)
  subst ex
  obtain rfl : u = Value.ref d := rx
  obtain ⟨od, I1⟩ := I0.lock hd0 (by exact True.intro)
  have q := q0 od
  have hd : upd H0 d (.frz od (.dT kvs)) d = some (.frz od (.dT kvs)) := upd_same
  obtain ⟨hs, hgd, hx, es, ep, hdt, hsz, ent⟩ := I1.frzTV hd
  have hm : s1.heap.DictRaw d es ep := ⟨od, hgd, hx, hdt⟩
  refine ⟨hm.typeIs, fun b hb => ?_, ?_⟩
  · cases hb
    exact ⟨od, hgd, hx.2.1⟩
  have I2 : Inv X pins σ (upd H0 d (.frz od (.dT kvs))) { s1 with heap := s1.heap.push { cls := .type "dict_values", data := .fields #[.ref d] } } := I1.kept (t' := s1.toks) fun b ob q => Heap.get?_push_of_some _ q
  have fin : wpAny (model X.prog X.w) X.A (pyIter (.ref s1.heap.objs.size)) (PIE X pins σ tg R) X.xe { s1 with heap := s1.heap.push { cls := .type "dict_values", data := .fields #[.ref d] } } := by
    refine wpAny_pyIter_values_raw (d := d) (es := es) (ep := ep) ⟨_, Heap.get?_push_size _ rfl, rfl, rfl⟩ (hm.at fun o q => Heap.get?_push_of_some _ q) (pi_one (tk := s1.toks) I2 _ (turn_valsT _ hdt) ⟨_, Heap.get?_push_size _ rfl, rfl, ?_⟩ q)
    rw [hsz] <;> rfl
  show wpAny _ _ (callWith cpos (.builtin "dict.values") [.ref d] [] []) _ X.xe s1
  exact method_meetsIn F.slot_dict_values F.entry_dict_values rfl (PySem.evalArgs_none ⟨rfl, hm.typeIs, F.args_dict_values_1 _, _, meets_dict_values_raw d hs, ⟨es, ep, hm⟩, fin⟩)
end
end L2
namespace Z
open PySem L2
open Rep (rep)
/-! ### dicts by what their values stand for -/
section
variable {κ β γ : Type} [DecidableEq κ] [DecidableEq γ] {e : κ → γ} {r r' : V → β → Prop}
inductive AD (e : κ → γ) (r : V → β → Prop) : List (γ × V) → List (κ × β) → Prop
  | nil : AD e r [] []
  | cons {k : κ} {v : V} {x : β} {kvs : List (γ × V)} {m : List (κ × β)} : r v x → AD e r kvs m → AD e r ((e k, v) :: kvs) ((k, x) :: m)
theorem AD.length : ∀ {kvs : List (γ × V)} {m : List (κ × β)}, AD e r kvs m → kvs.length = m.length
  | _, _, .nil => rfl
  | _, _, .cons _ t => by rw [List.length_cons, List.length_cons, AD.length t]
theorem AD.imp (f : ∀ v x, r v x → r' v x) : ∀ {kvs : List (γ × V)} {m : List (κ × β)}, AD e r kvs m → AD e r' kvs m
  | _, _, .nil => .nil
  | _, _, .cons h t => .cons (f _ _ h) (AD.imp f t)
theorem AD.no (he : ∀ a b, e a = e b → a = b) {k : κ} : ∀ {kvs : List (γ × V)} {m : List (κ × β)}, AD e r kvs m → (valV kvs (e k)).isSome = mhas m k
  | _, _, .nil => rfl
  | _, _, .cons (k := j) (v := v) (x := x) (kvs := kvs) (m := m) h t => by
    show _ = (decide (j = k) || mhas m k)
    by_cases q : j = k
    · rw [valV_pos (congrArg e q), decide_eq_true q]; rfl
    · rw [valV_neg (fun z => q (he _ _ z)), decide_eq_false q, AD.no he t]; rfl
theorem AD.get (he : ∀ a b, e a = e b → a = b) {k : κ} {y : β} : ∀ {kvs : List (γ × V)} {m : List (κ × β)}, AD e r kvs m → mget m k = some y → ∃ v, valV kvs (e k) = some v ∧ r v y
  | _, _, .nil, h => by cases h
  | _, _, .cons (k := j) (v := v) (x := x) (kvs := kvs) (m := m) h t, g => by
    unfold mget at g
    by_cases q : j = k
    · rw [List.find?_cons_of_pos (by simpa using q)] at g
      cases g
      exact ⟨v, valV_pos (congrArg e q), h⟩
    · rw [List.find?_cons_of_neg (by simpa using q)] at g
      obtain ⟨u, h1, h2⟩ := AD.get he (k := k) t g
      exact ⟨u, by rw [valV_neg (fun z => q (he _ _ z))]; exact h1, h2⟩
theorem AD.snoc {k : κ} {v : V} {x : β} (h : r v x) : ∀ {kvs : List (γ × V)} {m : List (κ × β)}, AD e r kvs m → AD e r (kvs ++ [(e k, v)]) (m ++ [(k, x)])
  | _, _, .nil => .cons h .nil
  | _, _, .cons a t => .cons a (AD.snoc h t)
theorem AD.upd (he : ∀ a b, e a = e b → a = b) {k : κ} {v : V} {x : β} (h : r v x) : ∀ {kvs : List (γ × V)} {m : List (κ × β)}, AD e r kvs m → AD e r (kvs.map fun p => if p.1 = e k then (p.1, v) else p) (m.map fun p => if p.1 = k then (p.1, x) else p)
  | _, _, .nil => .nil
  | _, _, .cons (k := j) (v := u) (x := y) (kvs := kvs) (m := m) a t => by
    rw [List.map_cons, List.map_cons]
    by_cases q : j = k
    · subst q
      rw [if_pos rfl, if_pos rfl]
      exact .cons h (AD.upd he h t)
    · rw [if_neg q, if_neg (fun z => q (he _ _ z))]
      exact .cons a (AD.upd he h t)
theorem AD.any (he : ∀ a b, e a = e b → a = b) {k : κ} : ∀ {kvs : List (γ × V)} {m : List (κ × β)}, AD e r kvs m → (kvs.any fun p => decide (p.1 = e k)) = m.any fun p => decide (p.1 = k)
  | _, _, .nil => rfl
  | _, _, .cons (k := j) (kvs := kvs) (m := m) a t => by
    rw [List.any_cons, List.any_cons, AD.any he t]
    congr 1
    by_cases q : j = k
    · rw [q]; simp
    · rw [decide_eq_false q, decide_eq_false (fun z => q (he _ _ z))]
theorem AD.put (he : ∀ a b, e a = e b → a = b) {k : κ} {v : V} {x : β} {kvs : List (γ × V)} {m : List (κ × β)} (t : AD e r kvs m) (h : r v x) : AD e r (putK kvs (e k) v) (mput m k x) := by
  unfold putK mput
  rw [t.any he]
  by_cases q : (m.any fun p => decide (p.1 = k)) = true
  · rw [if_pos q, if_pos q]
    exact t.upd he h
  · rw [if_neg q, if_neg q]
    exact t.snoc h
theorem AD.vals : ∀ {kvs : List (γ × V)} {m : List (κ × β)}, AD e r kvs m → ∀ {i : Nat} {k : γ} {v : V}, kvs[i]? = some (k, v) → ∃ x, (m.map (·.2))[i]? = some x ∧ r v x
  | _, _, .nil, i, k, v, h => by simp at h
  | _, _, .cons (k := j) (v := u) (x := x) a t, 0, k, v, h => by
    simp at h
    obtain ⟨_, rfl⟩ := h
    exact ⟨x, rfl, a⟩
  | _, _, .cons a t, i + 1, k, v, h => by
    obtain ⟨x, h1, h2⟩ := AD.vals t (i := i) (k := k) (v := v) (by simpa using h)
    exact ⟨x, by simpa using h1, h2⟩
end
/-- a tuple of ints as a key -/
def kT (t : Tup Int) : List Key := t.l.map Sum.inl
theorem kT_inj : ∀ a b, kT a = kT b → a = b := fun a b h => by
  have g : ∀ xs ys : List Int, (xs.map Sum.inl : List Key) = ys.map Sum.inl → xs = ys := by
    intro xs
    induction xs with
    | nil => intro ys e; cases ys <;> first | rfl | cases e
    | cons x xs ih =>
      intro ys e
      cases ys with
      | nil => cases e
      | cons y ys =>
        rw [List.map_cons, List.map_cons] at e
        injection e with e1 e2
        rw [Sum.inl.inj e1, ih ys e2]
  have : a.l = b.l := g _ _ h
  cases a
  cases b
  simp at this
  rw [this]
section
variable {K : Fg} {F H : Hp} {a b : Addr} {kvs : List (List Key × V)} {vs : List V} {t : Tup Int} {β : Type} {r : V → β → Prop} {m : List (Tup Int × β)}
theorem key_tup (s : Same F H) (q : F b = some (.tup vs)) (h : A2 (rep K F) vs t.l) : H b = some (.tup ((kT t).map kV)) := by
  have e : vs = (kT t).map kV := by
    rw [h.ints]
    unfold kT
    rw [List.map_map]
    rfl
  rw [← e]
  exact s _ _ q
theorem dgetA (e : H a = some (.dT kvs)) (eb : H b = some (.tup ((kT t).map kV))) : DGet H a (.ref b) (valV kvs (kT t)) := DGet.t e eb
theorem dgetsA {v : V} (e : H a = some (.dT kvs)) (eb : H b = some (.tup ((kT t).map kV))) (q : valV kvs (kT t) = some v) : DGet H a (.ref b) (some v) := by
  have h := dgetA (t := t) e eb
  rw [q] at h
  exact h
theorem dputA {v : V} (e : H a = some (.dT kvs)) (eb : H b = some (.tup ((kT t).map kV))) (h : AD kT r kvs m) (hl : m.length < sizeLine) : DPut H a (.ref b) v (upd H a (.dT (putK kvs (kT t) v))) := DPut.t e eb (by rw [h.length]; exact hl)
theorem tw_valsT {d : Addr} {o : Obj} (h : AD kT r kvs m) : TW (ItdT d o kvs) (m.map (·.2)) (fun H => H d = some (.frz o (.dT kvs))) (fun b H x H' => H' = H ∧ r x b) := ⟨by
  rw [List.length_map, ← h.length]
  refine ⟨fun _ _ hi q => ⟨q, hi⟩, fun _ q => ⟨q, Nat.le_refl _⟩, fun i H x H' _ _ y => ?_⟩
  obtain ⟨e, k, hk⟩ := y
  obtain ⟨b, h1, h2⟩ := h.vals hk
  exact ⟨b, h1, e, h2⟩⟩
end
section
variable {X : Cx} {K : Fg}
/-- l.index(x), of data -/
theorem mt_indexDt (hK : X.K = K) (α : Type) [Dat α] [DecidableEq α] (hd : Dat.dmax α ≤ 50) (hu : X.A.units + 65 < cLine) : MtR X "list.index" (fun x xs H Q => ∃ (a : Addr) (u : V) (ys : List α) (y : α) (j : Nat), x = V.ref a ∧ xs = [u] ∧ rep K H (V.ref a) ys ∧ rep K H u y ∧ fidx y ys = some j ∧ Q (.int (j : Int)) H) := by
  subst hK
  intro pins s σ H x xs v us Q I rx rxs ⟨a, u, ys, y, j, e1, e2, hs, hy, hj, q⟩
  obtain ⟨h1, h2⟩ := fidx_spec hj
  refine mt_indexD hu pins s σ H x xs v us Q I rx rxs ⟨a, u, Dat.toD y, ys.map Dat.toD, j, Dat.toD y, e1, e2, Dat.dp hs, Dat.dp hy, shapedD (α := List α) (by show Dat.dmax α + 1 ≤ 60; omega) ys, shapedD (by omega) y, ?_, ?_, fun m z hm hz => ?_, q⟩
  · rw [List.getElem?_map, h1]
    rfl
  · rw [eqvD]
    exact decide_eq_true rfl
  · rw [List.getElem?_map] at hz
    cases e : ys[m]? with
    | none => rw [e] at hz; cases hz
    | some t =>
      rw [e] at hz
      cases hz
      rw [eqvD]
      exact decide_eq_false (h2 m t hm e)
end
end Z
/-! ZI: own exception classes with one field, an int: made, raised, caught, read -/
namespace L2
open PySem PySem.Spec PyProof.Rows ClX
section
variable {X : Cx} {o e : Expr} {es : List Expr} {to te : TE} {ta : TA} {f x : Str} {p p1 p2 pos : Pos}
/-- C.__init__(self, ..), C an own class over ValueError that has no __init__ of its own -/
theorem pe_ueinit {pl : Sem Bool} {HC : Addr} {mc : Value} (hg : Gl X x) (hm : X.mg x = some (.ref HC)) (r : CRead X.K HC mc) (vV : PySem.W.findCls X.K (.ref HC) mc "__init__" = some (.val (.builtin "ValueError.__init__"))) (ha : PA X (e :: es) ta)
    (hdb : (x == ("__debug__" : Str)) = false := by decide)
    (hc : eval (.Call (.Attribute (.Name x p1) "__init__" p2) (e :: es) [] pos) X.env = (do
      let ov ← eval (.Name x p1) X.env
      standAt p2.atName
      let (f, first) ← holding [ov] (getMethod ov "__init__" pl)
      callWith pos f first (backTo pos (starEach (e :: es) X.env)) (backToKw pos (keywordEach [] X.env))) := by rfl)
    (he : starEach (e :: es) X.env = (false, eval e X.env) :: starEach es X.env := by rfl) (hpl : (backTo pos (starEach es X.env)).any (·.1) = false := by rfl) :
    PE X (.Call (.Attribute (.Name x p1) "__init__" p2) (e :: es) [] pos) (tVeI X.K ta) := by
  refine ⟨fun pins s σ H Q I h => ?_⟩
  refine PySem.W.methodCall_KW (ld_glob I hg hm ?_ hdb) hc
  refine PySem.W.method_cls I.kIn r.ga ?_
  refine PySem.W.cls_value I.kIn r.rd vV (by decide +kernel) ?_
  have I0 := I.tok (s.toks + 1)
  show wpAny _ _ (callWith pos (Value.builtin "ValueError.__init__") [] (backTo pos (starEach (e :: es) X.env)) []) _ _ _
  refine PyProof.Rows.callWith_method1 (thn (ha.run pos pins _ σ H _ (I.tok _) h) fun us s1 ⟨vs, H1, I1, r1, a, C, ws, ev, hl, T, ea, q⟩ => ?_) he hpl
  subst ev
  cases r1 with
  | @cons _ u0 _ ur ra rw' =>
    obtain rfl : u0 = Value.ref a := ra
    have hlen : ur.length ≤ sizeLine := by
      rw [← Paired.length rw', sizeLine_eq]
      omega
    exact oinit_ok T I1 ea hlen fun s' J => ⟨.non, H1, J, rfl, q⟩
end
end L2

namespace L2
open PySem PySem.Spec PyProof.Rows
section
variable {X : Cx}
/-- isinstance(e, c) of the exception that the suite holds, its dict none or a told one; c one class, or a tuple of classes -/
def rIsEY (K : PySem.W.Frag) (cls : Value) (d : Option Addr) (a : Addr) : List V → Hp → VK → Prop := fun xs H Q => ∃ D, cls = .ref D ∧ (d = none ∨ ∃ dd fs, d = some dd ∧ H dd = some (.xd fs)) ∧ ExcC K D ∧ ∃ (c : V) (b : Bool), xs = [.ref a, c] ∧
  ((∃ cv, (∀ u, RelV c u → u = cv) ∧ PySem.W.kitOne K (.ref D) cv = some b) ∨ (∃ p vs its, c = .ref p ∧ H p = some (.tup vs) ∧ (∀ us, Vals vs us → us = its) ∧ PySem.W.kitAny K (.ref D) its = some b)) ∧ Q (.bl b) H
theorem call_isEY {K : PySem.W.Frag} {a : Addr} {cls : Value} {d : Option Addr} {oe : Obj} {pn : List (Addr × Obj)} (hK : X.K = K) (hz : Zc cls d oe) (hf : ∃ vs, oe.data = .fields vs) : CallR (X.suite a ((a, oe) :: pn)) (.builtin "isinstance") (rIsEY K cls d a) := by
  subst hK
  intro pins s σ H xs us Q I r ⟨D, ecls, hd, C, c, b, exs, hc, q⟩
  subst exs
  subst ecls
  cases r with
  | cons rx rr =>
    cases rr with
    | cons rt rr =>
      cases rr
      cases rx
      obtain ⟨hget, _⟩ := I.pin (a, oe) (List.mem_append.mpr (.inl List.mem_cons_self))
      obtain ⟨vs, hv⟩ := hf
      obtain ⟨cdD, hcD, _⟩ := PySem.W.any_some C.hd
      have J : ∃ od, PySem.W.InstAt s.heap a oe D od := by
        obtain ⟨oc, od, oda, osl⟩ := oe
        obtain ⟨h1, h2⟩ := hz
        dsimp only at h1 h2 hv
        subst h1 h2 hv
        rcases hd with rfl | ⟨dd, fs, rfl, hx⟩
        · exact ⟨none, hget, rfl, rfl, trivial⟩
        · have hx' : ObjOk X.prog X.w H s.heap dd (.xd fs) := I.hok dd _ hx
          obtain ⟨mA, hns, _⟩ := hx'
          obtain ⟨od, ho, _⟩ := lookIn_ns hns
          exact ⟨some od, hget, rfl, rfl, ho⟩
      obtain ⟨od, J⟩ := J
      have Z := PySem.W.kitx_exc (x := a) (ox := oe) (od := od) (C := D) (K := X.K) (by rw [hcD]; rfl) C.hg C.hk C.hs C.ha C.hn C.ht C.hm
      have fin : ∀ tk, EP (X.suite a ((a, oe) :: pn)) pins σ Q (.bool b) { s with toks := tk } := fun tk => ⟨.bl b, H, I.kept (t' := tk) fun _ _ z => z, rfl, q⟩
      rcases hc with ⟨cv, hcv, e⟩ | ⟨p, ws, its, rfl, hp, hu, e⟩
      · have ec := hcv _ rt
        subst ec
        exact PySem.W.kia_one Z I.kIn J e (fun z => nomatch z) fin
      · cases rt
        obtain ⟨_, its', r', ob, ho, hob1, n, hob2⟩ := I.hok p _ hp
        have := hu _ r'
        subst this
        obtain ⟨oc, obd, oda, osl⟩ := ob
        dsimp only at hob1 hob2
        subst hob1 hob2
        exact PySem.W.kia_tup Z I.kIn J ho e (fun z => nomatch z) fin
end
section
variable {X : Cx} {CX : CXT} {k : Nat} {f C : Addr} {fd : FuncData} {ps : List Str} {sp : Sp} {E : St → XK} {x m : Str} {p pos apos : Pos} {e o : Expr} {es : List Expr} {ta : TE} {t : TA}
/-- C(..), whose __init__ may let an error out -/
def tMakeS (C : Addr) (sp : Sp) (E : St → XK) (t : TA) : TE := fun σ H Q => t σ H fun vs H1 => ∀ x dx, H1 x = none → H1 dx = none → dx ≠ x →
  sp (.ref x :: vs) (upd (upd H1 dx (.own x)) x (.ins C dx [])) (fun v H2 => v = .non ∧ Q (.ref x) H2) (E σ)
theorem run_makeS {pins : List (Addr × Obj)} {σ : St} {H : Hp} {s : Shared} {Q : VK} {us : List Value} {vs : List V} (M : Mk X.K C f) (F : FnOk X.prog X.w X.K X.mg X.base CX k f fd ps sp) (hr : Room (k + 1) X.A) (hb : Binds X.K fd ps [])
    (hx : PassesAt CX X σ (E σ)) (I : Inv X pins σ H s) (r : Vals vs us)
    (h : ∀ x dx, H x = none → H dx = none → dx ≠ x → sp (.ref x :: vs) (upd (upd H dx (.own x)) x (.ins C dx [])) (fun v H2 => v = .non ∧ Q (.ref x) H2) (E σ)) :
    wpAny (model X.prog X.w) X.A (call (.ref C) us) (EP X pins σ Q) X.xe s := by
  have hq := h (s.heap.objs.size + 1) s.heap.objs.size (I.hok.fresh (Nat.le_succ _)) (I.hok.fresh (Nat.le_refl _)) (Nat.ne_of_lt (Nat.lt_succ_self _))
  have I2 := Inv.made (C := C) I
  have r2 : Vals (V.ref (s.heap.objs.size + 1) :: vs) (Value.ref (s.heap.objs.size + 1) :: us) := .cons rfl r
  have hl : (Value.ref (s.heap.objs.size + 1) :: us).length = ps.length := by
    have e := r2.length
    rw [F.len _ _ _ _ hq] at e
    exact e.symm
  have b := hb _ (Value.ref (s.heap.objs.size + 1) :: us) I2.kIn (by rw [List.append_nil]; exact hl)
  rw [List.append_nil] at b
  refine wpAny_call (make_map (f := f) I.kIn M.makes M.init (beq_iff_eq.mp M.fn) (codeAny_mono (F.run _ X.stack _ _ ⟨Value.ref (s.heap.objs.size + 1) :: us, []⟩ (Value.ref (s.heap.objs.size + 1) :: us) _ _ (E σ) (hr.make C us [])
    (I2.env0.make C us []) b r2 hq) fun r s' hq' => ?_))
  cases r with
  | error e => exact hx pins _ _ e s' I2 hq'
  | ok fl =>
    cases fl with
    | ret u =>
      obtain ⟨v, H', I3, rv, ev, q3⟩ := I2.after hq'
      subst ev
      exact ⟨rv, ⟨V.ref (s.heap.objs.size + 1), H', I3, rfl, q3⟩⟩
    | next => exact False.elim hq'
    | brk => exact False.elim hq'
    | cont => exact False.elim hq'
theorem pe_makeS (M : Mk X.K C f) (F : FnOk X.prog X.w X.K X.mg X.base CX k f fd ps sp) (hr : Room (k + 1) X.A) (hg : Gl X x) (hm : X.mg x = some (.ref C)) (hb : Binds X.K fd ps []) (hx : ∀ σ, PassesAt CX X σ (E σ))
    (ha : PA X (e :: es) t) (hdb : (x == ("__debug__" : Str)) = false := by decide) (he : starEach (e :: es) X.env = (false, eval e X.env) :: starEach es X.env := by rfl) (hpl : (backTo pos (starEach es X.env)).any (·.1) = false := by rfl) :
    PE X (.Call (.Name x p) (e :: es) [] pos) (tMakeS C sp E t) := by
  refine ⟨fun pins s σ H Q I h => ?_⟩
  refine wpAny_Call_Name_kw (ld_glob I hg hm ?_ hdb)
  refine PySem.W.callWith_K (h₀ := X.base) I.ok.mod.kin M.kp (thn (ha.run pos pins s σ H _ I h) fun us s1 ⟨vs, H1, I1, r, q⟩ => ⟨I1.kIn, ?_⟩) he hpl
  exact run_makeS M F hr hb (hx σ) I1 r q
end
end L2
namespace Z
open PySem L2
open Rep (rep)
/-- an error's dict, by the fields of the classes -/
def XD (fld : Str → Option Str) (F : Hp) (e : Exn) (d : Option Addr) : Prop :=
  match fld e.cls with
  | none => d = none
  | some f => ∃ a, d = some a ∧ F a = some (.xd [(f, .int e.arg)])
section
variable {fld : Str → Option Str} {F F' H H' : Hp} {e : Exn} {d : Option Addr} {K : Fg}
theorem XD.mono (s : Same F F') (h : XD fld F e d) : XD fld F' e d := by
  unfold XD at h ⊢
  cases q : fld e.cls with
  | none => rw [q] at h; exact h
  | some f =>
    rw [q] at h
    obtain ⟨a, e1, e2⟩ := h
    exact ⟨a, e1, s _ _ e2⟩
theorem XD.dict (h : XD fld F e d) (s : Same F H) : d = none ∨ ∃ dd fs, d = some dd ∧ H dd = some (.xd fs) := by
  unfold XD at h
  cases q : fld e.cls with
  | none => rw [q] at h; exact .inl h
  | some f =>
    rw [q] at h
    obtain ⟨a, e1, e2⟩ := h
    exact .inr ⟨a, _, e1, s _ _ e2⟩
theorem XD.at {f : Str} (h : XD fld F e d) (q : fld e.cls = some f) : ∃ dd, d = some dd ∧ F dd = some (.xd [(f, .int e.arg)]) := by
  unfold XD at h
  rw [q] at h
  exact h
theorem XD.no (q : fld e.cls = none) : XD fld F e none := by
  unfold XD
  rw [q]
/-- what a call that lets an error out leaves -/
def RetXD (fld : Str → Option Str) (K : Fg) (F : Hp) (os : List (Addr × HO)) (E : XK) : Exn → Prop := fun e => ∀ C d F' H', Nm K e.cls C → W F' H' os → Same F F' → XD fld F' e d → E (.ref C) d H'
/-- an error of a class with a field -/
def raiseX {α : Type} (x : Str) (i : Int) : R α := .exc ⟨x, i⟩
theorem post_raiseX {α : Type} {x : Str} {i : Int} {P : α → Prop} {E : Exn → Prop} (h : Post (raiseX x i : R α) P E) : E ⟨x, i⟩ := h
/-- its field -/
def xarg (x : Str) (e : Exn) : R Int := if e.cls = x then .ok e.arg else .bad
theorem pb_xarg {δ : Type} {x : Str} {e : Exn} {f : Int → R δ} {P : δ → Prop} {E : Exn → Prop} (h : Post (xarg x e >>= f) P E) : e.cls = x ∧ Post (f e.arg) P E := by
  unfold xarg at h
  by_cases c : e.cls = x
  · rw [if_pos c] at h
    exact ⟨c, h⟩
  · rw [if_neg c] at h
    exact (show False from h).elim
/-- the __init__ of such a class: it asks its base's, then it keeps what it is given -/
def spXI (C : Addr) (f : Str) : Sp := fun vs H Q E => ∃ (a : Addr) (p : Int), vs = [.ref a, .int p] ∧ H a = some (exo a C none) ∧ ∀ dx, H dx = none → dx ≠ a → Q .non (upd (upd H dx (exd dx [(f, .int p)])) a (exo a C (some dx)))
/-- a class of the text that errors of one's own are made of -/
structure XI (K : Fg) (C fI : Addr) (f : Str) : Prop where
  ox : OexC K C
  ini : PySem.W.findIn K (.ref C) "__init__" = some (some (.ref fI))
  tI : PySem.W.typeIn K (.ref fI) = some (.type "function")
  no : PySem.W.findIn K (.ref C) f = some none
  xf : XfC K C
structure XCf (K : Fg) (mg : Str → Option Value) (x : Str) (C : Addr) : Prop where
  ns : Nm K x C
  gm : mg x = some (.ref C)
  kp : PySem.W.keepIn K (.ref C) = true
  b : PySem.W.subIn K (.ref C) (.type "BaseException") = some true
  t : PySem.W.typeIn K (.ref C) = some (.type "type")
  ex : ExcC K C
theorem raise_xd {os : List (Addr × HO)} {E : XK} {F0 : Hp} {C : Addr} {f : Str} {p : Int} (w : W F H os) (sF : Same F0 F) (hm : RetXD fld K F0 os E e) (nC : Nm K e.cls C) (hf : fld e.cls = some f) (hp : e.arg = p) (a : Addr) (na : H a = none) :
    spXI C f (.ref a :: ([.int p] ++ [])) (upd H a (exo a C none)) (fun v H2 => v = .non ∧ ∃ (d : Addr) (fs : List (Str × V)), H2 a = some (exo a C (some d)) ∧ H2 d = some (exd d fs) ∧ H d = none ∧ E (.ref C) (some d) (upd (del H2 a) d (.xd fs))) (fun _ _ _ => False) := by
  refine ⟨a, p, rfl, upd_same, fun dx nd ne => ⟨rfl, dx, [(f, .int p)], upd_same, ?_, ?_, ?_⟩⟩
  · rw [upd_ne ne, upd_same]
  · rw [upd_ne ne] at nd
    exact nd
  · rw [upd_ne ne] at nd
    have eH : upd (del (upd (upd (upd H a (exo a C none)) dx (exd dx [(f, .int p)])) a (exo a C (some dx))) a) dx (.xd [(f, .int p)]) = upd H dx (.xd [(f, .int p)]) := by
      funext b
      by_cases hb : b = dx
      · rw [hb, upd_same, upd_same]
      · rw [upd_ne hb, upd_ne hb]
        by_cases ha : b = a
        · rw [ha, del_same, na]
        · rw [del_ne ha, upd_ne ha, upd_ne hb, upd_ne ha]
    rw [eH]
    refine hm C (some dx) (upd F dx (.xd [(f, .int p)])) _ nC (w.frz nd) (sF.trans (w.frzS nd)) ?_
    unfold XD
    rw [hf]
    exact ⟨dx, rfl, by rw [upd_same, hp]⟩
end
end Z
/-! Z9: sum of a list of bools (the walk turned from the one of ints, codeAny_sum_loopG) -/
namespace L2
open PySem PySem.Spec PyProof.Rows
section
variable {prog : Program} {w : World} {A : Around} {R : Result → Shared → Prop} {I : Addr} {fp wr : List Addr} {n : Nat} {P : Nat → Value → Prop} {St : Nat → Heap → Prop}
theorem sum_loop_bools (W : Walks prog w A.in1 I fp wr n P St) (val : Nat → Int) (hval : ∀ i v, P i v → ∃ b : Bool, v = .bool b ∧ val i = if b = true then (1 : Int) else 0) (S : Addr) (hSf : S ∉ fp) :
    ∀ (k i : Nat) (s : Shared) (tA : Tok) (c : Nat) (stage : Int), (stage = 0 ∨ stage = 2) → n - i = k → i ≤ n → St i s.heap → s.heap.get? S = some { cls := .type "list", dict := none, data := .seq #[.int (preSum val i) tA] c, slots := #[] } →
    (∀ h' tk t', (∀ b o, b ∉ wr → b ≠ S → s.heap.get? b = some o → h'.get? b = some o) → R (.ok (.ret (.int (preSum val n) t'))) { s with heap := h', toks := tk }) →
    codeAny (model prog w) A (.builtin "sum.loop" ⟨[.ref I, .ref S, rawInt stage, rawInt 0], []⟩) R s := by
  have hSw : S ∉ wr := fun h => hSf (W.sub _ h)
  intro k
  induction k with
  | zero =>
    intro i s tA c stage hstage hk hi hst hS hR
    have hin : i = n := by omega
    subst hin
    refine codeAny_builtin F.entry_sum_loop ?_
    rw [Around.under_plainId F.plain_sum_loop _]
    show wpAny _ A.in1 (seqItems? (.ref S) >>= _) _ _ s
    refine wpAny_bind (wpAny_seqItems hS rfl ?_)
    show wpAny _ A.in1 (tryCatch (pyNext (.ref I)) _ >>= _) _ _ s
    refine wpAny_bind (wpAny_tryCatch (W.done s _ _ hst fun h' tk hk' => ?_))
    exact wpAny_pure (hR h' tk tA fun b o hbw _ e => hk' b o hbw e)
  | succ k ih =>
    intro i s tA c stage hstage hk hi hst hS hR
    have hlt : i < n := by omega
    refine codeAny_builtin F.entry_sum_loop ?_
    rw [Around.under_plainId F.plain_sum_loop _]
    show wpAny _ A.in1 (seqItems? (.ref S) >>= _) _ _ s
    refine wpAny_bind (wpAny_seqItems hS rfl ?_)
    show wpAny _ A.in1 (tryCatch (pyNext (.ref I)) _ >>= _) _ _ s
    refine wpAny_bind (wpAny_tryCatch (W.item i s _ _ hlt hst fun v h' tk hP hst' hk' => ?_))
    obtain ⟨b, rfl, hv⟩ := hval i v hP
    have hS' := hk' S _ hSw hS
    rcases hstage with rfl | rfl
    · show wpAny _ A.in1 (if (_ : Bool) = true then (mkInt (preSum val i + (if b = true then (1 : Int) else 0)) >>= _) else _) _ _ _
      rw [← hv]
      split
      · refine wpAny_bind (wpAny_mkInt ?_)
        show wpAny _ A.in1 (updateSeq S (fun _ => #[.int (preSum val i + val i) tk]) >>= _) _ _ _
        refine wpAny_bind ?_
        refine wpAny_updateSeq hS' rfl (wpAny_pure ⟨plainId_quiet F.plain_sum_loop _, ih (i + 1) _ tk _ 0 (Or.inl rfl) (by omega) hlt (W.frame _ _ _ hst' fun b hb o e => ?_) (Heap.get?_update_self _ hS' rfl) fun h'' tk'' t'' hk'' => ?_⟩)
        · exact (Heap.get?_update_other _ _ (fun h : S = b => hSf (by rw [h]; exact hb))).trans e
        · exact hR h'' tk'' t'' fun b o hbw hbS e => hk'' b o hbw hbS ((Heap.get?_update_other _ _ (Ne.symm hbS)).trans (hk' b o hbw e))
      · refine wpAny_bind (wpAny_rule ?_)
        refine wpAny_bind (wpAny_attempt (wpAny_holding (PySem.add_int_bool ?_)))
        rw [← hv]
        show wpAny _ A.in1 (updateSeq S (fun _ => #[.int (preSum val i + val i) tk]) >>= _) _ _ _
        refine wpAny_bind ?_
        refine wpAny_updateSeq hS' rfl ?_
        have hS2 := Heap.get?_update_self (Obj.mapSeq fun _ => #[Value.int (preSum val i + val i) tk]) hS' rfl
        refine wpAny_bind (wpAny_letGo ?_)
        refine wpAny_bind ?_
        refine wpAny_updateSeq hS2 rfl (wpAny_pure ⟨plainId_quiet F.plain_sum_loop _, ih (i + 1) _ tk _ 2 (Or.inr rfl) (by omega) hlt (W.frame _ _ _ hst' fun b hb o e => ?_) (Heap.get?_update_self _ hS2 rfl) fun h'' tk'' t'' hk'' => ?_⟩)
        · exact (Heap.get?_update_other _ _ (fun h : S = b => hSf (by rw [h]; exact hb))).trans ((Heap.get?_update_other _ _ (fun h : S = b => hSf (by rw [h]; exact hb))).trans e)
        · exact hR h'' tk'' t'' fun b o hbw hbS e => hk'' b o hbw hbS ((Heap.get?_update_other _ _ (Ne.symm hbS)).trans ((Heap.get?_update_other _ _ (Ne.symm hbS)).trans (hk' b o hbw e)))
    · show wpAny _ A.in1 ((holding [Value.bool b] (binaryOp .Add (.int (preSum val i) tA) (.bool b))).attempt >>= _) _ _ _
      refine wpAny_bind (wpAny_attempt (wpAny_holding (PySem.add_int_bool ?_)))
      rw [← hv]
      show wpAny _ A.in1 (updateSeq S (fun _ => #[.int (preSum val i + val i) tk]) >>= _) _ _ _
      refine wpAny_bind ?_
      refine wpAny_updateSeq hS' rfl ?_
      have hS2 := Heap.get?_update_self (Obj.mapSeq fun _ => #[Value.int (preSum val i + val i) tk]) hS' rfl
      refine wpAny_bind (wpAny_letGo ?_)
      refine wpAny_bind ?_
      refine wpAny_updateSeq hS2 rfl (wpAny_pure ⟨plainId_quiet F.plain_sum_loop _, ih (i + 1) _ tk _ 2 (Or.inr rfl) (by omega) hlt (W.frame _ _ _ hst' fun b hb o e => ?_) (Heap.get?_update_self _ hS2 rfl) fun h'' tk'' t'' hk'' => ?_⟩)
      · exact (Heap.get?_update_other _ _ (fun h : S = b => hSf (by rw [h]; exact hb))).trans ((Heap.get?_update_other _ _ (fun h : S = b => hSf (by rw [h]; exact hb))).trans e)
      · exact hR h'' tk'' t'' fun b o hbw hbS e => hk'' b o hbw hbS ((Heap.get?_update_other _ _ (Ne.symm hbS)).trans ((Heap.get?_update_other _ _ (Ne.symm hbS)).trans (hk' b o hbw e)))
end
section
variable {prog : Program} {w : World} {A : Around} {E : Value → Shared → Prop} {s : Shared}
theorem sum_bools {l : Addr} {its : Array Value} {val : Nat → Int} {Q : Value → Shared → Prop} (hh : A.handled = none) (hl : s.heap.IsList l its) (hval : ∀ i v, its[i]? = some v → ∃ b : Bool, v = .bool b ∧ val i = if b = true then (1 : Int) else 0)
    (hQ : ∀ h' tk t', (∀ b o, s.heap.get? b = some o → h'.get? b = some o) → Q (.int (preSum val its.size) t') { s with heap := h', toks := tk }) : wpAny (model prog w) A (call (.builtin "sum") [.ref l]) Q E s := by
  have hlt : l < s.heap.objs.size := by obtain ⟨_, e, _⟩ := hl; exact Heap.lt_size e
  refine call_function_tree F.kind_sum F.plain_sum F.entry_sum (F.args_sum1 _) ?_
  unfold Builtin.«sum»
  simp only [List.length_cons, List.length_nil]
  rw [if_neg (by decide)]
  refine wpAny_bind (wpAny_of_eq (show Builtin.Builtins.bindParams "sum" ["start"] 0 { } = pure [none] from rfl) ?_)
  refine wpAny_bind (wpAny_pyIter_list hl ?_)
  refine wpAny_bind (wpAny_mkInt ?_)
  refine wpAny_bind (wpAny_pure ?_)
  simp only [List.forIn_cons, List.forIn_nil]
  refine wpAny_bind (wpAny_bind (wpAny_bind (wpAny_isInstance (T := "int") (b := false) (typeIs_int _ _ _) PySem.sub_int_str ?_)))
  simp only [Bool.false_eq_true, if_false]
  refine wpAny_pure (wpAny_bind (wpAny_bind (wpAny_isInstance (T := "int") (b := false) (typeIs_int _ _ _) PySem.sub_int_bytes ?_)))
  simp only [Bool.false_eq_true, if_false]
  refine wpAny_pure (wpAny_bind (wpAny_bind (wpAny_isInstance (T := "int") (b := false) (typeIs_int _ _ _) PySem.sub_int_bytearray ?_)))
  simp only [Bool.false_eq_true, if_false]
  refine wpAny_pure (wpAny_pure ?_)
  refine wpAny_bind (wpAny_newObj_type ?_)
  have W := Walks.list (prog := prog) (w := w) (A := A.in1) hh s.heap.objs.size l (Nat.ne_of_lt hlt) its
  have hsz : (s.heap.push { cls := .type "list_iterator", data := .fields #[.ref l, .int 0 0] }).objs.size = s.heap.objs.size + 1 := Heap.size_push ..
  have hSf : (s.heap.push { cls := .type "list_iterator", data := .fields #[.ref l, .int 0 0] }).objs.size ∉ [s.heap.objs.size, l] := by
    rw [hsz]
    simp only [List.mem_cons, List.mem_singleton, List.not_mem_nil, or_false, not_or]
    exact ⟨Nat.succ_ne_self _, Nat.ne_of_gt (Nat.lt_succ_of_lt hlt)⟩
  have hst : (s.heap.push { cls := .type "list_iterator", data := .fields #[.ref l, .int 0 0] }).IsListIter s.heap.objs.size l 0 ∧ (s.heap.push { cls := .type "list_iterator", data := .fields #[.ref l, .int 0 0] }).IsList l its := ⟨⟨_, Heap.get?_push_size _ rfl, rfl, rfl⟩, hl.push _⟩
  refine wpAny_pure ⟨plainId_quiet F.plain_sum_loop _, sum_loop_bools W val hval _ hSf its.size 0 _ s.toks 0 0 (Or.inl rfl) rfl (Nat.zero_le _)
    (W.frame _ _ _ hst fun b _ o e => Heap.get?_push_of_some _ e) (Heap.get?_push_size _ rfl) fun h' tk t' hk => ?_⟩
  refine hQ h' tk t' fun b o e => ?_
  have hb : b < s.heap.objs.size := Heap.lt_size e
  exact hk b o (fun hm => Nat.ne_of_lt hb (List.mem_singleton.mp hm)) (by rw [hsz]; exact Nat.ne_of_lt (Nat.lt_succ_of_lt hb)) (Heap.get?_push_of_some _ (Heap.get?_push_of_some _ e))
end
theorem preSum_bools (bs : List Bool) : ∀ n, n ≤ bs.length → preSum (fun i => if bs.getD i false = true then (1 : Int) else 0) n = ((bs.take n).map fun b => if b = true then (1 : Int) else 0).sum
  | 0, _ => rfl
  | n + 1, h => by
    have e : bs[n]? = some bs[n] := List.getElem?_eq_getElem h
    show preSum _ n + _ = _
    rw [preSum_bools bs n (Nat.le_of_succ_le h), List.take_add_one, e, List.map_append, List.sum_append]
    show _ + (if bs.getD n false = true then (1 : Int) else 0) = _
    rw [List.getD_eq_getElem?_getD, e]
    simp
section
variable {X : Cx}
/-- sum of a list of bools -/
theorem cr_sumB {K : PySem.W.Frag} (hK : X.K = K) (hc : X.calm = true) : CallR X (.builtin "sum") (fun vs H Q => ∃ (a : Addr) (bs : List Bool), vs = [V.ref a] ∧ SqL K H a (bs.map V.bl) ∧ Q (.int ((bs.map fun b => if b = true then (1 : Int) else 0).sum)) H) := by
  subst hK
  intro pins s σ H vs us Q I r h
  obtain ⟨a, bs, rfl, hs, q⟩ := h
  obtain ⟨its, rv, hl, _⟩ := I.list hs
  rw [Vals.ref1 r]
  have hlen : its.toArray.size = bs.length := by rw [List.size_toArray, ← rv.length, List.length_map]
  refine sum_bools (val := fun i => if bs.getD i false = true then (1 : Int) else 0) (I.ok.hd hc) hl.isList (fun i v hv => ?_) fun h' tk t' hk => ⟨.int _, H, I.kept hk, ⟨t', ?_⟩, q⟩
  · have hv' : its[i]? = some v := by simpa using hv
    have hi : i < bs.length := by
      have := (List.getElem?_eq_some_iff.mp hv').1
      rw [← rv.length, List.length_map] at this
      exact this
    have hb : (bs.map V.bl)[i]? = some (.bl bs[i]) := by rw [List.getElem?_map, List.getElem?_eq_getElem hi]; rfl
    obtain ⟨u, hu, ru⟩ := Vals.get rv hb
    rw [hv'] at hu
    cases hu
    refine ⟨bs[i], ru, ?_⟩
    show (if bs.getD i false = true then (1 : Int) else 0) = _
    rw [List.getD_eq_getElem?_getD, List.getElem?_eq_getElem hi]
    rfl
  · rw [hlen, preSum_bools bs bs.length (Nat.le_refl _), List.take_length]
end
end L2
/-! ZO: errors whose context is none (L2N): defs that raise them, classes with an __init__; sum of a list of bools in an except suite -/
namespace L2N
open PySem PySem.Spec PyProof.Rows L2
/-- around a body nothing is let out -/
theorem takes0 {X : Cx} : Takes X (fun _ _ _ _ => False) := fun _ _ x => by
  obtain ⟨_, _, _, _, _, _, _, _, _, _, _, _, _, _, _, _, z⟩ := x
  exact z.elim
end L2N
namespace L2
open PySem PySem.Spec PyProof.Rows
section
variable {P : Program} {w : World} {K : PySem.W.Frag} {mg : Str → Option Value} {base : Heap}
theorem Fun.okXN {x qual : Str} {st : Stmt} {f : Addr} {fd : FuncData} {N ps : List Str} {k : Nat} {sp : Sp} (F : Fun K x qual st f fd) (S : FnScope N ps (defScope st)) (len : ∀ vs H Q E, sp vs H Q E → vs.length = ps.length)
    (hbody : ∀ (cdv : Value) (A : Around) (outer : List Env) (s : Shared) (H : Hp) (vs : List V) (Q : VK) (E : XK), Room k (A.deeper (envOfC qual (defScope st) s.heap.objs.size f cdv)) → sp vs H Q E →
      ∃ t, PSs (cxOf (L2N.CX P w) P w K mg base N qual (defScope st) f cdv A outer s H E) (defBody st) t ∧ t { nx := fun _ H' => Q .non H', rt := Q } (start N vs) H) : FnOk P w K mg base (L2N.CX P w) (k + 1) f fd ps sp := by
  obtain ⟨oc, od, kV, doc, pm, an, cdv, ct, osl, rfl, lk, hcd⟩ := F.ex
  exact fn_of lk hcd S len fun A outer s H vs Q E hr hsp => hbody cdv A outer s H vs Q E hr hsp
end
section
variable {X : Cx} {e : Expr} {es : List Expr} {ta : TA} {p pos : Pos}
theorem pmk_oexN {CX : CXT} {x : Str} {C fI : Addr} {k : Nat} {fd : FuncData} {ps : List Str} {sp : Sp} {ds : List Value} {dvs : List V} (T : OexC X.K C) (iC : PySem.W.findIn X.K (.ref C) "__init__" = some (some (.ref fI))) (tI : PySem.W.typeIn X.K (.ref fI) = some (.type "function"))
    (F1 : FnOk X.prog X.w X.K X.mg X.base CX k fI fd ps sp) (hr : Room (k + 1) X.A) (hb : Binds X.K fd ps ds) (hd : Vals dvs ds) (hx : Passes CX X (fun _ _ _ => False)) (hg : Gl X x) (hm : X.mg x = some (.ref C)) (ha : PA X (e :: es) ta)
    (hdb : (x == ("__debug__" : Str)) = false := by decide) (he : starEach (e :: es) X.env = (false, eval e X.env) :: starEach es X.env := by rfl) (hpl : (backTo pos (starEach es X.env)).any (·.1) = false := by rfl) :
    L2N.PMk X (.Call (.Name x p) (e :: es) [] pos) (tMkO C sp dvs ta) := by
  intro pins s σ H Q I h
  obtain ⟨nm, q, N, bs, bm, sn, sub, ab, col, dd, k0, k1, k2, k3, k5, hC, hbm⟩ := T.cls
  refine wpAny_Call_Name_kw (ld_glob I hg hm ?_ hdb)
  refine PySem.W.callWith_K (h₀ := X.base) I.ok.mod.kin T.kC (thn (ha.run pos pins s σ H _ I h) fun us s1 ⟨vs, H1, I1, r1, hz, q1⟩ => ⟨I1.kIn, ?_⟩) he hpl
  show wpAny _ _ (call (.ref C) us) _ _ _
  obtain ⟨hp, g, dr, tk, os⟩ := s1
  have hsz : hp.objs.size ≤ hp.objs.size + 1 := Nat.le_succ _
  have hn : H1 (hp.objs.size + 1) = none := I1.hok.fresh hsz
  have hq := q1 (hp.objs.size + 1) hn
  have kk : ∀ b o, hp.get? b = some o → ((hp.push (PySem.W.kdv_tup us)).push (PySem.HandSPX.excO C hp.objs.size)).get? b = some o := fun b o e => Heap.get?_push_of_some _ (Heap.get?_push_of_some _ e)
  have hget : ((hp.push (PySem.W.kdv_tup us)).push (PySem.HandSPX.excO C hp.objs.size)).get? (hp.objs.size + 1) = some (PySem.HandSPX.excO C hp.objs.size) := by heap_get
  have I2 : Inv X pins σ (upd H1 (hp.objs.size + 1) (exo (hp.objs.size + 1) C none)) ⟨(hp.push (PySem.W.kdv_tup us)).push (PySem.HandSPX.excO C hp.objs.size), g, dr, tk, os⟩ :=
    I1.laid (t' := tk) (a := hp.objs.size + 1) (o := exo (hp.objs.size + 1) C none) (h' := (hp.push (PySem.W.kdv_tup us)).push (PySem.HandSPX.excO C hp.objs.size)) kk hsz (exo_ok hget)
  have r2 : Vals (V.ref (hp.objs.size + 1) :: (vs ++ dvs)) (Value.ref (hp.objs.size + 1) :: (us ++ ds)) := .cons rfl (r1.append hd)
  have hl : (Value.ref (hp.objs.size + 1) :: us ++ ds).length = ps.length := by
    have e := r2.length
    rw [F1.len _ _ _ _ hq] at e
    exact e.symm
  have hus : us.length ≤ sizeLine := by
    rw [← Paired.length r1, sizeLine_eq]
    omega
  refine wpAny_call (PySem.HandSPX.call_own F.excBase_ValueError (fun Y => PySem.HandSPX.refsVE_contains Y bm hbm) (I1.kIn _ _ hC) (PySem.W.looks_findIn I1.kIn iC) (fun self => PySem.W.bind_fn I1.kIn self tI) hus
    (codeAny_mono (F1.run _ X.stack _ _ ⟨Value.ref (hp.objs.size + 1) :: us, []⟩ (Value.ref (hp.objs.size + 1) :: (us ++ ds)) _ _ (fun _ _ _ => False) (hr.make C us []) (I2.env0.make C us []) (hb _ (Value.ref (hp.objs.size + 1) :: us) I2.kIn hl) r2 hq) fun r s' hq' => ?_))
  cases r with
  | error er => exact hx pins σ _ _ er s' I2 hq'
  | ok fl =>
    cases fl with
    | ret u =>
      obtain ⟨v, H2, os2, bare2, un2, hok2, rv, ev, d, fs, ea, ed, hd1, q2⟩ := hq'
      subst ev
      obtain ⟨h2, g2, d2, t2, os'⟩ := s'
      obtain ⟨t0, G, J, kG, ge, hoe, na⟩ := mk_end0 (d2 := d2) (t2 := t2) I1 hsz kk un2 hok2 os2 bare2 ea ed hd1
      exact ⟨rv, _, _, _, ⟨G, g2, d2, t2, os'⟩, _, .ref C, some d, rfl, J, kG, ge, hoe, ⟨rfl, rfl, fun vs e => by cases e; rfl⟩, rfl, rfl, na, rfl, bare2, raises_own T.exC T.tyC, q2⟩
    | next => exact False.elim hq'
    | brk => exact False.elim hq'
    | cont => exact False.elim hq'
end
section
variable {prog : Program} {w : World} {A : Around} {E : Value → Shared → Prop} {s : Shared}
theorem pyNext_list_end_hot {it l x1 : Addr} {i : Nat} {items : Array Value} {Q : Option Value → Shared → Prop} (hot : HotX.HotAt A x1 s.heap) (hne : it ≠ x1)
    (hit : s.heap.IsListIter it l i) (hl : s.heap.IsList l items) (hx : items[i]? = none)
    (hQ : ∀ h', (∀ b o, b ≠ it → s.heap.get? b = some o → h'.get? b = some o) → Q none { s with heap := h' }) : wpAny (model prog w) A (pyNext (.ref it)) Q E s := by
  obtain ⟨o, ho, hc, hd⟩ := id hit
  obtain ⟨ol, hol, _, nl, hdl⟩ := hl
  obtain ⟨hh, o1, vs1, h1, d1, c1⟩ := hot
  unfold pyNext
  refine wpAny_bind (wpAny_attempt (wpAny_callSpecial?_slot (name := Str.ofString "__next__") hit.typeIs slot_listiter_next
    (wpAny_call_entry slot_listiter_next hit.typeIs entry_listiter_next ?_ (args_listiter_next _))))
  show wpAny _ _ (field (.ref it) 0 >>= _) _ _ s
  refine wpAny_bind (wpAny_field ho hd (x := .ref l) rfl ?_)
  show wpAny _ _ (if (Value.ref l == Value.none) = true then _ else _) _ _ s
  rw [if_neg (show ¬ ((Value.ref l == Value.none) = true) from Bool.false_ne_true)]
  show wpAny _ _ (field (.ref it) 1 >>= _) _ _ s
  refine wpAny_bind (wpAny_field ho hd (x := .int i 0) rfl ?_)
  show wpAny _ _ (seqItems? (.ref l) >>= _) _ _ s
  refine wpAny_bind (wpAny_seqItems hol hdl ?_)
  simp only [Int.toNat_natCast, hx]
  refine wpAny_bind (wpAny_rule (wpAny_bind (wpAny_setField ho hd (by simp) ?_)))
  show wpAny _ _ (newExc (.type "StopIteration") [] >>= _) _ _ _
  refine wpAny_bind ?_
  simp only [newExc, newTuple]
  refine wpAny_bind (wpAny_newObj_type ?_ (by size_fits))
  refine wpAny_bind (m := firstArgMember _ _) (wpAny_of_eq (a := Value.none) (by first | rfl | (simp only [firstArgMember]; rfl)) ?_)
  refine wpAny_newObj_type ?_ (by size_fits)
  have k1 := (Heap.get?_update_other s.heap (Obj.mapFields (·.setIfInBounds 0 Value.none)) hne).trans h1
  have k2 := Heap.get?_push_of_some (h := s.heap.update it (Obj.mapFields (·.setIfInBounds 0 Value.none))) { cls := .type "tuple", data := .seq #[] 0 } k1
  refine HotX.raiseNew_hot ⟨hh, o1, vs1, Heap.get?_push_of_some _ (Heap.get?_push_of_some _ k1), d1, c1⟩ (Nat.ne_of_lt (Heap.lt_size (Heap.get?_push_of_some _ k1))) (Heap.get?_push_size _ rfl) rfl (by first | (simp; done) | (simp; omega) | (simp only [Array.size_append]; simp; omega)) ?_
  refine wpAny_bind (wpAny_isInstance (T := "StopIteration") (b := true) ⟨_, Heap.get?_update_self _ (Heap.get?_push_size _ rfl) rfl, rfl⟩ isSubtype_stop ?_)
  refine wpAny_pure (hQ _ fun b o hb e => ?_)
  have e1 := (Heap.get?_update_other s.heap (Obj.mapFields (·.setIfInBounds 0 Value.none)) (Ne.symm hb)).trans e
  rw [Heap.get?_update_other _ _ (Nat.ne_of_gt (Heap.lt_size (Heap.get?_push_of_some _ e1)))]
  exact Heap.get?_push_of_some _ (Heap.get?_push_of_some _ e1)
/-- what is known of the handled exception -/
def HotO (h : Heap) (x1 : Addr) : Prop := ∃ (o : Obj) (vs : Array Value), h.get? x1 = some o ∧ o.data = .fields vs ∧ vs[2]? = some .none
theorem walks_listHot {x1 : Addr} (hh : A.handled = some (.ref x1)) (I ax : Addr) (hne : ax ≠ I) (hn1 : I ≠ x1) (items : Array Value) :
    Walks prog w A I [I, ax, x1] [I] items.size (fun i v => items[i]? = some v) (fun i h => (h.IsListIter I ax i ∧ h.IsList ax items) ∧ HotO h x1) where
  sub := fun b hb => by simp at hb; simp [hb]
  frame := fun _ _ _ ⟨st, o, vs, e, d⟩ hk => ⟨⟨st.1.at fun o e => hk I (by simp) o e, st.2.at fun o e => hk ax (by simp) o e⟩, o, vs, hk x1 (by simp) o e, d⟩
  item := fun i s Q E hi ⟨st, o, vs, e, d⟩ hQ => by
    refine wpAny_pyNext_list_item st.1 st.2 (x := items[i]) (by simp [hi]) fun h' hit' hs' => ?_
    exact hQ _ h' s.toks (by simp [hi]) ⟨⟨hit', st.2.extBut hs'.extBut hne⟩, o, vs, hs'.extBut x1 o (Ne.symm hn1) e, d⟩ fun b o hb e => hs'.extBut b o (fun h => hb (by simp [h])) e
  done := fun s Q E ⟨st, o, vs, e, d⟩ hQ => pyNext_list_end_hot ⟨hh, o, vs, e, d⟩ hn1 st.1 st.2 (by simp) fun h' he' => hQ h' s.toks fun b o hb e => he' b o (fun h => hb (by simp [h])) e
  self := fun _ _ _ _ st hQ => wpAny_pyIter_listiter st.1.1 hQ
theorem sum_boolsH {l x1 : Addr} {its : Array Value} {val : Nat → Int} {Q : Value → Shared → Prop} (hh : A.handled = some (.ref x1)) (h1 : HotO s.heap x1) (hl : s.heap.IsList l its) (hval : ∀ i v, its[i]? = some v → ∃ b : Bool, v = .bool b ∧ val i = if b = true then (1 : Int) else 0)
    (hQ : ∀ h' tk t', (∀ b o, s.heap.get? b = some o → h'.get? b = some o) → Q (.int (preSum val its.size) t') { s with heap := h', toks := tk }) : wpAny (model prog w) A (call (.builtin "sum") [.ref l]) Q E s := by
  have hlt : l < s.heap.objs.size := by obtain ⟨_, e, _⟩ := hl; exact Heap.lt_size e
  have h1t : x1 < s.heap.objs.size := by obtain ⟨_, _, e, _⟩ := h1; exact Heap.lt_size e
  refine call_function_tree F.kind_sum F.plain_sum F.entry_sum (F.args_sum1 _) ?_
  unfold Builtin.«sum»
  simp only [List.length_cons, List.length_nil]
  rw [if_neg (by decide)]
  refine wpAny_bind (wpAny_of_eq (show Builtin.Builtins.bindParams "sum" ["start"] 0 { } = pure [none] from rfl) ?_)
  refine wpAny_bind (wpAny_pyIter_list hl ?_)
  refine wpAny_bind (wpAny_mkInt ?_)
  refine wpAny_bind (wpAny_pure ?_)
  simp only [List.forIn_cons, List.forIn_nil]
  refine wpAny_bind (wpAny_bind (wpAny_bind (wpAny_isInstance (T := "int") (b := false) (typeIs_int _ _ _) PySem.sub_int_str ?_)))
  simp only [Bool.false_eq_true, if_false]
  refine wpAny_pure (wpAny_bind (wpAny_bind (wpAny_isInstance (T := "int") (b := false) (typeIs_int _ _ _) PySem.sub_int_bytes ?_)))
  simp only [Bool.false_eq_true, if_false]
  refine wpAny_pure (wpAny_bind (wpAny_bind (wpAny_isInstance (T := "int") (b := false) (typeIs_int _ _ _) PySem.sub_int_bytearray ?_)))
  simp only [Bool.false_eq_true, if_false]
  refine wpAny_pure (wpAny_pure ?_)
  refine wpAny_bind (wpAny_newObj_type ?_)
  have W := walks_listHot (prog := prog) (w := w) (A := A.in1) hh s.heap.objs.size l (Nat.ne_of_lt hlt) (Nat.ne_of_gt h1t) its
  have hsz : (s.heap.push { cls := .type "list_iterator", data := .fields #[.ref l, .int 0 0] }).objs.size = s.heap.objs.size + 1 := Heap.size_push ..
  have hSf : (s.heap.push { cls := .type "list_iterator", data := .fields #[.ref l, .int 0 0] }).objs.size ∉ [s.heap.objs.size, l, x1] := by
    rw [hsz]
    simp only [List.mem_cons, List.mem_singleton, List.not_mem_nil, or_false, not_or]
    exact ⟨Nat.succ_ne_self _, Nat.ne_of_gt (Nat.lt_succ_of_lt hlt), Nat.ne_of_gt (Nat.lt_succ_of_lt h1t)⟩
  have hst : ((s.heap.push { cls := .type "list_iterator", data := .fields #[.ref l, .int 0 0] }).IsListIter s.heap.objs.size l 0 ∧ (s.heap.push { cls := .type "list_iterator", data := .fields #[.ref l, .int 0 0] }).IsList l its) ∧ HotO (s.heap.push { cls := .type "list_iterator", data := .fields #[.ref l, .int 0 0] }) x1 := by
    obtain ⟨o1, vs1, g1, g2⟩ := h1
    exact ⟨⟨⟨_, Heap.get?_push_size _ rfl, rfl, rfl⟩, hl.push _⟩, o1, vs1, Heap.get?_push_of_some _ g1, g2⟩
  refine wpAny_pure ⟨plainId_quiet F.plain_sum_loop _, sum_loop_bools W val hval _ hSf its.size 0 _ s.toks 0 0 (Or.inl rfl) rfl (Nat.zero_le _)
    (W.frame _ _ _ hst fun b _ o e => Heap.get?_push_of_some _ e) (Heap.get?_push_size _ rfl) fun h' tk t' hk => ?_⟩
  refine hQ h' tk t' fun b o e => ?_
  have hb : b < s.heap.objs.size := Heap.lt_size e
  exact hk b o (fun hm => Nat.ne_of_lt hb (List.mem_singleton.mp hm)) (by rw [hsz]; exact Nat.ne_of_lt (Nat.lt_succ_of_lt hb)) (Heap.get?_push_of_some _ (Heap.get?_push_of_some _ e))
end
section
variable {X : Cx}
/-- sum of a list of bools, in a suite -/
theorem cr_sumBH {K : PySem.W.Frag} {a : Addr} {cls : Value} {d : Option Addr} {oe : Obj} {pn : List (Addr × Obj)} (hK : X.K = K) (hz : L2N.Zn cls d oe) (hf : ∃ vs, oe.data = .fields vs) : CallR (X.suite a ((a, oe) :: pn)) (.builtin "sum") (fun vs H Q => ∃ (a : Addr) (bs : List Bool), vs = [V.ref a] ∧ SqL K H a (bs.map V.bl) ∧ Q (.int ((bs.map fun b => if b = true then (1 : Int) else 0).sum)) H) := by
  subst hK
  intro pins s σ H vs us Q I r h
  obtain ⟨l, bs, rfl, hs, q⟩ := h
  obtain ⟨its, rv, hl, _⟩ := I.list hs
  rw [Vals.ref1 r]
  have hlen : its.toArray.size = bs.length := by rw [List.size_toArray, ← rv.length, List.length_map]
  obtain ⟨hget, _⟩ := I.pin (a, oe) (List.mem_append.mpr (.inl List.mem_cons_self))
  obtain ⟨vs0, hv0⟩ := hf
  have ho : HotO s.heap a := ⟨oe, vs0, hget, hv0, hz.2.2 vs0 hv0⟩
  refine sum_boolsH (val := fun i => if bs.getD i false = true then (1 : Int) else 0) (x1 := a) rfl ho hl.isList (fun i v hv => ?_) fun h' tk t' hk => ⟨.int _, H, I.kept hk, ⟨t', ?_⟩, q⟩
  · have hv' : its[i]? = some v := by simpa using hv
    have hi : i < bs.length := by
      have := (List.getElem?_eq_some_iff.mp hv').1
      rw [← rv.length, List.length_map] at this
      exact this
    have hb : (bs.map V.bl)[i]? = some (.bl bs[i]) := by rw [List.getElem?_map, List.getElem?_eq_getElem hi]; rfl
    obtain ⟨u, hu, ru⟩ := Vals.get rv hb
    rw [hv'] at hu
    cases hu
    refine ⟨bs[i], ru, ?_⟩
    show (if bs.getD i false = true then (1 : Int) else 0) = _
    rw [List.getD_eq_getElem?_getD, List.getElem?_eq_getElem hi]
    rfl
  · rw [hlen, preSum_bools bs bs.length (Nat.le_refl _), List.take_length]
end
end L2
/-! ZT: texts: glued, numbers written and read, joined, split, sign by sign -/
namespace Z
open PySem L2 PySem.Spec PyProof.Rows
open Rep (rep)
/-- one text behind another -/
@[irreducible] def txAdd (a b : Str) : R Str := if a.length + b.length ≤ 1000000 then .ok (a ++ b) else .bad
@[irreducible] def txNum (i : Int) : R Str := if i.natAbs.log2 < 1920 then .ok (Str.ofString (toString i)) else .bad
@[irreducible] def txJoin (a : Str) (ys : List Str) : R Str := if (ys.map (·.length)).sum + ys.length * a.length ≤ 1000000 then .ok (Txt.join a ys) else .bad
@[irreducible] def txSplit (a b : Str) : R (List Str) := if b.length ≠ 0 ∧ a.length ≤ 1000000 ∧ (Txt.split a b).length ≤ 1000000 then .ok (Txt.split a b) else .bad
@[irreducible] def txLen (a : Str) : R Int := if a.length ≤ 1000000 then .ok (a.length : Int) else .bad
@[irreducible] def txAt (a : Str) (i : Int) : R Str := if a.length ≤ 1000000 then (ofO (atI a.cps.toList i) >>= fun c => .ok ⟨#[c]⟩) else .bad
/-- the signs of a text -/
def signs (a : Str) : List Str := a.cps.toList.map fun c => ⟨#[c]⟩
/-- whether one sign is in a text -/
@[irreducible] def txIn (x a : Str) : R Bool := match x.cps.toList with
  | [c] => .ok (decide (c ∈ a.cps.toList))
  | _ => .bad
@[irreducible] def txInt (a : Str) : R Int := if a.length ≤ 640 then ofO (intText? a) else .bad
section
variable {δ : Type} {P : δ → Prop} {E : Exn → Prop}
theorem pb_txAdd {a b : Str} {f : Str → R δ} (h : Post (txAdd a b >>= f) P E) : a.length + b.length ≤ sizeLine ∧ Post (f (a ++ b)) P E := by
  unfold txAdd at h
  obtain ⟨c, h⟩ := pb_if h
  exact ⟨by rw [sizeLine_eq]; omega, h⟩
theorem pb_txNum {i : Int} {f : Str → R δ} (h : Post (txNum i >>= f) P E) : i.natAbs.log2 < 1920 ∧ Post (f (Str.ofString (toString i))) P E := by
  unfold txNum at h
  exact pb_if h
theorem pb_txJoin {a : Str} {ys : List Str} {f : Str → R δ} (h : Post (txJoin a ys >>= f) P E) : (ys.map (·.length)).sum + ys.length * a.length ≤ 16777216 ∧ Post (f (Txt.join a ys)) P E := by
  unfold txJoin at h
  obtain ⟨c, h⟩ := pb_if h
  exact ⟨by omega, h⟩
theorem pb_txSplit {a b : Str} {f : List Str → R δ} (h : Post (txSplit a b >>= f) P E) : ((b.length == 0) = false ∧ a.length + 2 ≤ sizeLine) ∧ Post (f (Txt.split a b)) P E := by
  unfold txSplit at h
  obtain ⟨⟨c1, c2, c3⟩, h⟩ := pb_if h
  exact ⟨⟨by simpa using c1, by rw [sizeLine_eq]; omega⟩, h⟩
theorem pb_txLen {a : Str} {f : Int → R δ} (h : Post (txLen a >>= f) P E) : a.length ≤ sizeLine ∧ Post (f (a.length : Int)) P E := by
  unfold txLen at h
  obtain ⟨c, h⟩ := pb_if h
  exact ⟨by rw [sizeLine_eq]; omega, h⟩
theorem pb_txAt {a : Str} {i : Int} {f : Str → R δ} (h : Post (txAt a i >>= f) P E) : ∃ c, a.length ≤ sizeLine ∧ atI a.cps.toList i = some c ∧ Post (f ⟨#[c]⟩) P E := by
  unfold txAt at h
  obtain ⟨c, h⟩ : a.length ≤ 1000000 ∧ Post ((ofO (atI a.cps.toList i) >>= fun c => R.ok (⟨#[c]⟩ : Str)) >>= f) P E := by
    by_cases q : a.length ≤ 1000000
    · rw [if_pos q] at h
      exact ⟨q, h⟩
    · rw [if_neg q] at h
      exact (show False from h).elim
  obtain ⟨x, e, h⟩ := pb_ofO (pb_assoc h)
  exact ⟨x, by rw [sizeLine_eq]; omega, e, h⟩
theorem pb_txIn {x a : Str} {f : Bool → R δ} (h : Post (txIn x a >>= f) P E) : ∃ c, x = ⟨#[c]⟩ ∧ Post (f (decide (c ∈ a.cps.toList))) P E := by
  unfold txIn at h
  obtain ⟨⟨l⟩⟩ := x
  match l, h with
  | [], h => exact (show False from h).elim
  | [c], h => exact ⟨c, rfl, h⟩
  | c :: d :: l, h => exact (show False from h).elim
theorem pb_txInt {a : Str} {f : Int → R δ} (h : Post (txInt a >>= f) P E) : ∃ n, (intText? a = some n ∧ a.length ≤ 640) ∧ Post (f n) P E := by
  unfold txInt at h
  by_cases q : a.length ≤ 640
  · rw [if_pos q] at h
    obtain ⟨n, e, h⟩ := pb_ofO h
    exact ⟨n, ⟨e, q⟩, h⟩
  · rw [if_neg q] at h
    exact (show False from h).elim
end
section
variable {K : Fg} {F : Hp}
theorem A2.of_strs : ∀ {ys : List Str}, A2 (rep K F) (ys.map V.str) ys
  | [] => .nil
  | y :: ys => .cons rfl A2.of_strs
/-- sign by sign -/
theorem tw_str {a : Str} : TW (Its a) (signs a) (fun _ => True) (fun b H x H' => H' = H ∧ x = .str b) := ⟨by
  have e : (signs a).length = a.cps.size := by
    unfold signs
    rw [List.length_map, Array.length_toList]
  rw [e]
  refine ⟨fun _ _ hi _ => hi, fun _ _ => Nat.le_refl _, fun i H x H' _ _ y => ?_⟩
  obtain ⟨e1, c, hc, e2⟩ := y
  refine ⟨⟨#[c]⟩, ?_, e1, e2⟩
  unfold signs
  rw [List.getElem?_map, Array.getElem?_toList, hc]
  rfl⟩
end
/-! ### where nothing is refused -/
theorem txAdd_ok {a b : Str} (h : a.length + b.length ≤ 1000000) : txAdd a b = R.ok (a ++ b) := by
  unfold txAdd
  rw [if_pos h]
/-- a number's text -/
def numS (i : Int) : Str := Str.ofString (toString i)
theorem numS_tl {i : Int} (h0 : 0 ≤ i) : TL.tl (numS i) = TL.numL i.toNat := by
  have := TL.tl_num i.toNat
  rw [show ((i.toNat : Nat) : Int) = i by omega] at this
  exact this
theorem numS_len {i : Int} (h0 : 0 ≤ i) (h1 : i < 1000) : (numS i).length ≤ 3 := by
  rw [TL.len_tl, numS_tl h0]
  exact TL.numL_len (by decide) (by omega)
theorem txNum_ok {i : Int} (h0 : 0 ≤ i) (h1 : i < 1000) : txNum i = R.ok (numS i) := by
  unfold txNum
  have : i.natAbs.log2 < 1920 := by
    by_cases z : i.natAbs = 0
    · rw [z]
      decide
    · exact Nat.lt_trans ((Nat.log2_lt z).mpr (show i.natAbs < 2 ^ 10 by omega)) (by decide)
  rw [if_pos this]
  rfl
theorem joinL_len (S : List Nat) : ∀ ps : List (List Nat), (TL.joinL S ps).length ≤ (ps.map (·.length)).sum + ps.length * S.length
  | [] => Nat.zero_le _
  | [p] => by
    show p.length ≤ p.length + 0 + 1 * S.length
    omega
  | p :: q :: r => by
    have ih := joinL_len S (q :: r)
    show (p ++ (S ++ TL.joinL S (q :: r))).length ≤ (p.length + ((q :: r).map (·.length)).sum) + ((q :: r).length + 1) * S.length
    rw [List.length_append, List.length_append, Nat.add_mul]
    omega
theorem join_len (a : Str) (ys : List Str) : (Txt.join a ys).length ≤ (ys.map (·.length)).sum + ys.length * a.length := by
  have h := joinL_len (TL.tl a) (ys.map TL.tl)
  rw [TL.len_tl, TL.join_eq, TL.tl_join]
  rw [List.map_map, List.length_map, ← TL.len_tl a] at h
  have e : ys.map ((fun x : List Nat => x.length) ∘ TL.tl) = ys.map (·.length) := List.map_congr_left fun y _ => (TL.len_tl y).symm
  rw [e] at h
  exact h
theorem sum_le {α : Type} {f : α → Nat} {b : Nat} : ∀ {ys : List α}, (∀ y ∈ ys, f y ≤ b) → (ys.map f).sum ≤ ys.length * b
  | [], _ => Nat.zero_le _
  | y :: ys, h => by
    have h1 := h y List.mem_cons_self
    have h2 := sum_le (ys := ys) fun z hz => h z (List.mem_cons_of_mem _ hz)
    show f y + (ys.map f).sum ≤ (ys.length + 1) * b
    rw [Nat.add_mul]
    omega
theorem txJoin_ok {a : Str} {ys : List Str} {b : Nat} (hb : ∀ y ∈ ys, y.length ≤ b) (h : ys.length * b + ys.length * a.length ≤ 1000000) : txJoin a ys = R.ok (Txt.join a ys) := by
  unfold txJoin
  have := sum_le (f := fun y : Str => y.length) hb
  rw [if_pos (by omega)]
theorem txSplit_ok {y : Str} {s : Nat} (ey : TL.tl y = [s]) (hk : y.cps.all (· < 256) = true) {ps : List Str} {b : Nat} (hne : ps ≠ []) (hp : ∀ p ∈ ps, s ∉ TL.tl p) (hb : ∀ p ∈ ps, p.length ≤ b) (h : ps.length * b + ps.length ≤ 1000000) : txSplit (Txt.join y ps) y = R.ok ps := by
  have e := TL.split_join ey hk hne hp
  have hl := join_len y ps
  have hs := sum_le (f := fun y : Str => y.length) hb
  have hy : y.length = 1 := by rw [TL.len_tl, ey]; rfl
  rw [hy] at hl
  unfold txSplit
  rw [e, if_pos ⟨by omega, by omega, by omega⟩]
theorem txLen_ok {a : Str} (h : a.length ≤ 1000000) : txLen a = R.ok (a.length : Int) := by
  unfold txLen
  rw [if_pos h]
theorem txAt_ok {a : Str} {i : Int} {c : Nat} (h : a.length ≤ 1000000) (e : atI a.cps.toList i = some c) : txAt a i = R.ok ⟨#[c]⟩ := by
  unfold txAt
  rw [if_pos h, e]
  rfl
theorem txIn_ok (c : Nat) (a : Str) : txIn ⟨#[c]⟩ a = R.ok (decide (c ∈ a.cps.toList)) := by
  unfold txIn
  rfl
theorem txInt_ok {i : Int} (h0 : 0 ≤ i) (h1 : i < 1000) : txInt (numS i) = R.ok i := by
  unfold txInt
  have hl := numS_len h0 h1
  rw [if_pos (by omega)]
  have e := TL.int_num (n := i.toNat) (by rw [← numS_tl h0, ← TL.len_tl]; omega)
  rw [show ((i.toNat : Nat) : Int) = i by omega] at e
  show ofO (intText? (Str.ofString (toString i))) = _
  rw [e]
  rfl
theorem numL_lead (n : Nat) : ∀ l, TL.numL n = 48 :: l → n = 0 := by
  induction n using Nat.strongRecOn with
  | _ n ih =>
    intro l e
    by_cases h : n < 10
    · rw [TL.numL_lt h] at e
      injection e with e1 _
      omega
    · rw [TL.numL_step (by omega)] at e
      cases q : TL.numL (n / 10) with
      | nil => exact absurd q (TL.numL_ne _)
      | cons c r =>
        rw [q] at e
        injection e with e1 _
        rw [e1] at q
        have := ih (n / 10) (by omega) r q
        omega
end Z
namespace L2
open PySem PySem.Spec PyProof.Rows
theorem mt_joinK {X : Cx} {K : PySem.W.Frag} (hK : X.K = K) : MtR X "str.join" (fun x xs H Q => ∃ a p, ∃ ys : List Str, x = .str a ∧ xs = [.ref p] ∧ (SqL K H p (ys.map V.str) ∨ SqT K H p (ys.map V.str)) ∧
    (ys.map (·.length)).sum + ys.length * a.length ≤ 16777216 ∧ Q (.str (Txt.join a ys)) H) := by
  subst hK
  exact mt_join
end L2
/-! ZE: tuples item by item (Nt), objects of an own class (Oj), trees of tuples (Tr) -/
namespace Z
open PySem L2 PySem.Spec PyProof.Rows
open Rep (rep)
class RepL (α : Type) where
  repTs : Fg → Hp → List V → α → Prop
  mono : ∀ {K : Fg} {H H' : Hp} {vs : List V} {x : α}, Same H H' → repTs K H vs x → repTs K H' vs x
open RepL (repTs)
instance repLU : RepL Unit := ⟨fun _ _ vs _ => vs = [], fun _ h => h⟩
instance repLP {α β : Type} [Rep α] [RepL β] : RepL (α × β) := ⟨fun K H vs x => ∃ v us, vs = v :: us ∧ rep K H v x.1 ∧ repTs K H us x.2, fun s ⟨v, us, e, h1, h2⟩ => ⟨v, us, e, Rep.mono s h1, RepL.mono s h2⟩⟩
/-- a tuple, item by item -/
structure Nt (α : Type) where
  v : α
  deriving DecidableEq
instance decNtL {α : Type} [DecidableEq α] : DecidableEq (List (Nt α)) := inferInstance
instance repNt {α : Type} [RepL α] : Rep (Nt α) := ⟨fun K H v x => ∃ a vs, v = .ref a ∧ H a = some (.tup vs) ∧ repTs K H vs x.v, fun s ⟨a, vs, e, q, h⟩ => ⟨a, vs, e, s _ _ q, RepL.mono s h⟩⟩
section
variable {α β γ δ : Type} [Rep α] [Rep β] [Rep γ] [Rep δ] {K : Fg} {H H' : Hp} {v u1 u2 u3 u4 : V} {a : Addr}
theorem nt3 {x : Nt (α × β × γ × Unit)} (h : rep K H v x) : ∃ a u1 u2 u3, v = .ref a ∧ H a = some (.tup [u1, u2, u3]) ∧ rep K H u1 x.v.1 ∧ rep K H u2 x.v.2.1 ∧ rep K H u3 x.v.2.2.1 := by
  obtain ⟨a, vs, e, q, u1, _, rfl, h1, u2, _, rfl, h2, u3, _, rfl, h3, rfl⟩ := h
  exact ⟨a, u1, u2, u3, e, q, h1, h2, h3⟩
theorem nt4 {x : Nt (α × β × γ × δ × Unit)} (h : rep K H v x) : ∃ a u1 u2 u3 u4, v = .ref a ∧ H a = some (.tup [u1, u2, u3, u4]) ∧ rep K H u1 x.v.1 ∧ rep K H u2 x.v.2.1 ∧ rep K H u3 x.v.2.2.1 ∧ rep K H u4 x.v.2.2.2.1 := by
  obtain ⟨a, vs, e, q, u1, _, rfl, h1, u2, _, rfl, h2, u3, _, rfl, h3, u4, _, rfl, h4, rfl⟩ := h
  exact ⟨a, u1, u2, u3, u4, e, q, h1, h2, h3, h4⟩
theorem nt2 {x : Nt (α × β × Unit)} (h : rep K H v x) : ∃ a u1 u2, v = .ref a ∧ H a = some (.tup [u1, u2]) ∧ rep K H u1 x.v.1 ∧ rep K H u2 x.v.2.1 := by
  obtain ⟨a, vs, e, q, u1, _, rfl, h1, u2, _, rfl, h2, rfl⟩ := h
  exact ⟨a, u1, u2, e, q, h1, h2⟩
theorem rep_nt2 {x1 : α} {x2 : β} (q : H a = some (.tup [u1, u2])) (h1 : rep K H u1 x1) (h2 : rep K H u2 x2) : rep K H (.ref a) (⟨(x1, x2, ())⟩ : Nt (α × β × Unit)) := ⟨a, _, rfl, q, u1, _, rfl, h1, u2, _, rfl, h2, rfl⟩
theorem rep_nt3 {x1 : α} {x2 : β} {x3 : γ} (q : H a = some (.tup [u1, u2, u3])) (h1 : rep K H u1 x1) (h2 : rep K H u2 x2) (h3 : rep K H u3 x3) : rep K H (.ref a) (⟨(x1, x2, x3, ())⟩ : Nt (α × β × γ × Unit)) := ⟨a, _, rfl, q, u1, _, rfl, h1, u2, _, rfl, h2, u3, _, rfl, h3, rfl⟩
theorem rep_nt4 {x1 : α} {x2 : β} {x3 : γ} {x4 : δ} (q : H a = some (.tup [u1, u2, u3, u4])) (h1 : rep K H u1 x1) (h2 : rep K H u2 x2) (h3 : rep K H u3 x3) (h4 : rep K H u4 x4) : rep K H (.ref a) (⟨(x1, x2, x3, x4, ())⟩ : Nt (α × β × γ × δ × Unit)) := ⟨a, _, rfl, q, u1, _, rfl, h1, u2, _, rfl, h2, u3, _, rfl, h3, u4, _, rfl, h4, rfl⟩
end
/-! ### as data -/
class DatL (α : Type) extends RepL α where
  toDs : α → List PyData
  dmaxL : Nat
  dpL : ∀ {K : Fg} {H : Hp} {vs : List V} {x : α}, repTs K H vs x → DpAll K H vs (toDs x)
  layL : ∀ x : α, PyData.canLayAll0 (toDs x) = true
  depL : ∀ x : α, PyData.depthAll (toDs x) ≤ dmaxL
  eqvL : ∀ x y : α, PyData.eqvAll (toDs x) (toDs y) = true ↔ x = y
instance datLU : DatL Unit where
  toDs := fun _ => []
  dmaxL := 0
  dpL := fun h => by
    have h' : _ = [] := h
    subst h'
    exact .nil
  layL := fun _ => by simp only [PyData.canLayAll0]
  depL := fun _ => by simp only [PyData.depthAll, Nat.le_refl]
  eqvL := fun _ _ => by simp [PyData.eqvAll]
instance datLP {α β : Type} [Dat α] [DatL β] : DatL (α × β) where
  toDs := fun x => Dat.toD x.1 :: DatL.toDs x.2
  dmaxL := max (Dat.dmax α) (DatL.dmaxL β)
  dpL := fun {K H vs x} h => by
    obtain ⟨v, us, rfl, h1, h2⟩ := h
    exact .cons (Dat.dp h1) (DatL.dpL h2)
  layL := fun x => by simp only [PyData.canLayAll0, Dat.lay, DatL.layL, Bool.and_true]
  depL := fun x => by
    have h1 := Dat.dep x.1
    have h2 := DatL.depL x.2
    simp only [PyData.depthAll]
    omega
  eqvL := fun x y => by
    obtain ⟨x1, x2⟩ := x
    obtain ⟨y1, y2⟩ := y
    simp only [PyData.eqvAll, Bool.and_eq_true, Dat.eqv, DatL.eqvL, Prod.mk.injEq]
instance datNt {α : Type} [DatL α] : Dat (Nt α) where
  toD := fun x => .tuple (DatL.toDs x.v)
  dmax := DatL.dmaxL α + 1
  dp := fun {K H v x} h => by
    obtain ⟨a, vs, rfl, q, h⟩ := h
    exact .tup (SqT.of q) (DatL.dpL h)
  lay := fun x => by
    simp only [PyData.canLay0]
    exact DatL.layL x.v
  dep := fun x => by
    have h := DatL.depL x.v
    simp only [PyData.depth]
    omega
  eqv := fun x y => by
    obtain ⟨x⟩ := x
    obtain ⟨y⟩ := y
    simp only [PyData.eqv, Nt.mk.injEq]
    exact DatL.eqvL x y
/-! ### objects of an own class -/
def mkfs (fs : List Str) (us : List V) : List (Str × V) := (fs.zip us).foldl (fun l p => putF p.1 p.2 l) []
structure Oj (nm : Str) (fs : List Str) (α : Type) where
  v : α
instance repOj {nm : Str} {fs : List Str} {α : Type} [RepL α] : Rep (Oj nm fs α) := ⟨fun K H v x => ∃ a C dx us, v = .ref a ∧ Nm K nm C ∧ H a = some (.ins C dx (mkfs fs us)) ∧ repTs K H us x.v, fun s ⟨a, C, dx, us, e, n, q, h⟩ => ⟨a, C, dx, us, e, n, s _ _ q, RepL.mono s h⟩⟩
section
variable {α β γ δ : Type} [Rep α] [Rep β] [Rep γ] [Rep δ] {K : Fg} {H H' : Hp} {u1 u2 u3 u4 : V} {us : List V}
theorem rl1 {x : α × Unit} (h : repTs K H us x) : ∃ u1, us = [u1] ∧ rep K H u1 x.1 := by
  obtain ⟨u1, _, rfl, h1, rfl⟩ := h
  exact ⟨u1, rfl, h1⟩
theorem rl2 {x : α × β × Unit} (h : repTs K H us x) : ∃ u1 u2, us = [u1, u2] ∧ rep K H u1 x.1 ∧ rep K H u2 x.2.1 := by
  obtain ⟨u1, _, rfl, h1, u2, _, rfl, h2, rfl⟩ := h
  exact ⟨u1, u2, rfl, h1, h2⟩
theorem rl3 {x : α × β × γ × Unit} (h : repTs K H us x) : ∃ u1 u2 u3, us = [u1, u2, u3] ∧ rep K H u1 x.1 ∧ rep K H u2 x.2.1 ∧ rep K H u3 x.2.2.1 := by
  obtain ⟨u1, _, rfl, h1, u2, _, rfl, h2, u3, _, rfl, h3, rfl⟩ := h
  exact ⟨u1, u2, u3, rfl, h1, h2, h3⟩
theorem rl4 {x : α × β × γ × δ × Unit} (h : repTs K H us x) : ∃ u1 u2 u3 u4, us = [u1, u2, u3, u4] ∧ rep K H u1 x.1 ∧ rep K H u2 x.2.1 ∧ rep K H u3 x.2.2.1 ∧ rep K H u4 x.2.2.2.1 := by
  obtain ⟨u1, _, rfl, h1, u2, _, rfl, h2, u3, _, rfl, h3, u4, _, rfl, h4, rfl⟩ := h
  exact ⟨u1, u2, u3, u4, rfl, h1, h2, h3, h4⟩
theorem mk_rl1 {x1 : α} (h1 : rep K H u1 x1) : repTs K H [u1] (x1, ()) := ⟨u1, _, rfl, h1, rfl⟩
theorem mk_rl2 {x1 : α} {x2 : β} (h1 : rep K H u1 x1) (h2 : rep K H u2 x2) : repTs K H [u1, u2] (x1, x2, ()) := ⟨u1, _, rfl, h1, u2, _, rfl, h2, rfl⟩
theorem mk_rl3 {x1 : α} {x2 : β} {x3 : γ} (h1 : rep K H u1 x1) (h2 : rep K H u2 x2) (h3 : rep K H u3 x3) : repTs K H [u1, u2, u3] (x1, x2, x3, ()) := ⟨u1, _, rfl, h1, u2, _, rfl, h2, u3, _, rfl, h3, rfl⟩
theorem mk_rl4 {x1 : α} {x2 : β} {x3 : γ} {x4 : δ} (h1 : rep K H u1 x1) (h2 : rep K H u2 x2) (h3 : rep K H u3 x3) (h4 : rep K H u4 x4) : repTs K H [u1, u2, u3, u4] (x1, x2, x3, x4, ()) := ⟨u1, _, rfl, h1, u2, _, rfl, h2, u3, _, rfl, h3, u4, _, rfl, h4, rfl⟩
end
/-! ### trees: (a thing, a thing, a tuple of trees) -/
inductive Tr where
  | n (a b : Thing) (ts : List Tr)
def Tr.a : Tr → Thing
  | .n a _ _ => a
def Tr.b : Tr → Thing
  | .n _ b _ => b
def Tr.ts : Tr → List Tr
  | .n _ _ ts => ts
mutual
def trRep (K : Fg) (H : Hp) : Tr → V → Prop
  | .n a b ts, v => ∃ p u w q vs, v = .ref p ∧ H p = some (.tup [u, w, .ref q]) ∧ rep K H u a ∧ rep K H w b ∧ H q = some (.tup vs) ∧ trsRep K H ts vs
def trsRep (K : Fg) (H : Hp) : List Tr → List V → Prop
  | [], vs => vs = []
  | t :: ts, vs => ∃ v us, vs = v :: us ∧ trRep K H t v ∧ trsRep K H ts us
end
mutual
theorem trRep_mono {K : Fg} {H H' : Hp} (s : Same H H') : ∀ (t : Tr) (v : V), trRep K H t v → trRep K H' t v
  | .n a b ts, v, h => by
    rw [trRep] at h ⊢
    obtain ⟨p, u, w, q, vs, e, h1, h2, h3, h4, h5⟩ := h
    exact ⟨p, u, w, q, vs, e, s _ _ h1, Rep.mono s h2, Rep.mono s h3, s _ _ h4, trsRep_mono s ts vs h5⟩
theorem trsRep_mono {K : Fg} {H H' : Hp} (s : Same H H') : ∀ (ts : List Tr) (vs : List V), trsRep K H ts vs → trsRep K H' ts vs
  | [], vs, h => by
    rw [trsRep] at h ⊢
    exact h
  | t :: ts, vs, h => by
    rw [trsRep] at h ⊢
    obtain ⟨v, us, e, h1, h2⟩ := h
    exact ⟨v, us, e, trRep_mono s t v h1, trsRep_mono s ts us h2⟩
end
instance repTr : Rep Tr := ⟨fun K H v t => trRep K H t v, fun {_ _ _ v t} s h => trRep_mono s t v h⟩
theorem trs_a2 {K : Fg} {H : Hp} : ∀ (ts : List Tr) (vs : List V), trsRep K H ts vs ↔ A2 (rep K H) vs ts
  | [], vs => by
    rw [trsRep]
    exact ⟨fun e => by rw [e]; exact .nil, fun h => by cases h; rfl⟩
  | t :: ts, vs => by
    rw [trsRep]
    constructor
    · rintro ⟨v, us, rfl, h1, h2⟩
      exact .cons h1 ((trs_a2 ts us).mp h2)
    · intro h
      cases h with
      | cons h1 h2 => exact ⟨_, _, rfl, h1, (trs_a2 ts _).mpr h2⟩
abbrev TrN := Nt (Thing × Thing × Tup Tr × Unit)
def Tr.nt (t : Tr) : TrN := ⟨(t.a, t.b, ⟨t.ts⟩, ())⟩
def Tr.of (x : TrN) : Tr := .n x.v.1 x.v.2.1 x.v.2.2.1.l
theorem tr_nt {K : Fg} {H : Hp} {v : V} : ∀ {t : Tr}, rep K H v t → rep K H v t.nt
  | .n a b ts, h => by
    have h' : trRep K H (.n a b ts) v := h
    rw [trRep] at h'
    obtain ⟨p, u, w, q, vs, rfl, h1, h2, h3, h4, h5⟩ := h'
    exact rep_nt3 h1 h2 h3 ⟨q, vs, rfl, h4, (trs_a2 ts vs).mp h5⟩
theorem rep_tr {K : Fg} {H : Hp} {v : V} {x : TrN} (h : rep K H v x) : rep K H v (Tr.of x) := by
  obtain ⟨p, u, w, z, rfl, h1, h2, h3, h4⟩ := nt3 h
  obtain ⟨q, vs, rfl, h5, h6⟩ := h4
  show trRep K H (.n _ _ _) _
  rw [trRep]
  exact ⟨p, u, w, q, vs, rfl, h1, h2, h3, h5, (trs_a2 _ vs).mpr h6⟩
theorem nt_tr {K : Fg} {H : Hp} {v : V} : ∀ {t : Tr}, rep K H v t.nt → rep K H v t
  | .n a b ts, h => rep_tr h
/-! ### a tuple and the empty one -/
theorem A2.emp {α : Type} {r : V → α → Prop} {vs : List V} {xs : List α} (h : A2 r vs xs) : vs.isEmpty = xs.isEmpty := by
  cases h <;> rfl
theorem op_eqE {X : Cx} {K : Fg} (hK : X.K = K) (hu : X.A.units + 64 < cLine) : OpR X (compareOp .Eq) (fun x y H Q => ∃ (a b : Addr) (vs : List V) (k : Bool), x = .ref a ∧ y = .ref b ∧ SqT K H a vs ∧ SqT K H b [] ∧ vs.isEmpty = k ∧ Q (.bl k) H) := by
  subst hK
  intro pins s σ H x y v u Q I rx ry ⟨a, b, vs, k, e1, e2, h1, h2, ek, q⟩
  subst e1 e2 ek
  cases rx
  cases ry
  obtain ⟨its, r1, p1, _⟩ := I.tuple h1
  obtain ⟨its2, r2, p2, _⟩ := I.tuple h2
  cases r2
  have l1 : its.length = vs.length := (Vals.length r1).symm
  refine PySem.SeqAt.eq_tupleAt (e := fun _ => false) p1 p2 (by omega) (fun j _ z => absurd z (by simp)) ⟨.bl _, H, I, rfl, ?_⟩
  have e : ((List.range (min its.toArray.size ([] : List Value).toArray.size)).all (fun _ => false) && its.toArray.size == ([] : List Value).toArray.size) = vs.isEmpty := by
    cases vs with
    | nil =>
      have : its = [] := List.length_eq_zero_iff.mp l1
      subst this
      rfl
    | cons v vs =>
      cases its with
      | nil => cases l1
      | cons i its => simp
  rw [e]
  exact q
/-! ### great powers and products -/
@[irreducible] def sqR (i : Int) : R Int := if i.natAbs < 2 ^ 400 then .ok (i ^ (2 : Int).toNat) else .bad
@[irreducible] def mulW (i j : Int) : R Int := if i.natAbs < 2 ^ 400 ∧ j.natAbs < 2 ^ 400 then .ok (i * j) else .bad
theorem pb_sq {β : Type} {Q : β → Prop} {E : Exn → Prop} {i : Int} {f : Int → R β} (h : Post (sqR i >>= f) Q E) : i.natAbs < 2 ^ 400 ∧ Post (f (i ^ (2 : Int).toNat)) Q E := by
  unfold sqR at h
  exact pb_if h
theorem pb_mulW {β : Type} {Q : β → Prop} {E : Exn → Prop} {i j : Int} {f : Int → R β} (h : Post (mulW i j >>= f) Q E) : (i.natAbs < 2 ^ 400 ∧ j.natAbs < 2 ^ 400) ∧ Post (f (i * j)) Q E := by
  unfold mulW at h
  exact pb_if h
theorem po_sq {i : Int} (h : i.natAbs < 2 ^ 400) : sqR i = R.ok (i * i) := by
  unfold sqR
  rw [if_pos h]
  have e : i ^ (2 : Int).toNat = i * i := by
    show i ^ 2 = i * i
    rw [Int.pow_succ, Int.pow_succ, Int.pow_zero, Int.one_mul]
  rw [e]
theorem po_mulW {i j : Int} (h : i.natAbs < 2 ^ 400) (h2 : j.natAbs < 2 ^ 400) : mulW i j = R.ok (i * j) := by
  unfold mulW
  rw [if_pos ⟨h, h2⟩]
section
variable {X : Cx}
theorem op_sq : OpR X (binaryOp .Pow) (rI (fun i j => j = 2 ∧ i.natAbs < 2 ^ 400) fun i j => .int (i ^ j.toNat)) := opI fun i j _ _ _ _ _ hc q => by
  obtain ⟨rfl, h⟩ := hc
  refine PyProof.Rows.pow_int (by decide) ?_ q
  have := intBits_le_iff.mpr h
  omega
theorem op_mulW4 : OpR X (binaryOp .Mult) (rI (fun i j => i.natAbs < 2 ^ 400 ∧ j.natAbs < 2 ^ 400) fun i j => .int (i * j)) := opI fun _ _ _ _ _ _ _ hc q =>
  mul_int q (IntMulOk.of_le (intBits_le_iff.mpr hc.1) (intBits_le_iff.mpr hc.2) (by decide))
end
/-! ### min, max of a tuple of two ints -/
section
variable {prog : Program} {w : World} {A : Around} {E : Value → Shared → Prop} {s : Shared} {l : Addr} {xs : Array (Int × Tok)} {Q : Value → Shared → Prop}
theorem iter_intTup (hl : s.heap.IsTuple l (intItems xs))
    (h : ∀ s₂ : Shared, s₂ = { s with heap := s.heap.push { cls := .type "tuple_iterator", data := .fields #[.ref l, .int 0 0] } } →
      (s₂.heap.IsTupleIter s.heap.objs.size l 0 ∧ s₂.heap.IsTuple l (intItems xs)) → (∀ b ∈ [s.heap.objs.size, l], b < s₂.heap.objs.size) → l ≠ s.heap.objs.size → Q (.ref s.heap.objs.size) s₂) :
    wpAny (model prog w) A (pyIter (.ref l)) Q E s := by
  have hlt : l < s.heap.objs.size := by obtain ⟨_, e, _⟩ := hl; exact Heap.lt_size e
  refine wpAny_pyIter_tuple hl (h _ rfl ⟨⟨_, Heap.get?_push_size _ rfl, rfl, rfl⟩, hl.push _⟩ (fun b hb => ?_) (Nat.ne_of_lt hlt))
  show b < (s.heap.push _).objs.size
  rw [Heap.size_push]
  rcases List.mem_cons.mp hb with rfl | hb
  · exact Nat.lt_succ_self _
  · rcases List.mem_cons.mp hb with rfl | hb
    · exact Nat.lt_succ_of_lt hlt
    · cases hb
theorem old_keptT {h' : Heap} (hk : ∀ b o, b ∉ [s.heap.objs.size] → (s.heap.push { cls := .type "tuple_iterator", data := .fields #[.ref l, .int 0 0] }).get? b = some o → h'.get? b = some o) :
    ∀ b o, s.heap.get? b = some o → h'.get? b = some o := fun b o e => by
  refine hk b o (fun hm => ?_) (Heap.get?_push_of_some _ e)
  rcases List.mem_cons.mp hm with e1 | hm
  · exact absurd (e1 ▸ Heap.lt_size e) (Nat.lt_irrefl _)
  · cases hm
theorem max_intTup (hh : A.handled = none) (hl : s.heap.IsTuple l (intItems xs)) (hne : 0 < xs.size)
    (h : ∀ v h' tk, (intItems xs)[argBest (fun i j => decide (numAt xs i > numAt xs j)) (xs.size - 1)]? = some v → (∀ b o, s.heap.get? b = some o → h'.get? b = some o) → Q v { s with heap := h', toks := tk }) :
    wpAny (model prog w) A (call (.builtin "max") [.ref l]) Q E s := by
  refine call_max_walk (iter_intTup hl fun s₂ e st hfp hlI => ?_)
  subst e
  refine ⟨_, _, _, _, _, _, _, rfl, Walks.tuple (A := A.in1) hh _ l hlI (intItems xs), st, hfp, by simpa [intItems] using hne, CmpOf.ints_gt (numAt xs) (fun _ _ => intItems_at), fun v h' tk hP hk => ?_⟩
  exact h v h' tk (by simpa [intItems] using hP) (old_keptT hk)
theorem min_intTup (hh : A.handled = none) (hl : s.heap.IsTuple l (intItems xs)) (hne : 0 < xs.size)
    (h : ∀ v h' tk, (intItems xs)[argBest (fun i j => decide (numAt xs i < numAt xs j)) (xs.size - 1)]? = some v → (∀ b o, s.heap.get? b = some o → h'.get? b = some o) → Q v { s with heap := h', toks := tk }) :
    wpAny (model prog w) A (call (.builtin "min") [.ref l]) Q E s := by
  refine call_min_walk (iter_intTup hl fun s₂ e st hfp hlI => ?_)
  subst e
  refine ⟨_, _, _, _, _, _, _, rfl, Walks.tuple (A := A.in1) hh _ l hlI (intItems xs), st, hfp, by simpa [intItems] using hne, CmpOf.ints_lt (numAt xs) (fun _ _ => intItems_at), fun v h' tk hP hk => ?_⟩
  exact h v h' tk (by simpa [intItems] using hP) (old_keptT hk)
end
section
variable {X : Cx} {K : Fg}
theorem cr_maxT2 (hK : X.K = K) (hc : X.calm = true) : CallR X (.builtin "max") (fun vs H Q => ∃ (a : Addr) (i j : Int), vs = [V.ref a] ∧ SqT K H a [.int i, .int j] ∧ ∃ k, max2 i j = k ∧ Q (.int k) H) := by
  subst hK
  intro pins s σ H vs us Q I r ⟨a, i, j, e, h, k, ek, q⟩
  subst e ek
  obtain ⟨its, rv, hT, _⟩ := I.tuple h
  obtain ⟨t, u, rfl⟩ := Vals.int2 rv
  rw [Vals.ref1 r]
  refine max_intTup (xs := #[(i, t), (j, u)]) (I.ok.hd hc) (by rw [show intItems #[(i, t), (j, u)] = #[Value.int i t, Value.int j u] by simp [intItems]]; exact hT) (show 0 < 2 from by decide) fun v h' tk hv hk => ?_
  have hv' : v = Value.int (max2 i j) (if j > i then u else t) := by
    unfold max2
    by_cases z : j > i
    · have e : argBest (fun x y => decide (numAt #[(i, t), (j, u)] x > numAt #[(i, t), (j, u)] y)) 1 = 1 := by simp [argBest, numAt, z]
      rw [show (#[(i, t), (j, u)] : Array (Int × Tok)).size - 1 = 1 from rfl, e] at hv
      simpa [intItems, z] using hv.symm
    · have e : argBest (fun x y => decide (numAt #[(i, t), (j, u)] x > numAt #[(i, t), (j, u)] y)) 1 = 0 := by simp [argBest, numAt, z]
      rw [show (#[(i, t), (j, u)] : Array (Int × Tok)).size - 1 = 1 from rfl, e] at hv
      simpa [intItems, z] using hv.symm
  rw [hv']
  exact ⟨.int _, H, I.kept hk, ⟨_, rfl⟩, q⟩
theorem cr_minT2 (hK : X.K = K) (hc : X.calm = true) : CallR X (.builtin "min") (fun vs H Q => ∃ (a : Addr) (i j : Int), vs = [V.ref a] ∧ SqT K H a [.int i, .int j] ∧ ∃ k, min2 i j = k ∧ Q (.int k) H) := by
  subst hK
  intro pins s σ H vs us Q I r ⟨a, i, j, e, h, k, ek, q⟩
  subst e ek
  obtain ⟨its, rv, hT, _⟩ := I.tuple h
  obtain ⟨t, u, rfl⟩ := Vals.int2 rv
  rw [Vals.ref1 r]
  refine min_intTup (xs := #[(i, t), (j, u)]) (I.ok.hd hc) (by rw [show intItems #[(i, t), (j, u)] = #[Value.int i t, Value.int j u] by simp [intItems]]; exact hT) (show 0 < 2 from by decide) fun v h' tk hv hk => ?_
  have hv' : v = Value.int (min2 i j) (if j < i then u else t) := by
    unfold min2
    by_cases z : j < i
    · have e : argBest (fun x y => decide (numAt #[(i, t), (j, u)] x < numAt #[(i, t), (j, u)] y)) 1 = 1 := by simp [argBest, numAt, z]
      rw [show (#[(i, t), (j, u)] : Array (Int × Tok)).size - 1 = 1 from rfl, e] at hv
      simpa [intItems, z] using hv.symm
    · have e : argBest (fun x y => decide (numAt #[(i, t), (j, u)] x < numAt #[(i, t), (j, u)] y)) 1 = 0 := by simp [argBest, numAt, z]
      rw [show (#[(i, t), (j, u)] : Array (Int × Tok)).size - 1 = 1 from rfl, e] at hv
      simpa [intItems, z] using hv.symm
  rw [hv']
  exact ⟨.int _, H, I.kept hk, ⟨_, rfl⟩, q⟩
end
/-! ### a list grows by a tuple's items -/
theorem meets_extend_tup (l : Addr) (items : Array Value) (n : Nat) (b : Addr) (items2 : Array Value) (n2 : Nat) (o2 : Obj) (hc2 : o2.cls = .type "tuple") (hd2 : o2.data = .seq items2 n2) (hs0 : ¬(!items.isEmpty && Builtin.List.listTooLong (items.size + items2.size)) = true) (hs1 : items.size ≤ sizeLine) (hs2 : items.size + items2.size ≤ sizeLine + 1) :
    Meets (Builtin.«list.extend» ⟨[.ref l, .ref b], []⟩) (fun _ R s => s.heap.get? l = some { cls := .type "list", dict := none, data := .seq items n, slots := #[] } ∧ s.heap.get? b = some o2 ∧ R (.ok (.ret Value.none)) { s with heap := s.heap.update l (Obj.mapSeq fun x => x ++ items2), toks := s.toks }) :=
  .of_wp fun prog w A R s h => by
    obtain ⟨c2, d2, da2, sl2⟩ := o2
    dsimp only at hc2 hd2
    subst hc2 hd2
    obtain ⟨hp, g, d, tk, os⟩ := s; obtain ⟨hl, hb, h⟩ := h; have f1 := AutoSeq1.idx_int; have f2 := AutoSeq1.sub_tuple_tuple; have f3 := AutoSeq1.sub_list_list; have f4 := AutoSeq1.sub_tuple_list; have f5 := AutoSeq1.sub_list_tuple;
    have hz' : (items ++ items2).size ≤ sizeLine + 1 := by rw [Array.size_append]; exact hs2
    wp_walk using (wpAny_updateSeq hl rfl (hz := hs1) (_hz' := hz')), AutoSeq1.wpAny_loadPart' hl, AutoSeq1.wpAny_loadPart' hb; exact ⟨_, rfl, h⟩
theorem mt_extendT {X : Cx} {K : Fg} (hK : X.K = K) : MtM X "list.extend" (fun x vs H Q => ∃ l b xs zs, x = .ref l ∧ vs = [.ref b] ∧ H l = some (.lst xs) ∧ SqT K H b zs ∧ xs.length + zs.length ≤ sizeLine ∧ Q .non (upd H l (.lst (xs ++ zs)))) := by
  subst hK
  intro pins s σ H x vs v us Q I rx rv h
  obtain ⟨l, b, xs, zs, rfl, rfl, hH, hB, hz, q⟩ := h
  cases rx
  obtain ⟨u, rfl, ru⟩ := rv.one
  cases ru
  obtain ⟨z, its, n, r, hl, e⟩ := I.lstM hH
  obtain ⟨its2, r2, ⟨o2, e2, hc2, n2, hd2⟩, hl2⟩ := I.tuple hB
  have hl3 : zs.length = its2.length := r2.length
  have hsz : its.toArray.size + its2.toArray.size ≤ sizeLine := by rw [List.size_toArray, List.size_toArray]; omega
  have hlong : ¬ (!its.toArray.isEmpty && Builtin.List.listTooLong (its.toArray.size + its2.toArray.size)) = true := by
    rw [notLongL hsz, Bool.and_false]
    exact Bool.false_ne_true
  refine call_meets F.slot_list_extend ⟨_, e, rfl⟩ F.entry_list_extend (F.args_list_extend_2 _ _)
    (meets_extend_tup l its.toArray n b its2.toArray n2 o2 hc2 hd2 hlong (by rw [List.size_toArray]; omega) (by omega)) ⟨e, e2, ?_⟩
  refine ⟨.non, _, I.lset (its' := its ++ its2) hH e (by simp) (r.append r2) ?_, rfl, q⟩
  rw [List.length_append]
  omega
end Z
/-! ZK: a list of two ints, unpacked -/
namespace Z
open PySem L2
open Rep (rep)
def un2 {α : Type} (xs : List α) : R (α × α) := match xs with
  | [a, b] => .ok (a, b)
  | _ => .bad
theorem pb_un2 {α δ : Type} {xs : List α} {f : α × α → R δ} {P : δ → Prop} {E : Exn → Prop} (h : Post (un2 xs >>= f) P E) : ∃ a b, xs = [a, b] ∧ Post (f (a, b)) P E := by
  match xs, h with
  | [], h => exact (show False from h).elim
  | [_], h => exact (show False from h).elim
  | [a, b], h => exact ⟨a, b, rfl, h⟩
  | _ :: _ :: _ :: _, h => exact (show False from h).elim
theorem two_ints {K : Fg} {F : Hp} {vs : List V} {xs : List Int} {a b : Int} (h : A2 (rep K F) vs xs) (e : xs = [a, b]) : vs = [.int a, .int b] := by
  subst e
  cases h with
  | cons h1 t =>
    cases t with
    | cons h2 t =>
      cases t
      have h1' : _ = V.int a := h1
      have h2' : _ = V.int b := h2
      rw [h1', h2']
theorem po_un2 {α δ : Type} {a b : α} {f : α × α → R δ} {P : δ → Prop} {E : Exn → Prop} (h : Post (f (a, b)) P E) : Post (un2 [a, b] >>= f) P E := h
theorem a2_some {K : Fg} {F : Hp} {vs : List V} {xs : List Int} (h : A2 (rep K F) vs xs) : A2 (rep K F) vs (xs.map some) := by
  induction h with
  | nil => exact .nil
  | cons r _ ih => exact .cons (rep_some r) ih
end Z
/-! ZC: texts as data; what is an int or a text -/
namespace Z
open PySem L2 PySem.Spec PyProof.Rows
open Rep (rep)
instance : NonN Exn := ⟨fun {K H v x} h q => by
  obtain ⟨a, C, e, _⟩ := h
  rw [e] at q
  cases q⟩
structure Txt where
  t : Str
  ok : PyData.strOk t = true
  deriving DecidableEq
inductive IoS where
  | i (n : Int)
  | s (t : Txt)
  deriving DecidableEq
instance repIoS : Rep IoS := ⟨fun K H v x => match x with
  | .i n => v = .int n
  | .s t => v = .str t.t, fun {_ _ _ _ x} s h => by
    cases x with
    | i n => exact h
    | s t => exact h⟩
instance datIoS : Dat IoS where
  toD := fun x => match x with
    | .i n => .int n
    | .s t => .str t.t
  dmax := 0
  dp := fun {K H v x} h => by
    cases x with
    | i n =>
      have h' : v = V.int n := h
      subst h'
      exact .int _
    | s t =>
      have h' : v = V.str t.t := h
      subst h'
      exact .str _
  lay := fun x => by
    cases x with
    | i n => simp only [PyData.canLay0]
    | s t =>
      simp only [PyData.canLay0]
      exact t.ok
  dep := fun x => by cases x <;> simp only [PyData.depth, Nat.le_refl]
  eqv := fun x y => by
    cases x with
    | i n => cases y <;> simp [PyData.eqv]
    | s t =>
      cases y with
      | i n => simp [PyData.eqv]
      | s u =>
        obtain ⟨t, ht⟩ := t
        obtain ⟨u, hu⟩ := u
        simp [PyData.eqv]
section
variable {K : Fg} {F H : Hp}
def IoS.isS : IoS → Bool
  | .i _ => false
  | .s _ => true
theorem rep_ioI {n : Int} : rep K F (V.int n) (IoS.i n) := rfl
theorem rep_ioS {t : Str} {h : PyData.strOk t = true} : rep K F (V.str t) (IoS.s ⟨t, h⟩) := rfl
def asI : IoS → R Int
  | .i n => R.ok n
  | .s _ => R.bad
theorem pb_asI {β : Type} {Q : β → Prop} {E : Exn → Prop} {o : IoS} {f : Int → R β} (h : Post (asI o >>= f) Q E) : ∃ a, o = .i a ∧ Post (f a) Q E := by
  cases o with
  | i n => exact ⟨n, rfl, h⟩
  | s t => exact h.elim
theorem io_str {v : V} {x : IoS} (r : rep K F v x) : ∃ a, TyOf K H v (.type a) ∧ kitB a "str" = some x.isS := by
  cases x with
  | i n =>
    have h' : v = V.int n := r
    subst h'
    exact ⟨_, .int _, show kitB "int" "str" = some false by decide +kernel⟩
  | s t =>
    have h' : v = V.str t.t := r
    subst h'
    exact ⟨_, .str _, show kitB "str" "str" = some true by decide +kernel⟩
end
end Z
/-! ZJ: what is a text, a text with an int, or a web -/
namespace Z
open PySem L2 PySem.Spec PyProof.Rows
open Rep (rep)
inductive Tl where
  | tx (t : Txt)
  | ap (t : Txt) (i : Int)
  | wb (w : Int × Tup (Int × Int))
  deriving DecidableEq
instance repTl : Rep Tl := ⟨fun K H v x => match x with
  | .tx t => v = .str t.t
  | .ap t i => ∃ a, v = .ref a ∧ H a = some (.tup [.str t.t, .int i])
  | .wb w => rep K H v w, fun {_ _ _ _ x} s h => by
    cases x with
    | tx t => exact h
    | ap t i =>
      obtain ⟨a, e, q⟩ := h
      exact ⟨a, e, s _ _ q⟩
    | wb w => exact Rep.mono s h⟩
instance datTl : Dat Tl where
  toD := fun x => match x with
    | .tx t => .str t.t
    | .ap t i => .tuple [.str t.t, .int i]
    | .wb w => Dat.toD w
  dmax := Dat.dmax (Int × Tup (Int × Int)) + 1
  dp := fun {K H v x} h => by
    cases x with
    | tx t =>
      have h' : v = V.str t.t := h
      subst h'
      exact .str _
    | ap t i =>
      obtain ⟨a, rfl, q⟩ := h
      exact .tup (SqT.of q) (.cons (.str _) (.cons (.int _) .nil))
    | wb w => exact Dat.dp h
  lay := fun x => by
    cases x with
    | tx t =>
      simp only [PyData.canLay0]
      exact t.ok
    | ap t i => simp only [PyData.canLay0, PyData.canLayAll0, t.ok, Bool.and_true]
    | wb w => exact Dat.lay w
  dep := fun x => by
    cases x with
    | tx t => simp only [PyData.depth, Nat.zero_le]
    | ap t i =>
      simp only [PyData.depth, PyData.depthAll]
      omega
    | wb w => exact Nat.le_succ_of_le (Dat.dep w)
  eqv := fun x y => by
    cases x with
    | tx t =>
      obtain ⟨t, ht⟩ := t
      cases y with
      | tx u =>
        obtain ⟨u, hu⟩ := u
        simp [PyData.eqv]
      | ap u i => simp [PyData.eqv]
      | wb w =>
        obtain ⟨n, ⟨ts⟩⟩ := w
        simp [Dat.toD, PyData.eqv]
    | ap t i =>
      obtain ⟨t, ht⟩ := t
      cases y with
      | tx u => simp [PyData.eqv]
      | ap u j =>
        obtain ⟨u, hu⟩ := u
        simp [PyData.eqv, PyData.eqvAll]
      | wb w =>
        obtain ⟨n, ⟨ts⟩⟩ := w
        simp [Dat.toD, PyData.eqv, PyData.eqvAll]
    | wb w =>
      cases y with
      | tx u =>
        obtain ⟨n, ⟨ts⟩⟩ := w
        simp [Dat.toD, PyData.eqv]
      | ap u j =>
        obtain ⟨n, ⟨ts⟩⟩ := w
        simp [Dat.toD, PyData.eqv, PyData.eqvAll]
      | wb w2 =>
        show PyData.eqv (Dat.toD w) (Dat.toD w2) = true ↔ _
        rw [Dat.eqv]
        exact ⟨fun e => by rw [e], fun e => by injection e⟩
section
variable {K : Fg} {F H : Hp}
theorem rep_tlS {t : Str} {h : PyData.strOk t = true} : rep K F (V.str t) (Tl.tx ⟨t, h⟩) := rfl
theorem rep_tlA {t : Str} {h : PyData.strOk t = true} {i : Int} {a : Addr} (q : F a = some (.tup [.str t, .int i])) : rep K F (V.ref a) (Tl.ap ⟨t, h⟩ i) := ⟨a, rfl, q⟩
theorem rep_tlW {v : V} {w : Int × Tup (Int × Int)} (r : rep K F v w) : rep K F v (Tl.wb w) := r
end
end Z
/-! Z8: set(list of ints), sorted of it; list.count of data; list.insert -/
namespace L2
open PySem PySem.Spec PyProof.Rows
section
variable {P : Program} {w : World} {A : Around} {E : Value → Shared → Prop} {s : Shared}
set_option maxHeartbeats 3200000 in
/-- set(l) of a list of ints (turned from the tuple's, call_set_tupI) -/
theorem set_of_listI {l : Addr} {items : Array Value} (ns : List Int) {Q : Value → Shared → Prop} (hh : A.handled = none) (hl : s.heap.IsList l items) (hit : IntsAre items.toList ns) (hb : ns.length + 1 < scanBound)
    (h : ∀ (h' : Heap) (tk c : Nat), SetR w h' s.heap.objs.size (fun j => decide (j ∈ ns)) c → c ≤ ns.length → (∀ b o, s.heap.get? b = some o → h'.get? b = some o) → Q (.ref s.heap.objs.size) { s with heap := h', toks := tk }) :
    wpAny (model P w) A (call (.type "set") [.ref l]) Q E s := by
  have hisz : items.size = ns.length := by
    have q := IntsAre.length hit
    rw [Array.length_toList] at q
    exact q
  obtain ⟨c, tl, hmro⟩ := F.called_set.mro
  have hmade := F.called_set.made
  have hsub := F.called_set.sub
  refine wpAny_call (codeAny_of_tree ?_)
  show wpAny _ _ (callAny (.type "set") _) _ _ _
  refine wpAny_pure ⟨Code.quiet_builtin _ (by decide +kernel), codeAny_builtin F.entry_type_call ?_⟩
  rw [Around.under_plain (weight_type_call_type "set" [.ref l] []) rfl]
  have h1 := F.called_set.notType
  have h2 := F.called_set.canCreate
  have hct := F.typeCall_set_1 (.ref l)
  repeat (any_goals (first | assumption | wp_step))
  refine codeAny_mono (code_set_led1 (.ref l) (E := E) (Q₁ := fun obj s₁ => obj = .ref s.heap.objs.size ∧ s₁ = { s with heap := s.heap.push { cls := .type "set", dict := none, data := .set #[] 0 (.fresh 0 0 (!w.params.followText "set-order")) } }) ⟨rfl, rfl⟩) fun r s₁ hr => ?_
  cases r with
  | error e => exact hr
  | ok fl =>
    cases fl with
    | ret obj =>
      obtain ⟨rfl, rfl⟩ := hr
      have hS : (s.heap.push { cls := .type "set", dict := none, data := .set #[] 0 (.fresh 0 0 (!w.params.followText "set-order")) }).get? s.heap.objs.size = some { cls := .type "set", dict := none, data := .set #[] 0 (.fresh 0 0 (!w.params.followText "set-order")) } := Heap.get?_push_size _ rfl
      have hT : Shared.TypeIs { s with heap := s.heap.push { cls := .type "set", dict := none, data := .set #[] 0 (.fresh 0 0 (!w.params.followText "set-order")) } } (.ref s.heap.objs.size) "set" := ⟨_, hS, rfl⟩
      have hli := F.called_set.init.lookup
      have hbi := F.called_set.init.bind (.ref s.heap.objs.size)
      repeat (any_goals (first | assumption | wp_step))
      refine codeAny_mono (codeAny_call_builtin (R := wants (fun r s₂ => r = .none ∧ ∃ h' tk c, s₂ = { s with heap := h', toks := tk } ∧ SetR w h' s.heap.objs.size (fun j => decide (j ∈ ns)) c ∧ c ≤ ns.length ∧
          (∀ b o, s.heap.get? b = some o → h'.get? b = some o)) E) F.called_set.init.plain F.entry_set_init (check_set_init_1 hT ?_)) fun r₂ s₂ hr₂ => ?_
      · obtain ⟨ol, hol, hcl, nl, hdl⟩ := hl
        obtain ⟨ocls, odict, odata, oslots⟩ := ol
        simp only at hcl hdl
        subst hcl; subst hdl
        have hol' : (s.heap.push { cls := .type "set", dict := none, data := .set #[] 0 (.fresh 0 0 (!w.params.followText "set-order")) }).get? l = some { cls := .type "list", dict := odict, data := .seq items nl, slots := oslots } := Heap.get?_push_of_some _ hol
        have hsls := F.sub_list_set
        have hslf := F.sub_list_frozenset
        have hne : (Value.type "list" == Value.type "dict") = false := by decide
        have hl1 : (s.heap.push { cls := .type "set", dict := none, data := .set #[] 0 (.fresh 0 0 (!w.params.followText "set-order")) }).IsList l items := ⟨_, hol', rfl, nl, rfl⟩
        unfold Builtin.«set.__init__» noKeywords Builtin.Frozenset.updateFrom
        generalize hPI : pyIter = PI
        wp_walk
        subst hPI
        refine wpAny_pyIter_list hl1 ?_
        refine wpAny_bind (wpAny_runValue ?_)
        have hlS : l < s.heap.objs.size := Heap.lt_size hol
        have hh3 : A.in1.in1.in1.handled = none := by simp [hh]
        have hz1 : (s.heap.push { cls := .type "set", dict := none, data := .set #[] 0 (.fresh 0 0 (!w.params.followText "set-order")) }).objs.size = s.heap.objs.size + 1 := Heap.size_push ..
        have hneI : l ≠ (s.heap.push { cls := .type "set", dict := none, data := .set #[] 0 (.fresh 0 0 (!w.params.followText "set-order")) }).objs.size := by
          rw [Heap.size_push]; exact Nat.ne_of_lt (Nat.lt_succ_of_lt hlS)
        have hSf : s.heap.objs.size ∉ [(s.heap.push { cls := .type "set", dict := none, data := .set #[] 0 (.fresh 0 0 (!w.params.followText "set-order")) }).objs.size, l] := by
          rw [Heap.size_push]; simp only [List.mem_cons, List.mem_singleton, List.not_mem_nil, or_false, not_or]
          exact ⟨Nat.ne_of_lt (Nat.lt_succ_self _), Nat.ne_of_gt hlS⟩
        have hval : ∀ (i : Nat) (v : Value), items[i]? = some v → ∃ k t, ns[i]? = some k ∧ v = .int k t := fun i v hv => by
          have hi : i < ns.length := by rw [← hisz]; exact (Array.getElem?_eq_some_iff.mp hv).1
          obtain ⟨t, e⟩ := PyProof.Rows.IntsAre.int_at hit i v (by rw [Array.getElem?_toList]; exact hv)
          refine ⟨ns[i], t, List.getElem?_eq_getElem hi, ?_⟩
          rw [e, List.getD_eq_getElem?_getD, List.getElem?_eq_getElem hi] <;> rfl
        refine set_update_ints ((Walks.list hh3 _ l hneI items).toS) s.heap.objs.size
          hSf ns hisz hb hval (items.size - 0) 0 _ (by omega) (Nat.zero_le _)
          ⟨⟨_, Heap.get?_push_size _ rfl, rfl, rfl⟩, (hl1.push _)⟩ ?hS0 ?hR
        case hS0 =>
          have hget : ((s.heap.push { cls := .type "set", dict := none, data := .set #[] 0 (.fresh 0 0 (!w.params.followText "set-order")) }).push { cls := .type "list_iterator", data := .fields #[.ref l, .int 0 0] }).get? s.heap.objs.size = some { cls := .type "set", dict := none, data := .set #[] 0 (.fresh 0 0 (!w.params.followText "set-order")) } := Heap.get?_push_of_some _ hS
          exact ⟨0, Nat.le_refl 0, setR_new_at hget⟩
        case hR =>
          intro s' c' hm hc' hS'
          obtain ⟨h', g2, d', tk', os'⟩ := s'
          have eg : g2 = s.gens := hm.gens
          have ed : d' = s.drawn := hm.drawn
          have eo : os' = s.os := hm.os
          subst eg; subst ed; subst eo
          show wpAny _ _ _ _ _ _
          refine wpAny_pure ?_
          show wpAny _ _ (ret Value.none) _ _ _
          rw [hisz] at hc'
          refine wpAny_pure ⟨rfl, h', tk', c', rfl, hS', hc', fun b o e => ?_⟩
          have hb0 : b < s.heap.objs.size := Heap.lt_size e
          have hb1 : b ≠ s.heap.objs.size := Nat.ne_of_lt hb0
          have hb2 : b ≠ (s.heap.push { cls := .type "set", dict := none, data := .set #[] 0 (.fresh 0 0 (!w.params.followText "set-order")) }).objs.size := by
            rw [Heap.size_push]; exact Nat.ne_of_lt (Nat.lt_succ_of_lt hb0)
          exact hm.heap b o (by simp only [List.mem_cons, List.mem_singleton, List.not_mem_nil, or_false, not_or]; exact ⟨hb1, hb2⟩) (Heap.get?_push_of_some _ (Heap.get?_push_of_some _ e))
      · cases r₂ with
        | error e => exact hr₂
        | ok fl₂ =>
          cases fl₂ with
          | ret r =>
            obtain ⟨rfl, h', tk, c', rfl, hS', hc', hk'⟩ := hr₂
            repeat (any_goals (first | assumption | wp_step))
            exact h _ _ _ hS' hc' hk'
          | _ => exact hr₂.elim
    | _ => exact hr.elim
end
end L2
namespace Z
open PySem L2
open Rep (rep)
section
variable {X : Cx} {K : Fg} {w : World}
theorem cr_setLI (hK : X.K = K) (hw : X.w = w) (hc : X.calm = true) : CallR X (.type "set") (fun xs H Q => ∃ (l : Addr) (ns : List Int), xs = [V.ref l] ∧ SqL K H l (ns.map V.int) ∧ ns.length < 4000 ∧ ∀ a, H a = none → Q (.ref a) (upd H a (SetO w a (fun j => decide (j ∈ ns)) (nub ns).length))) := by
  subst hK hw
  intro pins s σ H xs us Q I r h
  obtain ⟨l, ns, rfl, hl, hf, q⟩ := h
  rw [Vals.ref1 r]
  obtain ⟨its, rv, pl, hz⟩ := I.list hl
  have hn : H s.heap.objs.size = none := I.hok.fresh (Nat.le_refl _)
  refine set_of_listI ns (I.ok.hd hc) pl.isList (by simpa using ints_of_vals rv) (by unfold scanBound; omega) fun h' tk c R hcn k => ?_
  have ec : c = (nub ns).length := by
    obtain ⟨o, es, ep, t, ho, hex, hdt, g, nd, hm2, hb, hf, hcs, hr, hl2⟩ := R
    rw [← hcs]
    have e1 : (es.toList.map keyOf).length = (nub ns).length := nodup_len nd (nub_nodup _) fun y => by
      rw [nub_mem, ← hm2 y, decide_eq_true_eq]
    rw [← e1, List.length_map, Array.length_toList]
  subst ec
  exact ⟨.ref s.heap.objs.size, upd H s.heap.objs.size (SetO X.w s.heap.objs.size (fun j => decide (j ∈ ns)) (nub ns).length), I.laid (t' := tk) k (Nat.le_refl _) (setO_new R), rfl, q _ hn⟩
theorem cr_sortSet (hw : X.w = w) (hc : X.calm = true) : CallR X (.builtin "sorted") (rSortedSet w) := by
  subst hw
  exact cr_sortedSet hc
end
/-- sorted(set(xs)) -/
def ssI (xs : List Int) : List Int := sortI (nub xs)
def ssR (xs : List Int) : R (List Int) := grd (decide (xs.length < 4000) && decide ((nub xs).length < 64)) >>= fun _ => .ok (ssI xs)
theorem perm_ints {xs ys : List Int} (h1 : xs.Nodup) (h2 : ys.Nodup) (h : ∀ x, x ∈ xs ↔ x ∈ ys) : xs.Perm ys := by
  rw [List.perm_iff_count]
  intro a
  rw [h1.count, h2.count]
  by_cases q : a ∈ xs
  · rw [if_pos q, if_pos ((h a).mp q)]
  · rw [if_neg q, if_neg (fun z => q ((h a).mpr z))]
theorem ssI_uniq {xs ns : List Int} (h1 : ns.Pairwise (· < ·)) (h2 : ∀ k : Int, k ∈ ns ↔ decide (k ∈ xs) = true) : ns = ssI xs := by
  unfold ssI
  refine sort_uniq ?_ (h1.imp fun h => Int.le_of_lt h) (sortI_sorted _)
  refine List.Perm.trans ?_ (sortI_perm _).symm
  refine perm_ints (h1.imp fun h => Int.ne_of_lt h) (nub_nodup _) fun k => ?_
  rw [h2 k, decide_eq_true_iff, nub_mem]
theorem pb_ss {δ : Type} {xs : List Int} {f : List Int → R δ} {P : δ → Prop} {E : Exn → Prop} (h : Post (ssR xs >>= f) P E) : ∃ l, (xs.length < 4000 ∧ (nub xs).length < 64) ∧ l = ssI xs ∧ Post (f l) P E := by
  unfold ssR at h
  cases q : (decide (xs.length < 4000) && decide ((nub xs).length < 64)) with
  | true =>
    rw [q] at h
    rw [Bool.and_eq_true, decide_eq_true_iff, decide_eq_true_iff] at q
    exact ⟨_, q, rfl, h⟩
  | false =>
    rw [q] at h
    exact (show False from h).elim
/-- xs.insert(i, y), i not below nought -/
def insR {α : Type} (xs : List α) (i : Int) (y : α) : R (List α) := if xs.length < 100000 ∧ 0 ≤ i ∧ i < 9223372036854775808 then .ok (xs.take i.toNat ++ [y] ++ xs.drop i.toNat) else .bad
theorem pn_ins {α δ : Type} {xs : List α} {i : Int} {y : α} {f : List α → R δ} {P : δ → Prop} {E : Exn → Prop} (h : Post (insR xs i y >>= f) P E) : ∃ l, (xs.length < 100000 ∧ 0 ≤ i ∧ i < 9223372036854775808) ∧ l = xs.take i.toNat ++ [y] ++ xs.drop i.toNat ∧ Post (f l) P E := by
  unfold insR at h
  by_cases q : xs.length < 100000 ∧ 0 ≤ i ∧ i < 9223372036854775808
  · rw [if_pos q] at h
    exact ⟨_, q, rfl, h⟩
  · rw [if_neg q] at h
    exact (show False from h).elim
theorem A2.ins {α : Type} {r : V → α → Prop} {v : V} {y : α} (n : Nat) {vs : List V} {xs : List α} (h : A2 r vs xs) (g : r v y) : A2 r (vs.take n ++ [v] ++ vs.drop n) (xs.take n ++ [y] ++ xs.drop n) := A2.append (A2.append (A2.take n h) (.cons g .nil)) (A2.drop n h)
theorem line_ins {α : Type} {r : V → α → Prop} {vs : List V} {xs : List α} (h : A2 r vs xs) (g : xs.length < 100000) : vs.length < sizeLine := by
  rw [h.length]
  exact Nat.lt_of_lt_of_le g line5
/-- l.count(x), of data -/
def cntB {α : Type} [DecidableEq α] (xs : List α) (y : α) : Int := ((xs.countP fun z => decide (z = y) : Nat) : Int)
section
variable {X : Cx} {K : Fg}
theorem mt_countDt (hK : X.K = K) (α : Type) [Dat α] [DecidableEq α] (hd : Dat.dmax α ≤ 50) (hu : X.A.units + 65 < cLine) : MtR X "list.count" (fun x xs H Q => ∃ (a : Addr) (u : V) (ys : List α) (y : α), x = V.ref a ∧ xs = [u] ∧ rep K H (V.ref a) ys ∧ rep K H u y ∧ Q (.int (cntB ys y)) H) := by
  subst hK
  intro pins s σ H x xs v us Q I rx rxs ⟨a, y, ys, k, e1, e2, hs0, hy, q⟩
  subst e1 e2
  cases rx
  cases rxs with
  | cons ry rt =>
    rename_i uy ut
    cases rt
    have sl : SeqAt.shaped (.list (ys.map Dat.toD)) = true := shapedD (α := List α) (by show Dat.dmax α + 1 ≤ 60; omega) ys
    have sd : SeqAt.shaped (Dat.toD k) = true := shapedD (by omega) k
    have hl : Dp X.K H (V.ref a) (.list (ys.map Dat.toD)) := Dat.dp hs0
    obtain ⟨bs, r1⟩ := Dp.reads I (Dat.toD k) y uy (Dat.dp hy) ry
    have hxs : PyData.canLayAll0 (ys.map Dat.toD) = true := SeqAt.canLay_of_shaped sl
    have hroom : X.A.units + 1 + min (PyData.depthAll (ys.map Dat.toD)) (Dat.toD k).depth < cLine := PyProof.Rows.room_in_shaped sd hu
    cases hl with
    | lst hs ha =>
      obtain ⟨its, rv, ⟨⟨cls, dd, data, sls⟩, n, ho, hc, hdn, hdt⟩, hlen⟩ := I.list hs
      simp only at hc hdt
      subst hc hdt
      obtain ⟨as, h4⟩ := Dp.readsAll I _ _ its ha rv
      have hmap : its.map (SeqAt.readOf s.heap) = ys.map Dat.toD := SeqAt.readsAll_map _ its as hxs h4
      have hcount : its.toArray.toList.countP (fun u => PyData.eqv (SeqAt.readOf s.heap u) (Dat.toD k)) = ys.countP fun z => decide (z = k) := by
        have e1 : its.countP (fun u => PyData.eqv (SeqAt.readOf s.heap u) (Dat.toD k)) = (its.map (SeqAt.readOf s.heap)).countP fun z => PyData.eqv z (Dat.toD k) := by rw [List.countP_map]; rfl
        rw [List.toList_toArray, e1, hmap, List.countP_map]
        refine List.countP_congr fun z _ => ?_
        show PyData.eqv (Dat.toD z) (Dat.toD k) = true ↔ _
        rw [eqvD]
      refine call_meets PySem.F.slot_list_count ⟨_, ho, rfl⟩ PySem.F.entry_list_count (PySem.F.args_list_count_2 _ _)
        (SeqAt.list_countAt a its.toArray n dd sls uy (fun u => PyData.eqv (SeqAt.readOf s.heap u) (Dat.toD k))) ⟨ho, SeqAt.items_eqAt (vs := its.toArray) (show ReadsAll s.heap its.toArray.toList _ as from h4) r1 hxs (SeqAt.canLay_of_shaped sd) hroom, ?_⟩
      refine ⟨.int (cntB ys k), H, I.tok _, ⟨s.toks, ?_⟩, q⟩
      show Value.int ((its.toArray.toList.countP _ : Nat) : Int) s.toks = Value.int (cntB ys k) s.toks
      rw [hcount]
      rfl
end
end Z
namespace Z
open PySem L2
open Rep (rep)
/-- a dict that stays as it is -/
structure FzD (κ β : Type) where
  m : List (κ × β)
  deriving DecidableEq
instance repFD : Rep (FzD Int Int) := ⟨fun K H v d => ∃ a, v = .ref a ∧ H a = some (.dK (encM kI V.int d.m)), fun s ⟨a, e, q⟩ => ⟨a, e, s _ _ q⟩⟩
end Z
namespace Z
open PySem L2
open Rep (rep)
/-- a text as a key -/
def kS (s : Str) : Key := Sum.inr s
theorem kS_inj : ∀ a b, kS a = kS b → a = b := fun _ _ h => Sum.inr.inj h
theorem AD.merge {κ β : Type} [DecidableEq κ] {e : κ → Key} {r : V → β → Prop} (he : ∀ a b, e a = e b → a = b) : ∀ {more : List (Key × V)} {l : List (κ × β)}, AD e r more l → ∀ {kvs : List (Key × V)} {m : List (κ × β)}, AD e r kvs m → AD e r (mergeK kvs more) (l.foldl (fun m p => mput m p.1 p.2) m)
  | _, _, .nil, _, _, h => h
  | _, _, .cons a t, _, _, h => AD.merge he t (AD.put he h a)
theorem AD.mmk {κ β : Type} [DecidableEq κ] {e : κ → Key} {r : V → β → Prop} (he : ∀ a b, e a = e b → a = b) {more : List (Key × V)} {l : List (κ × β)} (h : AD e r more l) : AD e r (mergeK [] more) (Z.mmk l) := AD.merge he h .nil
theorem dgetsS {H : Hp} {a : Addr} {kvs : List (Key × V)} {s : Str} {v : V} (e : H a = some (.dK kvs)) (q : valV kvs (kS s) = some v) : DGet H a (.str s) (some v) := by
  have h : DGet H a (.str s) (valV kvs (kS s)) := DGet.k (k := kS s) e
  rw [q] at h
  exact h
end Z
namespace Z
open PySem L2
open Rep (rep)
section
variable {X : Cx} {K : Fg} {F H : Hp}
/-- isinstance(x, (b, c)) -/
theorem call_isBT (hK : X.K = K) : CallR X (.builtin "isinstance") (fun xs H Q => ∃ (x : V) (tp : Addr) (a b c : String) (r q : Bool), xs = [x, .ref tp] ∧ H tp = some (.tup [.ty b, .ty c]) ∧ TyOf K H x (.type a) ∧ kitB a b = some r ∧ kitB a c = some q ∧ Q (.bl (r || q)) H) := by
  subst hK
  intro pins s σ H xs us Q I rx ⟨x, tp, a, b, c, r, q, e, ht, h1, h2, h3, k⟩
  refine call_isiT pins s σ H xs us Q I rx ⟨x, tp, _, .type a, [.type b, .type c], r || q, e, ht, .cons (.ty b) (.cons (.ty c) .nil), .base h1, ?_, k⟩
  refine L2.kitAny_cons (L2.kit_ty h2) (fun e => ?_) fun e => by rw [e]; rfl
  rw [e, Bool.false_or]
  refine L2.kitAny_cons (L2.kit_ty h3) (fun e => ?_) fun e => e
  rw [e]
  exact L2.kitAny_nil
theorem th_it (s : Same F H) {v : V} {t : Thing} (r : rep K F v t) : ∃ a, TyOf K H v (.type a) ∧ kitB a "int" = some t.isPl ∧ kitB a "tuple" = some (!t.isPl) := by
  obtain ⟨a, h, z⟩ := th_ty s r
  rcases z with ⟨rfl, e⟩ | ⟨rfl, e⟩
  · exact ⟨_, h, by rw [e]; decide +kernel, by rw [e]; decide +kernel⟩
  · exact ⟨_, h, by rw [e]; decide +kernel, by rw [e]; decide +kernel⟩
theorem A2.some {α : Type} [Rep α] {vs : List V} {xs : List α} (h : A2 (rep K F) vs xs) : A2 (rep K F) vs (xs.map Option.some) := by
  induction h with
  | nil => exact .nil
  | cons a _ ih => exact .cons (rep_some a) ih
end
end Z
/-! ZM: lemmas about mirrors -/
namespace Z
open PySem L2
section
variable {α β γ : Type}
theorem foldR_inv {f : β → α → R β} (I : β → Prop) : ∀ {xs : List α} {s : β}, I s → (∀ s x, I s → x ∈ xs → ∃ s', f s x = R.ok s' ∧ I s') → ∃ s', foldR f s xs = R.ok s' ∧ I s'
  | [], s, h, _ => ⟨s, rfl, h⟩
  | x :: xs, s, h, hf => by
    obtain ⟨s', e, h'⟩ := hf s x h List.mem_cons_self
    obtain ⟨s2, e2, h2⟩ := foldR_inv I (xs := xs) (s := s') h' fun s y hs hy => hf s y hs (List.mem_cons_of_mem _ hy)
    exact ⟨s2, by show (f s x >>= fun s' => foldR f s' xs) = _; rw [e]; exact e2, h2⟩
/-- with how many items are gone through -/
theorem foldR_invN {f : β → α → R β} (I : Nat → β → Prop) : ∀ {xs : List α} {n : Nat} {s : β}, I n s → (∀ n s x, I n s → x ∈ xs → ∃ s', f s x = R.ok s' ∧ I (n + 1) s') → ∃ s', foldR f s xs = R.ok s' ∧ I (n + xs.length) s'
  | [], n, s, h, _ => ⟨s, rfl, h⟩
  | x :: xs, n, s, h, hf => by
    obtain ⟨s', e, h'⟩ := hf n s x h List.mem_cons_self
    obtain ⟨s2, e2, h2⟩ := foldR_invN I (xs := xs) (n := n + 1) (s := s') h' fun n s y hs hy => hf n s y hs (List.mem_cons_of_mem _ hy)
    refine ⟨s2, by show (f s x >>= fun s' => foldR f s' xs) = _; rw [e]; exact e2, ?_⟩
    rw [List.length_cons, show n + (xs.length + 1) = n + 1 + xs.length by omega]
    exact h2
theorem foldX_inv {ρ : Type} {f : β → α → R (Sum ρ (Bool × β))} (I : β → Prop) : ∀ {xs : List α} {s : β}, I s → (∀ s x, I s → x ∈ xs → ∃ s', f s x = R.ok (.inr (true, s')) ∧ I s') → ∃ s', foldX f s xs = R.ok (.inr s') ∧ I s'
  | [], s, h, _ => ⟨s, rfl, h⟩
  | x :: xs, s, h, hf => by
    obtain ⟨s', e, h'⟩ := hf s x h List.mem_cons_self
    obtain ⟨s2, e2, h2⟩ := foldX_inv I (xs := xs) (s := s') h' fun s y hs hy => hf s y hs (List.mem_cons_of_mem _ hy)
    refine ⟨s2, ?_, h2⟩
    show (f s x >>= fun r => match r with
      | .inl z => R.ok (.inl z)
      | .inr (true, s') => foldX f s' xs
      | .inr (false, s') => R.ok (.inr s')) = _
    rw [e]
    exact e2
/-- a search that never ends the whole -/
theorem foldX_unit {ρ : Type} {f : Unit → α → R (Sum ρ (Bool × Unit))} {xs : List α} (hf : ∀ x ∈ xs, f () x = R.ok (.inr (true, ()))) : foldX f () xs = R.ok (.inr ()) := by
  obtain ⟨s, e, _⟩ := foldX_inv (fun _ => True) (f := f) (xs := xs) (s := ()) trivial fun s x _ hx => ⟨(), hf x hx, trivial⟩
  exact e
theorem mapR_ok {f : α → R β} {g : α → β} : ∀ {xs : List α}, (∀ x ∈ xs, f x = R.ok (g x)) → mapR f xs = R.ok (xs.map g)
  | [], _ => rfl
  | x :: xs, h => by
    show (f x >>= fun y => mapR f xs >>= fun ys => R.ok (y :: ys)) = _
    rw [h x List.mem_cons_self, mapR_ok fun y hy => h y (List.mem_cons_of_mem _ hy)]
    rfl
theorem mapG_ok {f : α → R β} {g : α → β} {xs : List α} (hl : xs.length < 100000) (h : ∀ x ∈ xs, f x = R.ok (g x)) : mapG f xs = R.ok (xs.map g) := by
  unfold mapG
  rw [grd_t (decide_eq_true hl)]
  exact mapR_ok h
theorem mapR_ex {f : α → R β} (p : β → Prop) : ∀ {xs : List α}, (∀ x ∈ xs, ∃ y, f x = R.ok y ∧ p y) → ∃ ys, mapR f xs = R.ok ys ∧ ys.length = xs.length ∧ ∀ y ∈ ys, p y
  | [], _ => ⟨[], rfl, rfl, fun _ h => nomatch h⟩
  | x :: xs, h => by
    obtain ⟨y, e, hy⟩ := h x List.mem_cons_self
    obtain ⟨ys, e2, hl, hp⟩ := mapR_ex p fun y hy => h y (List.mem_cons_of_mem _ hy)
    refine ⟨y :: ys, ?_, by rw [List.length_cons, List.length_cons, hl], fun z hz => ?_⟩
    · show (f x >>= fun y => mapR f xs >>= fun ys => R.ok (y :: ys)) = _
      rw [e, e2]
      rfl
    · rcases List.mem_cons.mp hz with rfl | hz
      · exact hy
      · exact hp z hz
theorem mapG_ex {f : α → R β} (p : β → Prop) {xs : List α} (hl : xs.length < 100000) (h : ∀ x ∈ xs, ∃ y, f x = R.ok y ∧ p y) : ∃ ys, mapG f xs = R.ok ys ∧ ys.length = xs.length ∧ ∀ y ∈ ys, p y := by
  unfold mapG
  rw [grd_t (decide_eq_true hl)]
  exact mapR_ex p h
theorem filR_ok {f : α → R (Option β)} {g : α → Option β} : ∀ {xs : List α}, (∀ x ∈ xs, f x = R.ok (g x)) → filR f xs = R.ok (xs.filterMap g)
  | [], _ => rfl
  | x :: xs, h => by
    show (f x >>= fun o => filR f xs >>= fun ys => match o with
      | some y => R.ok (y :: ys)
      | none => R.ok ys) = _
    rw [h x List.mem_cons_self, filR_ok fun y hy => h y (List.mem_cons_of_mem _ hy)]
    show (match g x with
      | some y => R.ok (y :: xs.filterMap g)
      | none => R.ok (xs.filterMap g)) = R.ok ((x :: xs).filterMap g)
    rw [List.filterMap_cons]
    cases g x <;> rfl
theorem filG_ok {f : α → R (Option β)} {g : α → Option β} {xs : List α} (hl : xs.length < 100000) (h : ∀ x ∈ xs, f x = R.ok (g x)) : filG f xs = R.ok (xs.filterMap g) := by
  unfold filG
  rw [grd_t (decide_eq_true hl)]
  exact filR_ok h
theorem getI_nat {xs : List α} {i : Int} (h0 : 0 ≤ i) (h1 : i < xs.length) : ∃ x, getI xs i = R.ok x ∧ x ∈ xs ∧ xs[i.toNat]? = some x := by
  have hj : i.toNat < xs.length := by omega
  refine ⟨xs[i.toNat], ?_, List.getElem_mem hj, List.getElem?_eq_getElem hj⟩
  unfold getI
  have e : atI xs i = some xs[i.toNat] := by
    have := atI_nat (xs := xs) (j := i.toNat) (v := xs[i.toNat]) (List.getElem?_eq_getElem hj)
    rw [Int.toNat_of_nonneg h0] at this
    exact this
  rw [e]
  rfl
theorem getI_eq {xs : List α} {i : Int} {x : α} (h0 : 0 ≤ i) (h : xs[i.toNat]? = some x) : getI xs i = R.ok x := by
  have h1 := (List.getElem?_eq_some_iff.mp h).1
  obtain ⟨y, e, _, e2⟩ := getI_nat (xs := xs) (i := i) h0 (by omega)
  rw [h] at e2
  cases e2
  exact e
theorem getI_last {xs : List α} (x : α) : getI (xs ++ [x]) (-1) = R.ok x := by
  unfold getI
  rw [atI_last]
  rfl
theorem setI_nat {xs : List α} {i : Int} {x : α} (h0 : 0 ≤ i) (h1 : i < xs.length) : setI xs i x = R.ok (xs.set i.toNat x) := by
  have e : ixN xs.length i = some i.toNat := by
    unfold ixN
    rw [if_pos h0, if_pos h1]
  unfold setI
  rw [e]
theorem app_ok {xs : List α} {x : α} (h : xs.length < 100000) : app xs x = R.ok (xs ++ [x]) := by
  unfold app
  rw [if_pos h]
theorem extend_ok {xs ys : List α} (h : xs.length + ys.length < 100000) : extend xs ys = R.ok (xs ++ ys) := by
  unfold extend
  rw [if_pos h]
theorem modI_ok {i j : Int} (h : 0 < j) : modI i j = R.ok (i % j) := by
  unfold modI
  rw [if_pos h]
theorem divI_okW {i j : Int} (h : 0 < j) (h2 : j.natAbs.log2 < 9000) : divI i j = R.ok (i / j) := by
  unfold divI
  rw [if_pos ⟨h, h2⟩]
theorem divI_ok {i j : Int} (h : 0 < j) (h2 : j < 1073741824) : divI i j = R.ok (i / j) := by
  refine divI_okW h (Nat.lt_of_lt_of_le ((Nat.log2_lt (by omega)).mpr (show j.natAbs < 2 ^ 30 by omega)) (by decide))
theorem mulI_ok {i j : Int} (h : (-(2 ^ 64) < i ∧ i < 2 ^ 64) ∨ (-(2 ^ 64) < j ∧ j < 2 ^ 64)) : mulI i j = R.ok (i * j) := by
  unfold mulI
  rw [if_pos h]
theorem rngI_ok {i j : Int} (h1 : -(2 ^ 62) ≤ i) (h2 : i < 2 ^ 62) (h3 : -(2 ^ 62) ≤ j) (h4 : j < 2 ^ 62) : rngI i j = R.ok (rng i j) := by
  unfold rngI
  rw [if_pos ⟨h1, h2, h3, h4⟩]
theorem rng_mem {i j k : Int} : k ∈ rng i j ↔ i ≤ k ∧ k < j := by
  unfold rng
  rw [List.mem_map]
  constructor
  · rintro ⟨n, hn, rfl⟩
    have := List.mem_range.mp hn
    omega
  · intro h
    exact ⟨(k - i).toNat, List.mem_range.mpr (by omega), by omega⟩
/-! ### what holds of a result, step by step -/
section
variable {P Q : α → Prop} {S : β → Prop} {X : Exn → Prop}
theorem po_bind {m : R α} {k : α → R β} (h : Post m Q X) (hk : ∀ a, Q a → Post (k a) S X) : Post (m >>= k) S X := by
  cases m with
  | ok a => exact hk a h
  | exc e => exact h
  | bad => exact h
theorem po_ok {a : α} (h : P a) : Post (R.ok a) P X := h
theorem po_eq {m : R α} {a : α} (h : m = R.ok a) (hp : P a) : Post m P X := by
  rw [h]
  exact hp
theorem po_if {c : Prop} [Decidable c] {m n : R α} (h1 : c → Post m P X) (h2 : ¬ c → Post n P X) : Post (if c then m else n) P X := by
  by_cases h : c
  · rw [if_pos h]
    exact h1 h
  · rw [if_neg h]
    exact h2 h
theorem po_ex {m : R α} (h : Post m P noX) : ∃ a, m = R.ok a ∧ P a := by
  cases m with
  | ok a => exact ⟨a, rfl, h⟩
  | exc e => exact (show False from h).elim
  | bad => exact (show False from h).elim
theorem po_iff {m : R α} {a : α} (h : Post m (· = a) noX) : m = R.ok a := by
  obtain ⟨b, e, rfl⟩ := po_ex h
  exact e
theorem po_grd {b : Bool} {k : Unit → R β} (h : b = true) (hk : Post (k ()) S X) : Post (grd b >>= k) S X := by
  rw [grd_t h]
  exact hk
theorem po_get {xs : List α} {i : Int} {k : α → R β} (h0 : 0 ≤ i) (h1 : i < xs.length) (hk : ∀ x, x ∈ xs → xs[i.toNat]? = some x → Post (k x) S X) : Post (getI xs i >>= k) S X := by
  obtain ⟨x, e, h2, h3⟩ := getI_nat h0 h1
  rw [e]
  exact hk x h2 h3
theorem po_getE {xs : List α} {i : Int} {x : α} {k : α → R β} (h : getI xs i = R.ok x) (hk : Post (k x) S X) : Post (getI xs i >>= k) S X := by
  rw [h]
  exact hk
theorem po_last {xs : List α} {k : α → R β} (h : xs ≠ []) (hk : ∀ x, x ∈ xs → Post (k x) S X) : Post (getI xs (-1) >>= k) S X := by
  obtain ⟨ys, y, rfl⟩ : ∃ ys y, xs = ys ++ [y] := ⟨xs.dropLast, xs.getLast h, (List.dropLast_concat_getLast h).symm⟩
  rw [getI_last]
  exact hk y (List.mem_append_right _ List.mem_cons_self)
theorem po_set {xs : List α} {i : Int} {x : α} {k : List α → R β} (h0 : 0 ≤ i) (h1 : i < xs.length) (hk : Post (k (xs.set i.toNat x)) S X) : Post (setI xs i x >>= k) S X := by
  rw [setI_nat h0 h1]
  exact hk
theorem po_app {xs : List α} {x : α} {k : List α → R β} (h : xs.length < 100000) (hk : Post (k (xs ++ [x])) S X) : Post (app xs x >>= k) S X := by
  rw [app_ok h]
  exact hk
theorem po_extend {xs ys : List α} {k : List α → R β} (h : xs.length + ys.length < 100000) (hk : Post (k (xs ++ ys)) S X) : Post (extend xs ys >>= k) S X := by
  rw [extend_ok h]
  exact hk
theorem po_mod {i j : Int} {k : Int → R β} (h : 0 < j) (hk : 0 ≤ i % j → i % j < j → Post (k (i % j)) S X) : Post (modI i j >>= k) S X := by
  rw [modI_ok h]
  exact hk (Int.emod_nonneg _ (by omega)) (Int.emod_lt_of_pos _ h)
theorem po_div {i j : Int} {k : Int → R β} (h : 0 < j) (h2 : j < 1073741824) (hk : Post (k (i / j)) S X) : Post (divI i j >>= k) S X := by
  rw [divI_ok h h2]
  exact hk
theorem po_divW {i j : Int} {k : Int → R β} (h : 0 < j) (h2 : j.natAbs.log2 < 9000) (hk : Post (k (i / j)) S X) : Post (divI i j >>= k) S X := by
  rw [divI_okW h h2]
  exact hk
theorem po_mul {i j : Int} {k : Int → R β} (h : (-(2 ^ 64) < i ∧ i < 2 ^ 64) ∨ (-(2 ^ 64) < j ∧ j < 2 ^ 64)) (hk : Post (k (i * j)) S X) : Post (mulI i j >>= k) S X := by
  rw [mulI_ok h]
  exact hk
theorem po_rng {i j : Int} {k : List Int → R β} (h1 : -(2 ^ 62) ≤ i) (h2 : i < 2 ^ 62) (h3 : -(2 ^ 62) ≤ j) (h4 : j < 2 ^ 62) (hk : Post (k (rng i j)) S X) : Post (rngI i j >>= k) S X := by
  rw [rngI_ok h1 h2 h3 h4]
  exact hk
theorem po_fold {f : β → α → R β} {s : β} {xs : List α} (I : β → Prop) (h0 : I s) (hf : ∀ s x, I s → x ∈ xs → Post (f s x) I X) : Post (foldR f s xs) I X := by
  induction xs generalizing s with
  | nil => exact h0
  | cons x xs ih =>
    show Post (f s x >>= fun s' => foldR f s' xs) I X
    exact po_bind (hf s x h0 List.mem_cons_self) fun s' h' => ih h' fun s y hs hy => hf s y hs (List.mem_cons_of_mem _ hy)
/-- .. with the number of turns gone -/
theorem po_foldN {f : β → α → R β} {s : β} {xs : List α} (I : Nat → β → Prop) (h0 : I 0 s) (hf : ∀ n s x, n < xs.length → I n s → xs[n]? = some x → Post (f s x) (I (n + 1)) X) : Post (foldR f s xs) (I xs.length) X := by
  have key : ∀ (l : List α) (n : Nat) (s : β), xs.drop n = l → n ≤ xs.length → I n s → Post (foldR f s l) (I xs.length) X := by
    intro l
    induction l with
    | nil =>
      intro n s e hn h
      have : xs.length ≤ n := by
        have := congrArg List.length e
        rw [List.length_drop, List.length_nil] at this
        omega
      rw [show xs.length = n by omega]
      exact h
    | cons x l ih =>
      intro n s e hn h
      have hlt : n < xs.length := by
        have := congrArg List.length e
        rw [List.length_drop, List.length_cons] at this
        omega
      have e1 : xs[n] :: xs.drop (n + 1) = x :: l := (List.drop_eq_getElem_cons hlt).symm.trans e
      injection e1 with e2 e3
      show Post (f s x >>= fun s' => foldR f s' l) _ X
      exact po_bind (hf n s x hlt h (by rw [List.getElem?_eq_getElem hlt, e2])) fun s' h' => ih (n + 1) s' e3 (by omega) h'
  exact key xs 0 s rfl (Nat.zero_le _) h0
theorem po_foldX {ρ : Type} {f : β → α → R (Sum ρ (Bool × β))} {s : β} {xs : List α} (I : β → Prop) (h0 : I s) (hf : ∀ s x, I s → x ∈ xs → Post (f s x) (fun r => ∃ s', r = .inr (true, s') ∧ I s') X) : Post (foldX f s xs) (fun r => ∃ s', r = .inr s' ∧ I s') X := by
  induction xs generalizing s with
  | nil => exact ⟨s, rfl, h0⟩
  | cons x xs ih =>
    refine po_bind (S := fun r => ∃ s', r = Sum.inr s' ∧ I s') (k := fun r => match r with
      | .inl z => (R.ok (.inl z) : R (Sum ρ β))
      | .inr (true, s') => foldX f s' xs
      | .inr (false, s') => R.ok (.inr s')) (hf s x h0 List.mem_cons_self) fun r hr => ?_
    obtain ⟨s', rfl, h'⟩ := hr
    exact ih h' fun s y hs hy => hf s y hs (List.mem_cons_of_mem _ hy)
theorem po_mapG {f : α → R β} {xs : List α} (p : β → Prop) (hl : xs.length < 100000) (hf : ∀ x ∈ xs, Post (f x) p X) : Post (mapG f xs) (fun ys => ys.length = xs.length ∧ ∀ y ∈ ys, p y) X := by
  unfold mapG
  rw [grd_t (decide_eq_true hl)]
  show Post (mapR f xs) _ X
  clear hl
  induction xs with
  | nil => exact ⟨rfl, fun _ h => nomatch h⟩
  | cons x xs ih =>
    show Post (f x >>= fun y => mapR f xs >>= fun ys => R.ok (y :: ys)) _ X
    refine po_bind (hf x List.mem_cons_self) fun y hy => po_bind (ih fun z hz => hf z (List.mem_cons_of_mem _ hz)) fun ys ⟨h1, h2⟩ => ?_
    refine ⟨by rw [List.length_cons, List.length_cons, h1], fun z hz => ?_⟩
    rcases List.mem_cons.mp hz with rfl | hz
    · exact hy
    · exact h2 z hz
end
theorem cut_head (xs : List α) : cutL xs none (some 1) = xs.take 1 := by
  unfold cutL
  have e : HT.sIx xs.length xs.length (some 1) = min 1 xs.length := HT.sIx_nat xs.length xs.length 1
  have e0 : HT.sIx xs.length 0 none = 0 := rfl
  rw [e, e0, List.drop_zero]
  cases xs with
  | nil => rfl
  | cons x xs => simp
theorem cut_last (xs : List α) : cutL xs (some (-1)) none = xs.drop (xs.length - 1) := by
  unfold cutL
  have e : HT.sIx xs.length 0 (some (-1)) = xs.length - 1 := by
    unfold HT.sIx
    simp only [show ((-1 : Int) < 0) = True from eq_true (by decide), if_true]
    omega
  have e0 : HT.sIx xs.length xs.length none = xs.length := rfl
  rw [e, e0]
  refine List.take_of_length_le ?_
  rw [List.length_drop]
  exact Nat.le_refl _
end
section
variable {α β γ : Type} {X : Exn → Prop}
theorem po_mapStN {f : γ → α → R (β × γ)} {s : γ} {xs : List α} (I : Nat → γ → Prop) (p : β → Prop) (hl : xs.length < 100000) (h0 : I 0 s) (hf : ∀ n s x, n < xs.length → I n s → xs[n]? = some x → Post (f s x) (fun r => p r.1 ∧ I (n + 1) r.2) X) :
    Post (mapStG f s xs) (fun r => r.1.length = xs.length ∧ (∀ y ∈ r.1, p y) ∧ I xs.length r.2) X := by
  unfold mapStG
  rw [grd_t (decide_eq_true hl), ok_bind]
  clear hl
  have key : ∀ (l : List α) (n : Nat) (s : γ), xs.drop n = l → n ≤ xs.length → I n s → Post (mapSt f s l) (fun r => r.1.length = l.length ∧ (∀ y ∈ r.1, p y) ∧ I xs.length r.2) X := by
    intro l
    induction l with
    | nil =>
      intro n s e hn h
      have : xs.length ≤ n := by
        have := congrArg List.length e
        rw [List.length_drop, List.length_nil] at this
        omega
      rw [show n = xs.length by omega] at h
      exact ⟨rfl, by intro y hy; exact absurd hy List.not_mem_nil, h⟩
    | cons x l ih =>
      intro n s e hn h
      have hlt : n < xs.length := by
        have := congrArg List.length e
        rw [List.length_drop, List.length_cons] at this
        omega
      have e1 : xs[n] :: xs.drop (n + 1) = x :: l := (List.drop_eq_getElem_cons hlt).symm.trans e
      injection e1 with e2 e3
      refine po_bind (hf n s x hlt h (by rw [List.getElem?_eq_getElem hlt, e2])) fun r ⟨h1, h2⟩ => po_bind (ih (n + 1) r.2 e3 (by omega) h2) fun q ⟨h3, h4, h5⟩ => ?_
      refine ⟨by rw [List.length_cons, List.length_cons, h3], fun y hy => ?_, h5⟩
      rcases List.mem_cons.mp hy with rfl | hy
      · exact h1
      · exact h4 y hy
  exact key xs 0 s rfl (Nat.zero_le _) h0
end
section
variable {α : Type}
theorem cut_take (xs : List α) (n : Nat) : cutL xs none (some (n : Int)) = xs.take n := by
  unfold cutL
  have e : HT.sIx xs.length xs.length (some (n : Int)) = min n xs.length := HT.sIx_nat xs.length xs.length n
  have e0 : HT.sIx xs.length 0 none = 0 := rfl
  rw [e, e0, List.drop_zero, Nat.sub_zero]
  by_cases h : n ≤ xs.length
  · rw [Nat.min_eq_left h]
  · rw [Nat.min_eq_right (by omega), List.take_of_length_le (Nat.le_refl _), List.take_of_length_le (by omega)]
theorem cut_mid (xs : List α) (m n : Nat) : cutL xs (some (m : Int)) (some (n : Int)) = (xs.drop m).take (n - m) := by
  unfold cutL
  have e : HT.sIx xs.length xs.length (some (n : Int)) = min n xs.length := HT.sIx_nat xs.length xs.length n
  have e0 : HT.sIx xs.length 0 (some (m : Int)) = min m xs.length := HT.sIx_nat xs.length 0 m
  rw [e, e0]
  by_cases h : m ≤ xs.length
  · rw [Nat.min_eq_left h]
    by_cases h2 : n ≤ xs.length
    · rw [Nat.min_eq_left h2]
    · rw [Nat.min_eq_right (by omega), List.take_of_length_le (by rw [List.length_drop]; exact Nat.le_refl _), List.take_of_length_le (by rw [List.length_drop]; omega)]
  · rw [List.drop_of_length_le (by omega), List.drop_of_length_le (by omega), List.take_nil, List.take_nil]
end
/-! ### dicts -/
section
variable {κ β : Type} [DecidableEq κ]
theorem mhas_iff {m : List (κ × β)} {k : κ} : mhas m k = true ↔ ∃ p ∈ m, p.1 = k := by
  unfold mhas
  rw [List.any_eq_true]
  constructor
  · rintro ⟨p, h, e⟩
    exact ⟨p, h, of_decide_eq_true e⟩
  · rintro ⟨p, h, e⟩
    exact ⟨p, h, decide_eq_true e⟩
theorem mput_new {m : List (κ × β)} {k : κ} {v : β} (h : mhas m k = false) : mput m k v = m ++ [(k, v)] := by
  unfold mput
  have h' : (m.any fun p => decide (p.1 = k)) = false := h
  rw [h', if_neg (by decide)]
theorem mput_old {m : List (κ × β)} {k : κ} {v : β} (h : mhas m k = true) : mput m k v = m.map (fun p => if p.1 = k then (p.1, v) else p) := by
  unfold mput
  have h' : (m.any fun p => decide (p.1 = k)) = true := h
  rw [h', if_pos rfl]
theorem mput_keys {m : List (κ × β)} {k j : κ} {v : β} : (∃ p ∈ mput m k v, p.1 = j) ↔ (j = k ∨ ∃ p ∈ m, p.1 = j) := by
  cases h : mhas m k with
  | false =>
    rw [mput_new h]
    constructor
    · rintro ⟨p, hp, rfl⟩
      rcases List.mem_append.mp hp with hp | hp
      · exact .inr ⟨p, hp, rfl⟩
      · rw [List.mem_singleton] at hp
        exact .inl (by rw [hp])
    · rintro (rfl | ⟨p, hp, rfl⟩)
      · exact ⟨(j, v), List.mem_append_right _ List.mem_cons_self, rfl⟩
      · exact ⟨p, List.mem_append_left _ hp, rfl⟩
  | true =>
    rw [mput_old h]
    have fst : ∀ p : κ × β, (if p.1 = k then (p.1, v) else p).1 = p.1 := fun p => by split <;> rfl
    constructor
    · rintro ⟨p, hp, rfl⟩
      obtain ⟨q, hq, rfl⟩ := List.mem_map.mp hp
      rw [fst]
      exact .inr ⟨q, hq, rfl⟩
    · rintro (rfl | ⟨p, hp, rfl⟩)
      · obtain ⟨p, hp, e⟩ := mhas_iff.mp h
        exact ⟨_, List.mem_map.mpr ⟨p, hp, rfl⟩, by rw [fst]; exact e⟩
      · exact ⟨_, List.mem_map.mpr ⟨p, hp, rfl⟩, fst p⟩
theorem mput_length {m : List (κ × β)} {k : κ} {v : β} : (mput m k v).length = m.length + if mhas m k = true then 0 else 1 := by
  cases h : mhas m k with
  | false =>
    rw [mput_new h, List.length_append]
    rfl
  | true =>
    rw [mput_old h, List.length_map]
    rfl
theorem po_mput {δ : Type} {m : List (κ × β)} {k : κ} {v : β} {f : List (κ × β) → R δ} {S : δ → Prop} {X : Exn → Prop} (h : m.length < 100000) (hk : Post (f (mput m k v)) S X) : Post (mputR m k v >>= f) S X := by
  unfold mputR
  rw [if_pos h]
  exact hk
end
end Z
/-! ZG: webs: joined, how far; no program in sight -/
namespace Z
open PySem L2
/-! ### more steps -/
section
variable {α β γ δ : Type} {P Q : α → Prop} {S : β → Prop} {X : Exn → Prop}
/-- a fold, by what is gone through -/
theorem po_foldP {f : β → α → R β} {s : β} {xs : List α} (I : List α → β → Prop) (h0 : I [] s) (hf : ∀ pre s x post, xs = pre ++ x :: post → I pre s → Post (f s x) (I (pre ++ [x])) X) : Post (foldR f s xs) (I xs) X := by
  have key : ∀ (l pre : List α) (s : β), xs = pre ++ l → I pre s → Post (foldR f s l) (I xs) X := by
    intro l
    induction l with
    | nil =>
      intro pre s e h
      rw [List.append_nil] at e
      rw [e]
      exact h
    | cons x l ih =>
      intro pre s e h
      show Post (f s x >>= fun s' => foldR f s' l) _ X
      exact po_bind (hf pre s x l e h) fun s' h' => ih (pre ++ [x]) s' (by rw [e, List.append_assoc]; rfl) h'
  exact key xs [] s rfl h0
/-- items for items with a state, by what is made -/
theorem po_mapStA {f : γ → α → R (β × γ)} {s : γ} {xs : List α} (I : List α → List β → γ → Prop) (hl : xs.length < 100000) (h0 : I [] [] s)
    (hf : ∀ pre acc s x post, xs = pre ++ x :: post → I pre acc s → Post (f s x) (fun r => I (pre ++ [x]) (acc ++ [r.1]) r.2) X) : Post (mapStG f s xs) (fun r => I xs r.1 r.2) X := by
  unfold mapStG
  rw [grd_t (decide_eq_true hl), ok_bind]
  have key : ∀ (l pre : List α) (acc : List β) (s : γ), xs = pre ++ l → I pre acc s → Post (mapSt f s l) (fun r => I xs (acc ++ r.1) r.2) X := by
    intro l
    induction l with
    | nil =>
      intro pre acc s e h
      rw [List.append_nil] at e
      show I xs (acc ++ []) s
      rw [List.append_nil, e]
      exact h
    | cons x l ih =>
      intro pre acc s e h
      refine po_bind (hf pre acc s x l e h) fun r hr => po_bind (ih (pre ++ [x]) (acc ++ [r.1]) r.2 (by rw [e, List.append_assoc]; rfl) hr) fun q hq => ?_
      show I xs (acc ++ (r.1 :: q.1)) q.2
      rw [List.append_assoc] at hq
      exact hq
  exact key xs [] [] s rfl h0
theorem po_mapGE {f : α → R β} {g : α → β} {xs : List α} {k : List β → R γ} {T : γ → Prop} (hl : xs.length < 100000) (h : ∀ x ∈ xs, f x = R.ok (g x)) (hk : Post (k (xs.map g)) T X) : Post (mapG f xs >>= k) T X := by
  rw [mapG_ok hl h]
  exact hk
theorem po_filGE {f : α → R (Option β)} {g : α → Option β} {xs : List α} {k : List β → R γ} {T : γ → Prop} (hl : xs.length < 100000) (h : ∀ x ∈ xs, f x = R.ok (g x)) (hk : Post (k (xs.filterMap g)) T X) : Post (filG f xs >>= k) T X := by
  rw [filG_ok hl h]
  exact hk
/-- a while: an invariant, a measure -/
theorem po_while {c : γ → R Bool} {b : γ → R γ} {T : γ → Prop} (I : γ → Prop) (μ : γ → Nat)
    (hs : ∀ s, I s → Post (c s) (fun t => (t = true → Post (b s) (fun s' => I s' ∧ μ s' < μ s) X) ∧ (t = false → T s)) X) : ∀ {n : Nat} {s : γ}, I s → μ s < n → Post (whileR c b n s) T X
  | 0, s, _, h => absurd h (Nat.not_lt_zero _)
  | n + 1, s, hi, h => by
    refine po_bind (hs s hi) fun t ⟨h1, h2⟩ => ?_
    cases t with
    | false => exact h2 rfl
    | true => exact po_bind (h1 rfl) fun s' ⟨a, d⟩ => po_while I μ hs a (by omega)
theorem po_getS {st : List (List α)} {j : Nat} {xs : List α} {k : List α → R γ} {T : γ → Prop} (h : st[j]? = some xs) (hk : Post (k xs) T X) : Post (getS st j >>= k) T X := by
  unfold getS
  rw [h]
  exact hk
theorem po_setS {st : List (List α)} {j : Nat} {xs : List α} {k : List (List α) → R γ} {T : γ → Prop} (hk : Post (k (st.set j xs)) T X) : Post (setS st j xs >>= k) T X := hk
theorem po_newS {st : List (List α)} {xs : List α} {k : Nat × List (List α) → R γ} {T : γ → Prop} (hk : Post (k (st.length, st ++ [xs])) T X) : Post (newS st xs >>= k) T X := hk
theorem po_listRng {i j : Int} {k : List Int → R γ} {T : γ → Prop} (h1 : -(2 ^ 62) ≤ i) (h2 : i < 2 ^ 62) (h3 : -(2 ^ 62) ≤ j) (h4 : j < 2 ^ 62) (h5 : (j - i).toNat ≤ 100000) (hk : Post (k (rng i j)) T X) : Post (listRng i j >>= k) T X := by
  unfold listRng
  rw [if_pos ⟨h1, h2, h3, h4, h5⟩]
  exact hk
theorem po_rep {xs : List α} {i : Int} {k : List α → R γ} {T : γ → Prop} (h1 : 0 ≤ i) (h2 : i < 1000) (h3 : xs.length < 100) (hk : Post (k (repL xs i)) T X) : Post (repR xs i >>= k) T X := by
  unfold repR
  have h4 : xs.length * i.toNat ≤ 100 * 1000 := Nat.mul_le_mul (by omega) (by omega)
  have h5 : xs.length * i.toNat < 100000 := by
    have h6 : xs.length * i.toNat ≤ 99 * 999 := Nat.mul_le_mul (by omega) (by omega)
    omega
  rw [if_pos ⟨by omega, by omega, h5⟩]
  exact hk
theorem po_ofO {o : Option α} {x : α} {k : α → R γ} {T : γ → Prop} (h : o = some x) (hk : Post (k x) T X) : Post (ofO o >>= k) T X := by
  rw [h]
  exact hk
theorem po_mgetE {κ : Type} [DecidableEq κ] {m : List (κ × α)} {j : κ} {x : α} {k : α → R γ} {T : γ → Prop} (h : mget m j = some x) (hk : Post (k x) T X) : Post (mgetR m j >>= k) T X := po_ofO h hk
theorem po_popB {xs : List α} {i : Int} {k : α × List α → R γ} {T : γ → Prop} (h0 : 0 ≤ i) (h1 : i < xs.length) (h2 : i < 2 ^ 62) (hk : ∀ x, xs[i.toNat]? = some x → Post (k (x, xs.eraseIdx i.toNat)) T X) : Post (popB xs i >>= k) T X := by
  have hj : i.toNat < xs.length := by omega
  have e : popB xs i = R.ok (xs[i.toNat], xs.eraseIdx i.toNat) := by
    unfold popB popAt
    rw [if_pos (by omega)]
    have ei : ixN xs.length i = some i.toNat := by
      unfold ixN
      rw [if_pos h0, if_pos h1]
    rw [ei]
    dsimp only
    rw [List.getElem?_eq_getElem hj]
  rw [e]
  exact hk _ (List.getElem?_eq_getElem hj)
end
theorem rng_len {n : Int} (h : 0 ≤ n) : ((rng 0 n).length : Int) = n := by
  rw [rng_length]
  omega
theorem rng_atE {i j : Int} {k : Nat} (h : k < (j - i).toNat) : (rng i j)[k]? = some (i + k) := rng_get h
theorem rng_nodup (i j : Int) : (rng i j).Nodup := by
  unfold rng
  refine List.Pairwise.map _ (fun a b h => ?_) List.nodup_range
  intro e
  exact h (by omega)
theorem rng_pre {i j x : Int} {pre post : List Int} (h : rng i j = pre ++ x :: post) : x = i + pre.length := by
  have h1 : (rng i j)[pre.length]? = some x := by rw [h]; simp
  have hl : pre.length < (rng i j).length := by rw [h]; simp
  rw [rng_length] at hl
  rw [rng_atE hl] at h1
  cases h1
  rfl
theorem rng_split {i j x : Int} {pre post : List Int} (h : rng i j = pre ++ x :: post) : pre = rng i x ∧ i ≤ x ∧ x < j := by
  have e := rng_pre h
  have hl : (rng i j).length = pre.length + (post.length + 1) := by rw [h]; simp
  rw [rng_length] at hl
  refine ⟨?_, by omega, by omega⟩
  apply List.ext_getElem?
  intro k
  by_cases hk : k < pre.length
  · have h1 : (rng i j)[k]? = pre[k]? := by rw [h, List.getElem?_append_left hk]
    rw [← h1, rng_atE (by omega), rng_atE (by omega)]
  · rw [List.getElem?_eq_none (by omega), List.getElem?_eq_none (by rw [rng_length]; omega)]
theorem rng_snoc {i j : Int} (h : i ≤ j) : rng i (j + 1) = rng i j ++ [j] := by
  apply List.ext_getElem?
  intro k
  by_cases hk : k < (j - i).toNat
  · rw [List.getElem?_append_left (by rw [rng_length]; exact hk), rng_atE hk, rng_atE (by omega)]
  · by_cases hk2 : k = (j - i).toNat
    · rw [List.getElem?_append_right (by rw [rng_length]; omega), rng_atE (by omega), rng_length, hk2]
      simp
      omega
    · rw [List.getElem?_eq_none (by rw [rng_length]; omega), List.getElem?_eq_none (by rw [List.length_append, rng_length]; simp; omega)]
/-! ### joined -/
def Adj (ts : List (Int × Int)) (a b : Int) : Prop := (a, b) ∈ ts ∨ (b, a) ∈ ts
theorem Adj.symm {ts : List (Int × Int)} {a b : Int} (h : Adj ts a b) : Adj ts b a := h.elim .inr .inl
/-- what holds of a place and goes along all ties holds of all places -/
def Conn (n : Int) (ts : List (Int × Int)) : Prop := ∀ S : Int → Prop, S 0 → (∀ p ∈ ts, S p.1 ↔ S p.2) → ∀ k, 0 ≤ k → k < n → S k
theorem Conn.any {n : Int} {ts : List (Int × Int)} (h : Conn n ts) {S : Int → Prop} {r : Int} (r0 : 0 ≤ r) (r1 : r < n) (hr : S r) (hc : ∀ p ∈ ts, S p.1 ↔ S p.2) : ∀ k, 0 ≤ k → k < n → S k := by
  by_cases h0 : S 0
  · exact h S h0 hc
  · exact absurd hr (h (fun k => ¬ S k) h0 (fun p hp => not_congr (hc p hp)) r r0 r1)
theorem Conn.mono {n : Int} {ts us : List (Int × Int)} (h : Conn n ts) (hs : ∀ p ∈ ts, p ∈ us) : Conn n us := fun S h0 hc => h S h0 fun p hp => hc p (hs p hp)
theorem conn_tree {n : Int} {ts : List (Int × Int)} (h : ∀ k, 1 ≤ k → k < n → ∃ j, 0 ≤ j ∧ j < k ∧ Adj ts j k) : Conn n ts := by
  intro S h0 hc
  have key : ∀ (m : Nat) (k : Int), k.toNat ≤ m → 0 ≤ k → k < n → S k := by
    intro m
    induction m with
    | zero =>
      intro k hk k0 _
      rw [show k = 0 by omega]
      exact h0
    | succ m ih =>
      intro k hk k0 k1
      by_cases hz : k = 0
      · rw [hz]; exact h0
      · obtain ⟨j, j0, jk, hj⟩ := h k (by omega) k1
        have hj' := ih j (by omega) j0 (by omega)
        rcases hj with hj | hj
        · exact (hc _ hj).mp hj'
        · exact (hc _ hj).mpr hj'
  exact fun k k0 k1 => key k.toNat k (Nat.le_refl _) k0 k1
/-! ### how far -/
structure IsDist (n : Int) (ts : List (Int × Int)) (p : Int) (f : Int → Int) : Prop where
  zero : f p = 0
  nn : ∀ v, 0 ≤ v → v < n → 0 ≤ f v
  lip : ∀ a b, Adj ts a b → f b ≤ f a + 1
  desc : ∀ v, 0 ≤ v → v < n → v ≠ p → ∃ w, 0 ≤ w ∧ w < n ∧ Adj ts w v ∧ f w + 1 = f v
theorem IsDist.le {n : Int} {ts : List (Int × Int)} {p : Int} {f g : Int → Int} (hf : IsDist n ts p f) (hg : IsDist n ts p g) : ∀ v, 0 ≤ v → v < n → f v ≤ g v := by
  have key : ∀ (m : Nat) (v : Int), (g v).toNat ≤ m → 0 ≤ v → v < n → f v ≤ g v := by
    intro m
    induction m with
    | zero =>
      intro v hm v0 v1
      by_cases hv : v = p
      · rw [hv, hf.zero, hg.zero]; exact Int.le_refl _
      · obtain ⟨w, w0, w1, _, e⟩ := hg.desc v v0 v1 hv
        have := hg.nn w w0 w1
        omega
    | succ m ih =>
      intro v hm v0 v1
      by_cases hv : v = p
      · rw [hv, hf.zero, hg.zero]; exact Int.le_refl _
      · obtain ⟨w, w0, w1, ha, e⟩ := hg.desc v v0 v1 hv
        have h1 := hg.nn w w0 w1
        have h2 := ih w (by omega) w0 w1
        have h3 := hf.lip w v ha
        omega
  exact fun v v0 v1 => key _ v (Nat.le_refl _) v0 v1
theorem IsDist.uniq {n : Int} {ts : List (Int × Int)} {p : Int} {f g : Int → Int} (hf : IsDist n ts p f) (hg : IsDist n ts p g) (v : Int) (v0 : 0 ≤ v) (v1 : v < n) : f v = g v :=
  Int.le_antisymm (hf.le hg v v0 v1) (hg.le hf v v0 v1)
theorem IsDist.level {n : Int} {ts : List (Int × Int)} {p : Int} {f : Int → Int} (hf : IsDist n ts p f) : ∀ (m : Nat) (v : Int), 0 ≤ v → v < n → (f v).toNat = m → ∀ k : Nat, k ≤ m → ∃ w, 0 ≤ w ∧ w < n ∧ f w = k := by
  intro m
  induction m with
  | zero =>
    intro v v0 v1 e k hk
    have := hf.nn v v0 v1
    exact ⟨v, v0, v1, by omega⟩
  | succ m ih =>
    intro v v0 v1 e k hk
    have hv := hf.nn v v0 v1
    by_cases hk2 : k = m + 1
    · exact ⟨v, v0, v1, by omega⟩
    · have hne : v ≠ p := by
        intro e2
        rw [e2, hf.zero] at e
        simp at e
      obtain ⟨w, w0, w1, _, e2⟩ := hf.desc v v0 v1 hne
      exact ih w w0 w1 (by omega) k (by omega)
/-- no place is as far as there are places -/
theorem IsDist.lt {n : Int} {ts : List (Int × Int)} {p : Int} {f : Int → Int} (hf : IsDist n ts p f) (v : Int) (v0 : 0 ≤ v) (v1 : v < n) : f v < n := by
  have hv := hf.nn v v0 v1
  have hl := hf.level _ v v0 v1 rfl
  have key : ∀ m : Nat, m ≤ (f v).toNat + 1 → ∃ ws : List Int, ws.length = m ∧ ws.Nodup ∧ (∀ w ∈ ws, w ∈ rng 0 n ∧ f w < m) := by
    intro m
    induction m with
    | zero => exact fun _ => ⟨[], rfl, List.nodup_nil, fun _ h => nomatch h⟩
    | succ m ih =>
      intro hm
      obtain ⟨ws, h1, h2, h3⟩ := ih (by omega)
      obtain ⟨w, w0, w1, e⟩ := hl m (by omega)
      refine ⟨w :: ws, by rw [List.length_cons, h1], List.nodup_cons.mpr ⟨fun h => ?_, h2⟩, fun u hu => ?_⟩
      · have := (h3 w h).2
        omega
      · rcases List.mem_cons.mp hu with rfl | hu
        · exact ⟨rng_mem.mpr ⟨w0, w1⟩, by omega⟩
        · have := h3 u hu
          exact ⟨this.1, by omega⟩
  obtain ⟨ws, h1, h2, h3⟩ := key _ (Nat.le_refl _)
  have := nodup_le h2 fun w hw => (h3 w hw).1
  rw [h1, rng_length] at this
  omega
/-- how far places are from one, in a web that hangs together -/
noncomputable def dst (n : Int) (ts : List (Int × Int)) (p : Int) : Int → Int := by
  classical
  exact if h : ∃ f, IsDist n ts p f then Classical.choose h else fun _ => 0
theorem dst_is {n : Int} {ts : List (Int × Int)} {p : Int} {f : Int → Int} (h : IsDist n ts p f) : IsDist n ts p (dst n ts p) := by
  have e : ∃ f, IsDist n ts p f := ⟨f, h⟩
  unfold dst
  rw [dif_pos e]
  exact Classical.choose_spec e
theorem dst_eq {n : Int} {ts : List (Int × Int)} {p : Int} {f : Int → Int} (h : IsDist n ts p f) (v : Int) (v0 : 0 ≤ v) (v1 : v < n) : f v = dst n ts p v := h.uniq (dst_is h) v v0 v1
/-! ### there is a distance -/
inductive Rch (ts : List (Int × Int)) (p : Int) : Nat → Int → Prop
  | here : Rch ts p 0 p
  | step {k : Nat} {a b : Int} : Rch ts p k a → Adj ts a b → Rch ts p (k + 1) b
theorem least {P : Nat → Prop} (h : ∃ k, P k) : ∃ k, P k ∧ ∀ j, j < k → ¬ P j := by
  obtain ⟨k, hk⟩ := h
  induction k using Nat.strongRecOn with
  | _ k ih =>
    by_cases q : ∃ j, j < k ∧ P j
    · obtain ⟨j, h1, h2⟩ := q
      exact ih j h1 h2
    · exact ⟨k, hk, fun j hj hp => q ⟨j, hj, hp⟩⟩
theorem conn_ex {n : Int} {ts : List (Int × Int)} {p : Int} (hr : ∀ q ∈ ts, 0 ≤ q.1 ∧ q.1 < n ∧ 0 ≤ q.2 ∧ q.2 < n) (hc : Conn n ts) (p0 : 0 ≤ p) (p1 : p < n) : IsDist n ts p (dst n ts p) := by
  classical
  have all : ∀ v, 0 ≤ v → v < n → ∃ k, Rch ts p k v := hc.any (S := fun v => ∃ k, Rch ts p k v) p0 p1 ⟨0, .here⟩ fun q hq => ⟨fun ⟨k, h⟩ => ⟨k + 1, h.step (.inl hq)⟩, fun ⟨k, h⟩ => ⟨k + 1, h.step (.inr hq)⟩⟩
  have adj : ∀ a b, Adj ts a b → (0 ≤ a ∧ a < n) ∧ (0 ≤ b ∧ b < n) := fun a b h => by
    rcases h with h | h
    · have := hr _ h
      exact ⟨⟨this.1, this.2.1⟩, ⟨this.2.2.1, this.2.2.2⟩⟩
    · have := hr _ h
      exact ⟨⟨this.2.2.1, this.2.2.2⟩, ⟨this.1, this.2.1⟩⟩
  have key : ∀ v, ∃ d : Int, 0 ≤ d ∧ (0 ≤ v → v < n → ∃ k : Nat, d = k ∧ Rch ts p k v ∧ ∀ j, j < k → ¬ Rch ts p j v) := fun v => by
    by_cases hv : 0 ≤ v ∧ v < n
    · obtain ⟨k, h1, h2⟩ := least (all v hv.1 hv.2)
      exact ⟨k, by omega, fun _ _ => ⟨k, rfl, h1, h2⟩⟩
    · exact ⟨0, Int.le_refl 0, fun a b => absurd ⟨a, b⟩ hv⟩
  have hf : ∃ f : Int → Int, ∀ v, 0 ≤ f v ∧ (0 ≤ v → v < n → ∃ k : Nat, f v = k ∧ Rch ts p k v ∧ ∀ j, j < k → ¬ Rch ts p j v) := ⟨fun v => Classical.choose (key v), fun v => Classical.choose_spec (key v)⟩
  obtain ⟨f, hf⟩ := hf
  have lip : ∀ a b, Adj ts a b → f b ≤ f a + 1 := fun a b h => by
    obtain ⟨⟨a0, a1⟩, ⟨b0, b1⟩⟩ := adj a b h
    obtain ⟨k, e1, h1, _⟩ := (hf a).2 a0 a1
    obtain ⟨j, e2, _, h2⟩ := (hf b).2 b0 b1
    have : ¬ k + 1 < j := fun q => h2 (k + 1) q (h1.step h)
    omega
  refine dst_is (f := f) ⟨?_, fun v _ _ => (hf v).1, lip, fun v v0 v1 hne => ?_⟩
  · obtain ⟨k, e, _, h2⟩ := (hf p).2 p0 p1
    have : ¬ 0 < k := fun q => h2 0 q .here
    omega
  · obtain ⟨k, e, h1, h2⟩ := (hf v).2 v0 v1
    cases h1 with
    | here => exact absurd rfl hne
    | step h3 h4 =>
      rename_i j w
      obtain ⟨⟨w0, w1⟩, _⟩ := adj _ _ h4
      refine ⟨w, w0, w1, h4, ?_⟩
      obtain ⟨i, e2, _, h5⟩ := (hf w).2 w0 w1
      have h6 : ¬ j < i := fun q => h5 j q h3
      have := lip w v h4
      omega
end Z
/-! ZN: dicts as lists of pairs -/
namespace Z
open PySem L2
section
variable {κ β γ : Type} [DecidableEq κ]
def mkeys (m : List (κ × β)) : List κ := m.map (·.1)
theorem mget_nil (j : κ) : mget ([] : List (κ × β)) j = none := rfl
theorem mget_cons (p : κ × β) (m : List (κ × β)) (j : κ) : mget (p :: m) j = if p.1 = j then some p.2 else mget m j := by
  unfold mget
  by_cases h : p.1 = j
  · rw [List.find?_cons_of_pos (by simpa using h), if_pos h]
    rfl
  · rw [List.find?_cons_of_neg (by simpa using h), if_neg h]
theorem mget_append (m m' : List (κ × β)) (j : κ) : mget (m ++ m') j = (mget m j).or (mget m' j) := by
  induction m with
  | nil => rfl
  | cons p m ih =>
    rw [List.cons_append, mget_cons, mget_cons, ih]
    by_cases h : p.1 = j
    · rw [if_pos h, if_pos h]; rfl
    · rw [if_neg h, if_neg h]
theorem mhas_mget (m : List (κ × β)) (j : κ) : mhas m j = (mget m j).isSome := by
  unfold mhas mget
  rw [Option.isSome_map, List.isSome_find?]
theorem mhas_keys {m : List (κ × β)} {j : κ} : mhas m j = true ↔ j ∈ mkeys m := by
  rw [mhas_iff]
  unfold mkeys
  rw [List.mem_map]
theorem mget_mput (m : List (κ × β)) (k : κ) (v : β) (j : κ) : mget (mput m k v) j = if j = k then some v else mget m j := by
  cases h : mhas m k with
  | false =>
    rw [mput_new h, mget_append, mget_cons, mget_nil]
    by_cases e : j = k
    · subst e
      rw [if_pos rfl, if_pos rfl]
      rw [mhas_mget] at h
      cases q : mget m j with
      | none => rfl
      | some x => rw [q] at h; cases h
    · rw [if_neg (fun q => e q.symm), if_neg e]
      cases mget m j <;> rfl
  | true =>
    rw [mput_old h]
    by_cases e : j = k
    · subst e
      rw [if_pos rfl]
      induction m with
      | nil => cases h
      | cons p m ih =>
        rw [List.map_cons, mget_cons]
        by_cases q : p.1 = j
        · rw [if_pos q, if_pos q]
        · rw [if_neg q, if_neg q]
          refine ih ?_
          rw [mhas_mget, mget_cons, if_neg q, ← mhas_mget] at h
          exact h
    · rw [if_neg e]
      clear h
      induction m with
      | nil => rfl
      | cons p m ih =>
        rw [List.map_cons, mget_cons, mget_cons, ih]
        by_cases q : p.1 = k
        · rw [if_pos q, if_neg (by rw [q]; exact fun z => e z.symm), if_neg (by rw [q]; exact fun z => e z.symm)]
        · rw [if_neg q]
theorem mkeys_mput (m : List (κ × β)) (k : κ) (v : β) : mkeys (mput m k v) = if k ∈ mkeys m then mkeys m else mkeys m ++ [k] := by
  cases h : mhas m k with
  | false =>
    rw [mput_new h, if_neg (fun q => by rw [mhas_keys.mpr q] at h; cases h)]
    unfold mkeys
    rw [List.map_append]
    rfl
  | true =>
    rw [mput_old h, if_pos (mhas_keys.mp h)]
    unfold mkeys
    rw [List.map_map]
    refine List.map_congr_left fun p _ => ?_
    show (if p.1 = k then (p.1, v) else p).1 = p.1
    split <;> rfl
theorem mkeys_nodup {m : List (κ × β)} {k : κ} {v : β} (h : (mkeys m).Nodup) : (mkeys (mput m k v)).Nodup := by
  rw [mkeys_mput]
  split
  · exact h
  · rename_i q
    rw [List.nodup_append]
    refine ⟨h, by simp, fun a ha c hc e => ?_⟩
    rw [List.mem_singleton] at hc
    rw [e, hc] at ha
    exact q ha
theorem mkeys_length (m : List (κ × β)) : (mkeys m).length = m.length := List.length_map _
theorem mget_keys {m : List (κ × β)} {j : κ} : j ∈ mkeys m ↔ ∃ v, mget m j = some v := by
  rw [← mhas_keys, mhas_mget, Option.isSome_iff_exists]
end
end Z
namespace G
open PySem L2 Z
open Rep (rep)
open RepL (repTs)
def top (i : Nat) : Stmt := PySem.Challenge.pw_farhail_k64_no_texts.main.body.getD i (.Pass ⟨0, 0, 0, 0⟩)
abbrev s_near_lists : Stmt := top 10
abbrev s_fars_by : Stmt := top 11
abbrev s_sorted_ties : Stmt := top 12
abbrev s_made_web : Stmt := top 13
abbrev s_number_of : Stmt := top 16
abbrev s_numbers_of : Stmt := top 17
abbrev s_read_web : Stmt := top 18
abbrev s_law_purse : Stmt := top 22
abbrev s_law_take : Stmt := top 23
abbrev s_law_order : Stmt := top 24
abbrev s_law_pairs : Stmt := top 25
abbrev s_law_web : Stmt := top 26
abbrev s_law_text : Stmt := top 32
abbrev s_law_bad : Stmt := top 33
abbrev s_law_apart : Stmt := top 34
abbrev s_law_spoilt : Stmt := top 35
abbrev s_law_told : Stmt := top 36
abbrev s_law : Stmt := top 37
abbrev s_Apart_init : Stmt := inClass (top 6) 0
abbrev s_NoText_init : Stmt := inClass (top 7) 0
abbrev s_Desk_init : Stmt := inClass (top 20) 0
abbrev DeskF : Type := (List ((Int × (Tup (Int × Int))) × (List Int))) × Unit
abbrev DeskO : Type := Oj ("Desk" : Str) [("stands" : Str)] DeskF
theorem fl_Desk_stands (u0 : V) : (mkfs [("stands" : Str)] [u0]).lookup ("stands" : Str) = some u0 := by kernel_rfl
theorem fr_Desk_stands {K : Fg} {F : Hp} {us : List V} {x : DeskF} (h : repTs K F us x) : ∃ u, (mkfs [("stands" : Str)] us).lookup ("stands" : Str) = some u ∧ rep K F u x.1 := by
  obtain ⟨u0, _, rfl, h0, rfl⟩ := h
  exact ⟨u0, fl_Desk_stands u0, h0⟩
abbrev names : List Str := ["NoText", "NoWeb", "Apart"]
def fld (x : Str) : Option Str := if x = ("NoText" : Str) then some ("row" : Str) else if x = ("Apart" : Str) then some ("place" : Str) else none
theorem fd_NoText : fld ("NoText" : Str) = some ("row" : Str) := by decide +kernel
theorem fn_NoWeb : fld ("NoWeb" : Str) = none := by decide +kernel
theorem fd_Apart : fld ("Apart" : Str) = some ("place" : Str) := by decide +kernel
/-! ### the mirrors -/
/-! near_lists -/
def near_lists (x_web : (Int × (Tup (Int × Int)))) : R (List (List Int)) := do
  let l4 ← rngI 0 x_web.1
  let l5 ← mapStG (fun (g5 : (List (List Int))) (b5 : Int) => do
      let r9 ← newS g5 ([] : (List Int))
      R.ok (r9.1, r9.2)) ([] : List (List Int)) l4
  let g11 ← foldR (fun (g11 : (List (List Int))) (b11 : (Int × Int)) => do
      let t14 ← getI l5.1 b11.1
      let x16 ← getS g11 t14
      let l17 ← app x16 b11.2
      let r17 ← setS g11 t14 l17
      let t18 ← getI l5.1 b11.2
      let x20 ← getS r17 t18
      let l21 ← app x20 b11.1
      let r21 ← setS r17 t18 l21
      R.ok r21) l5.2 x_web.2.l
  let l22 ← mapG (fun (b22 : Ix) => do
      let x26 ← getS g11 b22
      R.ok (sortI x26)) l5.1
  R.ok l22
/-! fars_by -/
def fars_by (x_near : (List (List Int))) (x_place : Int) : R (List (Option Int)) := do
  let l4 ← repR ([none] : (List (Option Int))) (x_near.length : Int)
  let l7 ← setI l4 x_place (some (0 : Int))
  let g11 ← whileR (fun (g11 : Int × (List Int) × (List (Option Int))) => do
      R.ok (decide (g11.1 < (g11.2.1.length : Int)))) (fun (g11 : Int × (List Int) × (List (Option Int))) => do
      let t13 ← getI g11.2.1 g11.1
      let t14 ← getI x_near t13
      let g12 ← foldR (fun (g12 : (List Int) × (List (Option Int))) (b12 : Int) => do
          let t17 ← getI g12.2 b12
          if t17.isNone = true then do
            let t20 ← getI g12.1 g11.1
            let t21 ← getI g12.2 t20
            let t23 ← ofO t21
            let l24 ← setI g12.2 b12 (some (t23 + (1 : Int)))
            let l26 ← app g12.1 b12
            R.ok (l26, l24)
          else do
            R.ok (g12.1, g12.2)) (g11.2.1, g11.2.2) t14
      R.ok ((g11.1 + (1 : Int)), g12.1, g12.2)) (fu 1000) ((0 : Int), ([x_place] : (List Int)), l7)
  R.ok g11.2.2
/-! sorted_ties -/
def sorted_tiesX (x_many : Int) (x_ties : (List (Int × Int))) : R (Tup (Int × Int)) := do
  let g4 ← foldR (fun (g4 : (List (Int × Int))) (b4 : (Int × Int)) => do
      if ((decide ((min2 b4.1 b4.2) < (0 : Int))) || ((decide (x_many ≤ (max2 b4.1 b4.2))) || ((decide (b4.1 = b4.2)) || (inB ((min2 b4.1 b4.2), (max2 b4.1 b4.2)) g4)))) = true then do
        raiseR "NoWeb"
      else do
        let l18 ← app g4 ((min2 b4.1 b4.2), (max2 b4.1 b4.2))
        R.ok l18) ([] : (List (Int × Int))) x_ties
  R.ok (Tup.mk (sortP g4))
/-! made_web -/
def made_webX (x_many : Int) (x_ties : (List (Int × Int))) : R (Int × (Tup (Int × Int))) := do
  if (!((decide ((1 : Int) ≤ x_many)) && (decide (x_many ≤ (60 : Int))))) = true then do
    raiseR "NoWeb"
  else do
    let y7 ← sorted_tiesX x_many x_ties
    let y10 ← nx (near_lists (x_many, y7))
    let y12 ← nx (fars_by y10 (0 : Int))
    let l16 ← rngI 0 x_many
    let g15 ← foldR (fun (g15 : Unit) (b15 : Int) => do
        let t17 ← getI y12 b15
        if t17.isNone = true then do
          raiseX "Apart" b15
        else do
          R.ok ()) () l16
    R.ok (x_many, y7)
/-! number_of -/
def number_of (x_word : Str) : R (Option Int) := do
  let j1 ← (do
    if (decide (x_word = ("" : Str))) = true then do
      R.ok true
    else do
      let t4 ← txLen x_word
      if (decide ((3 : Int) < t4)) = true then do
        R.ok true
      else do
        let l7 ← mapG (fun (b7 : Str) => do
            let t9 ← txIn b7 ("0123456789" : Str)
            R.ok t9) (signs x_word)
        R.ok (!(l7.all id)) : R (Bool))
  if j1 = true then do
    R.ok none
  else do
    let j14 ← (do
      let t15 ← txAt x_word (0 : Int)
      if (decide (t15 = ("0" : Str))) = true then do
        R.ok (!decide (x_word = ("0" : Str)))
      else do
        R.ok false : R (Bool))
    if j14 = true then do
      R.ok none
    else do
      let t20 ← txInt x_word
      R.ok (some t20)
/-! numbers_of -/
def numbers_of (x_row : Str) (x_word : Str) (x_many : Int) : R (Option (List Int)) := do
  let l1 ← txSplit x_row (" " : Str)
  let j4 ← (do
    let t5 ← getI l1 (0 : Int)
    if (!decide (t5 = x_word)) = true then do
      R.ok true
    else do
      R.ok (!decide ((l1.length : Int) = (x_many + (1 : Int)))) : R (Bool))
  if j4 = true then do
    R.ok none
  else do
    let l13 ← mapG (fun (b13 : Str) => do
        let y16 ← number_of b13
        R.ok y16) (cutL l1 (some (1 : Int)) none)
    if (inB none l13) = true then do
      R.ok none
    else do
      let l21 ← allS l13
      R.ok (some l21)
/-! read_web -/
def read_webX (x_text : Str) : R (Int × (Tup (Int × Int))) := do
  let l1 ← txSplit x_text ("
" : Str)
  let t4 ← getI l1 (0 : Int)
  let y5 ← nx (numbers_of t4 ("places" : Str) (1 : Int))
  if y5.isNone = true then do
    raiseX "NoText" (0 : Int)
  else do
    let g10 ← foldR (fun (g10 : (List (Int × Int))) (b10 : (Int × Str)) => do
        let y15 ← nx (numbers_of b10.2 ("tie" : Str) (2 : Int))
        if y15.isNone = true then do
          raiseX "NoText" (b10.1 + (1 : Int))
        else do
          let t19 ← ofO y15
          let t21 ← getI t19 (0 : Int)
          let t22 ← getI t19 (1 : Int)
          let l24 ← app g10 (t21, t22)
          R.ok l24) ([] : (List (Int × Int))) (enum (cutL l1 (some (1 : Int)) none))
    let t26 ← ofO y5
    let t28 ← getI t26 (0 : Int)
    let y29 ← made_webX t28 g10
    R.ok y29
/-! Desk.__init__ -/
def Desk_init (x_text : Str) : R DeskF := do
  let y3 ← read_webX x_text
  R.ok (([(y3, ([] : (List Int)))] : (List ((Int × (Tup (Int × Int))) × (List Int)))), ())
/-! _law_purse -/
def law_purse (x__law_script : Scr) (x__law_k : Int) : R (List Int) := do
  let g2 ← (do
    if (decide (x__law_k < (x__law_script.l.length : Int))) = true then do
      let t4 ← getI x__law_script.l x__law_k
      R.ok t4
    else do
      if (!decide (x__law_script = (⟨([] : (List Int))⟩ : Scr))) = true then do
        let t9 ← modI x__law_k (x__law_script.l.length : Int)
        let t10 ← getI x__law_script.l t9
        R.ok ((t10 % (1000003 : Int)) + ((104729 : Int) * x__law_k))
      else do
        R.ok (0 : Int) : R (Int))
  if (decide (((10 : Int) ^ ((18 : Int) : Int).toNat) ≤ g2)) = true then do
    R.ok ([g2] : (List Int))
  else do
    let t20 ← sqR (((g2 % (((10 : Int) ^ ((30 : Int) : Int).toNat) + (57 : Int))) + ((7919 : Int) * x__law_k)) + (101 : Int))
    let t24 ← mulW (((t20 % (((10 : Int) ^ ((30 : Int) : Int).toNat) + (57 : Int))) + ((977 : Int) * x__law_k)) + (5 : Int)) (618033988749894848204586834365 : Int)
    R.ok ([(t24 % (((10 : Int) ^ ((30 : Int) : Int).toNat) + (57 : Int)))] : (List Int))
/-! _law_take -/
def law_take (x__law_purse_here : (List Int)) (x__law_many : Int) : R (Int × (List Int)) := do
  let t2 ← getI x__law_purse_here (0 : Int)
  let t3 ← modI t2 x__law_many
  let t4 ← getI x__law_purse_here (0 : Int)
  let t5 ← divI t4 x__law_many
  let l6 ← setI x__law_purse_here (0 : Int) t5
  R.ok (t3, l6)
/-! _law_order -/
def law_order (x__law_purse_here : (List Int)) (x__law_many : Int) : R ((List Int) × (List Int)) := do
  let l5 ← rngI 0 x__law_many
  let g4 ← foldR (fun (g4 : (List Int) × (List Int)) (b4 : Int) => do
      let y7 ← law_take g4.2 (b4 + (1 : Int))
      let l8 ← insR g4.1 y7.1 b4
      R.ok (l8, y7.2)) (([] : (List Int)), x__law_purse_here) l5
  R.ok (g4.1, g4.2)
/-! _law_pairs -/
def law_pairs (x__law_purse_here : (List Int)) (x__law_many : Int) (x__law_way : Int) : R ((List (Int × Int)) × (List Int)) := do
  let l5 ← rngI (1 : Int) x__law_many
  let g4 ← foldR (fun (g4 : (List (Int × Int)) × (List Int)) (b4 : Int) => do
      let y7 ← law_take g4.2 b4
      let t10 ← getI ([(b4 - (1 : Int)), (b4 - (1 : Int)), (0 : Int), y7.1] : (List Int)) (min2 x__law_way (3 : Int))
      let l12 ← app g4.1 (t10, b4)
      if (decide (x__law_way = (3 : Int))) = true then do
        let l16 ← rngI 0 b4
        let l17 ← mapG (fun (b17 : Int) => do
            R.ok (b17, b4)) l16
        let l21 ← extend l12 l17
        R.ok (l21, y7.2)
      else do
        R.ok (l12, y7.2)) (([] : (List (Int × Int))), x__law_purse_here) l5
  let g26 ← (do
    if ((decide (x__law_way = (1 : Int))) && (decide ((2 : Int) < x__law_many))) = true then do
      let l33 ← app g4.1 ((0 : Int), (x__law_many - (1 : Int)))
      R.ok l33
    else do
      R.ok g4.1 : R ((List (Int × Int))))
  let g35 ← (do
    if (decide ((4 : Int) < x__law_way)) = true then do
      let y39 ← law_take g4.2 (7 : Int)
      let l40 ← rngI 0 y39.1
      let g37 ← foldR (fun (g37 : (List Int) × (List (Int × Int))) (b37 : Int) => do
          let y41 ← law_take g37.1 x__law_many
          let y42 ← law_take y41.2 x__law_many
          let l46 ← repR ([(y41.1, y42.1)] : (List (Int × Int))) (b2i (!decide (y41.1 = y42.1)))
          let l48 ← extend g37.2 l46
          R.ok (y42.2, l48)) (y39.2, g26) l40
      R.ok (g37.2, g37.1)
    else do
      R.ok (g26, g4.2) : R ((List (Int × Int)) × (List Int)))
  R.ok (g35.1, g35.2)
/-! _law_web -/
def law_web (x__law_purse_here : (List Int)) (x__law_least : Int) (x__law_most : Int) : R ((Int × (Tup (Int × Int))) × (List Int)) := do
  let y2 ← law_take x__law_purse_here ((x__law_most + (1 : Int)) - x__law_least)
  let y6 ← law_take y2.2 (9 : Int)
  let y7 ← law_pairs y6.2 (x__law_least + y2.1) y6.1
  let y10 ← law_order y7.2 (x__law_least + y2.1)
  let g13 ← foldR (fun (g13 : (List (Int × Int))) (b13 : (Int × Int)) => do
      let t16 ← getI y10.1 b13.1
      let t17 ← getI y10.1 b13.2
      if (!inB ((min2 t16 t17), (max2 t16 t17)) g13) = true then do
        let l21 ← app g13 ((min2 t16 t17), (max2 t16 t17))
        R.ok l21
      else do
        R.ok g13) ([] : (List (Int × Int))) y7.1
  R.ok (((x__law_least + y2.1), (Tup.mk (sortP g13))), y10.2)
/-! _law_text -/
def law_text (x__law_web_here : (Int × (Tup (Int × Int)))) : R Str := do
  let t3 ← txNum x__law_web_here.1
  let t4 ← txAdd ("places " : Str) t3
  let g7 ← foldR (fun (g7 : (List Str)) (b7 : (Int × Int)) => do
      let t10 ← txNum b7.1
      let t11 ← txAdd ("tie " : Str) t10
      let t12 ← txAdd t11 (" " : Str)
      let t13 ← txNum b7.2
      let t14 ← txAdd t12 t13
      let l15 ← app g7 t14
      R.ok l15) ([t4] : (List Str)) x__law_web_here.2.l
  let t17 ← txJoin ("
" : Str) g7
  R.ok t17
/-! _law_bad -/
def law_bad (x__law_purse_here : (List Int)) : R (Str × (List Int)) := do
  let l7 ← extend ([("" : Str), (" " : Str), ("tie" : Str), ("tie 0" : Str), ("tie 0 1 2" : Str), ("tie  0 1" : Str), (" tie 0 1" : Str), ("tie 0 1 " : Str), ("Tie 0 1" : Str), ("TIE 0 1" : Str)] : (List Str)) ([("tie 00 1" : Str), ("tie 0 01" : Str), ("tie -1 1" : Str), ("tie 0 +1" : Str), ("tie 1000 1" : Str), ("tie 0 1000" : Str), ("tie a 1" : Str)] : (List Str))
  let l13 ← extend l7 ([("tie 0 1." : Str), ("tie 0,1" : Str), ("tie 0-1" : Str), ("ties 0 1" : Str), ("place 3" : Str), ("places" : Str), ("places 3 4" : Str)] : (List Str))
  let l19 ← extend l13 ([("0 1" : Str), ("look 0" : Str), ("tie 0  1" : Str), ("untie 0 1" : Str), ("tie 1_0 2" : Str), ("tie 0 1a" : Str)] : (List Str))
  let l25 ← extend l19 ([("places 03" : Str), ("places -3" : Str), ("places 3 " : Str), ("PLACES 3" : Str)] : (List Str))
  let y29 ← law_take x__law_purse_here (l25.length : Int)
  let t30 ← getI l25 y29.1
  R.ok (t30, y29.2)
/-! _law_apart -/
def law_apart (x__law_many : Int) (x__law_ties : (List (Int × Int))) : R (Option Int) := do
  let l5 ← rngI 0 x__law_many
  let g4 ← foldR (fun (g4 : (List Int)) (b4 : Int) => do
      let g6 ← foldR (fun (g6 : (List Int)) (b6 : (Int × Int)) => do
          let g9 ← (do
            if ((inB b6.1 g6) && (!inB b6.2 g6)) = true then do
              let l15 ← app g6 b6.2
              R.ok l15
            else do
              R.ok g6 : R ((List Int)))
          if ((inB b6.2 g9) && (!inB b6.1 g9)) = true then do
            let l22 ← app g9 b6.1
            R.ok l22
          else do
            R.ok g9) g4 x__law_ties
      R.ok g6) ([(0 : Int)] : (List Int)) l5
  let l24 ← rngI 0 x__law_many
  let l25 ← filG (fun (b25 : Int) => do
      if (!inB b25 g4) = true then do
        R.ok (some b25)
      else
        R.ok none) l24
  let l32 ← extend (l25.map some) ([none] : (List (Option Int)))
  let t34 ← getI l32 (0 : Int)
  R.ok t34
/-! _law_spoilt -/
def law_spoilt (x__law_web_here : (Int × (Tup (Int × Int)))) (x__law_purse_here : (List Int)) : R (((List Str) × Tl) × (List Int)) := do
  let y4 ← law_text x__law_web_here
  let l5 ← txSplit y4 ("
" : Str)
  let y8 ← law_take x__law_purse_here (12 : Int)
  let y9 ← law_take y8.2 ((l5.length : Int) + (1 : Int))
  if (decide (y8.1 < (5 : Int))) = true then do
    let y14 ← law_bad y9.2
    let l17 ← extend (cutL l5 none (some y9.1)) ([y14.1] : (List Str))
    let l22 ← extend l17 (cutL l5 (some (y9.1 + (y8.1 % (2 : Int)))) none)
    let g28 ← (do
      if (decide (y8.1 = (4 : Int))) = true then do
        let l30 ← app l22 ("tie 0 0" : Str)
        R.ok l30
      else do
        R.ok l22 : R ((List Str)))
    R.ok ((g28, (Tl.ap ⟨("text" : Str), by decide +kernel⟩ y9.1)), y14.2)
  else do
    if (decide (y8.1 = (5 : Int))) = true then do
      let t40 ← txNum x__law_web_here.1
      let t41 ← txAdd ("places " : Str) t40
      let l44 ← extend (cutL l5 none (some (min2 (y9.1 + (1 : Int)) (l5.length : Int)))) ([t41] : (List Str))
      let l48 ← extend l44 (cutL l5 (some (min2 (y9.1 + (1 : Int)) (l5.length : Int))) none)
      R.ok ((l48, (Tl.ap ⟨("text" : Str), by decide +kernel⟩ (min2 (y9.1 + (1 : Int)) (l5.length : Int)))), y9.2)
    else do
      if (decide (y8.1 = (6 : Int))) = true then do
        let y60 ← law_take y9.2 (900 : Int)
        let t64 ← getI ([(0 : Int), (61 : Int), (999 : Int), ((62 : Int) + y60.1)] : (List Int)) (y9.1 % (4 : Int))
        let t65 ← txNum t64
        let t66 ← txAdd ("places " : Str) t65
        let l67 ← setI l5 (0 : Int) t66
        R.ok ((l67, (Tl.ap ⟨("web" : Str), by decide +kernel⟩ (0 : Int))), y60.2)
      else do
        if (decide (y8.1 = (7 : Int))) = true then do
          let y75 ← law_take y9.2 ((999 : Int) - x__law_web_here.1)
          let t76 ← modI y9.1 x__law_web_here.1
          let t77 ← txNum t76
          let t78 ← txAdd ("tie " : Str) t77
          let t79 ← txAdd t78 (" " : Str)
          let t80 ← txNum (x__law_web_here.1 + y75.1)
          let t81 ← txAdd t79 t80
          let l84 ← extend l5 ([t81] : (List Str))
          R.ok ((l84, (Tl.ap ⟨("web" : Str), by decide +kernel⟩ (0 : Int))), y75.2)
        else do
          if (decide (y8.1 = (8 : Int))) = true then do
            let t93 ← modI y9.1 x__law_web_here.1
            let t94 ← txNum t93
            let t95 ← txAdd ("tie " : Str) t94
            let t96 ← txAdd t95 (" " : Str)
            let t97 ← modI y9.1 x__law_web_here.1
            let t98 ← txNum t97
            let t99 ← txAdd t96 t98
            let l102 ← extend l5 ([t99] : (List Str))
            R.ok ((l102, (Tl.ap ⟨("web" : Str), by decide +kernel⟩ (0 : Int))), y9.2)
          else do
            if ((decide (y8.1 = (9 : Int))) && (!decide (x__law_web_here.2 = (Tup.mk [] : (Tup (Int × Int)))))) = true then do
              let t117 ← modI y9.1 (x__law_web_here.2.l.length : Int)
              let t118 ← getI x__law_web_here.2.l t117
              let g120 ← (do
                let y121 ← law_take y9.2 (2 : Int)
                if (decide (y121.1 = (1 : Int))) = true then do
                  R.ok (t118.2, t118.1, y121.2)
                else do
                  R.ok (t118.1, t118.2, y121.2) : R (Int × Int × (List Int)))
              let t123 ← txNum g120.1
              let t124 ← txAdd ("tie " : Str) t123
              let t125 ← txAdd t124 (" " : Str)
              let t126 ← txNum g120.2.1
              let t127 ← txAdd t125 t126
              let l130 ← extend l5 ([t127] : (List Str))
              R.ok ((l130, (Tl.ap ⟨("web" : Str), by decide +kernel⟩ (0 : Int))), g120.2.2)
            else do
              let l138 ← filStG (fun (g138 : (List Int)) (b138 : (Int × Int)) => do
                  let y143 ← law_take g138 (4 : Int)
                  if (decide ((0 : Int) < y143.1)) = true then do
                    R.ok ((some b138), y143.2)
                  else
                    R.ok (none, y143.2)) y9.2 x__law_web_here.2.l
              let y153 ← law_apart x__law_web_here.1 l138.1
              if y153.isNone = true then do
                let y159 ← law_text (x__law_web_here.1, (Tup.mk l138.1))
                let l160 ← txSplit y159 ("
" : Str)
                R.ok ((l160, (Tl.ap ⟨("told" : Str), by decide +kernel⟩ (0 : Int))), l138.2)
              else do
                let y170 ← law_text (x__law_web_here.1, (Tup.mk l138.1))
                let l171 ← txSplit y170 ("
" : Str)
                let t173 ← ofO y153
                R.ok ((l171, (Tl.ap ⟨("apart" : Str), by decide +kernel⟩ t173)), l138.2)
/-! _law_told -/
def law_told (x__law_rows : (List Str)) (x__law_way : Int) : R Tl := do
  let g4 ← tryWith names (do
    if (decide (x__law_way = (0 : Int))) = true then do
      let t6 ← txJoin ("
" : Str) x__law_rows
      let y7 ← read_webX t6
      R.ok (Tl.ap ⟨("told" : Str), by decide +kernel⟩ (0 : Int))
    else do
      let t42 ← txJoin ("
" : Str) x__law_rows
      let y43 ← Desk_init t42
      R.ok (Tl.ap ⟨("told" : Str), by decide +kernel⟩ (0 : Int))) (fun (e : Exn) => (do
      let b8 ← isC names [("NoText" : Str)] e
      let b9 ← isC names [("NoWeb" : Str)] e
      let b10 ← isC names [("Apart" : Str)] e
      let j16 ← (do
        let b17 ← isC names [("NoText" : Str), ("NoWeb" : Str), ("Apart" : Str)] e
        if b17 = true then do
          let b19 ← isC names [] e
          if (!b19) = true then do
            R.ok (decide (((([b8, b9, b10] : (List Bool)).map fun b => if b = true then (1 : Int) else 0).sum) = (1 : Int)))
          else do
            R.ok false
        else do
          R.ok false : R (Bool))
      if j16 = true then do
        let g28 ← (do
          let t29 ← getI ([b8, b9, b10] : (List Bool)) (0 : Int)
          if t29 = true then do
            let b31 ← xarg "NoText" e
            R.ok (Tl.ap ⟨("text" : Str), by decide +kernel⟩ b31)
          else do
            R.ok (Tl.ap ⟨("web" : Str), by decide +kernel⟩ (0 : Int)) : R (Tl))
        let t35 ← getI ([b8, b9, b10] : (List Bool)) (2 : Int)
        if t35 = true then do
          let b37 ← xarg "Apart" e
          R.ok (Tl.ap ⟨("apart" : Str), by decide +kernel⟩ b37)
        else do
          R.ok g28
      else do
        R.ok (Tl.ap ⟨("odd" : Str), by decide +kernel⟩ (0 : Int)) : R (Tl)))
  R.ok g4
/-! law -/
def law (x__law_script : Scr) : R Bool := do
  let l3 ← rngI (1 : Int) (min2 (9 : Int) (max2 (3 : Int) (x__law_script.l.length : Int)))
  let r2 ← foldX (fun (g2 : Unit) (b2 : Int) => do
      let y4 ← law_purse x__law_script b2
      let y6 ← law_web y4 (1 : Int) (7 : Int)
      let y9 ← law_spoilt y6.1 y6.2
      let j13 ← (do
        let y14 ← law_told y9.1.1 (0 : Int)
        if (!decide (y14 = y9.1.2)) = true then do
          R.ok true
        else do
          let y18 ← law_told y9.1.1 (1 : Int)
          R.ok (!decide (y18 = y9.1.2)) : R (Bool))
      if j13 = true then do
        R.ok (.inl false)
      else do
        R.ok (.inr (true, ()))) () l3
  match r2 with
  | .inl z => R.ok z
  | .inr g2 => do
    R.ok true
/-! ### what the top has written -/
structure Dn (K : Fg) (mg : Str → Option Value) (x y : Str) (st : Stmt) (ps : List Str) (f : Addr) (fd : FuncData) : Prop where
  fn : Fun K y y st f fd
  mg : mg x = some (.ref f)
  b : Binds K fd ps []
structure Dm (K : Fg) (C : Addr) (x y : Str) (st : Stmt) (ps : List Str) (f : Addr) (fd : FuncData) : Prop where
  fn : Fun K x y st f fd
  mt : Meth K C x f
  b : Binds K fd ps []
structure Tx (K : Fg) (mg : Str → Option Value) (A : Nat → Addr) (FD : Nat → FuncData) : Prop where
  d10 : Dn K mg "near_lists" "near_lists" s_near_lists ["web"] (A 10) (FD 10)
  d11 : Dn K mg "fars_by" "fars_by" s_fars_by ["near", "place"] (A 11) (FD 11)
  d12 : Dn K mg "sorted_ties" "sorted_ties" s_sorted_ties ["many", "ties"] (A 12) (FD 12)
  d13 : Dn K mg "made_web" "made_web" s_made_web ["many", "ties"] (A 13) (FD 13)
  d16 : Dn K mg "number_of" "number_of" s_number_of ["word"] (A 16) (FD 16)
  d17 : Dn K mg "numbers_of" "numbers_of" s_numbers_of ["row", "word", "many"] (A 17) (FD 17)
  d18 : Dn K mg "read_web" "read_web" s_read_web ["text"] (A 18) (FD 18)
  d22 : Dn K mg "_law_purse" "_law_purse" s_law_purse ["_law_script", "_law_k"] (A 22) (FD 22)
  d23 : Dn K mg "_law_take" "_law_take" s_law_take ["_law_purse_here", "_law_many"] (A 23) (FD 23)
  d24 : Dn K mg "_law_order" "_law_order" s_law_order ["_law_purse_here", "_law_many"] (A 24) (FD 24)
  d25 : Dn K mg "_law_pairs" "_law_pairs" s_law_pairs ["_law_purse_here", "_law_many", "_law_way"] (A 25) (FD 25)
  d26 : Dn K mg "_law_web" "_law_web" s_law_web ["_law_purse_here", "_law_least", "_law_most"] (A 26) (FD 26)
  d32 : Dn K mg "_law_text" "_law_text" s_law_text ["_law_web_here"] (A 32) (FD 32)
  d33 : Dn K mg "_law_bad" "_law_bad" s_law_bad ["_law_purse_here"] (A 33) (FD 33)
  d34 : Dn K mg "_law_apart" "_law_apart" s_law_apart ["_law_many", "_law_ties"] (A 34) (FD 34)
  d35 : Dn K mg "_law_spoilt" "_law_spoilt" s_law_spoilt ["_law_web_here", "_law_purse_here"] (A 35) (FD 35)
  d36 : Dn K mg "_law_told" "_law_told" s_law_told ["_law_rows", "_law_way"] (A 36) (FD 36)
  d37 : Dn K mg "law" "law" s_law ["_law_script"] (A 37) (FD 37)
  d7000 : Dm K (A 6) "__init__" "Apart.__init__" s_Apart_init ["self", "place"] (A 7000) (FD 7000)
  d8000 : Dm K (A 7) "__init__" "NoText.__init__" s_NoText_init ["self", "row"] (A 8000) (FD 8000)
  d21000 : Dm K (A 20) "__init__" "Desk.__init__" s_Desk_init ["self", "text"] (A 21000) (FD 21000)
  n_ValueError : mg "ValueError" = none
  n_all : mg "all" = none
  n_enumerate : mg "enumerate" = none
  n_int : mg "int" = none
  n_isinstance : mg "isinstance" = none
  n_len : mg "len" = none
  n_max : mg "max" = none
  n_min : mg "min" = none
  n_range : mg "range" = none
  n_sorted : mg "sorted" = none
  n_str : mg "str" = none
  n_sum : mg "sum" = none
  n_tuple : mg "tuple" = none
  c_MOST_FIGURES : ∃ t, mg "MOST_FIGURES" = some (.int 3 t)
  c_MOST_PLACES : ∃ t, mg "MOST_PLACES" = some (.int 60 t)
  cl_Desk : Cls K (A 20)
  nm_Desk : Nm K "Desk" (A 20)
  mg_Desk : mg "Desk" = some (.ref (A 20))
  mk_Desk : Mk K (A 20) (A 21000)
  na_Desk_stands : NoAttr K (A 20) "stands"
  x_NoText : XCf K mg "NoText" (A 7)
  x_NoWeb : XC K mg "NoWeb" (A 3)
  x_Apart : XCf K mg "Apart" (A 6)
  xi_Apart : XI K (A 6) (A 7000) "place"
  xi_NoText : XI K (A 7) (A 8000) "row"
  cr_HailError : ClX.CRead K (A 2) (.type "type")
  vi_HailError : PySem.W.findCls K (.ref (A 2)) (.type "type") "__init__" = some (.val (.builtin "ValueError.__init__"))
  g_Apart : mg "Apart" = some (.ref (A 6))
  g_HailError : mg "HailError" = some (.ref (A 2))
  g_NoPlace : mg "NoPlace" = some (.ref (A 4))
  g_NoRow : mg "NoRow" = some (.ref (A 5))
  g_NoText : mg "NoText" = some (.ref (A 7))
  g_NoWeb : mg "NoWeb" = some (.ref (A 3))
  eh_NoText : PySem.W.exmOne K (.ref (A 7)) (.ref (A 2)) = some true
  eh_NoWeb : PySem.W.exmOne K (.ref (A 3)) (.ref (A 2)) = some true
  eh_Apart : PySem.W.exmOne K (.ref (A 6)) (.ref (A 2)) = some true
  kt_NoText_Apart : PySem.W.kitOne K (.ref (A 7)) (.ref (A 6)) = some false
  kt_NoWeb_Apart : PySem.W.kitOne K (.ref (A 3)) (.ref (A 6)) = some false
  kt_Apart_Apart : PySem.W.kitOne K (.ref (A 6)) (.ref (A 6)) = some true
  kt_NoText_NoPlace : PySem.W.kitOne K (.ref (A 7)) (.ref (A 4)) = some false
  kt_NoWeb_NoPlace : PySem.W.kitOne K (.ref (A 3)) (.ref (A 4)) = some false
  kt_Apart_NoPlace : PySem.W.kitOne K (.ref (A 6)) (.ref (A 4)) = some false
  kt_NoText_NoRow : PySem.W.kitOne K (.ref (A 7)) (.ref (A 5)) = some false
  kt_NoWeb_NoRow : PySem.W.kitOne K (.ref (A 3)) (.ref (A 5)) = some false
  kt_Apart_NoRow : PySem.W.kitOne K (.ref (A 6)) (.ref (A 5)) = some false
  kt_NoText_NoText : PySem.W.kitOne K (.ref (A 7)) (.ref (A 7)) = some true
  kt_NoWeb_NoText : PySem.W.kitOne K (.ref (A 3)) (.ref (A 7)) = some false
  kt_Apart_NoText : PySem.W.kitOne K (.ref (A 6)) (.ref (A 7)) = some false
  kt_NoText_NoWeb : PySem.W.kitOne K (.ref (A 7)) (.ref (A 3)) = some false
  kt_NoWeb_NoWeb : PySem.W.kitOne K (.ref (A 3)) (.ref (A 3)) = some true
  kt_Apart_NoWeb : PySem.W.kitOne K (.ref (A 6)) (.ref (A 3)) = some false
  kt_NoText_ValueError : PySem.W.kitOne K (.ref (A 7)) (.type "ValueError") = some true
  kt_NoWeb_ValueError : PySem.W.kitOne K (.ref (A 3)) (.type "ValueError") = some true
  kt_Apart_ValueError : PySem.W.kitOne K (.ref (A 6)) (.type "ValueError") = some true
theorem Tx.exc {K : Fg} {mg : Str → Option Value} {A : Nat → Addr} {FD : Nat → FuncData} (T : Tx K mg A FD) {x : Str} {C : Addr} (h : x ∈ names) (n : Nm K x C) : ExcC K C := by
  simp only [names, List.mem_cons, List.mem_nil_iff, or_false] at h
  rcases h with rfl | rfl | rfl
  · obtain rfl := n.uniq T.x_NoText.ns; exact T.x_NoText.ex
  · obtain rfl := n.uniq T.x_NoWeb.ns; exact T.x_NoWeb.ex
  · obtain rfl := n.uniq T.x_Apart.ns; exact T.x_Apart.ex
theorem Tx.exm {K : Fg} {mg : Str → Option Value} {A : Nat → Addr} {FD : Nat → FuncData} (T : Tx K mg A FD) {x : Str} {C : Addr} (h : x ∈ names) (n : Nm K x C) : PySem.W.exmOne K (.ref C) (.ref (A 2)) = some true := by
  simp only [names, List.mem_cons, List.mem_nil_iff, or_false] at h
  rcases h with rfl | rfl | rfl
  · obtain rfl := n.uniq T.x_NoText.ns; exact T.eh_NoText
  · obtain rfl := n.uniq T.x_NoWeb.ns; exact T.eh_NoWeb
  · obtain rfl := n.uniq T.x_Apart.ns; exact T.eh_Apart
theorem Tx.ki0 {K : Fg} {mg : Str → Option Value} {A : Nat → Addr} {FD : Nat → FuncData} (T : Tx K mg A FD) {x : Str} {C : Addr} (h : x ∈ names) (n : Nm K x C) : PySem.W.kitOne K (.ref C) (.ref (A 7)) = some (decide (x ∈ ([("NoText" : Str)] : List Str))) := by
  simp only [names, List.mem_cons, List.mem_nil_iff, or_false] at h
  rcases h with rfl | rfl | rfl
  · obtain rfl := n.uniq T.x_NoText.ns; exact T.kt_NoText_NoText.trans (by decide +kernel)
  · obtain rfl := n.uniq T.x_NoWeb.ns; exact T.kt_NoWeb_NoText.trans (by decide +kernel)
  · obtain rfl := n.uniq T.x_Apart.ns; exact T.kt_Apart_NoText.trans (by decide +kernel)
theorem Tx.ki1 {K : Fg} {mg : Str → Option Value} {A : Nat → Addr} {FD : Nat → FuncData} (T : Tx K mg A FD) {x : Str} {C : Addr} (h : x ∈ names) (n : Nm K x C) : PySem.W.kitOne K (.ref C) (.ref (A 3)) = some (decide (x ∈ ([("NoWeb" : Str)] : List Str))) := by
  simp only [names, List.mem_cons, List.mem_nil_iff, or_false] at h
  rcases h with rfl | rfl | rfl
  · obtain rfl := n.uniq T.x_NoText.ns; exact T.kt_NoText_NoWeb.trans (by decide +kernel)
  · obtain rfl := n.uniq T.x_NoWeb.ns; exact T.kt_NoWeb_NoWeb.trans (by decide +kernel)
  · obtain rfl := n.uniq T.x_Apart.ns; exact T.kt_Apart_NoWeb.trans (by decide +kernel)
theorem Tx.ki2 {K : Fg} {mg : Str → Option Value} {A : Nat → Addr} {FD : Nat → FuncData} (T : Tx K mg A FD) {x : Str} {C : Addr} (h : x ∈ names) (n : Nm K x C) : PySem.W.kitOne K (.ref C) (.ref (A 6)) = some (decide (x ∈ ([("Apart" : Str)] : List Str))) := by
  simp only [names, List.mem_cons, List.mem_nil_iff, or_false] at h
  rcases h with rfl | rfl | rfl
  · obtain rfl := n.uniq T.x_NoText.ns; exact T.kt_NoText_Apart.trans (by decide +kernel)
  · obtain rfl := n.uniq T.x_NoWeb.ns; exact T.kt_NoWeb_Apart.trans (by decide +kernel)
  · obtain rfl := n.uniq T.x_Apart.ns; exact T.kt_Apart_Apart.trans (by decide +kernel)
theorem Tx.ki3 {K : Fg} {mg : Str → Option Value} {A : Nat → Addr} {FD : Nat → FuncData} (T : Tx K mg A FD) {x : Str} {C : Addr} (h : x ∈ names) (n : Nm K x C) : PySem.W.kitOne K (.ref C) (.type "ValueError") = some (decide (x ∈ ([("NoText" : Str), ("NoWeb" : Str), ("Apart" : Str)] : List Str))) := by
  simp only [names, List.mem_cons, List.mem_nil_iff, or_false] at h
  rcases h with rfl | rfl | rfl
  · obtain rfl := n.uniq T.x_NoText.ns; exact T.kt_NoText_ValueError.trans (by decide +kernel)
  · obtain rfl := n.uniq T.x_NoWeb.ns; exact T.kt_NoWeb_ValueError.trans (by decide +kernel)
  · obtain rfl := n.uniq T.x_Apart.ns; exact T.kt_Apart_ValueError.trans (by decide +kernel)
theorem Tx.ki4 {K : Fg} {mg : Str → Option Value} {A : Nat → Addr} {FD : Nat → FuncData} (T : Tx K mg A FD) {x : Str} {C : Addr} (h : x ∈ names) (n : Nm K x C) : PySem.W.kitAny K (.ref C) [.ref (A 4), .ref (A 5)] = some (decide (x ∈ ([] : List Str))) := by
  simp only [names, List.mem_cons, List.mem_nil_iff, or_false] at h
  rcases h with rfl | rfl | rfl
  · obtain rfl := n.uniq T.x_NoText.ns; simp only [PySem.W.kitAny, T.kt_NoText_NoPlace, T.kt_NoText_NoRow]; decide +kernel
  · obtain rfl := n.uniq T.x_NoWeb.ns; simp only [PySem.W.kitAny, T.kt_NoWeb_NoPlace, T.kt_NoWeb_NoRow]; decide +kernel
  · obtain rfl := n.uniq T.x_Apart.ns; simp only [PySem.W.kitAny, T.kt_Apart_NoPlace, T.kt_Apart_NoRow]; decide +kernel
section
variable {P : Program} {w : World} {K : PySem.W.Frag} {mg : Str → Option Value} {base : Heap} {A : Nat → Addr} {FD : Nat → FuncData}
theorem sc_Apart_init : FnScope ["self", "place"] ["self", "place"] (defScope s_Apart_init) := ⟨rfl, rfl, rfl, by decide +kernel, rfl, by decide +kernel, by decide +kernel⟩
theorem ok_Apart_init (T : Tx K mg A FD) : FnOk P w K mg base CX0 1 (A 7000) (FD 7000) ["self", "place"] (spXI (A 6) "place") := by
  refine T.d7000.fn.ok sc_Apart_init (fun vs H Q E h => ?_) (fun cdv Ar outer s H vs Q E hr h => ?_)
  · obtain ⟨a, p, rfl, _⟩ := h
    rfl
  · obtain ⟨a, p, rfl, ea, hq⟩ := h
    refine ⟨_, (pss_cons (ps_expr (pe_ueinit (pl := _) (by rfl) T.g_HailError T.cr_HailError T.vi_HailError (pa_cons (pv 0) (pa_cons pe_str pa_nil)))) (pss_one (ps_ost (pv 0) (pv 1)))), ?_⟩
    refine ⟨_, rfl, a, A 6, [.str "apart"], rfl, (by decide), T.xi_Apart.ox, ea, ?_⟩
    exact ⟨_, rfl, _, rfl, a, A 6, rfl, T.xi_Apart.ox, T.xi_Apart.no, .inl ⟨ea, fun dx nd ne => hq dx nd ne⟩⟩
theorem sc_NoText_init : FnScope ["self", "row"] ["self", "row"] (defScope s_NoText_init) := ⟨rfl, rfl, rfl, by decide +kernel, rfl, by decide +kernel, by decide +kernel⟩
theorem ok_NoText_init (T : Tx K mg A FD) : FnOk P w K mg base CX0 1 (A 8000) (FD 8000) ["self", "row"] (spXI (A 7) "row") := by
  refine T.d8000.fn.ok sc_NoText_init (fun vs H Q E h => ?_) (fun cdv Ar outer s H vs Q E hr h => ?_)
  · obtain ⟨a, p, rfl, _⟩ := h
    rfl
  · obtain ⟨a, p, rfl, ea, hq⟩ := h
    refine ⟨_, (pss_cons (ps_expr (pe_ueinit (pl := _) (by rfl) T.g_HailError T.cr_HailError T.vi_HailError (pa_cons (pv 0) (pa_cons pe_str pa_nil)))) (pss_one (ps_ost (pv 0) (pv 1)))), ?_⟩
    refine ⟨_, rfl, a, A 7, [.str "no text"], rfl, (by decide), T.xi_NoText.ox, ea, ?_⟩
    exact ⟨_, rfl, _, rfl, a, A 7, rfl, T.xi_NoText.ox, T.xi_NoText.no, .inl ⟨ea, fun dx nd ne => hq dx nd ne⟩⟩
def sp_near_lists (K : Fg) : Sp := fun vs H Q E => ∃ (F : Hp) (os : List (Addr × HO)) (v_web : V) (x_web : (Int × (Tup (Int × Int)))), vs = [v_web] ∧ W F H (os) ∧ rep K F v_web x_web ∧ Post (near_lists x_web) (Ret K F os Q) noX
theorem sc_near_lists : FnScope ["web", "found", "one", "other", "place", "row"] ["web"] (defScope s_near_lists) := ⟨rfl, rfl, rfl, by decide +kernel, rfl, by decide +kernel, by decide +kernel⟩
theorem ok_near_lists (T : Tx K mg A FD) : FnOk P w K mg base CX0 1 (A 10) (FD 10) ["web"] (sp_near_lists K) := by
  refine T.d10.fn.ok sc_near_lists (fun vs H Q E h => ?_) (fun cdv Ar outer s H vs Q E hr h => ?_)
  · obtain ⟨F, os, v_web, x_web, rfl, _⟩ := h
    rfl
  · obtain ⟨F0, os, v_web, x_web, rfl, w0, r_web, hm⟩ := h
    have sF : Same F0 F0 := Same.refl _
    obtain ⟨a1, u1, z1, rfl, q1, r1a, r1b⟩ := r_web
    obtain rfl : u1 = V.int x_web.1 := r1a
    obtain ⟨a2, vs2, rfl, q2, h2⟩ := r1b
    have hr_g : Sto K F0 [] [] ([] : List (List Int)) := Sto.nil
    replace w0 : W F0 _ ((nz [] [] ++ os)) := w0
    refine ⟨_, (pss_cons (ps_setLc (i := 1) (own := [("place", 4)]) (g := gName 4) (by rfl) sc_near_lists.nd rfl rfl (sw_true rfl rfl rfl (by decide +kernel)) (pi_range1 (by rfl) T.n_range (pa_cons (pe_ix (ix_tupK (K := K) rfl) (pv 0) pe_int (fun _ _ => rfl)) pa_nil)) (blkOk_by (own := [("place", 4)]) (N := ["web", "found", "one", "other", "place", "row"]) (sc := defScope s_near_lists) (by decide +kernel)) (fun _ _ _ _ _ => (pg_name (i := 4) sc_near_lists.nd rfl (Or.inl rfl))) (fun _ _ _ _ _ => pts_nil) (fun _ _ _ _ _ => (pe_lst pa_nil))) (pss_cons (ps_for PassesOwn.never rfl (pi_tupK (K := K) rfl (pe_ix (ix_tupK (K := K) rfl) (pv 0) pe_int (fun _ _ => rfl))) (pg_k (K := K) (t := fun K => gTup K 2 _) rfl (pg_tup (n := 2) rfl (pgs_cons (pg_name (i := 2) sc_near_lists.nd rfl (Or.inl rfl)) (pgs_cons (pg_name (i := 3) sc_near_lists.nd rfl (Or.inl rfl)) pgs_nil)))) (pss_cons (ps_expr (pe_bm PySem.F.plainAttrs_list PySem.F.slot_list_append PySem.F.type_list_append mt_append (pe_ix (ix_listK (K := K) rfl) (pv 1) (pv 2) (fun _ _ => rfl)) (pa_cons (pv 3) pa_nil))) (pss_one (ps_expr (pe_bm PySem.F.plainAttrs_list PySem.F.slot_list_append PySem.F.type_list_append mt_append (pe_ix (ix_listK (K := K) rfl) (pv 1) (pv 3) (fun _ _ => rfl)) (pa_cons (pv 2) pa_nil)))))) (pss_one (ps_ret (pe_lc (own := [("row", 5)]) (g := gName 5) (by rfl) sc_near_lists.nd (pi_listK (K := K) rfl (pv 1)) (blkOk_by (own := [("row", 5)]) (N := ["web", "found", "one", "other", "place", "row"]) (sc := defScope s_near_lists) (by decide +kernel)) (fun _ _ _ _ _ => (pg_name (i := 5) sc_near_lists.nd rfl (Or.inl rfl))) (fun _ _ _ _ _ => pts_nil) (fun _ _ _ _ _ => (pe_callB (cr_sortI (K := K) rfl) (by rfl) T.n_sorted (by decide +kernel) (pa_cons (pv 5) pa_nil)))))))), ?_⟩
    obtain ⟨c4, hm⟩ := pb_rng hm
    refine ⟨_, rfl, _, _, _, _, rfl, rfl, SqT.of (w0.same _ _ q1), rfl, _, rfl, c4.2.2.1, c4.2.2.2, fun D5 nD5 => ?_⟩
    refine lcGM (tw_rng0 (j := x_web.1)) hm (fun (g5 : (List (List Int))) F' os' us ys => ∃ (as5_0 : List Addr) (vs5_0 : List (List V)), os' = (nz as5_0 vs5_0 ++ os) ∧ [] <+: as5_0 ∧ Sto K F' as5_0 vs5_0 g5 ∧ A2 (RX as5_0) us ys) w0 ⟨_, _, rfl, pfx_refl, hr_g, .nil⟩ nD5 (fun _ _ _ _ _ o => by obtain ⟨_, _, rfl, _, _, h⟩ := o; exact h.length) (fun g F' H' os' acc ys s w o => by obtain ⟨_, _, rfl, _, _, _⟩ := o; exact trivial) ?_ ?_
    · -- one turn
      intro b5 g5 x5 F5 H5 H5' os5 acc5 ya5 N5 P5 s5 w5 o5 y5 hN5 hm
      obtain ⟨as5_0, vs5_0, rfl, p5_0, h5_0, ha5⟩ := o5
      replace q1 := s5 _ _ q1
      replace q2 := s5 _ _ q2
      replace h2 := A2.mono s5 h2
      replace sF := sF.trans s5
      obtain ⟨rfl, rfl⟩ := y5
      have h7 : A2 (rep K F5) [] ([] : (List Int)) := .nil
      refine ⟨rfl, (by show 0 ≤ sizeLine; decide), fun p8 n8 => ?_⟩
      have w8 : W F5 _ ((p8, .lst []) :: (D5, .lst acc5) :: (nz as5_0 vs5_0 ++ os)) := w5.new n8
      obtain ⟨j9, st9, ej9, es9, hm⟩ := pn_newS hm
      have w9 : W F5 _ ((D5, .lst acc5) :: (nz (as5_0 ++ [p8]) (vs5_0 ++ [[]]) ++ os)) := w8.nadd (pre := [_]) h5_0.len
      have q9 : (as5_0 ++ [p8])[j9]? = some p8 := IQ.new (h5_0.len2.trans ej9.symm)
      have h9 : Sto K F5 (as5_0 ++ [p8]) (vs5_0 ++ [[]]) st9 := es9 ▸ Sto.snoc (p := p8) h5_0 h7
      replace ha5 := A2.imp (fun _ _ => RX.mono (pfx_snoc (p := p8))) ha5
      exact hN5 _ _ (post_ok hm) _ _ _ _ w9 (Same.refl _) ⟨_, _, rfl, (pfx_trans p5_0 (pfx_snoc (p := p8))), h9, A2.snoc ha5 ⟨_, rfl, q9⟩⟩
    intro g5 us5 F5 H5 os5 ys5 s5 w5 o5 hm
    obtain ⟨as5_0, vs5_0, rfl, p5_0, h5_0, gg5⟩ := o5
    replace q1 := s5 _ _ q1
    replace q2 := s5 _ _ q2
    replace h2 := A2.mono s5 h2
    replace sF := sF.trans s5
    refine ⟨_, rfl, _, _, _, _, rfl, rfl, SqT.of (w5.same _ _ q1), rfl, _, rfl, ⟨_, SqT.of (w5.same _ _ q2)⟩, ?_⟩
    refine forS (tw_tup (a := a2) h2) hm (fun (g11 : (List (List Int))) σ H' => ∃ (F' : Hp) (as11_0 : List Addr) (vs11_0 : List (List V)) (o11_2 : Option V) (o11_3 : Option V), σ = [some (.ref a1), some (.ref D5), o11_2, o11_3, none, none] ∧ Same F5 F' ∧ W F' H' ((D5, .lst us5) :: (nz as11_0 vs11_0 ++ os)) ∧ as5_0 <+: as11_0 ∧ Sto K F' as11_0 vs11_0 g11) ⟨_, _, _, _, _, rfl, Same.refl _, w5, pfx_refl, h5_0⟩ (fun g σ H' hI => by obtain ⟨F', _, _, _, _, _, s, w, _⟩ := hI; exact SqT.of (w.same _ _ (s _ _ q2))) ?_ ?_
    · -- a turn
      intro b11 g11 x11 σ11 H11 H11' N11 P11 hI hy hN11 hm
      obtain ⟨F11, as11_0, vs11_0, o11_2, o11_3, rfl, s11, w11, p11_0, h11_0⟩ := hI
      replace q1 := s11 _ _ q1
      replace h2 := A2.mono s11 h2
      replace q2 := s11 _ _ q2
      replace sF := sF.trans s11
      replace gg5 := A2.imp (fun _ _ => RX.mono p11_0) gg5
      obtain ⟨rfl, r12⟩ := hy
      replace r12 := Rep.mono s11 r12
      obtain ⟨a13, u13, z13, rfl, q13, r13a, r13b⟩ := r12
      obtain rfl : u13 = V.int b11.1 := r13a
      obtain rfl : z13 = V.int b11.2 := r13b
      obtain ⟨t14, e14, hm⟩ := pb_get hm
      obtain ⟨u14, f14, r14⟩ := A2.at gg5 e14
      obtain ⟨a15, rfl, q15⟩ := r14
      obtain ⟨x16, e16, hm⟩ := pb_getS hm
      obtain ⟨vs16, i16, h16⟩ := Sto.getq h11_0 e16 q15
      obtain ⟨l17, z17, e17, hm⟩ := pn_app hm
      obtain ⟨st17, es17, hm⟩ := pn_setS hm
      refine ⟨_, _, rfl, SqT.of (w11.same _ _ q13), rfl, _, _, rfl, _, _, rfl, rfl, _, rfl, _, rfl, _, _, _, _, rfl, rfl, SqL.of (w11.get (pre := [])), f14, .inl ⟨rfl, _, SqL.of (W.nget (pre := [_]) w11 q15 i16)⟩, _, rfl, _, _, _, rfl, rfl, (W.nget (pre := [_]) w11 q15 i16), (A2.lt h16 z17), ?_⟩
      have h17 : Sto K F11 as11_0 (vs11_0.set t14 (vs16 ++ [(.int b11.2)])) st17 := es17 ▸ Sto.set h11_0 (e17 ▸ A2.snoc h16 rep_i)
      have w17 : W F11 _ ((D5, .lst us5) :: (nz as11_0 (vs11_0.set t14 (vs16 ++ [(.int b11.2)])) ++ os)) := w11.nset (pre := [_]) (vs16 ++ [(.int b11.2)]) q15 i16
      obtain ⟨t18, e18, hm⟩ := pb_get hm
      obtain ⟨u18, f18, r18⟩ := A2.at gg5 e18
      obtain ⟨a19, rfl, q19⟩ := r18
      obtain ⟨x20, e20, hm⟩ := pb_getS hm
      obtain ⟨vs20, i20, h20⟩ := Sto.getq h17 e20 q19
      obtain ⟨l21, z21, e21, hm⟩ := pn_app hm
      obtain ⟨st21, es21, hm⟩ := pn_setS hm
      refine ⟨_, rfl, _, rfl, _, _, _, _, rfl, rfl, SqL.of (w17.get (pre := [])), f18, .inl ⟨rfl, _, SqL.of (W.nget (pre := [_]) w17 q19 i20)⟩, _, rfl, _, _, _, rfl, rfl, (W.nget (pre := [_]) w17 q19 i20), (A2.lt h20 z21), ?_⟩
      have h21 : Sto K F11 as11_0 ((vs11_0.set t14 (vs16 ++ [(.int b11.2)])).set t18 (vs20 ++ [(.int b11.1)])) st21 := es21 ▸ Sto.set h17 (e21 ▸ A2.snoc h20 rep_i)
      have w21 : W F11 _ ((D5, .lst us5) :: (nz as11_0 ((vs11_0.set t14 (vs16 ++ [(.int b11.2)])).set t18 (vs20 ++ [(.int b11.1)])) ++ os)) := w17.nset (pre := [_]) (vs20 ++ [(.int b11.1)]) q19 i20
      exact hN11 _ (post_ok hm) _ _ ⟨_, _, _, _, _, rfl, s11, w21, p11_0, h21⟩
    intro g11 σ11 H11 hI hm
    obtain ⟨F11, as11_0, vs11_0, o11_2, o11_3, rfl, s11, w11, p11_0, h11_0⟩ := hI
    replace q1 := s11 _ _ q1
    replace h2 := A2.mono s11 h2
    replace q2 := s11 _ _ q2
    replace sF := sF.trans s11
    replace gg5 := A2.imp (fun _ _ => RX.mono p11_0) gg5
    refine ⟨_, rfl, _, rfl, ⟨_, SqL.of (w11.get (pre := []))⟩, fun D22 nD22 => ?_⟩
    refine lcM (K := K) (tw_listR (a := D5) gg5) hm w11 nD22 (fun F' H' acc s w => SqL.of (w.get (pre := [_]))) ?_ ?_
    · -- one turn
      intro b22 x22 F22 H22 H22' acc22 N22 P22 s22 w22 y22 hN22 hm
      replace q1 := s22 _ _ q1
      replace h2 := A2.mono s22 h2
      replace q2 := s22 _ _ q2
      replace h11_0 := Sto.mono s22 h11_0
      replace sF := sF.trans s22
      obtain ⟨rfl, r24⟩ := y22
      obtain ⟨a25, rfl, q25⟩ := r24
      obtain ⟨x26, e26, hm⟩ := pb_getS hm
      obtain ⟨vs26, i26, h26⟩ := Sto.getq h11_0 e26 q25
      have h27 : A2 (rep K F22) ((sortI x26).map V.int) (sortI x26) := A2.of_ints
      refine ⟨rfl, _, rfl, _, _, rfl, ints_q (SqL.of (W.nget (pre := [_, _]) w22 q25 i26)) h26, fun p28 n28 => ?_⟩
      have w28 : W F22 _ ((p28, .lst ((sortI x26).map V.int)) :: (D22, .lst acc22) :: (D5, .lst us5) :: (nz as11_0 vs11_0 ++ os)) := w22.new n28
      obtain ⟨F29, s29, w29, q29⟩ : ∃ F', Same F22 F' ∧ W F' _ ((D22, .lst acc22) :: (D5, .lst us5) :: (nz as11_0 vs11_0 ++ os)) ∧ F' p28 = some (.lst ((sortI x26).map V.int)) := w28.freezeE (pre := [])
      replace q1 := s29 _ _ q1
      replace h2 := A2.mono s29 h2
      replace q2 := s29 _ _ q2
      replace h11_0 := Sto.mono s29 h11_0
      replace h26 := A2.mono s29 h26
      replace h27 := A2.mono s29 h27
      replace sF := sF.trans s29
      exact hN22 _ (post_ok hm) _ _ _ w29 s29 (rep_lst q29 h27)
    intro us22 F22 H22 ys22 s22 w22 gg22 hm
    replace q1 := s22 _ _ q1
    replace h2 := A2.mono s22 h2
    replace q2 := s22 _ _ q2
    replace h11_0 := Sto.mono s22 h11_0
    replace sF := sF.trans s22
    obtain ⟨F31, s31, w31, q31⟩ : ∃ F', Same F22 F' ∧ W F' _ ((D5, .lst us5) :: (nz as11_0 vs11_0 ++ os)) ∧ F' D22 = some (.lst us22) := w22.freezeE (pre := [])
    replace q1 := s31 _ _ q1
    replace h2 := A2.mono s31 h2
    replace q2 := s31 _ _ q2
    replace h11_0 := Sto.mono s31 h11_0
    replace gg22 := A2.mono s31 gg22
    replace sF := sF.trans s31
    have w32 : W F31 _ ((nz as11_0 vs11_0 ++ os)) := w31.drop (pre := [])
    have w33 : W F31 _ (os) := w32.dropL (pre := [])
    exact (post_ok hm) _ _ _ w33 sF (rep_lst q31 gg22)
def sp_fars_by (K : Fg) : Sp := fun vs H Q E => ∃ (F : Hp) (os : List (Addr × HO)) (v_near : V) (x_near : (List (List Int))) (x_place : Int), vs = [v_near, .int x_place] ∧ W F H (os) ∧ rep K F v_near x_near ∧ Post (fars_by x_near x_place) (RetL K F os Q) noX
theorem sc_fars_by : FnScope ["near", "place", "found", "line", "at", "other"] ["near", "place"] (defScope s_fars_by) := ⟨rfl, rfl, rfl, by decide +kernel, rfl, by decide +kernel, by decide +kernel⟩
theorem ok_fars_by (T : Tx K mg A FD) : FnOk P w K mg base CX0 1 (A 11) (FD 11) ["near", "place"] (sp_fars_by K) := by
  refine T.d11.fn.ok sc_fars_by (fun vs H Q E h => ?_) (fun cdv Ar outer s H vs Q E hr h => ?_)
  · obtain ⟨F, os, v_near, x_near, x_place, rfl, _⟩ := h
    rfl
  · obtain ⟨F0, os, v_near, x_near, x_place, rfl, w0, r_near, hm⟩ := h
    have sF : Same F0 F0 := Same.refl _
    obtain ⟨a1, vs1, rfl, q1, h1⟩ := r_near
    refine ⟨_, (pss_cons (ps_set (i := 2) sc_fars_by.nd rfl (Or.inl rfl) (pe_op op_rep (pe_lst (pa_cons pe_non pa_nil)) (pe_callB (call_lenN (K := K) rfl) (by rfl) T.n_len (by decide +kernel) (pa_cons (pv 0) pa_nil)))) (pss_cons (ps_asg pe_int (pg_sub (pv 2) (pv 1) set_list)) (pss_cons (ps_set (i := 3) sc_fars_by.nd rfl (Or.inl rfl) (pe_lst (pa_cons (pv 1) pa_nil))) (pss_cons (ps_set (i := 4) sc_fars_by.nd rfl (Or.inl rfl) pe_int1) (pss_cons (ps_while PassesOwn.never (pt_cmp (pc_lt (pv 4) (pe_callB (call_lenN (K := K) rfl) (by rfl) T.n_len (by decide +kernel) (pa_cons (pv 3) pa_nil)))) (pss_cons (ps_for PassesOwn.never rfl (pi_listK (K := K) rfl (pe_ix (ix_listK (K := K) rfl) (pv 0) (pe_ix (ix_listK (K := K) rfl) (pv 3) (pv 4) (fun _ _ => rfl)) (fun _ _ => rfl))) (pg_name (i := 5) sc_fars_by.nd rfl (Or.inl rfl)) (pss_one (ps_if (pt_cmpR op_isN2 (pe_ix (ix_listK (K := K) rfl) (pv 2) (pv 5) (fun _ _ => rfl)) pe_non (nomark _)) (pss_cons (ps_asg (pe_op op_add (pe_ix (ix_listK (K := K) rfl) (pv 2) (pe_ix (ix_listK (K := K) rfl) (pv 3) (pv 4) (fun _ _ => rfl)) (fun _ _ => rfl)) pe_int) (pg_sub (pv 2) (pv 5) set_list)) (pss_one (ps_expr (pe_bm PySem.F.plainAttrs_list PySem.F.slot_list_append PySem.F.type_list_append mt_append (pv 3) (pa_cons (pv 5) pa_nil))))) pss_nil))) (pss_one (ps_set (i := 4) sc_fars_by.nd rfl (Or.inl rfl) (pe_op op_add (pv 4) pe_int))))) (pss_one (ps_ret (pv 2)))))))), ?_⟩
    have h2 : A2 (rep K F0) [.non] ([none] : (List (Option Int))) := .cons rep_none (.nil)
    refine ⟨(by show 1 ≤ sizeLine; decide), fun p3 n3 => ?_⟩
    have w3 : W F0 _ ((p3, .lst [.non]) :: os) := w0.new n3
    obtain ⟨l4, z4, e4, hm⟩ := pb_rep hm
    have h4 : A2 (rep K F0) (List.replicate (x_near.length : Int).toNat [.non]).flatten l4 := e4 ▸ A2.flat h2 _
    refine ⟨_, rfl, _, _, _, rfl, .inl (SqL.of (w3.same _ _ q1)), h1.length, _, _, _, rfl, rfl, (w3.get (pre := [])), z4.1, z4.2.1, (by rw [h2.length]; exact z4.2.2), fun p5 n5 => ?_⟩
    have w5 : W F0 _ ((p5, .lst (List.replicate (x_near.length : Int).toNat [.non]).flatten) :: (p3, .lst [.non]) :: os) := w3.new n5
    have w6 : W F0 _ ((p5, .lst (List.replicate (x_near.length : Int).toNat [.non]).flatten) :: os) := w5.drop (pre := [_])
    obtain ⟨j7, l7, z7, e7, hm⟩ := pn_set hm
    refine ⟨_, rfl, _, rfl, _, _, _, _, rfl, rfl, (w6.get (pre := [])), (A2.ix h4 z7), ?_⟩
    have h7 : A2 (rep K F0) ((List.replicate (x_near.length : Int).toNat [.non]).flatten.set j7 (V.int 0)) l7 := e7 ▸ A2.set (rep_some rep_i) j7 h4
    have w8 : W F0 _ ((p5, .lst ((List.replicate (x_near.length : Int).toNat [.non]).flatten.set j7 (V.int 0))) :: os) := w6.set (pre := [])
    have h9 : A2 (rep K F0) [(.int x_place)] ([x_place] : (List Int)) := .cons rep_i (.nil)
    refine ⟨_, rfl, (by show 1 ≤ sizeLine; decide), fun p10 n10 => ?_⟩
    have w10 : W F0 _ ((p10, .lst [(.int x_place)]) :: (p5, .lst ((List.replicate (x_near.length : Int).toNat [.non]).flatten.set j7 (V.int 0))) :: os) := w8.new n10
    refine ⟨trivial, ?_⟩
    refine stepN ?_
    try dsimp only
    refine stepSeq (whileS hm (fun (g11 : Int × (List Int) × (List (Option Int))) σ H' => ∃ (F' : Hp) (vs11_0 : List V) (vs11_1 : List V) (o11_5 : Option V), σ = [some (.ref a1), some (.int x_place), some (.ref p5), some (.ref p10), some (.int g11.1), o11_5] ∧ Same F0 F' ∧ W F' H' ((p10, .lst vs11_0) :: (p5, .lst vs11_1) :: os) ∧ A2 (rep K F') vs11_0 g11.2.1 ∧ A2 (rep K F') vs11_1 g11.2.2) ⟨_, _, _, _, rfl, Same.refl _, w10, h9, h7⟩ ?_ ?_ ?_)
    · intro g11 σ11 H11 N11 P11 hI hN11 hm
      obtain ⟨F11, vs11_0, vs11_1, o11_5, rfl, s11, w11, h11_0, h11_1⟩ := hI
      replace h1 := A2.mono s11 h1
      replace q1 := s11 _ _ q1
      replace sF := sF.trans s11
      exact ⟨_, rfl, _, rfl, _, _, _, rfl, .inl (SqL.of (w11.get (pre := []))), h11_0.length, _, _, rfl, rfl, _, rfl, hN11 _ (post_ok hm) _ ⟨_, _, _, _, rfl, s11, w11, h11_0, h11_1⟩⟩
    · intro g11 σ11 H11 N11 P11 hI hN11 hm
      obtain ⟨F11, vs11_0, vs11_1, o11_5, rfl, s11, w11, h11_0, h11_1⟩ := hI
      replace h1 := A2.mono s11 h1
      replace q1 := s11 _ _ q1
      replace sF := sF.trans s11
      obtain ⟨t13, e13, hm⟩ := pb_get hm
      obtain ⟨u13, f13, r13⟩ := A2.at h11_0 e13
      obtain rfl : u13 = V.int t13 := r13
      obtain ⟨t14, e14, hm⟩ := pb_get hm
      obtain ⟨u14, f14, r14⟩ := A2.at h1 e14
      obtain ⟨a15, vs15, rfl, q15, h15⟩ := r14
      refine ⟨_, rfl, _, rfl, _, rfl, _, _, _, _, rfl, rfl, SqL.of (w11.get (pre := [])), f13, _, _, _, _, rfl, rfl, SqL.of (w11.same _ _ q1), f14, _, rfl, ⟨_, SqL.of (w11.same _ _ q15)⟩, ?_⟩
      refine forS (tw_list (a := a15) h15) hm (fun (g12 : (List Int) × (List (Option Int))) σ H' => ∃ (F' : Hp) (vs12_0 : List V) (vs12_1 : List V) (o12_5 : Option V), σ = [some (.ref a1), some (.int x_place), some (.ref p5), some (.ref p10), some (.int g11.1), o12_5] ∧ Same F11 F' ∧ W F' H' ((p10, .lst vs12_0) :: (p5, .lst vs12_1) :: os) ∧ A2 (rep K F') vs12_0 g12.1 ∧ A2 (rep K F') vs12_1 g12.2) ⟨_, _, _, _, rfl, Same.refl _, w11, h11_0, h11_1⟩ (fun g σ H' hI => by obtain ⟨F', _, _, _, _, s, w, _⟩ := hI; exact SqL.of (w.same _ _ (s _ _ q15))) ?_ ?_
      · -- a turn
        intro b12 g12 x12 σ12 H12 H12' N12 P12 hI hy hN12 hm
        obtain ⟨F12, vs12_0, vs12_1, o12_5, rfl, s12, w12, h12_0, h12_1⟩ := hI
        replace h1 := A2.mono s12 h1
        replace q1 := s12 _ _ q1
        replace q15 := s12 _ _ q15
        replace h15 := A2.mono s12 h15
        replace sF := sF.trans s12
        obtain ⟨rfl, r16⟩ := hy
        obtain rfl : x12 = V.int b12 := r16
        obtain ⟨t17, e17, hm⟩ := pb_get hm
        obtain ⟨u17, f17, r17⟩ := A2.at h12_1 e17
        refine ⟨_, rfl, _, rfl, _, _, _, _, rfl, rfl, SqL.of (w12.get (pre := [_])), f17, rfl, _, isN_eq r17, _, rfl, ?_⟩
        refine post_ite hm (fun k19 hm => ?_) (fun k19 hm => ?_)
        · skip
          obtain ⟨t20, e20, hm⟩ := pb_get hm
          obtain ⟨u20, f20, r20⟩ := A2.at h12_0 e20
          obtain rfl : u20 = V.int t20 := r20
          obtain ⟨t21, e21, hm⟩ := pb_get hm
          obtain ⟨u21, f21, r21⟩ := A2.at h12_1 e21
          obtain ⟨t23, e23, hm⟩ := pb_ofO hm
          have r23 : rep K F12 u21 (some t23) := e23 ▸ r21
          replace r23 : u21 = V.int t23 := r23
          subst r23
          obtain ⟨j24, l24, z24, e24, hm⟩ := pn_set hm
          refine ⟨_, rfl, _, rfl, _, rfl, _, _, _, _, rfl, rfl, SqL.of (w12.get (pre := [])), f20, _, _, _, _, rfl, rfl, SqL.of (w12.get (pre := [_])), f21, _, _, rfl, rfl, _, rfl, _, rfl, _, _, _, _, rfl, rfl, (w12.get (pre := [_])), (A2.ix h12_1 z24), ?_⟩
          have h24 : A2 (rep K F12) (vs12_1.set j24 (V.int (t23 + (1 : Int)))) l24 := e24 ▸ A2.set (rep_some rep_i) j24 h12_1
          have w25 : W F12 _ ((p10, .lst vs12_0) :: (p5, .lst (vs12_1.set j24 (V.int (t23 + (1 : Int))))) :: os) := w12.set (pre := [_])
          obtain ⟨l26, z26, e26, hm⟩ := pn_app hm
          refine ⟨_, rfl, .inl ⟨rfl, _, SqL.of (w25.get (pre := []))⟩, _, rfl, _, _, _, rfl, rfl, (w25.get (pre := [])), (A2.lt h12_0 z26), ?_⟩
          have h26 : A2 (rep K F12) (vs12_0 ++ [(V.int b12)]) l26 := e26 ▸ A2.snoc h12_0 rep_i
          have w27 : W F12 _ ((p10, .lst (vs12_0 ++ [(V.int b12)])) :: (p5, .lst (vs12_1.set j24 (V.int (t23 + (1 : Int))))) :: os) := w25.set (pre := [])
          exact hN12 _ (post_ok hm) _ _ ⟨_, _, _, _, rfl, s12, w27, h26, h24⟩
        · skip
          exact hN12 _ (post_ok hm) _ _ ⟨_, _, _, _, rfl, s12, w12, h12_0, h12_1⟩
      intro g12 σ12 H12 hI hm
      obtain ⟨F12, vs12_0, vs12_1, o12_5, rfl, s12, w12, h12_0, h12_1⟩ := hI
      replace h1 := A2.mono s12 h1
      replace q1 := s12 _ _ q1
      replace q15 := s12 _ _ q15
      replace h15 := A2.mono s12 h15
      replace sF := sF.trans s12
      exact ⟨_, rfl, _, _, rfl, rfl, hN11 _ (post_ok hm) _ _ ⟨_, _, _, _, rfl, (s11.trans s12), w12, h12_0, h12_1⟩⟩
    intro g11 σ11 H11 hI hm
    obtain ⟨F11, vs11_0, vs11_1, o11_5, rfl, s11, w11, h11_0, h11_1⟩ := hI
    replace h1 := A2.mono s11 h1
    replace q1 := s11 _ _ q1
    replace sF := sF.trans s11
    have w28 : W F11 _ ((p5, .lst vs11_1) :: os) := w11.drop (pre := [])
    exact ⟨_, rfl, (post_ok hm) _ _ _ _ w28 sF h11_1⟩
def sp_sorted_tiesX (K : Fg) : Sp := fun vs H Q E => ∃ (F : Hp) (os : List (Addr × HO)) (x_many : Int) (a_ties : Addr) (vs_ties : List V) (x_ties : (List (Int × Int))), vs = [.int x_many, .ref a_ties] ∧ W F H ((a_ties, .lst vs_ties) :: os) ∧ A2 (rep K F) vs_ties x_ties ∧ Post (sorted_tiesX x_many x_ties) (fun (y : (Tup (Int × Int))) => ∀ (v : V) (F' H' : Hp), W F' H' ((a_ties, .lst vs_ties) :: os) → Same F F' → rep K F' v (y : (Tup (Int × Int))) → Q v H') (RetXD fld K F ((a_ties, .lst vs_ties) :: os) E)
theorem sc_sorted_ties : FnScope ["many", "ties", "found", "one", "other", "tie"] ["many", "ties"] (defScope s_sorted_ties) := ⟨rfl, rfl, rfl, by decide +kernel, rfl, by decide +kernel, by decide +kernel⟩
theorem ok_sorted_tiesX (T : Tx K mg A FD) : FnOk P w K mg base (L2N.CX P w) 1 (A 12) (FD 12) ["many", "ties"] (sp_sorted_tiesX K) := by
  refine T.d12.fn.okXN sc_sorted_ties (fun vs H Q E h => ?_) (fun cdv Ar outer s H vs Q E hr h => ?_)
  · obtain ⟨F, os, x_many, a_ties, vs_ties, x_ties, rfl, _⟩ := h
    rfl
  · obtain ⟨F0, os, x_many, a_ties, vs_ties, x_ties, rfl, w0, h_ties, hm⟩ := h
    have sF : Same F0 F0 := Same.refl _
    refine ⟨_, (pss_cons (ps_set (i := 2) sc_sorted_ties.nd rfl (Or.inl rfl) (pe_lst pa_nil)) (pss_cons (ps_for (passes_of rfl) rfl (pi_listK (K := K) rfl (pv 1)) (pg_k (K := K) (t := fun K => gTup K 2 _) rfl (pg_tup (n := 2) rfl (pgs_cons (pg_name (i := 3) sc_sorted_ties.nd rfl (Or.inl rfl)) (pgs_cons (pg_name (i := 4) sc_sorted_ties.nd rfl (Or.inl rfl)) pgs_nil)))) (pss_cons (ps_set (i := 5) sc_sorted_ties.nd rfl (Or.inl rfl) (pe_tup (pa_cons (pe_callB (call_min2 rfl) (by rfl) T.n_min (by decide +kernel) (pa_cons (pv 3) (pa_cons (pv 4) pa_nil))) (pa_cons (pe_callB (call_max2 rfl) (by rfl) T.n_max (by decide +kernel) (pa_cons (pv 3) (pa_cons (pv 4) pa_nil))) pa_nil)))) (pss_cons (ps_if (PW.pt (pw_or (pt_cmp (pc_lt (pe_ix (ix_tupK (K := K) rfl) (pv 5) pe_int (fun _ _ => rfl)) pe_int)) (pw_or (pt_cmp (pc_ge (pe_ix (ix_tupK (K := K) rfl) (pv 5) pe_int (fun _ _ => rfl)) (pv 0))) (pw_or (pt_cmp (pc_eqI (pv 3) (pv 4))) (pw_or1 (pt_cmpR (op_inL (K := K) rfl (Int × Int) (by decide) (Room.units65 hr)) (pv 5) (pv 2) (by rfl))))))) (pss_one (L2N.ps_raise rfl (L2N.takes_of rfl rfl rfl rfl) (L2N.pmk_own PySem.F.excBase_ValueError T.x_NoWeb.xc T.x_NoWeb.gm T.x_NoWeb.kp (raises_own T.x_NoWeb.b T.x_NoWeb.t) (by exact rfl)))) pss_nil) (pss_one (ps_expr (pe_bm PySem.F.plainAttrs_list PySem.F.slot_list_append PySem.F.type_list_append mt_append (pv 2) (pa_cons (pv 5) pa_nil))))))) (pss_one (ps_ret (pe_callTy (call_tuple_ofK (K := K) rfl) (by rfl) T.n_tuple (by decide +kernel) (pa_cons (pe_callB (cr_sortP (K := K) rfl) (by rfl) T.n_sorted (by decide +kernel) (pa_cons (pv 2) pa_nil)) pa_nil)))))), ?_⟩
    have h2 : A2 (rep K F0) [] ([] : (List (Int × Int))) := .nil
    refine ⟨(by show 0 ≤ sizeLine; decide), fun p3 n3 => ?_⟩
    have w3 : W F0 _ ((p3, .lst []) :: (a_ties, .lst vs_ties) :: os) := w0.new n3
    refine ⟨_, rfl, _, rfl, ⟨_, SqL.of (w3.get (pre := [_]))⟩, ?_⟩
    refine forS (tw_list (a := a_ties) h_ties) hm (fun (g4 : (List (Int × Int))) σ H' => ∃ (F' : Hp) (vs4_0 : List V) (o4_5 : Option V) (o4_3 : Option V) (o4_4 : Option V), σ = [some (.int x_many), some (.ref a_ties), some (.ref p3), o4_3, o4_4, o4_5] ∧ Same F0 F' ∧ W F' H' ((p3, .lst vs4_0) :: (a_ties, .lst vs_ties) :: os) ∧ A2 (rep K F') vs4_0 g4) ⟨_, _, _, _, _, rfl, Same.refl _, w3, h2⟩ (fun g σ H' hI => by obtain ⟨F', _, _, _, _, _, s, w, _⟩ := hI; exact SqL.of (w.get (pre := [_]))) ?_ ?_
    · -- a turn
      intro b4 g4 x4 σ4 H4 H4' N4 P4 hI hy hN4 hm
      obtain ⟨F4, vs4_0, o4_5, o4_3, o4_4, rfl, s4, w4, h4_0⟩ := hI
      replace h_ties := A2.mono s4 h_ties
      replace sF := sF.trans s4
      obtain ⟨rfl, r5⟩ := hy
      replace r5 := Rep.mono s4 r5
      obtain ⟨a6, u6, z6, rfl, q6, r6a, r6b⟩ := r5
      obtain rfl : u6 = V.int b4.1 := r6a
      obtain rfl : z6 = V.int b4.2 := r6b
      refine ⟨_, _, rfl, SqT.of (w4.same _ _ q6), rfl, _, _, rfl, _, _, rfl, rfl, _, rfl, _, rfl, _, _, rfl, _, rfl, _, rfl, _, _, rfl, (by show 2 ≤ sizeLine; decide), fun p7 n7 => ?_⟩
      obtain ⟨F7, s7, w7, q7⟩ := w4.frzE (o := .tup [(.int (min2 b4.1 b4.2)), (.int (max2 b4.1 b4.2))]) n7
      replace h4_0 := A2.mono s7 h4_0
      replace h_ties := A2.mono s7 h_ties
      replace sF := sF.trans s7
      refine stepN ?_
      try dsimp only
      refine stepSeq (stepIf ?_)
      refine cutT (fun c H' => c = (((decide ((min2 b4.1 b4.2) < (0 : Int))) || ((decide (x_many ≤ (max2 b4.1 b4.2))) || ((decide (b4.1 = b4.2)) || (inB ((min2 b4.1 b4.2), (max2 b4.1 b4.2)) g4))))) ∧ ∃ F', Same F7 F' ∧ W F' H' ((p3, .lst vs4_0) :: (a_ties, .lst vs_ties) :: os)) (fun Q8 q8 => ?_) (fun c8 H8 hc8 => ?_)
      · -- the ways
        refine ⟨_, rfl, _, _, _, _, rfl, rfl, SqT.of (w7.same _ _ q7), rfl, _, _, rfl, rfl, _, rfl, ?_⟩
        refine ifB (fun k9 => ?_) (fun k9 => ?_)
        · skip
          exact q8 _ _ ⟨(by first | rfl | exact absurd k9 (by decide) | (simp [k9]; done) | ((try simp only [Bool.not_eq_true] at k9); simp only [k9, Bool.true_or, Bool.false_or, Bool.or_false, Bool.or_true, Bool.true_and, Bool.false_and, Bool.and_true, Bool.and_false])), _, Same.refl _, w7⟩
        · skip
          refine ⟨_, rfl, _, _, _, _, rfl, rfl, SqT.of (w7.same _ _ q7), rfl, _, rfl, _, _, rfl, rfl, _, rfl, ?_⟩
          refine ifB (fun k11 => ?_) (fun k11 => ?_)
          · skip
            exact q8 _ _ ⟨(by first | rfl | exact absurd k9 (by decide) | exact absurd k11 (by decide) | (simp [k9, k11]; done) | ((try simp only [Bool.not_eq_true] at k9); (try simp only [Bool.not_eq_true] at k11); simp only [k9, k11, Bool.true_or, Bool.false_or, Bool.or_false, Bool.or_true, Bool.true_and, Bool.false_and, Bool.and_true, Bool.and_false])), _, Same.refl _, w7⟩
          · skip
            refine ⟨_, rfl, _, rfl, _, _, rfl, rfl, _, rfl, ?_⟩
            refine ifB (fun k13 => ?_) (fun k13 => ?_)
            · skip
              exact q8 _ _ ⟨(by first | rfl | exact absurd k9 (by decide) | exact absurd k11 (by decide) | exact absurd k13 (by decide) | (simp [k9, k11, k13]; done) | ((try simp only [Bool.not_eq_true] at k9); (try simp only [Bool.not_eq_true] at k11); (try simp only [Bool.not_eq_true] at k13); simp only [k9, k11, k13, Bool.true_or, Bool.false_or, Bool.or_false, Bool.or_true, Bool.true_and, Bool.false_and, Bool.and_true, Bool.and_false])), _, Same.refl _, w7⟩
            · skip
              exact ⟨_, rfl, _, rfl, (((min2 b4.1 b4.2), (max2 b4.1 b4.2)) : (Int × Int)), _, (Rep.mono w7.same (rep_pair q7 rep_i rep_i)), (rep_own (pre := []) w7 h4_0), _, rfl, q8 _ _ ⟨(by first | rfl | exact absurd k9 (by decide) | exact absurd k11 (by decide) | exact absurd k13 (by decide) | (simp [k9, k11, k13]; done) | ((try simp only [Bool.not_eq_true] at k9); (try simp only [Bool.not_eq_true] at k11); (try simp only [Bool.not_eq_true] at k13); simp only [k9, k11, k13, Bool.true_or, Bool.false_or, Bool.or_false, Bool.or_true, Bool.true_and, Bool.false_and, Bool.and_true, Bool.and_false])), _, Same.refl _, w7⟩⟩
      obtain ⟨rfl, F8, s8, w8⟩ := hc8
      replace q7 := s8 _ _ q7
      replace h4_0 := A2.mono s8 h4_0
      replace h_ties := A2.mono s8 h_ties
      replace sF := sF.trans s8
      refine post_ite hm (fun k16 hm => ?_) (fun k16 hm => ?_)
      · skip
        try dsimp only
        have w17 : W F8 _ ((a_ties, .lst vs_ties) :: os) := w8.drop (pre := [])
        exact hm _ none _ _ T.x_NoWeb.ns w17 sF (XD.no fn_NoWeb)
      · skip
        obtain ⟨l18, z18, e18, hm⟩ := pn_app hm
        refine ⟨_, rfl, .inl ⟨rfl, _, SqL.of (w8.get (pre := []))⟩, _, rfl, _, _, _, rfl, rfl, (w8.get (pre := [])), (A2.lt h4_0 z18), ?_⟩
        have h18 : A2 (rep K F8) (vs4_0 ++ [(V.ref p7)]) l18 := e18 ▸ A2.snoc h4_0 (rep_pair q7 rep_i rep_i)
        have w19 : W F8 _ ((p3, .lst (vs4_0 ++ [(V.ref p7)])) :: (a_ties, .lst vs_ties) :: os) := w8.set (pre := [])
        exact hN4 _ (post_ok hm) _ _ ⟨_, _, _, _, _, rfl, (s4.trans (s7.trans s8)), w19, h18⟩
    intro g4 σ4 H4 hI hm
    obtain ⟨F4, vs4_0, o4_5, o4_3, o4_4, rfl, s4, w4, h4_0⟩ := hI
    replace h_ties := A2.mono s4 h_ties
    replace sF := sF.trans s4
    refine ⟨_, rfl, _, _, F4, g4, rfl, SqL.of (w4.get (pre := [])), w4.same, h4_0, fun p20 us20 n20 h20 => ?_⟩
    have w20 : W F4 _ ((p20, .lst us20) :: (p3, .lst vs4_0) :: (a_ties, .lst vs_ties) :: os) := w4.new n20
    have h22 : A2 (rep K F4) us20 (sortP g4) := h20
    refine ⟨_, _, rfl, .inl ⟨SqL.of (w20.get (pre := [])), fun p23 n23 => ?_⟩⟩
    obtain ⟨F23, s23, w23, q23⟩ := w20.frzE (o := .tup us20) n23
    replace h4_0 := A2.mono s23 h4_0
    replace h_ties := A2.mono s23 h_ties
    replace h20 := A2.mono s23 h20
    replace h22 := A2.mono s23 h22
    replace sF := sF.trans s23
    have w24 : W F23 _ ((p3, .lst vs4_0) :: (a_ties, .lst vs_ties) :: os) := w23.drop (pre := [])
    have w25 : W F23 _ ((a_ties, .lst vs_ties) :: os) := w24.drop (pre := [])
    exact (post_ok hm) _ _ _ w25 sF (rep_tup q23 h22)
def sp_made_webX (K : Fg) : Sp := fun vs H Q E => ∃ (F : Hp) (os : List (Addr × HO)) (x_many : Int) (a_ties : Addr) (vs_ties : List V) (x_ties : (List (Int × Int))), vs = [.int x_many, .ref a_ties] ∧ W F H ((a_ties, .lst vs_ties) :: os) ∧ A2 (rep K F) vs_ties x_ties ∧ Post (made_webX x_many x_ties) (fun (y : (Int × (Tup (Int × Int)))) => ∀ (v : V) (F' H' : Hp), W F' H' ((a_ties, .lst vs_ties) :: os) → Same F F' → rep K F' v (y : (Int × (Tup (Int × Int)))) → Q v H') (RetXD fld K F ((a_ties, .lst vs_ties) :: os) E)
theorem sc_made_web : FnScope ["many", "ties", "web", "fars", "place"] ["many", "ties"] (defScope s_made_web) := ⟨rfl, rfl, rfl, by decide +kernel, rfl, by decide +kernel, by decide +kernel⟩
theorem ok_made_webX (T : Tx K mg A FD) : FnOk P w K mg base (L2N.CX P w) 3 (A 13) (FD 13) ["many", "ties"] (sp_made_webX K) := by
  refine T.d13.fn.okXN sc_made_web (fun vs H Q E h => ?_) (fun cdv Ar outer s H vs Q E hr h => ?_)
  · obtain ⟨F, os, x_many, a_ties, vs_ties, x_ties, rfl, _⟩ := h
    rfl
  · obtain ⟨F0, os, x_many, a_ties, vs_ties, x_ties, rfl, w0, h_ties, hm⟩ := h
    have sF : Same F0 F0 := Same.refl _
    refine ⟨_, (pss_cons (ps_if (pt_not (pt_chain op_le op_le pe_int (pv 0) (pe_globI (by rfl) T.c_MOST_PLACES))) (pss_one (L2N.ps_raise rfl (L2N.takes_of rfl rfl rfl rfl) (L2N.pmk_own PySem.F.excBase_ValueError T.x_NoWeb.xc T.x_NoWeb.gm T.x_NoWeb.kp (raises_own T.x_NoWeb.b T.x_NoWeb.t) (by exact rfl)))) pss_nil) (pss_cons (ps_set (i := 2) sc_made_web.nd rfl (Or.inl rfl) (pe_tup (pa_cons (pv 0) (pa_cons (pe_callS (ok_sorted_tiesX T) (hr.mono (by decide)) (by rfl) T.d12.mg T.d12.fn.kp T.d12.b (fun σ => L2N.passAt (L2N.takes_of rfl rfl rfl rfl) σ) (pa_cons (pv 0) (pa_cons (pv 1) pa_nil))) pa_nil)))) (pss_cons (ps_set (i := 3) sc_made_web.nd rfl (Or.inl rfl) (pe_call (ok_fars_by T) (hr.mono (by decide)) (by rfl) T.d11.mg T.d11.fn.kp T.d11.b .nil pass0 (pa_cons (pe_call (ok_near_lists T) (hr.mono (by decide)) (by rfl) T.d10.mg T.d10.fn.kp T.d10.b .nil pass0 (pa_cons (pv 2) pa_nil)) (pa_cons pe_int pa_nil)))) (pss_cons (ps_for (passes_of rfl) rfl (pi_range1 (by rfl) T.n_range (pa_cons (pv 0) pa_nil)) (pg_name (i := 4) sc_made_web.nd rfl (Or.inl rfl)) (pss_one (ps_if (pt_cmpR op_isN2 (pe_ix (ix_listK (K := K) rfl) (pv 3) (pv 4) (fun _ _ => rfl)) pe_non (nomark _)) (pss_one (L2N.ps_raise rfl (L2N.takes_of rfl rfl rfl rfl) (pmk_oexN T.xi_Apart.ox T.xi_Apart.ini T.xi_Apart.tI (ok_Apart_init T) (hr.mono (by decide)) T.d7000.b .nil pass0 (by rfl) T.x_Apart.gm (pa_cons (pv 4) pa_nil)))) pss_nil))) (pss_one (ps_ret (pv 2))))))), ?_⟩
    try dsimp only
    refine stepSeq (stepIf ?_)
    refine stepNot ?_
    refine cutT (fun c H' => c = ((decide ((1 : Int) ≤ x_many)) && (decide (x_many ≤ (60 : Int)))) ∧ ∃ F', Same F0 F' ∧ W F' H' ((a_ties, .lst vs_ties) :: os)) (fun Q2 q2 => ?_) (fun c2 H2 hc2 => ?_)
    · -- the ways
      refine ⟨_, rfl, _, _, rfl, rfl, _, rfl, ?_⟩
      refine ifB (fun k3 => ?_) (fun k3 => ?_)
      · skip
        exact ⟨_, _, rfl, rfl, _, rfl, q2 _ _ ⟨(by first | rfl | exact absurd k3 (by decide) | (simp [k3]; done) | ((try simp only [Bool.not_eq_true] at k3); simp only [k3, Bool.true_or, Bool.false_or, Bool.or_false, Bool.or_true, Bool.true_and, Bool.false_and, Bool.and_true, Bool.and_false])), _, Same.refl _, w0⟩⟩
      · skip
        exact ⟨_, rfl, q2 _ _ ⟨(by first | rfl | exact absurd k3 (by decide) | (simp [k3]; done) | ((try simp only [Bool.not_eq_true] at k3); simp only [k3, Bool.true_or, Bool.false_or, Bool.or_false, Bool.or_true, Bool.true_and, Bool.false_and, Bool.and_true, Bool.and_false])), _, Same.refl _, w0⟩⟩
    obtain ⟨rfl, F2, s2, w2⟩ := hc2
    replace h_ties := A2.mono s2 h_ties
    replace sF := sF.trans s2
    refine post_ite hm (fun k6 hm => ?_) (fun k6 hm => ?_)
    · skip
      try dsimp only
      exact hm _ none _ _ T.x_NoWeb.ns w2 sF (XD.no fn_NoWeb)
    · skip
      refine ⟨_, rfl, _, rfl, _, rfl, _, _, _, _, _, _, rfl, w2, h_ties, ?_⟩
      refine (post_bind hm).mono (fun y7 hm v7 F7 H7 w7 s7 r7 => ?_) (fun _ z C d F' H' nC w s xd => z C d F' H' nC w (sF.trans s) xd)
      replace h_ties := A2.mono s7 h_ties
      replace sF := sF.trans s7
      obtain ⟨a8, vs8, rfl, q8, h8⟩ := r7
      refine ⟨(by show 2 ≤ sizeLine; decide), fun p9 n9 => ?_⟩
      obtain ⟨F9, s9, w9, q9⟩ := w7.frzE (o := .tup [(.int x_many), (.ref a8)]) n9
      replace h_ties := A2.mono s9 h_ties
      replace q8 := s9 _ _ q8
      replace h8 := A2.mono s9 h8
      replace sF := sF.trans s9
      refine ⟨_, rfl, _, _, _, ((x_many, y7) : (Int × (Tup (Int × Int)))), rfl, w9, (rep_pair q9 rep_i (rep_tup q8 h8)), ?_⟩
      refine (post_nx hm).mono (fun y10 hm v10 F10 H10 w10 s10 r10 => ?_) (fun _ z => z)
      replace q9 := s10 _ _ q9
      replace h8 := A2.mono s10 h8
      replace q8 := s10 _ _ q8
      replace h_ties := A2.mono s10 h_ties
      replace sF := sF.trans s10
      obtain ⟨a11, vs11, rfl, q11, h11⟩ := r10
      refine ⟨_, _, _, (y10 : (List (List Int))), _, rfl, w10, (rep_lst q11 h11), ?_⟩
      refine (post_nx hm).mono (fun y12 hm p12 us12 F12 H12 w12 s12 g12 => ?_) (fun _ z => z)
      replace q9 := s12 _ _ q9
      replace h8 := A2.mono s12 h8
      replace q8 := s12 _ _ q8
      replace h_ties := A2.mono s12 h_ties
      replace q11 := s12 _ _ q11
      replace h11 := A2.mono s12 h11
      replace sF := sF.trans s12
      obtain ⟨F14, s14, w14, q14⟩ : ∃ F', Same F12 F' ∧ W F' _ ((a_ties, .lst vs_ties) :: os) ∧ F' p12 = some (.lst us12) := w12.freezeE (pre := [])
      replace q9 := s14 _ _ q9
      replace h8 := A2.mono s14 h8
      replace q8 := s14 _ _ q8
      replace h_ties := A2.mono s14 h_ties
      replace q11 := s14 _ _ q11
      replace h11 := A2.mono s14 h11
      replace g12 := A2.mono s14 g12
      replace sF := sF.trans s14
      obtain ⟨c16, hm⟩ := pb_rng hm
      refine ⟨_, rfl, _, rfl, c16.2.2.1, c16.2.2.2, ?_⟩
      refine forS (tw_rng0 (j := x_many)) hm (fun (g15 : Unit) σ H' => ∃ (F' : Hp) (o15_4 : Option V), σ = [some (.int x_many), some (.ref a_ties), some (.ref p9), some (.ref p12), o15_4] ∧ Same F14 F' ∧ W F' H' ((a_ties, .lst vs_ties) :: os)) ⟨_, _, rfl, Same.refl _, w14⟩ (fun _ _ _ _ => trivial) ?_ ?_
      · -- a turn
        intro b15 g15 x15 σ15 H15 H15' N15 P15 hI hy hN15 hm
        obtain ⟨F15, o15_4, rfl, s15, w15⟩ := hI
        replace q9 := s15 _ _ q9
        replace h8 := A2.mono s15 h8
        replace q8 := s15 _ _ q8
        replace g12 := A2.mono s15 g12
        replace q14 := s15 _ _ q14
        replace h_ties := A2.mono s15 h_ties
        replace sF := sF.trans s15
        obtain ⟨rfl, rfl⟩ := hy
        obtain ⟨t17, e17, hm⟩ := pb_get hm
        obtain ⟨u17, f17, r17⟩ := A2.at g12 e17
        refine ⟨_, rfl, _, rfl, _, _, _, _, rfl, rfl, SqL.of (w15.same _ _ q14), f17, rfl, _, isN_eq r17, _, rfl, ?_⟩
        refine post_ite hm (fun k19 hm => ?_) (fun k19 hm => ?_)
        · skip
          try dsimp only
          refine ⟨_, rfl, ?_⟩
          exact ⟨(by show 1 ≤ 1000; decide), fun a na => raise_xd w15 sF (post_raiseX hm) T.x_Apart.ns fd_Apart rfl a na⟩
        · skip
          exact hN15 _ (post_ok hm) _ _ ⟨_, _, rfl, s15, w15⟩
      intro g15 σ15 H15 hI hm
      obtain ⟨F15, o15_4, rfl, s15, w15⟩ := hI
      replace q9 := s15 _ _ q9
      replace h8 := A2.mono s15 h8
      replace q8 := s15 _ _ q8
      replace g12 := A2.mono s15 g12
      replace q14 := s15 _ _ q14
      replace h_ties := A2.mono s15 h_ties
      replace sF := sF.trans s15
      exact ⟨_, rfl, (post_ok hm) _ _ _ w15 sF (rep_pair q9 rep_i (rep_tup q8 h8))⟩
def sp_number_of (K : Fg) : Sp := fun vs H Q E => ∃ (F : Hp) (os : List (Addr × HO)) (x_word : Str), vs = [.str x_word] ∧ W F H (os) ∧ Post (number_of x_word) (Ret K F os Q) noX
theorem sc_number_of : FnScope ["word", "sign"] ["word"] (defScope s_number_of) := ⟨rfl, rfl, rfl, by decide +kernel, rfl, by decide +kernel, by decide +kernel⟩
theorem ok_number_of (T : Tx K mg A FD) : FnOk P w K mg base CX0 1 (A 16) (FD 16) ["word"] (sp_number_of K) := by
  refine T.d16.fn.ok sc_number_of (fun vs H Q E h => ?_) (fun cdv Ar outer s H vs Q E hr h => ?_)
  · obtain ⟨F, os, x_word, rfl, _⟩ := h
    rfl
  · obtain ⟨F0, os, x_word, rfl, w0, hm⟩ := h
    have sF : Same F0 F0 := Same.refl _
    refine ⟨_, (pss_cons (ps_if (PW.pt (pw_or (pt_cmpR op_eqS (pv 0) pe_str (nomark _)) (pw_or (pt_cmp (pc_gt (pe_callB call_len_str (by rfl) T.n_len (by decide +kernel) (pa_cons (pv 0) pa_nil)) (pe_globI (by rfl) T.c_MOST_FIGURES))) (pw_or1 (pt_not (pt_val (pe_callB (cr_allK (K := K) rfl rfl) (by rfl) T.n_all (by decide +kernel) (pa_cons (pe_lc (own := [("sign", 1)]) (g := gName 1) (by rfl) sc_number_of.nd (pi_str (pv 0)) (blkOk_by (own := [("sign", 1)]) (N := ["word", "sign"]) (sc := defScope s_number_of) (by decide +kernel)) (fun _ _ _ _ _ => (pg_name (i := 1) sc_number_of.nd rfl (Or.inl rfl))) (fun _ _ _ _ _ => pts_nil) (fun _ _ _ _ _ => (pe_cmpR op_inS (pv 1) pe_str (by rfl)))) pa_nil)))))))) (pss_one (ps_ret pe_non)) pss_nil) (pss_cons (ps_if (PW.pt (pw_and (pt_cmpR op_eqS (pe_ix ix_str (pv 0) pe_int (fun _ _ => rfl)) pe_str (nomark _)) (pw_and1 (pt_cmpR op_neS (pv 0) pe_str (nomark _))))) (pss_one (ps_ret pe_non)) pss_nil) (pss_one (ps_ret (pe_callTy call_int_str (by rfl) T.n_int (by decide +kernel) (pa_cons (pv 0) pa_nil)))))), ?_⟩
    try dsimp only
    refine stepSeq (stepIf ?_)
    refine joinT hm (fun (j1 : Bool) c H' => c = j1 ∧ ∃ (F' : Hp), Same F0 F' ∧ W F' H' (os)) ?_ ?_
    · intro Q1 P1 q1 hm
      refine ⟨_, rfl, _, _, rfl, rfl, _, rfl, ?_⟩
      refine post_ite hm (fun k2 hm => ?_) (fun k2 hm => ?_)
      · skip
        exact q1 _ (post_ok hm) _ _ ⟨rfl, _, Same.refl _, w0⟩
      · skip
        obtain ⟨c4, hm⟩ := pb_txLen hm
        refine ⟨_, rfl, _, rfl, c4, _, _, rfl, rfl, _, rfl, ?_⟩
        refine post_ite hm (fun k5 hm => ?_) (fun k5 hm => ?_)
        · skip
          exact q1 _ (post_ok hm) _ _ ⟨rfl, _, Same.refl _, w0⟩
        · skip
          refine ⟨_, rfl, _, rfl, fun D7 nD7 => ?_⟩
          refine lcM (K := K) (tw_str (a := x_word)) hm w0 nD7 (fun F' H' acc s w => trivial) ?_ ?_
          · -- one turn
            intro b7 x7 F7 H7 H7' acc7 N7 P7 s7 w7 y7 hN7 hm
            replace sF := sF.trans s7
            obtain ⟨rfl, rfl⟩ := y7
            obtain ⟨c9, e9, hm⟩ := pb_txIn hm
            exact ⟨rfl, _, rfl, _, _, congrArg V.str e9, rfl, hN7 _ (post_ok hm) _ _ _ w7 (Same.refl _) rep_b⟩
          intro us7 F7 H7 ys7 s7 w7 gg7 hm
          replace sF := sF.trans s7
          have w12 : W F7 _ (os) := w7.drop (pre := [])
          exact ⟨_, _, rfl, bools_q (SqL.of (w7.get (pre := []))) gg7, _, rfl, q1 _ (post_ok hm) _ _ ⟨rfl, _, s7, w12⟩⟩
    intro j1 c1 H1 hc1 hm
    obtain ⟨rfl, F1, s1, w1⟩ := hc1
    replace sF := sF.trans s1
    refine post_ite hm (fun k13 hm => ?_) (fun k13 hm => ?_)
    · skip
      exact (post_ok hm) _ _ _ w1 sF rep_none
    · skip
      refine stepX ?_
      try dsimp only
      refine stepSeq (stepIf ?_)
      refine joinT hm (fun (j14 : Bool) c H' => c = j14 ∧ ∃ (F' : Hp), Same F1 F' ∧ W F' H' (os)) ?_ ?_
      · intro Q14 P14 q14 hm
        obtain ⟨c15, z15, e15, hm⟩ := pb_txAt hm
        refine ⟨_, rfl, _, _, _, rfl, rfl, z15, e15, _, _, rfl, rfl, _, rfl, ?_⟩
        refine post_ite hm (fun k16 hm => ?_) (fun k16 hm => ?_)
        · skip
          exact ⟨_, rfl, _, _, rfl, rfl, _, rfl, q14 _ (post_ok hm) _ _ ⟨rfl, _, Same.refl _, w1⟩⟩
        · skip
          exact q14 _ (post_ok hm) _ _ ⟨rfl, _, Same.refl _, w1⟩
      intro j14 c14 H14 hc14 hm
      obtain ⟨rfl, F14, s14, w14⟩ := hc14
      replace sF := sF.trans s14
      refine post_ite hm (fun k19 hm => ?_) (fun k19 hm => ?_)
      · skip
        exact (post_ok hm) _ _ _ w14 sF rep_none
      · skip
        obtain ⟨t20, c20, hm⟩ := pb_txInt hm
        exact ⟨_, rfl, _, _, rfl, c20.1, c20.2, (post_ok hm) _ _ _ w14 sF (rep_some rep_i)⟩
def sp_numbers_of (K : Fg) : Sp := fun vs H Q E => ∃ (F : Hp) (os : List (Addr × HO)) (x_row : Str) (x_word : Str) (x_many : Int), vs = [.str x_row, .str x_word, .int x_many] ∧ W F H (os) ∧ Post (numbers_of x_row x_word x_many) (Ret K F os Q) noX
theorem sc_numbers_of : FnScope ["row", "word", "many", "words", "numbers", "other"] ["row", "word", "many"] (defScope s_numbers_of) := ⟨rfl, rfl, rfl, by decide +kernel, rfl, by decide +kernel, by decide +kernel⟩
theorem ok_numbers_of (T : Tx K mg A FD) : FnOk P w K mg base CX0 2 (A 17) (FD 17) ["row", "word", "many"] (sp_numbers_of K) := by
  refine T.d17.fn.ok sc_numbers_of (fun vs H Q E h => ?_) (fun cdv Ar outer s H vs Q E hr h => ?_)
  · obtain ⟨F, os, x_row, x_word, x_many, rfl, _⟩ := h
    rfl
  · obtain ⟨F0, os, x_row, x_word, x_many, rfl, w0, hm⟩ := h
    have sF : Same F0 F0 := Same.refl _
    refine ⟨_, (pss_cons (ps_set (i := 3) sc_numbers_of.nd rfl (Or.inl rfl) (pe_bm PySem.F.plainAttrs_str PySem.F.slot_str_split PySem.F.type_str_split mt_split (pv 0) (pa_cons pe_str pa_nil))) (pss_cons (ps_if (PW.pt (pw_or (pt_cmpR op_neS (pe_ix (ix_listK (K := K) rfl) (pv 3) pe_int (fun _ _ => rfl)) (pv 1) (nomark _)) (pw_or1 (pt_cmp (pc_neI (pe_callB (call_lenN (K := K) rfl) (by rfl) T.n_len (by decide +kernel) (pa_cons (pv 3) pa_nil)) (pe_op op_add (pv 2) pe_int)))))) (pss_one (ps_ret pe_non)) pss_nil) (pss_cons (ps_setLc (i := 4) (own := [("other", 5)]) (g := gName 5) (by rfl) sc_numbers_of.nd rfl rfl (sw_true rfl rfl rfl (by decide +kernel)) (pi_listK (K := K) rfl (pe_slice (sl_listK (K := K) rfl) (pv 3) (po_some pe_int) po_none)) (blkOk_by (own := [("other", 5)]) (N := ["row", "word", "many", "words", "numbers", "other"]) (sc := defScope s_numbers_of) (by decide +kernel)) (fun _ _ _ _ _ => (pg_name (i := 5) sc_numbers_of.nd rfl (Or.inl rfl))) (fun _ _ _ _ _ => pts_nil) (fun _ _ _ _ _ => (pe_call (ok_number_of T) (hr.mono (by decide)) (by rfl) T.d16.mg T.d16.fn.kp T.d16.b .nil pass0 (pa_cons (pv 5) pa_nil)))) (pss_cons (ps_if (pt_cmpR (op_inL (K := K) rfl (Option Int) (by decide) (Room.units65 hr)) pe_non (pv 4) (by rfl)) (pss_one (ps_ret pe_non)) pss_nil) (pss_one (ps_ret (pv 4))))))), ?_⟩
    obtain ⟨c1, hm⟩ := pb_txSplit hm
    have h1 : A2 (rep K F0) ((Txt.split x_row (" " : Str)).map V.str) (Txt.split x_row (" " : Str)) := A2.of_strs
    refine ⟨_, rfl, rfl, _, _, rfl, rfl, c1.1, c1.2, fun p2 n2 => ?_⟩
    have w2 : W F0 _ ((p2, .lst ((Txt.split x_row (" " : Str)).map V.str)) :: os) := w0.new n2
    obtain ⟨F3, s3, w3, q3⟩ : ∃ F', Same F0 F' ∧ W F' _ (os) ∧ F' p2 = some (.lst ((Txt.split x_row (" " : Str)).map V.str)) := w2.freezeE (pre := [])
    replace h1 := A2.mono s3 h1
    replace sF := sF.trans s3
    refine stepN ?_
    try dsimp only
    refine stepSeq (stepIf ?_)
    refine joinT hm (fun (j4 : Bool) c H' => c = j4 ∧ ∃ (F' : Hp), Same F3 F' ∧ W F' H' (os)) ?_ ?_
    · intro Q4 P4 q4 hm
      obtain ⟨t5, e5, hm⟩ := pb_get hm
      obtain ⟨u5, f5, r5⟩ := A2.at h1 e5
      obtain rfl : u5 = V.str t5 := r5
      refine ⟨_, rfl, _, _, _, _, rfl, rfl, SqL.of (w3.same _ _ q3), f5, _, rfl, _, _, rfl, rfl, _, rfl, ?_⟩
      refine post_ite hm (fun k6 hm => ?_) (fun k6 hm => ?_)
      · skip
        exact q4 _ (post_ok hm) _ _ ⟨rfl, _, Same.refl _, w3⟩
      · skip
        exact ⟨_, rfl, _, _, _, rfl, .inl (SqL.of (w3.same _ _ q3)), h1.length, _, rfl, _, _, rfl, rfl, _, _, rfl, rfl, _, rfl, q4 _ (post_ok hm) _ _ ⟨rfl, _, Same.refl _, w3⟩⟩
    intro j4 c4 H4 hc4 hm
    obtain ⟨rfl, F4, s4, w4⟩ := hc4
    replace h1 := A2.mono s4 h1
    replace q3 := s4 _ _ q3
    replace sF := sF.trans s4
    refine post_ite hm (fun k9 hm => ?_) (fun k9 hm => ?_)
    · skip
      exact (post_ok hm) _ _ _ w4 sF rep_none
    · skip
      have h10 : A2 (rep K F4) (cutV ((Txt.split x_row (" " : Str)).map V.str) (some (1 : Int)) none) (cutL (Txt.split x_row (" " : Str)) (some (1 : Int)) none) := sl_cut h1 _ _
      refine ⟨_, rfl, _, rfl, _, _, rfl, SqL.of (w4.same _ _ q3), fun p11 n11 => ?_⟩
      have w11 : W F4 _ ((p11, .lst (cutV ((Txt.split x_row (" " : Str)).map V.str) (some (1 : Int)) none)) :: os) := w4.new n11
      obtain ⟨F12, s12, w12, q12⟩ : ∃ F', Same F4 F' ∧ W F' _ (os) ∧ F' p11 = some (.lst (cutV ((Txt.split x_row (" " : Str)).map V.str) (some (1 : Int)) none)) := w11.freezeE (pre := [])
      replace h1 := A2.mono s12 h1
      replace q3 := s12 _ _ q3
      replace h10 := A2.mono s12 h10
      replace sF := sF.trans s12
      refine ⟨_, rfl, ⟨_, SqL.of (w12.same _ _ q12)⟩, fun D13 nD13 => ?_⟩
      refine lcM (K := K) (tw_list (a := p11) h10) hm w12 nD13 (fun F' H' acc s w => SqL.of (w.same _ _ (s _ _ q12))) ?_ ?_
      · -- one turn
        intro b13 x13 F13 H13 H13' acc13 N13 P13 s13 w13 y13 hN13 hm
        replace h1 := A2.mono s13 h1
        replace q3 := s13 _ _ q3
        replace h10 := A2.mono s13 h10
        replace q12 := s13 _ _ q12
        replace sF := sF.trans s13
        obtain ⟨rfl, r15⟩ := y13
        obtain rfl : x13 = V.str b13 := r15
        refine ⟨rfl, _, rfl, _, _, _, rfl, w13, ?_⟩
        refine (post_bind hm).mono (fun y16 hm v16 F16 H16 w16 s16 r16 => ?_) (fun _ z => z)
        replace h1 := A2.mono s16 h1
        replace q3 := s16 _ _ q3
        replace h10 := A2.mono s16 h10
        replace q12 := s16 _ _ q12
        replace sF := sF.trans s16
        exact hN13 _ (post_ok hm) _ _ _ w16 s16 r16
      intro us13 F13 H13 ys13 s13 w13 gg13 hm
      replace h1 := A2.mono s13 h1
      replace q3 := s13 _ _ q3
      replace h10 := A2.mono s13 h10
      replace q12 := s13 _ _ q12
      replace sF := sF.trans s13
      obtain ⟨F19, s19, w19, q19⟩ : ∃ F', Same F13 F' ∧ W F' _ (os) ∧ F' D13 = some (.lst us13) := w13.freezeE (pre := [])
      replace h1 := A2.mono s19 h1
      replace q3 := s19 _ _ q3
      replace h10 := A2.mono s19 h10
      replace q12 := s19 _ _ q12
      replace gg13 := A2.mono s19 gg13
      replace sF := sF.trans s19
      refine ⟨_, rfl, (none : (Option Int)), _, (Rep.mono w19.same rep_none), (Rep.mono w19.same (rep_lst q19 gg13)), _, rfl, ?_⟩
      refine post_ite hm (fun k20 hm => ?_) (fun k20 hm => ?_)
      · skip
        exact (post_ok hm) _ _ _ w19 sF rep_none
      · skip
        obtain ⟨l21, e21, hm⟩ := pb_allS hm
        have h21 : A2 (rep K F19) us13 l21 := A2.unsome (e21 ▸ gg13)
        exact ⟨_, rfl, (post_ok hm) _ _ _ w19 sF (rep_some (rep_lst q19 h21))⟩
def sp_read_webX (K : Fg) : Sp := fun vs H Q E => ∃ (F : Hp) (os : List (Addr × HO)) (x_text : Str), vs = [.str x_text] ∧ W F H (os) ∧ Post (read_webX x_text) (Ret K F os Q) (RetXD fld K F (os) E)
theorem sc_read_web : FnScope ["text", "rows", "first", "ties", "at", "row", "numbers"] ["text"] (defScope s_read_web) := ⟨rfl, rfl, rfl, by decide +kernel, rfl, by decide +kernel, by decide +kernel⟩
theorem ok_read_webX (T : Tx K mg A FD) : FnOk P w K mg base (L2N.CX P w) 4 (A 18) (FD 18) ["text"] (sp_read_webX K) := by
  refine T.d18.fn.okXN sc_read_web (fun vs H Q E h => ?_) (fun cdv Ar outer s H vs Q E hr h => ?_)
  · obtain ⟨F, os, x_text, rfl, _⟩ := h
    rfl
  · obtain ⟨F0, os, x_text, rfl, w0, hm⟩ := h
    have sF : Same F0 F0 := Same.refl _
    refine ⟨_, (pss_cons (ps_set (i := 1) sc_read_web.nd rfl (Or.inl rfl) (pe_bm PySem.F.plainAttrs_str PySem.F.slot_str_split PySem.F.type_str_split mt_split (pv 0) (pa_cons pe_str pa_nil))) (pss_cons (ps_set (i := 2) sc_read_web.nd rfl (Or.inl rfl) (pe_call (ok_numbers_of T) (hr.mono (by decide)) (by rfl) T.d17.mg T.d17.fn.kp T.d17.b .nil pass0 (pa_cons (pe_ix (ix_listK (K := K) rfl) (pv 1) pe_int (fun _ _ => rfl)) (pa_cons pe_str (pa_cons pe_int pa_nil))))) (pss_cons (ps_if (pt_cmpR op_isN2 (pv 2) pe_non (nomark _)) (pss_one (L2N.ps_raise rfl (L2N.takes_of rfl rfl rfl rfl) (pmk_oexN T.xi_NoText.ox T.xi_NoText.ini T.xi_NoText.tI (ok_NoText_init T) (hr.mono (by decide)) T.d8000.b .nil pass0 (by rfl) T.x_NoText.gm (pa_cons pe_int pa_nil)))) pss_nil) (pss_cons (ps_set (i := 3) sc_read_web.nd rfl (Or.inl rfl) (pe_lst pa_nil)) (pss_cons (ps_for (passes_of rfl) rfl (pi_k (K := K) (wi := fun K => iEnum K _) rfl (pi_enum (by rfl) T.n_enumerate (pa_cons (pe_slice (sl_listK (K := K) rfl) (pv 1) (po_some pe_int) po_none) pa_nil))) (pg_k (K := K) (t := fun K => gTup K 2 _) rfl (pg_tup (n := 2) rfl (pgs_cons (pg_name (i := 4) sc_read_web.nd rfl (Or.inl rfl)) (pgs_cons (pg_name (i := 5) sc_read_web.nd rfl (Or.inl rfl)) pgs_nil)))) (pss_cons (ps_set (i := 6) sc_read_web.nd rfl (Or.inl rfl) (pe_call (ok_numbers_of T) (hr.mono (by decide)) (by rfl) T.d17.mg T.d17.fn.kp T.d17.b .nil pass0 (pa_cons (pv 5) (pa_cons pe_str (pa_cons pe_int pa_nil))))) (pss_cons (ps_if (pt_cmpR op_isN2 (pv 6) pe_non (nomark _)) (pss_one (L2N.ps_raise rfl (L2N.takes_of rfl rfl rfl rfl) (pmk_oexN T.xi_NoText.ox T.xi_NoText.ini T.xi_NoText.tI (ok_NoText_init T) (hr.mono (by decide)) T.d8000.b .nil pass0 (by rfl) T.x_NoText.gm (pa_cons (pe_op op_add (pv 4) pe_int) pa_nil)))) pss_nil) (pss_one (ps_expr (pe_bm PySem.F.plainAttrs_list PySem.F.slot_list_append PySem.F.type_list_append mt_append (pv 3) (pa_cons (pe_tup (pa_cons (pe_ix (ix_listK (K := K) rfl) (pv 6) pe_int (fun _ _ => rfl)) (pa_cons (pe_ix (ix_listK (K := K) rfl) (pv 6) pe_int (fun _ _ => rfl)) pa_nil))) pa_nil))))))) (pss_one (ps_ret (pe_callS (ok_made_webX T) (hr.mono (by decide)) (by rfl) T.d13.mg T.d13.fn.kp T.d13.b (fun σ => L2N.passAt (L2N.takes_of rfl rfl rfl rfl) σ) (pa_cons (pe_ix (ix_listK (K := K) rfl) (pv 2) pe_int (fun _ _ => rfl)) (pa_cons (pv 3) pa_nil)))))))))), ?_⟩
    obtain ⟨c1, hm⟩ := pb_txSplit hm
    have h1 : A2 (rep K F0) ((Txt.split x_text ("
" : Str)).map V.str) (Txt.split x_text ("
" : Str)) := A2.of_strs
    refine ⟨_, rfl, rfl, _, _, rfl, rfl, c1.1, c1.2, fun p2 n2 => ?_⟩
    have w2 : W F0 _ ((p2, .lst ((Txt.split x_text ("
" : Str)).map V.str)) :: os) := w0.new n2
    obtain ⟨F3, s3, w3, q3⟩ : ∃ F', Same F0 F' ∧ W F' _ (os) ∧ F' p2 = some (.lst ((Txt.split x_text ("
" : Str)).map V.str)) := w2.freezeE (pre := [])
    replace h1 := A2.mono s3 h1
    replace sF := sF.trans s3
    obtain ⟨t4, e4, hm⟩ := pb_get hm
    obtain ⟨u4, f4, r4⟩ := A2.at h1 e4
    obtain rfl : u4 = V.str t4 := r4
    refine ⟨_, rfl, _, _, _, _, rfl, rfl, SqL.of (w3.same _ _ q3), f4, _, _, _, _, _, rfl, w3, ?_⟩
    refine (post_nx hm).mono (fun y5 hm v5 F5 H5 w5 s5 r5 => ?_) (fun _ z => z)
    replace h1 := A2.mono s5 h1
    replace q3 := s5 _ _ q3
    replace sF := sF.trans s5
    refine ⟨_, rfl, rfl, _, isN_eq r5, _, rfl, ?_⟩
    refine post_ite hm (fun k7 hm => ?_) (fun k7 hm => ?_)
    · skip
      try dsimp only
      exact ⟨(by show 1 ≤ 1000; decide), fun a na => raise_xd w5 sF (post_raiseX hm) T.x_NoText.ns fd_NoText rfl a na⟩
    · skip
      have h8 : A2 (rep K F5) [] ([] : (List (Int × Int))) := .nil
      refine ⟨(by show 0 ≤ sizeLine; decide), fun p9 n9 => ?_⟩
      have w9 : W F5 _ ((p9, .lst []) :: os) := w5.new n9
      have h11 : A2 (rep K F5) (cutV ((Txt.split x_text ("
" : Str)).map V.str) (some (1 : Int)) none) (cutL (Txt.split x_text ("
" : Str)) (some (1 : Int)) none) := sl_cut h1 _ _
      refine ⟨_, rfl, _, rfl, _, _, rfl, SqL.of (w9.same _ _ q3), fun p12 n12 => ?_⟩
      have w12 : W F5 _ ((p12, .lst (cutV ((Txt.split x_text ("
" : Str)).map V.str) (some (1 : Int)) none)) :: (p9, .lst []) :: os) := w9.new n12
      obtain ⟨F13, s13, w13, q13⟩ : ∃ F', Same F5 F' ∧ W F' _ ((p9, .lst []) :: os) ∧ F' p12 = some (.lst (cutV ((Txt.split x_text ("
" : Str)).map V.str) (some (1 : Int)) none)) := w12.freezeE (pre := [])
      replace h1 := A2.mono s13 h1
      replace q3 := s13 _ _ q3
      replace r5 := Rep.mono s13 r5
      replace h8 := A2.mono s13 h8
      replace h11 := A2.mono s13 h11
      replace sF := sF.trans s13
      refine ⟨_, _, rfl, SqL.of (w13.same _ _ q13), ?_⟩
      refine forS (tw_enum (a := p12) h11) hm (fun (g10 : (List (Int × Int))) σ H' => ∃ (F' : Hp) (vs10_0 : List V) (o10_6 : Option V) (o10_4 : Option V) (o10_5 : Option V), σ = [some (.str x_text), some (.ref p2), some v5, some (.ref p9), o10_4, o10_5, o10_6] ∧ Same F13 F' ∧ W F' H' ((p9, .lst vs10_0) :: os) ∧ A2 (rep K F') vs10_0 g10) ⟨_, _, _, _, _, rfl, Same.refl _, w13, h8⟩ (fun g σ H' hI => by obtain ⟨F', _, _, _, _, _, s, w, _⟩ := hI; exact SqL.of (w.same _ _ (s _ _ q13))) ?_ ?_
      · -- a turn
        intro b10 g10 x10 σ10 H10 H10' N10 P10 hI hy hN10 hm
        obtain ⟨F10, vs10_0, o10_6, o10_4, o10_5, rfl, s10, w10, h10_0⟩ := hI
        replace h1 := A2.mono s10 h1
        replace q3 := s10 _ _ q3
        replace r5 := Rep.mono s10 r5
        replace h11 := A2.mono s10 h11
        replace q13 := s10 _ _ q13
        replace sF := sF.trans s10
        obtain ⟨T14, u14, rfl, n14, rfl, r14⟩ := hy
        obtain ⟨F14, s14, w14, q14⟩ := w10.frzE (o := .tup [.int b10.1, u14]) n14
        replace r14 := Rep.mono s10 r14
        replace h1 := A2.mono s14 h1
        replace q3 := s14 _ _ q3
        replace r5 := Rep.mono s14 r5
        replace h11 := A2.mono s14 h11
        replace q13 := s14 _ _ q13
        replace h10_0 := A2.mono s14 h10_0
        replace sF := sF.trans s14
        replace r14 := Rep.mono s14 r14
        obtain rfl : u14 = V.str b10.2 := r14
        refine ⟨_, _, rfl, SqT.of (w14.same _ _ q14), rfl, _, _, rfl, _, _, rfl, rfl, _, rfl, _, _, _, _, _, rfl, w14, ?_⟩
        refine (post_nx hm).mono (fun y15 hm v15 F15 H15 w15 s15 r15 => ?_) (fun _ z => z)
        replace h1 := A2.mono s15 h1
        replace q3 := s15 _ _ q3
        replace r5 := Rep.mono s15 r5
        replace h10_0 := A2.mono s15 h10_0
        replace sF := sF.trans s15
        refine ⟨_, rfl, rfl, _, isN_eq r15, _, rfl, ?_⟩
        refine post_ite hm (fun k17 hm => ?_) (fun k17 hm => ?_)
        · skip
          try dsimp only
          refine ⟨_, rfl, _, _, rfl, rfl, ?_⟩
          have w18 : W F15 _ (os) := w15.drop (pre := [])
          exact ⟨(by show 1 ≤ 1000; decide), fun a na => raise_xd w18 sF (post_raiseX hm) T.x_NoText.ns fd_NoText rfl a na⟩
        · skip
          obtain ⟨t19, e19, hm⟩ := pb_ofO hm
          have r19 : rep K F15 v15 t19 := (show rep K F15 v15 (some t19) from e19 ▸ r15)
          obtain ⟨a20, vs20, rfl, q20, h20⟩ := r19
          obtain ⟨t21, e21, hm⟩ := pb_get hm
          obtain ⟨u21, f21, r21⟩ := A2.at h20 e21
          obtain rfl : u21 = V.int t21 := r21
          obtain ⟨t22, e22, hm⟩ := pb_get hm
          obtain ⟨u22, f22, r22⟩ := A2.at h20 e22
          obtain rfl : u22 = V.int t22 := r22
          refine ⟨_, rfl, .inl ⟨rfl, _, SqL.of (w15.get (pre := []))⟩, _, rfl, _, _, _, _, rfl, rfl, SqL.of (w15.same _ _ q20), f21, _, rfl, _, _, _, _, rfl, rfl, SqL.of (w15.same _ _ q20), f22, (by show 2 ≤ sizeLine; decide), fun p23 n23 => ?_⟩
          obtain ⟨F23, s23, w23, q23⟩ := w15.frzE (o := .tup [(.int t21), (.int t22)]) n23
          replace h1 := A2.mono s23 h1
          replace q3 := s23 _ _ q3
          replace r5 := Rep.mono s23 r5
          replace r15 := Rep.mono s23 r15
          replace h10_0 := A2.mono s23 h10_0
          replace q20 := s23 _ _ q20
          replace h20 := A2.mono s23 h20
          replace sF := sF.trans s23
          obtain ⟨l24, z24, e24, hm⟩ := pn_app hm
          refine ⟨_, _, _, rfl, rfl, (w23.get (pre := [])), (A2.lt h10_0 z24), ?_⟩
          have h24 : A2 (rep K F23) (vs10_0 ++ [(V.ref p23)]) l24 := e24 ▸ A2.snoc h10_0 (rep_pair q23 rep_i rep_i)
          have w25 : W F23 _ ((p9, .lst (vs10_0 ++ [(V.ref p23)])) :: os) := w23.set (pre := [])
          exact hN10 _ (post_ok hm) _ _ ⟨_, _, _, _, _, rfl, (s10.trans (s14.trans (s15.trans s23))), w25, h24⟩
      intro g10 σ10 H10 hI hm
      obtain ⟨F10, vs10_0, o10_6, o10_4, o10_5, rfl, s10, w10, h10_0⟩ := hI
      replace h1 := A2.mono s10 h1
      replace q3 := s10 _ _ q3
      replace r5 := Rep.mono s10 r5
      replace h11 := A2.mono s10 h11
      replace q13 := s10 _ _ q13
      replace sF := sF.trans s10
      obtain ⟨t26, e26, hm⟩ := pb_ofO hm
      have r26 : rep K F10 v5 t26 := (show rep K F10 v5 (some t26) from e26 ▸ r5)
      obtain ⟨a27, vs27, rfl, q27, h27⟩ := r26
      obtain ⟨t28, e28, hm⟩ := pb_get hm
      obtain ⟨u28, f28, r28⟩ := A2.at h27 e28
      obtain rfl : u28 = V.int t28 := r28
      refine ⟨_, rfl, _, _, _, _, rfl, rfl, SqL.of (w10.same _ _ q27), f28, _, rfl, _, _, _, _, _, _, rfl, w10, h10_0, ?_⟩
      refine (post_bind hm).mono (fun y29 hm v29 F29 H29 w29 s29 r29 => ?_) (fun _ z C d F' H' nC w s xd => z C d F' H' nC (w.drop (pre := [])) (sF.trans s) xd)
      replace h1 := A2.mono s29 h1
      replace q3 := s29 _ _ q3
      replace r5 := Rep.mono s29 r5
      replace h10_0 := A2.mono s29 h10_0
      replace q27 := s29 _ _ q27
      replace h27 := A2.mono s29 h27
      replace sF := sF.trans s29
      obtain ⟨a30, u30, z30, rfl, q30, r30a, r30b⟩ := r29
      obtain rfl : u30 = V.int y29.1 := r30a
      obtain ⟨a31, vs31, rfl, q31, h31⟩ := r30b
      have w32 : W F29 _ (os) := w29.drop (pre := [])
      exact (post_ok hm) _ _ _ w32 sF (rep_pair q30 rep_i (rep_tup q31 h31))
def sp_Desk_init (K : Fg) : Sp := fun vs H Q E => ∃ (F : Hp) (os : List (Addr × HO)) (a_self : Addr) (dx_self : Addr) (C_self : Addr) (x_text : Str), vs = [.ref a_self, .str x_text] ∧ W F H ((a_self, .ins C_self dx_self []) :: (dx_self, .own a_self) :: os) ∧ Nm K "Desk" C_self ∧ Post (Desk_init x_text) (fun (y : DeskF) => ∀ (us : List V) (F' H' : Hp), W F' H' ((a_self, .ins C_self dx_self (mkfs [("stands" : Str)] us)) :: (dx_self, .own a_self) :: os) → Same F F' → repTs K F' us y → Q .non H') (RetXD fld K F (os) E)
theorem sc_Desk_init : FnScope ["self", "text"] ["self", "text"] (defScope s_Desk_init) := ⟨rfl, rfl, rfl, by decide +kernel, rfl, by decide +kernel, by decide +kernel⟩
theorem ok_Desk_init (T : Tx K mg A FD) : FnOk P w K mg base (L2N.CX P w) 5 (A 21000) (FD 21000) ["self", "text"] (sp_Desk_init K) := by
  refine T.d21000.fn.okXN sc_Desk_init (fun vs H Q E h => ?_) (fun cdv Ar outer s H vs Q E hr h => ?_)
  · obtain ⟨F, os, a_self, dx_self, C_self, x_text, rfl, _⟩ := h
    rfl
  · obtain ⟨F0, os, a_self, dx_self, C_self, x_text, rfl, w0, n_self, hm⟩ := h
    have sF : Same F0 F0 := Same.refl _
    obtain rfl := n_self.uniq T.nm_Desk
    refine ⟨_, (pss_one (ps_fld (pv 0) (pe_lst (pa_cons (pe_tup (pa_cons (pe_callS (ok_read_webX T) (hr.mono (by decide)) (by rfl) T.d18.mg T.d18.fn.kp T.d18.b (fun σ => L2N.passAt (L2N.takes_of rfl rfl rfl rfl) σ) (pa_cons (pv 1) pa_nil)) (pa_cons (pe_lst pa_nil) pa_nil))) pa_nil)) (by rfl))), ?_⟩
    refine ⟨_, rfl, _, _, _, rfl, w0, ?_⟩
    refine (post_bind hm).mono (fun y3 hm v3 F3 H3 w3 s3 r3 => ?_) (fun _ z C d F' H' nC w s xd => z C d F' H' nC ((w.drop (pre := [])).drop (pre := [])) (sF.trans s) xd)
    replace sF := sF.trans s3
    obtain ⟨a4, u4, z4, rfl, q4, r4a, r4b⟩ := r3
    obtain rfl : u4 = V.int y3.1 := r4a
    obtain ⟨a5, vs5, rfl, q5, h5⟩ := r4b
    have h6 : A2 (rep K F3) [] ([] : (List Int)) := .nil
    refine ⟨(by show 0 ≤ sizeLine; decide), fun p7 n7 => ?_⟩
    have w7 : W F3 _ ((p7, .lst []) :: (a_self, (.ins (A 20) dx_self [])) :: (dx_self, (.own a_self)) :: os) := w3.new n7
    obtain ⟨F8, s8, w8, q8⟩ : ∃ F', Same F3 F' ∧ W F' _ ((a_self, (.ins (A 20) dx_self [])) :: (dx_self, (.own a_self)) :: os) ∧ F' p7 = some (.lst []) := w7.freezeE (pre := [])
    replace q4 := s8 _ _ q4
    replace q5 := s8 _ _ q5
    replace h5 := A2.mono s8 h5
    replace h6 := A2.mono s8 h6
    replace sF := sF.trans s8
    refine ⟨(by show 2 ≤ sizeLine; decide), fun p9 n9 => ?_⟩
    obtain ⟨F9, s9, w9, q9⟩ := w8.frzE (o := .tup [(.ref a4), (.ref p7)]) n9
    replace q4 := s9 _ _ q4
    replace q5 := s9 _ _ q5
    replace h5 := A2.mono s9 h5
    replace h6 := A2.mono s9 h6
    replace q8 := s9 _ _ q8
    replace sF := sF.trans s9
    have h10 : A2 (rep K F9) [(.ref p9)] ([(y3, ([] : (List Int)))] : (List ((Int × (Tup (Int × Int))) × (List Int)))) := .cons (rep_pair q9 (rep_pair q4 rep_i (rep_tup q5 h5)) (rep_lst q8 h6)) (.nil)
    refine ⟨(by show 1 ≤ sizeLine; decide), fun p11 n11 => ?_⟩
    have w11 : W F9 _ ((p11, .lst [(.ref p9)]) :: (a_self, (.ins (A 20) dx_self [])) :: (dx_self, (.own a_self)) :: os) := w9.new n11
    obtain ⟨F12, s12, w12, q12⟩ : ∃ F', Same F9 F' ∧ W F' _ ((a_self, (.ins (A 20) dx_self [])) :: (dx_self, (.own a_self)) :: os) ∧ F' p11 = some (.lst [(.ref p9)]) := w11.freezeE (pre := [])
    replace q4 := s12 _ _ q4
    replace q5 := s12 _ _ q5
    replace h5 := A2.mono s12 h5
    replace h6 := A2.mono s12 h6
    replace q8 := s12 _ _ q8
    replace q9 := s12 _ _ q9
    replace h10 := A2.mono s12 h10
    replace sF := sF.trans s12
    refine ⟨_, rfl, _, _, _, _, rfl, (w12.get (pre := [])), T.cl_Desk, T.na_Desk_stands, (Nat.lt_of_le_of_lt (Nat.le_refl _) (by decide : 0 < 1000)), ?_⟩
    have w13 : W F12 _ ((a_self, (.ins (A 20) dx_self (putF ("stands" : Str) (.ref p11) []))) :: (dx_self, (.own a_self)) :: os) := w12.set (pre := [])
    exact (post_ok hm) [(.ref p11)] _ _ w13 sF ⟨_, _, rfl, (rep_lst q12 h10), rfl⟩
def sp_law_purse (K : Fg) : Sp := fun vs H Q E => ∃ (F : Hp) (os : List (Addr × HO)) (v__law_script : V) (x__law_script : Scr) (x__law_k : Int), vs = [v__law_script, .int x__law_k] ∧ W F H (os) ∧ rep K F v__law_script x__law_script ∧ Post (law_purse x__law_script x__law_k) (RetL K F os Q) noX
theorem sc_law_purse : FnScope ["_law_script", "_law_k", "_law_cell", "_law_number"] ["_law_script", "_law_k"] (defScope s_law_purse) := ⟨rfl, rfl, rfl, by decide +kernel, rfl, by decide +kernel, by decide +kernel⟩
theorem ok_law_purse (T : Tx K mg A FD) : FnOk P w K mg base CX0 1 (A 22) (FD 22) ["_law_script", "_law_k"] (sp_law_purse K) := by
  refine T.d22.fn.ok sc_law_purse (fun vs H Q E h => ?_) (fun cdv Ar outer s H vs Q E hr h => ?_)
  · obtain ⟨F, os, v__law_script, x__law_script, x__law_k, rfl, _⟩ := h
    rfl
  · obtain ⟨F0, os, v__law_script, x__law_script, x__law_k, rfl, w0, r__law_script, hm⟩ := h
    have sF : Same F0 F0 := Same.refl _
    obtain ⟨a1, rfl, q1⟩ := r__law_script
    have h1 : A2 (rep K F0) (x__law_script.l.map V.int) x__law_script.l := A2.of_ints
    refine ⟨_, (pss_cons (ps_set (i := 2) sc_law_purse.nd rfl (Or.inl rfl) pe_int1) (pss_cons (ps_if (pt_cmp (pc_lt (pv 1) (pe_callB (call_lenN (K := K) rfl) (by rfl) T.n_len (by decide +kernel) (pa_cons (pv 0) pa_nil)))) (pss_one (ps_set (i := 2) sc_law_purse.nd rfl (Or.inl rfl) (pe_ix (ix_listK (K := K) rfl) (pv 0) (pv 1) (fun _ _ => rfl)))) (pss_one (ps_if (pt_cmpR (op_neDt (K := K) rfl Scr (by decide) hr.units) (pv 0) (pe_lst pa_nil) (nomark _)) (pss_one (ps_set (i := 2) sc_law_purse.nd rfl (Or.inl rfl) (pe_op op_add (pe_op op_mod (pe_ix (ix_listK (K := K) rfl) (pv 0) (pe_op op_mod (pv 1) (pe_callB (call_lenN (K := K) rfl) (by rfl) T.n_len (by decide +kernel) (pa_cons (pv 0) pa_nil))) (fun _ _ => rfl)) pe_int) (pe_op op_mul pe_int (pv 1))))) pss_nil))) (pss_cons (ps_if (pt_cmp (pc_ge (pv 2) (pe_op op_pow pe_int pe_int))) (pss_one (ps_ret (pe_lst (pa_cons (pv 2) pa_nil)))) pss_nil) (pss_cons (ps_set (i := 3) sc_law_purse.nd rfl (Or.inl rfl) (pe_op op_mod (pe_op op_sq (pe_op op_add (pe_op op_add (pe_op op_mod (pv 2) (pe_op op_add (pe_op op_pow pe_int pe_int) pe_int)) (pe_op op_mul pe_int (pv 1))) pe_int) pe_int) (pe_op op_add (pe_op op_pow pe_int pe_int) pe_int))) (pss_one (ps_ret (pe_lst (pa_cons (pe_op op_mod (pe_op op_mulW4 (pe_op op_add (pe_op op_add (pv 3) (pe_op op_mul pe_int (pv 1))) pe_int) pe_int) (pe_op op_add (pe_op op_pow pe_int pe_int) pe_int)) pa_nil)))))))), ?_⟩
    refine ⟨trivial, ?_⟩
    refine stepN ?_
    try dsimp only
    refine joinS hm (fun (g2 : Int) σ H' => ∃ (F' : Hp), σ = [some (.ref a1), some (.int x__law_k), some (.int g2), none] ∧ Same F0 F' ∧ W F' H' (os)) ?_ ?_
    · intro N2 P2 hN2 hm
      refine ⟨_, rfl, _, rfl, _, _, _, rfl, .inl (w0.same.seq q1), h1.length, _, _, rfl, rfl, _, rfl, ?_⟩
      refine post_ite hm (fun k3 hm => ?_) (fun k3 hm => ?_)
      · skip
        obtain ⟨t4, e4, hm⟩ := pb_get hm
        obtain ⟨u4, f4, r4⟩ := A2.at h1 e4
        obtain rfl : u4 = V.int t4 := r4
        exact ⟨_, rfl, _, rfl, _, _, _, _, rfl, rfl, w0.same.seq q1, f4, hN2 _ (post_ok hm) _ _ ⟨_, rfl, Same.refl _, w0⟩⟩
      · skip
        have h5 : A2 (rep K F0) [] ([] : (List Int)) := .nil
        refine ⟨_, rfl, (by show 0 ≤ sizeLine; decide), fun p6 n6 => ?_⟩
        have w6 : W F0 _ ((p6, .lst []) :: os) := w0.new n6
        refine ⟨(x__law_script : Scr), (⟨([] : (List Int))⟩ : Scr), (Rep.mono w6.same ⟨_, rfl, q1⟩), ⟨_, rfl, SqL.of (w6.get (pre := []))⟩, _, rfl, ?_⟩
        have w7 : W F0 _ (os) := w6.drop (pre := [])
        refine post_ite hm (fun k8 hm => ?_) (fun k8 hm => ?_)
        · skip
          obtain ⟨c9, hm⟩ := pb_mod hm
          obtain ⟨t10, e10, hm⟩ := pb_get hm
          obtain ⟨u10, f10, r10⟩ := A2.at h1 e10
          obtain rfl : u10 = V.int t10 := r10
          exact ⟨_, rfl, _, rfl, _, rfl, _, _, _, rfl, .inl (w7.same.seq q1), h1.length, _, _, rfl, rfl, c9, _, _, _, _, rfl, rfl, w7.same.seq q1, f10, _, _, rfl, rfl, (by show (0 : Int) < (1000003 : Int); decide), _, rfl, _, _, rfl, rfl, (.inl (by constructor <;> decide)), _, _, rfl, rfl, hN2 _ (post_ok hm) _ _ ⟨_, rfl, Same.refl _, w7⟩⟩
        · skip
          exact hN2 _ (post_ok hm) _ _ ⟨_, rfl, Same.refl _, w7⟩
    intro g2 σ2 H2 hI hm
    obtain ⟨F2, rfl, s2, w2⟩ := hI
    replace h1 := A2.mono s2 h1
    replace q1 := s2.seq q1
    replace sF := sF.trans s2
    refine ⟨_, rfl, _, _, rfl, rfl, (by refine ⟨?_, ?_, ?_⟩ <;> decide), _, _, rfl, rfl, _, rfl, ?_⟩
    refine post_ite hm (fun k14 hm => ?_) (fun k14 hm => ?_)
    · skip
      have h15 : A2 (rep K F2) [(.int g2)] ([g2] : (List Int)) := .cons rep_i (.nil)
      refine ⟨_, rfl, (by show 1 ≤ sizeLine; decide), fun p16 n16 => ?_⟩
      have w16 : W F2 _ ((p16, .lst [(.int g2)]) :: os) := w2.new n16
      exact (post_ok hm) _ _ _ _ w16 sF h15
    · skip
      obtain ⟨c20, hm⟩ := pb_sq hm
      obtain ⟨c24, hm⟩ := pb_mulW hm
      have h27 : A2 (rep K F2) [(.int (((((((((g2 % (((10 : Int) ^ ((30 : Int) : Int).toNat) + (57 : Int))) + ((7919 : Int) * x__law_k)) + (101 : Int)) ^ (2 : Int).toNat) % (((10 : Int) ^ ((30 : Int) : Int).toNat) + (57 : Int))) + ((977 : Int) * x__law_k)) + (5 : Int)) * (618033988749894848204586834365 : Int)) % (((10 : Int) ^ ((30 : Int) : Int).toNat) + (57 : Int))))] ([(((((((((g2 % (((10 : Int) ^ ((30 : Int) : Int).toNat) + (57 : Int))) + ((7919 : Int) * x__law_k)) + (101 : Int)) ^ (2 : Int).toNat) % (((10 : Int) ^ ((30 : Int) : Int).toNat) + (57 : Int))) + ((977 : Int) * x__law_k)) + (5 : Int)) * (618033988749894848204586834365 : Int)) % (((10 : Int) ^ ((30 : Int) : Int).toNat) + (57 : Int)))] : (List Int)) := .cons rep_i (.nil)
      refine ⟨_, rfl, _, _, rfl, rfl, (by refine ⟨?_, ?_, ?_⟩ <;> decide), _, _, rfl, rfl, _, _, rfl, rfl, (by show (0 : Int) < (((10 : Int) ^ ((30 : Int) : Int).toNat) + (57 : Int)); decide), _, rfl, _, _, rfl, rfl, (.inl (by constructor <;> decide)), _, _, rfl, rfl, _, _, rfl, rfl, _, _, rfl, rfl, ⟨rfl, c20⟩, _, _, rfl, rfl, (by refine ⟨?_, ?_, ?_⟩ <;> decide), _, _, rfl, rfl, _, _, rfl, rfl, (by show (0 : Int) < (((10 : Int) ^ ((30 : Int) : Int).toNat) + (57 : Int)); decide), _, rfl, _, rfl, _, _, rfl, rfl, (.inl (by constructor <;> decide)), _, _, rfl, rfl, _, _, rfl, rfl, _, _, rfl, rfl, c24, _, _, rfl, rfl, (by refine ⟨?_, ?_, ?_⟩ <;> decide), _, _, rfl, rfl, _, _, rfl, rfl, (by show (0 : Int) < (((10 : Int) ^ ((30 : Int) : Int).toNat) + (57 : Int)); decide), (by show 1 ≤ sizeLine; decide), fun p28 n28 => ?_⟩
      have w28 : W F2 _ ((p28, .lst [(.int (((((((((g2 % (((10 : Int) ^ ((30 : Int) : Int).toNat) + (57 : Int))) + ((7919 : Int) * x__law_k)) + (101 : Int)) ^ (2 : Int).toNat) % (((10 : Int) ^ ((30 : Int) : Int).toNat) + (57 : Int))) + ((977 : Int) * x__law_k)) + (5 : Int)) * (618033988749894848204586834365 : Int)) % (((10 : Int) ^ ((30 : Int) : Int).toNat) + (57 : Int))))]) :: os) := w2.new n28
      exact (post_ok hm) _ _ _ _ w28 sF h27
def sp_law_take (K : Fg) : Sp := fun vs H Q E => ∃ (F : Hp) (os : List (Addr × HO)) (a__law_purse_here : Addr) (vs__law_purse_here : List V) (x__law_purse_here : (List Int)) (x__law_many : Int), vs = [.ref a__law_purse_here, .int x__law_many] ∧ W F H ((a__law_purse_here, .lst vs__law_purse_here) :: os) ∧ A2 (rep K F) vs__law_purse_here x__law_purse_here ∧ Post (law_take x__law_purse_here x__law_many) (RetM K F a__law_purse_here os Q) noX
theorem sc_law_take : FnScope ["_law_purse_here", "_law_many", "_law_found"] ["_law_purse_here", "_law_many"] (defScope s_law_take) := ⟨rfl, rfl, rfl, by decide +kernel, rfl, by decide +kernel, by decide +kernel⟩
theorem ok_law_take (T : Tx K mg A FD) : FnOk P w K mg base CX0 1 (A 23) (FD 23) ["_law_purse_here", "_law_many"] (sp_law_take K) := by
  refine T.d23.fn.ok sc_law_take (fun vs H Q E h => ?_) (fun cdv Ar outer s H vs Q E hr h => ?_)
  · obtain ⟨F, os, a__law_purse_here, vs__law_purse_here, x__law_purse_here, x__law_many, rfl, _⟩ := h
    rfl
  · obtain ⟨F0, os, a__law_purse_here, vs__law_purse_here, x__law_purse_here, x__law_many, rfl, w0, h__law_purse_here, hm⟩ := h
    have sF : Same F0 F0 := Same.refl _
    refine ⟨_, (pss_cons (ps_set (i := 2) sc_law_take.nd rfl (Or.inl rfl) (pe_op op_mod (pe_ix (ix_listK (K := K) rfl) (pv 0) pe_int (fun _ _ => rfl)) (pv 1))) (pss_cons (ps_asg (pe_op op_fdivW (pe_ix (ix_listK (K := K) rfl) (pv 0) pe_int (fun _ _ => rfl)) (pv 1)) (pg_sub (pv 0) pe_int set_list)) (pss_one (ps_ret (pv 2))))), ?_⟩
    obtain ⟨t2, e2, hm⟩ := pb_get hm
    obtain ⟨u2, f2, r2⟩ := A2.at h__law_purse_here e2
    obtain rfl : u2 = V.int t2 := r2
    obtain ⟨c3, hm⟩ := pb_mod hm
    obtain ⟨t4, e4, hm⟩ := pb_get hm
    obtain ⟨u4, f4, r4⟩ := A2.at h__law_purse_here e4
    obtain rfl : u4 = V.int t4 := r4
    obtain ⟨c5, hm⟩ := pb_div hm
    obtain ⟨j6, l6, z6, e6, hm⟩ := pn_set hm
    refine ⟨_, rfl, _, _, _, _, rfl, rfl, SqL.of (w0.get (pre := [])), f2, _, rfl, _, _, rfl, rfl, c3, _, rfl, _, _, _, _, rfl, rfl, SqL.of (w0.get (pre := [])), f4, _, rfl, _, _, rfl, rfl, c5, _, rfl, _, _, _, _, rfl, rfl, (w0.get (pre := [])), (A2.ix h__law_purse_here z6), ?_⟩
    have h6 : A2 (rep K F0) (vs__law_purse_here.set j6 (V.int (t4 / x__law_many))) l6 := e6 ▸ A2.set rep_i j6 h__law_purse_here
    have w7 : W F0 _ ((a__law_purse_here, .lst (vs__law_purse_here.set j6 (V.int (t4 / x__law_many)))) :: os) := w0.set (pre := [])
    exact ⟨_, rfl, (post_ok hm) _ _ _ _ w7 sF rep_i h6⟩
def sp_law_order (K : Fg) : Sp := fun vs H Q E => ∃ (F : Hp) (os : List (Addr × HO)) (a__law_purse_here : Addr) (vs__law_purse_here : List V) (x__law_purse_here : (List Int)) (x__law_many : Int), vs = [.ref a__law_purse_here, .int x__law_many] ∧ W F H ((a__law_purse_here, .lst vs__law_purse_here) :: os) ∧ A2 (rep K F) vs__law_purse_here x__law_purse_here ∧ Post (law_order x__law_purse_here x__law_many) (RetLM K F a__law_purse_here os Q) noX
theorem sc_law_order : FnScope ["_law_purse_here", "_law_many", "_law_found", "_law_k"] ["_law_purse_here", "_law_many"] (defScope s_law_order) := ⟨rfl, rfl, rfl, by decide +kernel, rfl, by decide +kernel, by decide +kernel⟩
theorem ok_law_order (T : Tx K mg A FD) : FnOk P w K mg base CX0 2 (A 24) (FD 24) ["_law_purse_here", "_law_many"] (sp_law_order K) := by
  refine T.d24.fn.ok sc_law_order (fun vs H Q E h => ?_) (fun cdv Ar outer s H vs Q E hr h => ?_)
  · obtain ⟨F, os, a__law_purse_here, vs__law_purse_here, x__law_purse_here, x__law_many, rfl, _⟩ := h
    rfl
  · obtain ⟨F0, os, a__law_purse_here, vs__law_purse_here, x__law_purse_here, x__law_many, rfl, w0, h__law_purse_here, hm⟩ := h
    have sF : Same F0 F0 := Same.refl _
    refine ⟨_, (pss_cons (ps_set (i := 2) sc_law_order.nd rfl (Or.inl rfl) (pe_lst pa_nil)) (pss_cons (ps_for PassesOwn.never rfl (pi_range1 (by rfl) T.n_range (pa_cons (pv 1) pa_nil)) (pg_name (i := 3) sc_law_order.nd rfl (Or.inl rfl)) (pss_one (ps_expr (pe_bm PySem.F.plainAttrs_list PySem.F.slot_list_insert PySem.F.type_list_insert mt_insert (pv 2) (pa_cons (pe_call (ok_law_take T) (hr.mono (by decide)) (by rfl) T.d23.mg T.d23.fn.kp T.d23.b .nil pass0 (pa_cons (pv 0) (pa_cons (pe_op op_add (pv 3) pe_int) pa_nil))) (pa_cons (pv 3) pa_nil)))))) (pss_one (ps_ret (pv 2))))), ?_⟩
    have h2 : A2 (rep K F0) [] ([] : (List Int)) := .nil
    refine ⟨(by show 0 ≤ sizeLine; decide), fun p3 n3 => ?_⟩
    have w3 : W F0 _ ((p3, .lst []) :: (a__law_purse_here, .lst vs__law_purse_here) :: os) := w0.new n3
    obtain ⟨c5, hm⟩ := pb_rng hm
    refine ⟨_, rfl, _, rfl, c5.2.2.1, c5.2.2.2, ?_⟩
    refine forS (tw_rng0 (j := x__law_many)) hm (fun (g4 : (List Int) × (List Int)) σ H' => ∃ (F' : Hp) (vs4_0 : List V) (vs4_1 : List V) (o4_3 : Option V), σ = [some (.ref a__law_purse_here), some (.int x__law_many), some (.ref p3), o4_3] ∧ Same F0 F' ∧ W F' H' ((p3, .lst vs4_0) :: (a__law_purse_here, .lst vs4_1) :: os) ∧ A2 (rep K F') vs4_0 g4.1 ∧ A2 (rep K F') vs4_1 g4.2) ⟨_, _, _, _, rfl, Same.refl _, w3, h2, h__law_purse_here⟩ (fun _ _ _ _ => trivial) ?_ ?_
    · -- a turn
      intro b4 g4 x4 σ4 H4 H4' N4 P4 hI hy hN4 hm
      obtain ⟨F4, vs4_0, vs4_1, o4_3, rfl, s4, w4, h4_0, h4_1⟩ := hI
      replace sF := sF.trans s4
      obtain ⟨rfl, rfl⟩ := hy
      have w6 : W F4 _ ((a__law_purse_here, .lst vs4_1) :: (p3, .lst vs4_0) :: os) := w4.front (pre := [_])
      refine ⟨_, rfl, .inl ⟨rfl, _, SqL.of (w4.get (pre := []))⟩, _, rfl, _, rfl, _, _, rfl, rfl, _, _, _, _, _, _, rfl, w6, h4_1, ?_⟩
      refine (post_bind hm).mono (fun y7 hm v7 vs7 F7 H7 w7 s7 r7 h7 => ?_) (fun _ z => z)
      replace h4_0 := A2.mono s7 h4_0
      replace sF := sF.trans s7
      obtain rfl : v7 = V.int y7.1 := r7
      obtain ⟨l8, z8, e8, hm⟩ := pn_ins hm
      refine ⟨_, rfl, _, _, _, _, rfl, rfl, (w7.get (pre := [_])), (line_ins h4_0 z8.1), z8.2.1, (by have := z8.2.2; omega), ?_⟩
      have h8 : A2 (rep K F7) (vs4_0.take y7.1.toNat ++ [(.int b4)] ++ vs4_0.drop y7.1.toNat) l8 := e8 ▸ A2.ins _ h4_0 rep_i
      have w9 : W F7 _ ((a__law_purse_here, .lst vs7) :: (p3, .lst (vs4_0.take y7.1.toNat ++ [(.int b4)] ++ vs4_0.drop y7.1.toNat)) :: os) := w7.set (pre := [_])
      have w10 : W F7 _ ((p3, .lst (vs4_0.take y7.1.toNat ++ [(.int b4)] ++ vs4_0.drop y7.1.toNat)) :: (a__law_purse_here, .lst vs7) :: os) := w9.front (pre := [_])
      exact hN4 _ (post_ok hm) _ _ ⟨_, _, _, _, rfl, (s4.trans s7), w10, h8, h7⟩
    intro g4 σ4 H4 hI hm
    obtain ⟨F4, vs4_0, vs4_1, o4_3, rfl, s4, w4, h4_0, h4_1⟩ := hI
    replace sF := sF.trans s4
    exact ⟨_, rfl, (post_ok hm) _ _ _ _ _ w4 sF h4_0 h4_1⟩
def sp_law_pairs (K : Fg) : Sp := fun vs H Q E => ∃ (F : Hp) (os : List (Addr × HO)) (a__law_purse_here : Addr) (vs__law_purse_here : List V) (x__law_purse_here : (List Int)) (x__law_many : Int) (x__law_way : Int), vs = [.ref a__law_purse_here, .int x__law_many, .int x__law_way] ∧ W F H ((a__law_purse_here, .lst vs__law_purse_here) :: os) ∧ A2 (rep K F) vs__law_purse_here x__law_purse_here ∧ Post (law_pairs x__law_purse_here x__law_many x__law_way) (RetLM K F a__law_purse_here os Q) noX
theorem sc_law_pairs : FnScope ["_law_purse_here", "_law_many", "_law_way", "_law_found", "_law_k", "_law_near", "_law_one", "_law_other"] ["_law_purse_here", "_law_many", "_law_way"] (defScope s_law_pairs) := ⟨rfl, rfl, rfl, by decide +kernel, rfl, by decide +kernel, by decide +kernel⟩
theorem ok_law_pairs (T : Tx K mg A FD) : FnOk P w K mg base CX0 2 (A 25) (FD 25) ["_law_purse_here", "_law_many", "_law_way"] (sp_law_pairs K) := by
  refine T.d25.fn.ok sc_law_pairs (fun vs H Q E h => ?_) (fun cdv Ar outer s H vs Q E hr h => ?_)
  · obtain ⟨F, os, a__law_purse_here, vs__law_purse_here, x__law_purse_here, x__law_many, x__law_way, rfl, _⟩ := h
    rfl
  · obtain ⟨F0, os, a__law_purse_here, vs__law_purse_here, x__law_purse_here, x__law_many, x__law_way, rfl, w0, h__law_purse_here, hm⟩ := h
    have sF : Same F0 F0 := Same.refl _
    refine ⟨_, (pss_cons (ps_set (i := 3) sc_law_pairs.nd rfl (Or.inl rfl) (pe_lst pa_nil)) (pss_cons (ps_for PassesOwn.never rfl (pi_range2 (by rfl) T.n_range (pa_cons pe_int (pa_cons (pv 1) pa_nil))) (pg_name (i := 4) sc_law_pairs.nd rfl (Or.inr rfl)) (pss_cons (ps_set (i := 5) sc_law_pairs.nd rfl (Or.inl rfl) (pe_call (ok_law_take T) (hr.mono (by decide)) (by rfl) T.d23.mg T.d23.fn.kp T.d23.b .nil pass0 (pa_cons (pv 0) (pa_cons (pv 4) pa_nil)))) (pss_cons (ps_expr (pe_bm PySem.F.plainAttrs_list PySem.F.slot_list_append PySem.F.type_list_append mt_append (pv 3) (pa_cons (pe_tup (pa_cons (pe_ix (ix_listK (K := K) rfl) (pe_lst (pa_cons (pe_op op_sub (pv 4) pe_int) (pa_cons (pe_op op_sub (pv 4) pe_int) (pa_cons pe_int (pa_cons (pv 5) pa_nil))))) (pe_callB (call_min2 rfl) (by rfl) T.n_min (by decide +kernel) (pa_cons (pv 2) (pa_cons pe_int pa_nil))) (fun _ _ => rfl)) (pa_cons (pv 4) pa_nil))) pa_nil))) (pss_one (ps_if (pt_cmp (pc_eqI (pv 2) pe_int)) (pss_one (ps_expr (pe_bm PySem.F.plainAttrs_list PySem.F.slot_list_extend PySem.F.type_list_extend mt_extend (pv 3) (pa_cons (pe_lc (own := [("_law_one", 6)]) (g := gName 6) (by rfl) sc_law_pairs.nd (pi_range1 (by rfl) T.n_range (pa_cons (pv 4) pa_nil)) (blkOk_by (own := [("_law_one", 6)]) (N := ["_law_purse_here", "_law_many", "_law_way", "_law_found", "_law_k", "_law_near", "_law_one", "_law_other"]) (sc := defScope s_law_pairs) (by decide +kernel)) (fun _ _ _ _ _ => (pg_name (i := 6) sc_law_pairs.nd rfl (Or.inl rfl))) (fun _ _ _ _ _ => pts_nil) (fun _ _ _ _ _ => (pe_tup (pa_cons (pv 6) (pa_cons (pv 4) pa_nil))))) pa_nil)))) pss_nil))))) (pss_cons (ps_if (PW.pt (pw_and (pt_cmp (pc_eqI (pv 2) pe_int)) (pw_and1 (pt_cmp (pc_gt (pv 1) pe_int))))) (pss_one (ps_expr (pe_bm PySem.F.plainAttrs_list PySem.F.slot_list_append PySem.F.type_list_append mt_append (pv 3) (pa_cons (pe_tup (pa_cons pe_int (pa_cons (pe_op op_sub (pv 1) pe_int) pa_nil))) pa_nil)))) pss_nil) (pss_cons (ps_if (pt_cmp (pc_gt (pv 2) pe_int)) (pss_one (ps_for PassesOwn.never rfl (pi_range1 (by rfl) T.n_range (pa_cons (pe_call (ok_law_take T) (hr.mono (by decide)) (by rfl) T.d23.mg T.d23.fn.kp T.d23.b .nil pass0 (pa_cons (pv 0) (pa_cons pe_int pa_nil))) pa_nil)) (pg_name (i := 4) sc_law_pairs.nd rfl (Or.inr rfl)) (pss_cons (ps_set (i := 6) sc_law_pairs.nd rfl (Or.inl rfl) (pe_call (ok_law_take T) (hr.mono (by decide)) (by rfl) T.d23.mg T.d23.fn.kp T.d23.b .nil pass0 (pa_cons (pv 0) (pa_cons (pv 1) pa_nil)))) (pss_cons (ps_set (i := 7) sc_law_pairs.nd rfl (Or.inl rfl) (pe_call (ok_law_take T) (hr.mono (by decide)) (by rfl) T.d23.mg T.d23.fn.kp T.d23.b .nil pass0 (pa_cons (pv 0) (pa_cons (pv 1) pa_nil)))) (pss_one (ps_expr (pe_bm PySem.F.plainAttrs_list PySem.F.slot_list_extend PySem.F.type_list_extend mt_extend (pv 3) (pa_cons (pe_op op_rep (pe_lst (pa_cons (pe_tup (pa_cons (pv 6) (pa_cons (pv 7) pa_nil))) pa_nil)) (pe_callTy call_intB (by rfl) T.n_int (by decide +kernel) (pa_cons (pe_cmp (pc_neI (pv 6) (pv 7))) pa_nil))) pa_nil)))))))) pss_nil) (pss_one (ps_ret (pv 3))))))), ?_⟩
    have h2 : A2 (rep K F0) [] ([] : (List (Int × Int))) := .nil
    refine ⟨(by show 0 ≤ sizeLine; decide), fun p3 n3 => ?_⟩
    have w3 : W F0 _ ((p3, .lst []) :: (a__law_purse_here, .lst vs__law_purse_here) :: os) := w0.new n3
    obtain ⟨c5, hm⟩ := pb_rng hm
    refine ⟨_, rfl, _, _, rfl, c5, ?_⟩
    refine forS (tw_rng (i := (1 : Int)) (j := x__law_many)) hm (fun (g4 : (List (Int × Int)) × (List Int)) σ H' => ∃ (F' : Hp) (vs4_0 : List V) (vs4_1 : List V) (o4_5 : Option V) (o4_4 : Option V), σ = [some (.ref a__law_purse_here), some (.int x__law_many), some (.int x__law_way), some (.ref p3), o4_4, o4_5, none, none] ∧ Same F0 F' ∧ W F' H' ((p3, .lst vs4_0) :: (a__law_purse_here, .lst vs4_1) :: os) ∧ A2 (rep K F') vs4_0 g4.1 ∧ A2 (rep K F') vs4_1 g4.2) ⟨_, _, _, _, _, rfl, Same.refl _, w3, h2, h__law_purse_here⟩ (fun _ _ _ _ => trivial) ?_ ?_
    · -- a turn
      intro b4 g4 x4 σ4 H4 H4' N4 P4 hI hy hN4 hm
      obtain ⟨F4, vs4_0, vs4_1, o4_5, o4_4, rfl, s4, w4, h4_0, h4_1⟩ := hI
      replace sF := sF.trans s4
      obtain ⟨rfl, rfl⟩ := hy
      have w6 : W F4 _ ((a__law_purse_here, .lst vs4_1) :: (p3, .lst vs4_0) :: os) := w4.front (pre := [_])
      refine ⟨_, rfl, _, rfl, _, _, _, _, _, _, rfl, w6, h4_1, ?_⟩
      refine (post_bind hm).mono (fun y7 hm v7 vs7 F7 H7 w7 s7 r7 h7 => ?_) (fun _ z => z)
      replace h4_0 := A2.mono s7 h4_0
      replace sF := sF.trans s7
      obtain rfl : v7 = V.int y7.1 := r7
      have h8 : A2 (rep K F7) [(.int (b4 - (1 : Int))), (.int (b4 - (1 : Int))), (.int 0), (.int y7.1)] ([(b4 - (1 : Int)), (b4 - (1 : Int)), (0 : Int), y7.1] : (List Int)) := .cons rep_i (.cons rep_i (.cons rep_i (.cons rep_i (.nil))))
      refine ⟨_, rfl, .inl ⟨rfl, _, SqL.of (w7.get (pre := [_]))⟩, _, rfl, _, _, rfl, rfl, _, rfl, _, _, rfl, rfl, _, rfl, (by show 4 ≤ sizeLine; decide), fun p9 n9 => ?_⟩
      have w9 : W F7 _ ((p9, .lst [(.int (b4 - (1 : Int))), (.int (b4 - (1 : Int))), (.int 0), (.int y7.1)]) :: (a__law_purse_here, .lst vs7) :: (p3, .lst vs4_0) :: os) := w7.new n9
      obtain ⟨t10, e10, hm⟩ := pb_get hm
      obtain ⟨u10, f10, r10⟩ := A2.at h8 e10
      obtain rfl : u10 = V.int t10 := r10
      refine ⟨_, rfl, _, _, rfl, _, _, _, _, rfl, rfl, SqL.of (w9.get (pre := [])), f10, _, rfl, (by show 2 ≤ sizeLine; decide), fun p11 n11 => ?_⟩
      obtain ⟨F11, s11, w11, q11⟩ := w9.frzE (o := .tup [(.int t10), (.int b4)]) n11
      replace h7 := A2.mono s11 h7
      replace h4_0 := A2.mono s11 h4_0
      replace h8 := A2.mono s11 h8
      replace sF := sF.trans s11
      obtain ⟨l12, z12, e12, hm⟩ := pn_app hm
      refine ⟨_, _, _, rfl, rfl, (w11.get (pre := [_, _])), (A2.lt h4_0 z12), ?_⟩
      have h12 : A2 (rep K F11) (vs4_0 ++ [(V.ref p11)]) l12 := e12 ▸ A2.snoc h4_0 (rep_pair q11 rep_i rep_i)
      have w13 : W F11 _ ((p9, .lst [(.int (b4 - (1 : Int))), (.int (b4 - (1 : Int))), (.int 0), (.int y7.1)]) :: (a__law_purse_here, .lst vs7) :: (p3, .lst (vs4_0 ++ [(V.ref p11)])) :: os) := w11.set (pre := [_, _])
      have w14 : W F11 _ ((a__law_purse_here, .lst vs7) :: (p3, .lst (vs4_0 ++ [(V.ref p11)])) :: os) := w13.drop (pre := [])
      refine ⟨_, rfl, _, _, rfl, rfl, _, rfl, ?_⟩
      refine post_ite hm (fun k15 hm => ?_) (fun k15 hm => ?_)
      · skip
        obtain ⟨c16, hm⟩ := pb_rng hm
        refine ⟨_, rfl, .inl ⟨rfl, _, SqL.of (w14.get (pre := [_]))⟩, _, rfl, _, rfl, c16.2.2.1, c16.2.2.2, fun D17 nD17 => ?_⟩
        refine lcM (K := K) (tw_rng0 (j := b4)) hm w14 nD17 (fun F' H' acc s w => trivial) ?_ ?_
        · -- one turn
          intro b17 x17 F17 H17 H17' acc17 N17 P17 s17 w17 y17 hN17 hm
          replace h7 := A2.mono s17 h7
          replace h12 := A2.mono s17 h12
          replace sF := sF.trans s17
          obtain ⟨rfl, rfl⟩ := y17
          refine ⟨rfl, _, rfl, _, rfl, (by show 2 ≤ sizeLine; decide), fun p19 n19 => ?_⟩
          obtain ⟨F19, s19, w19, q19⟩ := w17.frzE (o := .tup [(.int b17), (.int b4)]) n19
          replace h7 := A2.mono s19 h7
          replace h12 := A2.mono s19 h12
          replace sF := sF.trans s19
          exact hN17 _ (post_ok hm) _ _ _ w19 s19 (rep_pair q19 rep_i rep_i)
        intro us17 F17 H17 ys17 s17 w17 gg17 hm
        replace h7 := A2.mono s17 h7
        replace h12 := A2.mono s17 h12
        replace sF := sF.trans s17
        obtain ⟨l21, z21, e21, hm⟩ := pn_extend hm
        refine ⟨_, _, _, _, rfl, rfl, (w17.get (pre := [_, _])), (w17.get (pre := [])), (A2.le2 h12 gg17 z21), ?_⟩
        have h21 : A2 (rep K F17) ((vs4_0 ++ [(V.ref p11)]) ++ us17) l21 := e21 ▸ A2.append h12 gg17
        have w22 : W F17 _ ((D17, .lst us17) :: (a__law_purse_here, .lst vs7) :: (p3, .lst ((vs4_0 ++ [(V.ref p11)]) ++ us17)) :: os) := w17.set (pre := [_, _])
        have w23 : W F17 _ ((a__law_purse_here, .lst vs7) :: (p3, .lst ((vs4_0 ++ [(V.ref p11)]) ++ us17)) :: os) := w22.drop (pre := [])
        have w24 : W F17 _ ((p3, .lst ((vs4_0 ++ [(V.ref p11)]) ++ us17)) :: (a__law_purse_here, .lst vs7) :: os) := w23.front (pre := [_])
        exact hN4 _ (post_ok hm) _ _ ⟨_, _, _, _, _, rfl, (s4.trans (s7.trans (s11.trans s17))), w24, h21, h7⟩
      · skip
        have w25 : W F11 _ ((p3, .lst (vs4_0 ++ [(V.ref p11)])) :: (a__law_purse_here, .lst vs7) :: os) := w14.front (pre := [_])
        exact hN4 _ (post_ok hm) _ _ ⟨_, _, _, _, _, rfl, (s4.trans (s7.trans s11)), w25, h12, h7⟩
    intro g4 σ4 H4 hI hm
    obtain ⟨F4, vs4_0, vs4_1, o4_5, o4_4, rfl, s4, w4, h4_0, h4_1⟩ := hI
    replace sF := sF.trans s4
    try dsimp only
    refine joinS hm (fun (g26 : (List (Int × Int))) σ H' => ∃ (F' : Hp) (vs26_0 : List V), σ = [some (.ref a__law_purse_here), some (.int x__law_many), some (.int x__law_way), some (.ref p3), o4_4, o4_5, none, none] ∧ Same F4 F' ∧ W F' H' ((p3, .lst vs26_0) :: (a__law_purse_here, .lst vs4_1) :: os) ∧ A2 (rep K F') vs26_0 g26) ?_ ?_
    · intro N26 P26 hN26 hm
      refine stepIf ?_
      refine cutT (fun c H' => c = (((decide (x__law_way = (1 : Int))) && (decide ((2 : Int) < x__law_many)))) ∧ ∃ F', Same F4 F' ∧ W F' H' ((p3, .lst vs4_0) :: (a__law_purse_here, .lst vs4_1) :: os)) (fun Q27 q27 => ?_) (fun c27 H27 hc27 => ?_)
      · -- the ways
        refine ⟨_, rfl, _, _, rfl, rfl, _, rfl, ?_⟩
        refine ifB (fun k28 => ?_) (fun k28 => ?_)
        · skip
          exact ⟨_, rfl, _, _, rfl, rfl, _, rfl, q27 _ _ ⟨(by first | rfl | exact absurd k28 (by decide) | (simp [k28]; done) | ((try simp only [Bool.not_eq_true] at k28); simp only [k28, Bool.true_or, Bool.false_or, Bool.or_false, Bool.or_true, Bool.true_and, Bool.false_and, Bool.and_true, Bool.and_false])), _, Same.refl _, w4⟩⟩
        · skip
          exact q27 _ _ ⟨(by first | rfl | exact absurd k28 (by decide) | (simp [k28]; done) | ((try simp only [Bool.not_eq_true] at k28); simp only [k28, Bool.true_or, Bool.false_or, Bool.or_false, Bool.or_true, Bool.true_and, Bool.false_and, Bool.and_true, Bool.and_false])), _, Same.refl _, w4⟩
      obtain ⟨rfl, F27, s27, w27⟩ := hc27
      replace h4_0 := A2.mono s27 h4_0
      replace h4_1 := A2.mono s27 h4_1
      replace sF := sF.trans s27
      refine post_ite hm (fun k31 hm => ?_) (fun k31 hm => ?_)
      · skip
        refine ⟨_, rfl, .inl ⟨rfl, _, SqL.of (w27.get (pre := []))⟩, _, rfl, _, _, rfl, rfl, (by show 2 ≤ sizeLine; decide), fun p32 n32 => ?_⟩
        obtain ⟨F32, s32, w32, q32⟩ := w27.frzE (o := .tup [(.int 0), (.int (x__law_many - (1 : Int)))]) n32
        replace h4_0 := A2.mono s32 h4_0
        replace h4_1 := A2.mono s32 h4_1
        replace sF := sF.trans s32
        obtain ⟨l33, z33, e33, hm⟩ := pn_app hm
        refine ⟨_, _, _, rfl, rfl, (w32.get (pre := [])), (A2.lt h4_0 z33), ?_⟩
        have h33 : A2 (rep K F32) (vs4_0 ++ [(V.ref p32)]) l33 := e33 ▸ A2.snoc h4_0 (rep_pair q32 rep_i rep_i)
        have w34 : W F32 _ ((p3, .lst (vs4_0 ++ [(V.ref p32)])) :: (a__law_purse_here, .lst vs4_1) :: os) := w32.set (pre := [])
        exact hN26 _ (post_ok hm) _ _ ⟨_, _, rfl, (s27.trans s32), w34, h33⟩
      · skip
        exact hN26 _ (post_ok hm) _ _ ⟨_, _, rfl, s27, w27, h4_0⟩
    intro g26 σ26 H26 hI hm
    obtain ⟨F26, vs26_0, rfl, s26, w26, h26_0⟩ := hI
    replace h4_1 := A2.mono s26 h4_1
    replace sF := sF.trans s26
    try dsimp only
    refine joinS hm (fun (g35 : (List (Int × Int)) × (List Int)) σ H' => ∃ (F' : Hp) (vs35_0 : List V) (vs35_1 : List V) (o35_4 : Option V) (o35_6 : Option V) (o35_7 : Option V), σ = [some (.ref a__law_purse_here), some (.int x__law_many), some (.int x__law_way), some (.ref p3), o35_4, o4_5, o35_6, o35_7] ∧ Same F26 F' ∧ W F' H' ((p3, .lst vs35_0) :: (a__law_purse_here, .lst vs35_1) :: os) ∧ A2 (rep K F') vs35_0 g35.1 ∧ A2 (rep K F') vs35_1 g35.2) ?_ ?_
    · intro N35 P35 hN35 hm
      refine ⟨_, rfl, _, _, rfl, rfl, _, rfl, ?_⟩
      refine post_ite hm (fun k36 hm => ?_) (fun k36 hm => ?_)
      · skip
        have w38 : W F26 _ ((a__law_purse_here, .lst vs4_1) :: (p3, .lst vs26_0) :: os) := w26.front (pre := [_])
        refine ⟨_, rfl, _, _, _, _, _, _, rfl, w38, h4_1, ?_⟩
        refine (post_bind hm).mono (fun y39 hm v39 vs39 F39 H39 w39 s39 r39 h39 => ?_) (fun _ z => z)
        replace h26_0 := A2.mono s39 h26_0
        replace sF := sF.trans s39
        obtain rfl : v39 = V.int y39.1 := r39
        obtain ⟨c40, hm⟩ := pb_rng hm
        refine ⟨_, rfl, c40.2.2.1, c40.2.2.2, ?_⟩
        refine forS (tw_rng0 (j := y39.1)) hm (fun (g37 : (List Int) × (List (Int × Int))) σ H' => ∃ (F' : Hp) (vs37_0 : List V) (vs37_1 : List V) (o37_6 : Option V) (o37_7 : Option V) (o37_4 : Option V), σ = [some (.ref a__law_purse_here), some (.int x__law_many), some (.int x__law_way), some (.ref p3), o37_4, o4_5, o37_6, o37_7] ∧ Same F39 F' ∧ W F' H' ((a__law_purse_here, .lst vs37_0) :: (p3, .lst vs37_1) :: os) ∧ A2 (rep K F') vs37_0 g37.1 ∧ A2 (rep K F') vs37_1 g37.2) ⟨_, _, _, _, _, _, rfl, Same.refl _, w39, h39, h26_0⟩ (fun _ _ _ _ => trivial) ?_ ?_
        · -- a turn
          intro b37 g37 x37 σ37 H37 H37' N37 P37 hI hy hN37 hm
          obtain ⟨F37, vs37_0, vs37_1, o37_6, o37_7, o37_4, rfl, s37, w37, h37_0, h37_1⟩ := hI
          replace sF := sF.trans s37
          obtain ⟨rfl, rfl⟩ := hy
          refine ⟨_, rfl, _, rfl, _, _, _, _, _, _, rfl, w37, h37_0, ?_⟩
          refine (post_bind hm).mono (fun y41 hm v41 vs41 F41 H41 w41 s41 r41 h41 => ?_) (fun _ z => z)
          replace h37_1 := A2.mono s41 h37_1
          replace sF := sF.trans s41
          obtain rfl : v41 = V.int y41.1 := r41
          refine ⟨_, rfl, _, rfl, _, _, _, _, _, _, rfl, w41, h41, ?_⟩
          refine (post_bind hm).mono (fun y42 hm v42 vs42 F42 H42 w42 s42 r42 h42 => ?_) (fun _ z => z)
          replace h37_1 := A2.mono s42 h37_1
          replace sF := sF.trans s42
          obtain rfl : v42 = V.int y42.1 := r42
          refine ⟨_, rfl, .inl ⟨rfl, _, SqL.of (w42.get (pre := [_]))⟩, _, rfl, _, rfl, (by show 2 ≤ sizeLine; decide), fun p43 n43 => ?_⟩
          obtain ⟨F43, s43, w43, q43⟩ := w42.frzE (o := .tup [(.int y41.1), (.int y42.1)]) n43
          replace h42 := A2.mono s43 h42
          replace h37_1 := A2.mono s43 h37_1
          replace sF := sF.trans s43
          have h44 : A2 (rep K F43) [(.ref p43)] ([(y41.1, y42.1)] : (List (Int × Int))) := .cons (rep_pair q43 rep_i rep_i) (.nil)
          refine ⟨(by show 1 ≤ sizeLine; decide), fun p45 n45 => ?_⟩
          have w45 : W F43 _ ((p45, .lst [(.ref p43)]) :: (a__law_purse_here, .lst vs42) :: (p3, .lst vs37_1) :: os) := w43.new n45
          obtain ⟨l46, z46, e46, hm⟩ := pb_rep hm
          have h46 : A2 (rep K F43) (List.replicate (b2i (!decide (y41.1 = y42.1))).toNat [(.ref p43)]).flatten l46 := e46 ▸ A2.flat h44 _
          refine ⟨_, rfl, _, rfl, _, _, rfl, rfl, _, rfl, _, _, _, rfl, rfl, (w45.get (pre := [])), z46.1, z46.2.1, (by rw [h44.length]; exact z46.2.2), fun p47 n47 => ?_⟩
          have w47 : W F43 _ ((p47, .lst (List.replicate (b2i (!decide (y41.1 = y42.1))).toNat [(.ref p43)]).flatten) :: (p45, .lst [(.ref p43)]) :: (a__law_purse_here, .lst vs42) :: (p3, .lst vs37_1) :: os) := w45.new n47
          obtain ⟨l48, z48, e48, hm⟩ := pn_extend hm
          refine ⟨_, _, _, _, rfl, rfl, (w47.get (pre := [_, _, _])), (w47.get (pre := [])), (A2.le2 h37_1 h46 z48), ?_⟩
          have h48 : A2 (rep K F43) (vs37_1 ++ (List.replicate (b2i (!decide (y41.1 = y42.1))).toNat [(.ref p43)]).flatten) l48 := e48 ▸ A2.append h37_1 h46
          have w49 : W F43 _ ((p47, .lst (List.replicate (b2i (!decide (y41.1 = y42.1))).toNat [(.ref p43)]).flatten) :: (p45, .lst [(.ref p43)]) :: (a__law_purse_here, .lst vs42) :: (p3, .lst (vs37_1 ++ (List.replicate (b2i (!decide (y41.1 = y42.1))).toNat [(.ref p43)]).flatten)) :: os) := w47.set (pre := [_, _, _])
          have w50 : W F43 _ ((p45, .lst [(.ref p43)]) :: (a__law_purse_here, .lst vs42) :: (p3, .lst (vs37_1 ++ (List.replicate (b2i (!decide (y41.1 = y42.1))).toNat [(.ref p43)]).flatten)) :: os) := w49.drop (pre := [])
          have w51 : W F43 _ ((a__law_purse_here, .lst vs42) :: (p3, .lst (vs37_1 ++ (List.replicate (b2i (!decide (y41.1 = y42.1))).toNat [(.ref p43)]).flatten)) :: os) := w50.drop (pre := [])
          exact hN37 _ (post_ok hm) _ _ ⟨_, _, _, _, _, _, rfl, (s37.trans (s41.trans (s42.trans s43))), w51, h42, h48⟩
        intro g37 σ37 H37 hI hm
        obtain ⟨F37, vs37_0, vs37_1, o37_6, o37_7, o37_4, rfl, s37, w37, h37_0, h37_1⟩ := hI
        replace sF := sF.trans s37
        have w52 : W F37 _ ((p3, .lst vs37_1) :: (a__law_purse_here, .lst vs37_0) :: os) := w37.front (pre := [_])
        exact hN35 _ (post_ok hm) _ _ ⟨_, _, _, _, _, _, rfl, (s39.trans s37), w52, h37_1, h37_0⟩
      · skip
        exact hN35 _ (post_ok hm) _ _ ⟨_, _, _, _, _, _, rfl, Same.refl _, w26, h26_0, h4_1⟩
    intro g35 σ35 H35 hI hm
    obtain ⟨F35, vs35_0, vs35_1, o35_4, o35_6, o35_7, rfl, s35, w35, h35_0, h35_1⟩ := hI
    replace sF := sF.trans s35
    exact ⟨_, rfl, (post_ok hm) _ _ _ _ _ w35 sF h35_0 h35_1⟩
def sp_law_web (K : Fg) : Sp := fun vs H Q E => ∃ (F : Hp) (os : List (Addr × HO)) (a__law_purse_here : Addr) (vs__law_purse_here : List V) (x__law_purse_here : (List Int)) (x__law_least : Int) (x__law_most : Int), vs = [.ref a__law_purse_here, .int x__law_least, .int x__law_most] ∧ W F H ((a__law_purse_here, .lst vs__law_purse_here) :: os) ∧ A2 (rep K F) vs__law_purse_here x__law_purse_here ∧ Post (law_web x__law_purse_here x__law_least x__law_most) (RetM K F a__law_purse_here os Q) noX
theorem sc_law_web : FnScope ["_law_purse_here", "_law_least", "_law_most", "_law_many", "_law_found", "_law_some", "_law_places", "_law_one", "_law_other", "_law_ends", "_law_tie"] ["_law_purse_here", "_law_least", "_law_most"] (defScope s_law_web) := ⟨rfl, rfl, rfl, by decide +kernel, rfl, by decide +kernel, by decide +kernel⟩
theorem ok_law_web (T : Tx K mg A FD) : FnOk P w K mg base CX0 3 (A 26) (FD 26) ["_law_purse_here", "_law_least", "_law_most"] (sp_law_web K) := by
  refine T.d26.fn.ok sc_law_web (fun vs H Q E h => ?_) (fun cdv Ar outer s H vs Q E hr h => ?_)
  · obtain ⟨F, os, a__law_purse_here, vs__law_purse_here, x__law_purse_here, x__law_least, x__law_most, rfl, _⟩ := h
    rfl
  · obtain ⟨F0, os, a__law_purse_here, vs__law_purse_here, x__law_purse_here, x__law_least, x__law_most, rfl, w0, h__law_purse_here, hm⟩ := h
    have sF : Same F0 F0 := Same.refl _
    refine ⟨_, (pss_cons (ps_set (i := 3) sc_law_web.nd rfl (Or.inl rfl) (pe_op op_add (pv 1) (pe_call (ok_law_take T) (hr.mono (by decide)) (by rfl) T.d23.mg T.d23.fn.kp T.d23.b .nil pass0 (pa_cons (pv 0) (pa_cons (pe_op op_sub (pe_op op_add (pv 2) pe_int) (pv 1)) pa_nil))))) (pss_cons (ps_set (i := 4) sc_law_web.nd rfl (Or.inl rfl) (pe_lst pa_nil)) (pss_cons (ps_set (i := 5) sc_law_web.nd rfl (Or.inl rfl) (pe_call (ok_law_pairs T) (hr.mono (by decide)) (by rfl) T.d25.mg T.d25.fn.kp T.d25.b .nil pass0 (pa_cons (pv 0) (pa_cons (pv 3) (pa_cons (pe_call (ok_law_take T) (hr.mono (by decide)) (by rfl) T.d23.mg T.d23.fn.kp T.d23.b .nil pass0 (pa_cons (pv 0) (pa_cons pe_int pa_nil))) pa_nil))))) (pss_cons (ps_set (i := 6) sc_law_web.nd rfl (Or.inl rfl) (pe_call (ok_law_order T) (hr.mono (by decide)) (by rfl) T.d24.mg T.d24.fn.kp T.d24.b .nil pass0 (pa_cons (pv 0) (pa_cons (pv 3) pa_nil)))) (pss_cons (ps_for PassesOwn.never rfl (pi_listK (K := K) rfl (pv 5)) (pg_k (K := K) (t := fun K => gTup K 2 _) rfl (pg_tup (n := 2) rfl (pgs_cons (pg_name (i := 7) sc_law_web.nd rfl (Or.inl rfl)) (pgs_cons (pg_name (i := 8) sc_law_web.nd rfl (Or.inl rfl)) pgs_nil)))) (pss_cons (ps_set (i := 9) sc_law_web.nd rfl (Or.inl rfl) (pe_tup (pa_cons (pe_ix (ix_listK (K := K) rfl) (pv 6) (pv 7) (fun _ _ => rfl)) (pa_cons (pe_ix (ix_listK (K := K) rfl) (pv 6) (pv 8) (fun _ _ => rfl)) pa_nil)))) (pss_cons (ps_set (i := 10) sc_law_web.nd rfl (Or.inl rfl) (pe_tup (pa_cons (pe_callB (cr_minT2 (K := K) rfl rfl) (by rfl) T.n_min (by decide +kernel) (pa_cons (pv 9) pa_nil)) (pa_cons (pe_callB (cr_maxT2 (K := K) rfl rfl) (by rfl) T.n_max (by decide +kernel) (pa_cons (pv 9) pa_nil)) pa_nil)))) (pss_one (ps_if (pt_cmpR (op_notInL (K := K) rfl (Int × Int) (by decide) (Room.units65 hr)) (pv 10) (pv 4) (by rfl)) (pss_one (ps_expr (pe_bm PySem.F.plainAttrs_list PySem.F.slot_list_append PySem.F.type_list_append mt_append (pv 4) (pa_cons (pv 10) pa_nil)))) pss_nil))))) (pss_one (ps_ret (pe_tup (pa_cons (pv 3) (pa_cons (pe_callTy (call_tuple_ofK (K := K) rfl) (by rfl) T.n_tuple (by decide +kernel) (pa_cons (pe_callB (cr_sortP (K := K) rfl) (by rfl) T.n_sorted (by decide +kernel) (pa_cons (pv 4) pa_nil)) pa_nil)) pa_nil)))))))))), ?_⟩
    refine ⟨_, rfl, _, rfl, _, rfl, _, _, rfl, rfl, _, rfl, _, _, rfl, rfl, _, _, _, _, _, _, rfl, w0, h__law_purse_here, ?_⟩
    refine (post_bind hm).mono (fun y2 hm v2 vs2 F2 H2 w2 s2 r2 h2 => ?_) (fun _ z => z)
    replace sF := sF.trans s2
    obtain rfl : v2 = V.int y2.1 := r2
    have h3 : A2 (rep K F2) [] ([] : (List (Int × Int))) := .nil
    refine ⟨_, _, rfl, rfl, (by show 0 ≤ sizeLine; decide), fun p4 n4 => ?_⟩
    have w4 : W F2 _ ((p4, .lst []) :: (a__law_purse_here, .lst vs2) :: os) := w2.new n4
    have w5 : W F2 _ ((a__law_purse_here, .lst vs2) :: (p4, .lst []) :: os) := w4.front (pre := [_])
    refine ⟨_, rfl, _, rfl, _, rfl, _, _, _, _, _, _, rfl, w5, h2, ?_⟩
    refine (post_bind hm).mono (fun y6 hm v6 vs6 F6 H6 w6 s6 r6 h6 => ?_) (fun _ z => z)
    replace h3 := A2.mono s6 h3
    replace sF := sF.trans s6
    obtain rfl : v6 = V.int y6.1 := r6
    refine ⟨_, _, _, _, _, _, _, rfl, w6, h6, ?_⟩
    refine (post_bind hm).mono (fun y7 hm p7 us7 vs7 F7 H7 w7 s7 g7 h7 => ?_) (fun _ z => z)
    replace h3 := A2.mono s7 h3
    replace sF := sF.trans s7
    obtain ⟨F9, s9, w9, q9⟩ : ∃ F', Same F7 F' ∧ W F' _ ((a__law_purse_here, .lst vs7) :: (p4, .lst []) :: os) ∧ F' p7 = some (.lst us7) := w7.freezeE (pre := [])
    replace h3 := A2.mono s9 h3
    replace h7 := A2.mono s9 h7
    replace g7 := A2.mono s9 g7
    replace sF := sF.trans s9
    refine ⟨_, rfl, _, rfl, _, _, _, _, _, _, rfl, w9, h7, ?_⟩
    refine (post_bind hm).mono (fun y10 hm p10 us10 vs10 F10 H10 w10 s10 g10 h10 => ?_) (fun _ z => z)
    replace g7 := A2.mono s10 g7
    replace q9 := s10 _ _ q9
    replace h3 := A2.mono s10 h3
    replace sF := sF.trans s10
    obtain ⟨F12, s12, w12, q12⟩ : ∃ F', Same F10 F' ∧ W F' _ ((a__law_purse_here, .lst vs10) :: (p4, .lst []) :: os) ∧ F' p10 = some (.lst us10) := w10.freezeE (pre := [])
    replace g7 := A2.mono s12 g7
    replace q9 := s12 _ _ q9
    replace h3 := A2.mono s12 h3
    replace h10 := A2.mono s12 h10
    replace g10 := A2.mono s12 g10
    replace sF := sF.trans s12
    refine ⟨_, rfl, _, rfl, ⟨_, SqL.of (w12.same _ _ q9)⟩, ?_⟩
    refine forS (tw_list (a := p7) g7) hm (fun (g13 : (List (Int × Int))) σ H' => ∃ (F' : Hp) (vs13_0 : List V) (o13_9 : Option V) (o13_10 : Option V) (o13_7 : Option V) (o13_8 : Option V), σ = [some (.ref a__law_purse_here), some (.int x__law_least), some (.int x__law_most), some (.int (x__law_least + y2.1)), some (.ref p4), some (.ref p7), some (.ref p10), o13_7, o13_8, o13_9, o13_10] ∧ Same F12 F' ∧ W F' H' ((a__law_purse_here, .lst vs10) :: (p4, .lst vs13_0) :: os) ∧ A2 (rep K F') vs13_0 g13) ⟨_, _, _, _, _, _, rfl, Same.refl _, w12, h3⟩ (fun g σ H' hI => by obtain ⟨F', _, _, _, _, _, _, s, w, _⟩ := hI; exact SqL.of (w.same _ _ (s _ _ q9))) ?_ ?_
    · -- a turn
      intro b13 g13 x13 σ13 H13 H13' N13 P13 hI hy hN13 hm
      obtain ⟨F13, vs13_0, o13_9, o13_10, o13_7, o13_8, rfl, s13, w13, h13_0⟩ := hI
      replace g7 := A2.mono s13 g7
      replace q9 := s13 _ _ q9
      replace g10 := A2.mono s13 g10
      replace q12 := s13 _ _ q12
      replace h10 := A2.mono s13 h10
      replace sF := sF.trans s13
      obtain ⟨rfl, r14⟩ := hy
      replace r14 := Rep.mono s13 r14
      obtain ⟨a15, u15, z15, rfl, q15, r15a, r15b⟩ := r14
      obtain rfl : u15 = V.int b13.1 := r15a
      obtain rfl : z15 = V.int b13.2 := r15b
      obtain ⟨t16, e16, hm⟩ := pb_get hm
      obtain ⟨u16, f16, r16⟩ := A2.at g10 e16
      obtain rfl : u16 = V.int t16 := r16
      obtain ⟨t17, e17, hm⟩ := pb_get hm
      obtain ⟨u17, f17, r17⟩ := A2.at g10 e17
      obtain rfl : u17 = V.int t17 := r17
      refine ⟨_, _, rfl, SqT.of (w13.same _ _ q15), rfl, _, _, rfl, _, _, rfl, rfl, _, rfl, _, rfl, _, _, _, _, rfl, rfl, SqL.of (w13.same _ _ q12), f16, _, rfl, _, rfl, _, _, _, _, rfl, rfl, SqL.of (w13.same _ _ q12), f17, (by show 2 ≤ sizeLine; decide), fun p18 n18 => ?_⟩
      obtain ⟨F18, s18, w18, q18⟩ := w13.frzE (o := .tup [(.int t16), (.int t17)]) n18
      replace g7 := A2.mono s18 g7
      replace q9 := s18 _ _ q9
      replace g10 := A2.mono s18 g10
      replace q12 := s18 _ _ q12
      replace h10 := A2.mono s18 h10
      replace h13_0 := A2.mono s18 h13_0
      replace sF := sF.trans s18
      refine ⟨_, rfl, _, _, _, rfl, SqT.of (w18.same _ _ q18), _, rfl, _, rfl, _, _, _, rfl, SqT.of (w18.same _ _ q18), _, rfl, (by show 2 ≤ sizeLine; decide), fun p19 n19 => ?_⟩
      obtain ⟨F19, s19, w19, q19⟩ := w18.frzE (o := .tup [(.int (min2 t16 t17)), (.int (max2 t16 t17))]) n19
      replace g7 := A2.mono s19 g7
      replace q9 := s19 _ _ q9
      replace g10 := A2.mono s19 g10
      replace q12 := s19 _ _ q12
      replace q18 := s19 _ _ q18
      replace h10 := A2.mono s19 h10
      replace h13_0 := A2.mono s19 h13_0
      replace sF := sF.trans s19
      refine ⟨_, rfl, _, rfl, (((min2 t16 t17), (max2 t16 t17)) : (Int × Int)), _, (Rep.mono w19.same (rep_pair q19 rep_i rep_i)), (rep_own (pre := [_]) w19 h13_0), _, rfl, ?_⟩
      refine post_ite hm (fun k20 hm => ?_) (fun k20 hm => ?_)
      · skip
        obtain ⟨l21, z21, e21, hm⟩ := pn_app hm
        refine ⟨_, rfl, .inl ⟨rfl, _, SqL.of (w19.get (pre := [_]))⟩, _, rfl, _, _, _, rfl, rfl, (w19.get (pre := [_])), (A2.lt h13_0 z21), ?_⟩
        have h21 : A2 (rep K F19) (vs13_0 ++ [(V.ref p19)]) l21 := e21 ▸ A2.snoc h13_0 (rep_pair q19 rep_i rep_i)
        have w22 : W F19 _ ((a__law_purse_here, .lst vs10) :: (p4, .lst (vs13_0 ++ [(V.ref p19)])) :: os) := w19.set (pre := [_])
        exact hN13 _ (post_ok hm) _ _ ⟨_, _, _, _, _, _, rfl, (s13.trans (s18.trans s19)), w22, h21⟩
      · skip
        exact hN13 _ (post_ok hm) _ _ ⟨_, _, _, _, _, _, rfl, (s13.trans (s18.trans s19)), w19, h13_0⟩
    intro g13 σ13 H13 hI hm
    obtain ⟨F13, vs13_0, o13_9, o13_10, o13_7, o13_8, rfl, s13, w13, h13_0⟩ := hI
    replace g7 := A2.mono s13 g7
    replace q9 := s13 _ _ q9
    replace g10 := A2.mono s13 g10
    replace q12 := s13 _ _ q12
    replace h10 := A2.mono s13 h10
    replace sF := sF.trans s13
    refine ⟨_, rfl, _, rfl, _, _, F13, g13, rfl, SqL.of (w13.get (pre := [_])), w13.same, h13_0, fun p23 us23 n23 h23 => ?_⟩
    have w23 : W F13 _ ((p23, .lst us23) :: (a__law_purse_here, .lst vs10) :: (p4, .lst vs13_0) :: os) := w13.new n23
    have h25 : A2 (rep K F13) us23 (sortP g13) := h23
    refine ⟨_, _, rfl, .inl ⟨SqL.of (w23.get (pre := [])), fun p26 n26 => ?_⟩⟩
    obtain ⟨F26, s26, w26, q26⟩ := w23.frzE (o := .tup us23) n26
    replace g7 := A2.mono s26 g7
    replace q9 := s26 _ _ q9
    replace g10 := A2.mono s26 g10
    replace q12 := s26 _ _ q12
    replace h10 := A2.mono s26 h10
    replace h13_0 := A2.mono s26 h13_0
    replace h23 := A2.mono s26 h23
    replace h25 := A2.mono s26 h25
    replace sF := sF.trans s26
    refine ⟨(by show 2 ≤ sizeLine; decide), fun p27 n27 => ?_⟩
    obtain ⟨F27, s27, w27, q27⟩ := w26.frzE (o := .tup [(.int (x__law_least + y2.1)), (.ref p26)]) n27
    replace g7 := A2.mono s27 g7
    replace q9 := s27 _ _ q9
    replace g10 := A2.mono s27 g10
    replace q12 := s27 _ _ q12
    replace h10 := A2.mono s27 h10
    replace h13_0 := A2.mono s27 h13_0
    replace h23 := A2.mono s27 h23
    replace h25 := A2.mono s27 h25
    replace q26 := s27 _ _ q26
    replace sF := sF.trans s27
    have w28 : W F27 _ ((a__law_purse_here, .lst vs10) :: (p4, .lst vs13_0) :: os) := w27.drop (pre := [])
    have w29 : W F27 _ ((a__law_purse_here, .lst vs10) :: os) := w28.drop (pre := [_])
    exact (post_ok hm) _ _ _ _ w29 sF (rep_pair q27 rep_i (rep_tup q26 h25)) h10
def sp_law_text (K : Fg) : Sp := fun vs H Q E => ∃ (F : Hp) (os : List (Addr × HO)) (v__law_web_here : V) (x__law_web_here : (Int × (Tup (Int × Int)))), vs = [v__law_web_here] ∧ W F H (os) ∧ rep K F v__law_web_here x__law_web_here ∧ Post (law_text x__law_web_here) (Ret K F os Q) noX
theorem sc_law_text : FnScope ["_law_web_here", "_law_rows", "_law_one", "_law_other"] ["_law_web_here"] (defScope s_law_text) := ⟨rfl, rfl, rfl, by decide +kernel, rfl, by decide +kernel, by decide +kernel⟩
theorem ok_law_text (T : Tx K mg A FD) : FnOk P w K mg base CX0 1 (A 32) (FD 32) ["_law_web_here"] (sp_law_text K) := by
  refine T.d32.fn.ok sc_law_text (fun vs H Q E h => ?_) (fun cdv Ar outer s H vs Q E hr h => ?_)
  · obtain ⟨F, os, v__law_web_here, x__law_web_here, rfl, _⟩ := h
    rfl
  · obtain ⟨F0, os, v__law_web_here, x__law_web_here, rfl, w0, r__law_web_here, hm⟩ := h
    have sF : Same F0 F0 := Same.refl _
    obtain ⟨a1, u1, z1, rfl, q1, r1a, r1b⟩ := r__law_web_here
    obtain rfl : u1 = V.int x__law_web_here.1 := r1a
    obtain ⟨a2, vs2, rfl, q2, h2⟩ := r1b
    refine ⟨_, (pss_cons (ps_set (i := 1) sc_law_text.nd rfl (Or.inl rfl) (pe_lst (pa_cons (pe_op op_add_str pe_str (pe_callTy call_str_int (by rfl) T.n_str (by decide +kernel) (pa_cons (pe_ix (ix_tupK (K := K) rfl) (pv 0) pe_int (fun _ _ => rfl)) pa_nil))) pa_nil))) (pss_cons (ps_for PassesOwn.never rfl (pi_tupK (K := K) rfl (pe_ix (ix_tupK (K := K) rfl) (pv 0) pe_int (fun _ _ => rfl))) (pg_k (K := K) (t := fun K => gTup K 2 _) rfl (pg_tup (n := 2) rfl (pgs_cons (pg_name (i := 2) sc_law_text.nd rfl (Or.inl rfl)) (pgs_cons (pg_name (i := 3) sc_law_text.nd rfl (Or.inl rfl)) pgs_nil)))) (pss_one (ps_expr (pe_bm PySem.F.plainAttrs_list PySem.F.slot_list_append PySem.F.type_list_append mt_append (pv 1) (pa_cons (pe_op op_add_str (pe_op op_add_str (pe_op op_add_str pe_str (pe_callTy call_str_int (by rfl) T.n_str (by decide +kernel) (pa_cons (pv 2) pa_nil))) pe_str) (pe_callTy call_str_int (by rfl) T.n_str (by decide +kernel) (pa_cons (pv 3) pa_nil))) pa_nil))))) (pss_one (ps_ret (pe_bm PySem.F.plainAttrs_str PySem.F.slot_str_join PySem.F.type_str_join (mt_joinK (K := K) rfl) pe_str (pa_cons (pv 1) pa_nil)))))), ?_⟩
    obtain ⟨c3, hm⟩ := pb_txNum hm
    obtain ⟨c4, hm⟩ := pb_txAdd hm
    have h5 : A2 (rep K F0) [(.str (("places " : Str) ++ (Str.ofString (toString x__law_web_here.1))))] ([(("places " : Str) ++ (Str.ofString (toString x__law_web_here.1)))] : (List Str)) := .cons rep_s (.nil)
    refine ⟨_, rfl, _, _, _, _, rfl, rfl, SqT.of (w0.same _ _ q1), rfl, _, rfl, c3, _, _, rfl, rfl, c4, (by show 1 ≤ sizeLine; decide), fun p6 n6 => ?_⟩
    have w6 : W F0 _ ((p6, .lst [(.str (("places " : Str) ++ (Str.ofString (toString x__law_web_here.1))))]) :: os) := w0.new n6
    refine ⟨_, rfl, _, _, _, _, rfl, rfl, SqT.of (w6.same _ _ q1), rfl, _, rfl, ⟨_, SqT.of (w6.same _ _ q2)⟩, ?_⟩
    refine forS (tw_tup (a := a2) h2) hm (fun (g7 : (List Str)) σ H' => ∃ (F' : Hp) (vs7_0 : List V) (o7_2 : Option V) (o7_3 : Option V), σ = [some (.ref a1), some (.ref p6), o7_2, o7_3] ∧ Same F0 F' ∧ W F' H' ((p6, .lst vs7_0) :: os) ∧ A2 (rep K F') vs7_0 g7) ⟨_, _, _, _, rfl, Same.refl _, w6, h5⟩ (fun g σ H' hI => by obtain ⟨F', _, _, _, _, s, w, _⟩ := hI; exact SqT.of (w.same _ _ (s _ _ q2))) ?_ ?_
    · -- a turn
      intro b7 g7 x7 σ7 H7 H7' N7 P7 hI hy hN7 hm
      obtain ⟨F7, vs7_0, o7_2, o7_3, rfl, s7, w7, h7_0⟩ := hI
      replace q1 := s7 _ _ q1
      replace h2 := A2.mono s7 h2
      replace q2 := s7 _ _ q2
      replace sF := sF.trans s7
      obtain ⟨rfl, r8⟩ := hy
      replace r8 := Rep.mono s7 r8
      obtain ⟨a9, u9, z9, rfl, q9, r9a, r9b⟩ := r8
      obtain rfl : u9 = V.int b7.1 := r9a
      obtain rfl : z9 = V.int b7.2 := r9b
      obtain ⟨c10, hm⟩ := pb_txNum hm
      obtain ⟨c11, hm⟩ := pb_txAdd hm
      obtain ⟨c12, hm⟩ := pb_txAdd hm
      obtain ⟨c13, hm⟩ := pb_txNum hm
      obtain ⟨c14, hm⟩ := pb_txAdd hm
      obtain ⟨l15, z15, e15, hm⟩ := pn_app hm
      refine ⟨_, _, rfl, SqT.of (w7.same _ _ q9), rfl, _, _, rfl, _, _, rfl, rfl, _, rfl, .inl ⟨rfl, _, SqL.of (w7.get (pre := []))⟩, _, rfl, _, rfl, c10, _, _, rfl, rfl, c11, _, _, rfl, rfl, c12, _, rfl, _, rfl, c13, _, _, rfl, rfl, c14, _, _, _, rfl, rfl, (w7.get (pre := [])), (A2.lt h7_0 z15), ?_⟩
      have h15 : A2 (rep K F7) (vs7_0 ++ [(V.str (((("tie " : Str) ++ (Str.ofString (toString b7.1))) ++ (" " : Str)) ++ (Str.ofString (toString b7.2))))]) l15 := e15 ▸ A2.snoc h7_0 rep_s
      have w16 : W F7 _ ((p6, .lst (vs7_0 ++ [(V.str (((("tie " : Str) ++ (Str.ofString (toString b7.1))) ++ (" " : Str)) ++ (Str.ofString (toString b7.2))))])) :: os) := w7.set (pre := [])
      exact hN7 _ (post_ok hm) _ _ ⟨_, _, _, _, rfl, s7, w16, h15⟩
    intro g7 σ7 H7 hI hm
    obtain ⟨F7, vs7_0, o7_2, o7_3, rfl, s7, w7, h7_0⟩ := hI
    replace q1 := s7 _ _ q1
    replace h2 := A2.mono s7 h2
    replace q2 := s7 _ _ q2
    replace sF := sF.trans s7
    obtain ⟨c17, hm⟩ := pb_txJoin hm
    have w18 : W F7 _ (os) := w7.drop (pre := [])
    exact ⟨rfl, _, rfl, _, _, _, rfl, rfl, .inl (strs_q (SqL.of (w7.get (pre := []))) h7_0), c17, (post_ok hm) _ _ _ w18 sF rep_s⟩
def sp_law_bad (K : Fg) : Sp := fun vs H Q E => ∃ (F : Hp) (os : List (Addr × HO)) (a__law_purse_here : Addr) (vs__law_purse_here : List V) (x__law_purse_here : (List Int)), vs = [.ref a__law_purse_here] ∧ W F H ((a__law_purse_here, .lst vs__law_purse_here) :: os) ∧ A2 (rep K F) vs__law_purse_here x__law_purse_here ∧ Post (law_bad x__law_purse_here) (RetM K F a__law_purse_here os Q) noX
theorem sc_law_bad : FnScope ["_law_purse_here", "_law_some"] ["_law_purse_here"] (defScope s_law_bad) := ⟨rfl, rfl, rfl, by decide +kernel, rfl, by decide +kernel, by decide +kernel⟩
theorem ok_law_bad (T : Tx K mg A FD) : FnOk P w K mg base CX0 2 (A 33) (FD 33) ["_law_purse_here"] (sp_law_bad K) := by
  refine T.d33.fn.ok sc_law_bad (fun vs H Q E h => ?_) (fun cdv Ar outer s H vs Q E hr h => ?_)
  · obtain ⟨F, os, a__law_purse_here, vs__law_purse_here, x__law_purse_here, rfl, _⟩ := h
    rfl
  · obtain ⟨F0, os, a__law_purse_here, vs__law_purse_here, x__law_purse_here, rfl, w0, h__law_purse_here, hm⟩ := h
    have sF : Same F0 F0 := Same.refl _
    refine ⟨_, (pss_cons (ps_set (i := 1) sc_law_bad.nd rfl (Or.inl rfl) (pe_lst (pa_cons pe_str (pa_cons pe_str (pa_cons pe_str (pa_cons pe_str (pa_cons pe_str (pa_cons pe_str (pa_cons pe_str (pa_cons pe_str (pa_cons pe_str (pa_cons pe_str pa_nil)))))))))))) (pss_cons (ps_set (i := 1) sc_law_bad.nd rfl (Or.inl rfl) (pe_op op_cat (pv 1) (pe_lst (pa_cons pe_str (pa_cons pe_str (pa_cons pe_str (pa_cons pe_str (pa_cons pe_str (pa_cons pe_str (pa_cons pe_str pa_nil)))))))))) (pss_cons (ps_set (i := 1) sc_law_bad.nd rfl (Or.inl rfl) (pe_op op_cat (pv 1) (pe_lst (pa_cons pe_str (pa_cons pe_str (pa_cons pe_str (pa_cons pe_str (pa_cons pe_str (pa_cons pe_str (pa_cons pe_str pa_nil)))))))))) (pss_cons (ps_set (i := 1) sc_law_bad.nd rfl (Or.inl rfl) (pe_op op_cat (pv 1) (pe_lst (pa_cons pe_str (pa_cons pe_str (pa_cons pe_str (pa_cons pe_str (pa_cons pe_str (pa_cons pe_str pa_nil))))))))) (pss_cons (ps_set (i := 1) sc_law_bad.nd rfl (Or.inl rfl) (pe_op op_cat (pv 1) (pe_lst (pa_cons pe_str (pa_cons pe_str (pa_cons pe_str (pa_cons pe_str pa_nil))))))) (pss_one (ps_ret (pe_ix (ix_listK (K := K) rfl) (pv 1) (pe_call (ok_law_take T) (hr.mono (by decide)) (by rfl) T.d23.mg T.d23.fn.kp T.d23.b .nil pass0 (pa_cons (pv 0) (pa_cons (pe_callB (call_lenN (K := K) rfl) (by rfl) T.n_len (by decide +kernel) (pa_cons (pv 1) pa_nil)) pa_nil))) (fun _ _ => rfl))))))))), ?_⟩
    have h2 : A2 (rep K F0) [(.str ""), (.str " "), (.str "tie"), (.str "tie 0"), (.str "tie 0 1 2"), (.str "tie  0 1"), (.str " tie 0 1"), (.str "tie 0 1 "), (.str "Tie 0 1"), (.str "TIE 0 1")] ([("" : Str), (" " : Str), ("tie" : Str), ("tie 0" : Str), ("tie 0 1 2" : Str), ("tie  0 1" : Str), (" tie 0 1" : Str), ("tie 0 1 " : Str), ("Tie 0 1" : Str), ("TIE 0 1" : Str)] : (List Str)) := .cons rep_s (.cons rep_s (.cons rep_s (.cons rep_s (.cons rep_s (.cons rep_s (.cons rep_s (.cons rep_s (.cons rep_s (.cons rep_s (.nil))))))))))
    refine ⟨(by show 10 ≤ sizeLine; decide), fun p3 n3 => ?_⟩
    have w3 : W F0 _ ((p3, .lst [(.str ""), (.str " "), (.str "tie"), (.str "tie 0"), (.str "tie 0 1 2"), (.str "tie  0 1"), (.str " tie 0 1"), (.str "tie 0 1 "), (.str "Tie 0 1"), (.str "TIE 0 1")]) :: (a__law_purse_here, .lst vs__law_purse_here) :: os) := w0.new n3
    obtain ⟨F4, s4, w4, q4⟩ : ∃ F', Same F0 F' ∧ W F' _ ((a__law_purse_here, .lst vs__law_purse_here) :: os) ∧ F' p3 = some (.lst [(.str ""), (.str " "), (.str "tie"), (.str "tie 0"), (.str "tie 0 1 2"), (.str "tie  0 1"), (.str " tie 0 1"), (.str "tie 0 1 "), (.str "Tie 0 1"), (.str "TIE 0 1")]) := w3.freezeE (pre := [])
    replace h__law_purse_here := A2.mono s4 h__law_purse_here
    replace h2 := A2.mono s4 h2
    replace sF := sF.trans s4
    have h5 : A2 (rep K F4) [(.str "tie 00 1"), (.str "tie 0 01"), (.str "tie -1 1"), (.str "tie 0 +1"), (.str "tie 1000 1"), (.str "tie 0 1000"), (.str "tie a 1")] ([("tie 00 1" : Str), ("tie 0 01" : Str), ("tie -1 1" : Str), ("tie 0 +1" : Str), ("tie 1000 1" : Str), ("tie 0 1000" : Str), ("tie a 1" : Str)] : (List Str)) := .cons rep_s (.cons rep_s (.cons rep_s (.cons rep_s (.cons rep_s (.cons rep_s (.cons rep_s (.nil)))))))
    refine ⟨_, rfl, (by show 7 ≤ sizeLine; decide), fun p6 n6 => ?_⟩
    have w6 : W F4 _ ((p6, .lst [(.str "tie 00 1"), (.str "tie 0 01"), (.str "tie -1 1"), (.str "tie 0 +1"), (.str "tie 1000 1"), (.str "tie 0 1000"), (.str "tie a 1")]) :: (a__law_purse_here, .lst vs__law_purse_here) :: os) := w4.new n6
    obtain ⟨l7, z7, e7, hm⟩ := pn_extend hm
    have h7 : A2 (rep K F4) ([(.str ""), (.str " "), (.str "tie"), (.str "tie 0"), (.str "tie 0 1 2"), (.str "tie  0 1"), (.str " tie 0 1"), (.str "tie 0 1 "), (.str "Tie 0 1"), (.str "TIE 0 1")] ++ [(.str "tie 00 1"), (.str "tie 0 01"), (.str "tie -1 1"), (.str "tie 0 +1"), (.str "tie 1000 1"), (.str "tie 0 1000"), (.str "tie a 1")]) l7 := e7 ▸ A2.append h2 h5
    refine ⟨_, _, _, _, rfl, rfl, (w6.same _ _ q4), (w6.get (pre := [])), (A2.le2 h2 h5 z7), fun p8 n8 => ?_⟩
    have w8 : W F4 _ ((p8, .lst ([(.str ""), (.str " "), (.str "tie"), (.str "tie 0"), (.str "tie 0 1 2"), (.str "tie  0 1"), (.str " tie 0 1"), (.str "tie 0 1 "), (.str "Tie 0 1"), (.str "TIE 0 1")] ++ [(.str "tie 00 1"), (.str "tie 0 01"), (.str "tie -1 1"), (.str "tie 0 +1"), (.str "tie 1000 1"), (.str "tie 0 1000"), (.str "tie a 1")])) :: (p6, .lst [(.str "tie 00 1"), (.str "tie 0 01"), (.str "tie -1 1"), (.str "tie 0 +1"), (.str "tie 1000 1"), (.str "tie 0 1000"), (.str "tie a 1")]) :: (a__law_purse_here, .lst vs__law_purse_here) :: os) := w6.new n8
    obtain ⟨F9, s9, w9, q9⟩ : ∃ F', Same F4 F' ∧ W F' _ ((p6, .lst [(.str "tie 00 1"), (.str "tie 0 01"), (.str "tie -1 1"), (.str "tie 0 +1"), (.str "tie 1000 1"), (.str "tie 0 1000"), (.str "tie a 1")]) :: (a__law_purse_here, .lst vs__law_purse_here) :: os) ∧ F' p8 = some (.lst ([(.str ""), (.str " "), (.str "tie"), (.str "tie 0"), (.str "tie 0 1 2"), (.str "tie  0 1"), (.str " tie 0 1"), (.str "tie 0 1 "), (.str "Tie 0 1"), (.str "TIE 0 1")] ++ [(.str "tie 00 1"), (.str "tie 0 01"), (.str "tie -1 1"), (.str "tie 0 +1"), (.str "tie 1000 1"), (.str "tie 0 1000"), (.str "tie a 1")])) := w8.freezeE (pre := [])
    replace h2 := A2.mono s9 h2
    replace q4 := s9 _ _ q4
    replace h__law_purse_here := A2.mono s9 h__law_purse_here
    replace h5 := A2.mono s9 h5
    replace h7 := A2.mono s9 h7
    replace sF := sF.trans s9
    have w10 : W F9 _ ((a__law_purse_here, .lst vs__law_purse_here) :: os) := w9.drop (pre := [])
    have h11 : A2 (rep K F9) [(.str "tie 0 1."), (.str "tie 0,1"), (.str "tie 0-1"), (.str "ties 0 1"), (.str "place 3"), (.str "places"), (.str "places 3 4")] ([("tie 0 1." : Str), ("tie 0,1" : Str), ("tie 0-1" : Str), ("ties 0 1" : Str), ("place 3" : Str), ("places" : Str), ("places 3 4" : Str)] : (List Str)) := .cons rep_s (.cons rep_s (.cons rep_s (.cons rep_s (.cons rep_s (.cons rep_s (.cons rep_s (.nil)))))))
    refine ⟨_, rfl, (by show 7 ≤ sizeLine; decide), fun p12 n12 => ?_⟩
    have w12 : W F9 _ ((p12, .lst [(.str "tie 0 1."), (.str "tie 0,1"), (.str "tie 0-1"), (.str "ties 0 1"), (.str "place 3"), (.str "places"), (.str "places 3 4")]) :: (a__law_purse_here, .lst vs__law_purse_here) :: os) := w10.new n12
    obtain ⟨l13, z13, e13, hm⟩ := pn_extend hm
    have h13 : A2 (rep K F9) (([(.str ""), (.str " "), (.str "tie"), (.str "tie 0"), (.str "tie 0 1 2"), (.str "tie  0 1"), (.str " tie 0 1"), (.str "tie 0 1 "), (.str "Tie 0 1"), (.str "TIE 0 1")] ++ [(.str "tie 00 1"), (.str "tie 0 01"), (.str "tie -1 1"), (.str "tie 0 +1"), (.str "tie 1000 1"), (.str "tie 0 1000"), (.str "tie a 1")]) ++ [(.str "tie 0 1."), (.str "tie 0,1"), (.str "tie 0-1"), (.str "ties 0 1"), (.str "place 3"), (.str "places"), (.str "places 3 4")]) l13 := e13 ▸ A2.append h7 h11
    refine ⟨_, _, _, _, rfl, rfl, (w12.same _ _ q9), (w12.get (pre := [])), (A2.le2 h7 h11 z13), fun p14 n14 => ?_⟩
    have w14 : W F9 _ ((p14, .lst (([(.str ""), (.str " "), (.str "tie"), (.str "tie 0"), (.str "tie 0 1 2"), (.str "tie  0 1"), (.str " tie 0 1"), (.str "tie 0 1 "), (.str "Tie 0 1"), (.str "TIE 0 1")] ++ [(.str "tie 00 1"), (.str "tie 0 01"), (.str "tie -1 1"), (.str "tie 0 +1"), (.str "tie 1000 1"), (.str "tie 0 1000"), (.str "tie a 1")]) ++ [(.str "tie 0 1."), (.str "tie 0,1"), (.str "tie 0-1"), (.str "ties 0 1"), (.str "place 3"), (.str "places"), (.str "places 3 4")])) :: (p12, .lst [(.str "tie 0 1."), (.str "tie 0,1"), (.str "tie 0-1"), (.str "ties 0 1"), (.str "place 3"), (.str "places"), (.str "places 3 4")]) :: (a__law_purse_here, .lst vs__law_purse_here) :: os) := w12.new n14
    obtain ⟨F15, s15, w15, q15⟩ : ∃ F', Same F9 F' ∧ W F' _ ((p12, .lst [(.str "tie 0 1."), (.str "tie 0,1"), (.str "tie 0-1"), (.str "ties 0 1"), (.str "place 3"), (.str "places"), (.str "places 3 4")]) :: (a__law_purse_here, .lst vs__law_purse_here) :: os) ∧ F' p14 = some (.lst (([(.str ""), (.str " "), (.str "tie"), (.str "tie 0"), (.str "tie 0 1 2"), (.str "tie  0 1"), (.str " tie 0 1"), (.str "tie 0 1 "), (.str "Tie 0 1"), (.str "TIE 0 1")] ++ [(.str "tie 00 1"), (.str "tie 0 01"), (.str "tie -1 1"), (.str "tie 0 +1"), (.str "tie 1000 1"), (.str "tie 0 1000"), (.str "tie a 1")]) ++ [(.str "tie 0 1."), (.str "tie 0,1"), (.str "tie 0-1"), (.str "ties 0 1"), (.str "place 3"), (.str "places"), (.str "places 3 4")])) := w14.freezeE (pre := [])
    replace h7 := A2.mono s15 h7
    replace q9 := s15 _ _ q9
    replace h__law_purse_here := A2.mono s15 h__law_purse_here
    replace h11 := A2.mono s15 h11
    replace h13 := A2.mono s15 h13
    replace sF := sF.trans s15
    have w16 : W F15 _ ((a__law_purse_here, .lst vs__law_purse_here) :: os) := w15.drop (pre := [])
    have h17 : A2 (rep K F15) [(.str "0 1"), (.str "look 0"), (.str "tie 0  1"), (.str "untie 0 1"), (.str "tie 1_0 2"), (.str "tie 0 1a")] ([("0 1" : Str), ("look 0" : Str), ("tie 0  1" : Str), ("untie 0 1" : Str), ("tie 1_0 2" : Str), ("tie 0 1a" : Str)] : (List Str)) := .cons rep_s (.cons rep_s (.cons rep_s (.cons rep_s (.cons rep_s (.cons rep_s (.nil))))))
    refine ⟨_, rfl, (by show 6 ≤ sizeLine; decide), fun p18 n18 => ?_⟩
    have w18 : W F15 _ ((p18, .lst [(.str "0 1"), (.str "look 0"), (.str "tie 0  1"), (.str "untie 0 1"), (.str "tie 1_0 2"), (.str "tie 0 1a")]) :: (a__law_purse_here, .lst vs__law_purse_here) :: os) := w16.new n18
    obtain ⟨l19, z19, e19, hm⟩ := pn_extend hm
    have h19 : A2 (rep K F15) ((([(.str ""), (.str " "), (.str "tie"), (.str "tie 0"), (.str "tie 0 1 2"), (.str "tie  0 1"), (.str " tie 0 1"), (.str "tie 0 1 "), (.str "Tie 0 1"), (.str "TIE 0 1")] ++ [(.str "tie 00 1"), (.str "tie 0 01"), (.str "tie -1 1"), (.str "tie 0 +1"), (.str "tie 1000 1"), (.str "tie 0 1000"), (.str "tie a 1")]) ++ [(.str "tie 0 1."), (.str "tie 0,1"), (.str "tie 0-1"), (.str "ties 0 1"), (.str "place 3"), (.str "places"), (.str "places 3 4")]) ++ [(.str "0 1"), (.str "look 0"), (.str "tie 0  1"), (.str "untie 0 1"), (.str "tie 1_0 2"), (.str "tie 0 1a")]) l19 := e19 ▸ A2.append h13 h17
    refine ⟨_, _, _, _, rfl, rfl, (w18.same _ _ q15), (w18.get (pre := [])), (A2.le2 h13 h17 z19), fun p20 n20 => ?_⟩
    have w20 : W F15 _ ((p20, .lst ((([(.str ""), (.str " "), (.str "tie"), (.str "tie 0"), (.str "tie 0 1 2"), (.str "tie  0 1"), (.str " tie 0 1"), (.str "tie 0 1 "), (.str "Tie 0 1"), (.str "TIE 0 1")] ++ [(.str "tie 00 1"), (.str "tie 0 01"), (.str "tie -1 1"), (.str "tie 0 +1"), (.str "tie 1000 1"), (.str "tie 0 1000"), (.str "tie a 1")]) ++ [(.str "tie 0 1."), (.str "tie 0,1"), (.str "tie 0-1"), (.str "ties 0 1"), (.str "place 3"), (.str "places"), (.str "places 3 4")]) ++ [(.str "0 1"), (.str "look 0"), (.str "tie 0  1"), (.str "untie 0 1"), (.str "tie 1_0 2"), (.str "tie 0 1a")])) :: (p18, .lst [(.str "0 1"), (.str "look 0"), (.str "tie 0  1"), (.str "untie 0 1"), (.str "tie 1_0 2"), (.str "tie 0 1a")]) :: (a__law_purse_here, .lst vs__law_purse_here) :: os) := w18.new n20
    obtain ⟨F21, s21, w21, q21⟩ : ∃ F', Same F15 F' ∧ W F' _ ((p18, .lst [(.str "0 1"), (.str "look 0"), (.str "tie 0  1"), (.str "untie 0 1"), (.str "tie 1_0 2"), (.str "tie 0 1a")]) :: (a__law_purse_here, .lst vs__law_purse_here) :: os) ∧ F' p20 = some (.lst ((([(.str ""), (.str " "), (.str "tie"), (.str "tie 0"), (.str "tie 0 1 2"), (.str "tie  0 1"), (.str " tie 0 1"), (.str "tie 0 1 "), (.str "Tie 0 1"), (.str "TIE 0 1")] ++ [(.str "tie 00 1"), (.str "tie 0 01"), (.str "tie -1 1"), (.str "tie 0 +1"), (.str "tie 1000 1"), (.str "tie 0 1000"), (.str "tie a 1")]) ++ [(.str "tie 0 1."), (.str "tie 0,1"), (.str "tie 0-1"), (.str "ties 0 1"), (.str "place 3"), (.str "places"), (.str "places 3 4")]) ++ [(.str "0 1"), (.str "look 0"), (.str "tie 0  1"), (.str "untie 0 1"), (.str "tie 1_0 2"), (.str "tie 0 1a")])) := w20.freezeE (pre := [])
    replace h13 := A2.mono s21 h13
    replace q15 := s21 _ _ q15
    replace h__law_purse_here := A2.mono s21 h__law_purse_here
    replace h17 := A2.mono s21 h17
    replace h19 := A2.mono s21 h19
    replace sF := sF.trans s21
    have w22 : W F21 _ ((a__law_purse_here, .lst vs__law_purse_here) :: os) := w21.drop (pre := [])
    have h23 : A2 (rep K F21) [(.str "places 03"), (.str "places -3"), (.str "places 3 "), (.str "PLACES 3")] ([("places 03" : Str), ("places -3" : Str), ("places 3 " : Str), ("PLACES 3" : Str)] : (List Str)) := .cons rep_s (.cons rep_s (.cons rep_s (.cons rep_s (.nil))))
    refine ⟨_, rfl, (by show 4 ≤ sizeLine; decide), fun p24 n24 => ?_⟩
    have w24 : W F21 _ ((p24, .lst [(.str "places 03"), (.str "places -3"), (.str "places 3 "), (.str "PLACES 3")]) :: (a__law_purse_here, .lst vs__law_purse_here) :: os) := w22.new n24
    obtain ⟨l25, z25, e25, hm⟩ := pn_extend hm
    have h25 : A2 (rep K F21) (((([(.str ""), (.str " "), (.str "tie"), (.str "tie 0"), (.str "tie 0 1 2"), (.str "tie  0 1"), (.str " tie 0 1"), (.str "tie 0 1 "), (.str "Tie 0 1"), (.str "TIE 0 1")] ++ [(.str "tie 00 1"), (.str "tie 0 01"), (.str "tie -1 1"), (.str "tie 0 +1"), (.str "tie 1000 1"), (.str "tie 0 1000"), (.str "tie a 1")]) ++ [(.str "tie 0 1."), (.str "tie 0,1"), (.str "tie 0-1"), (.str "ties 0 1"), (.str "place 3"), (.str "places"), (.str "places 3 4")]) ++ [(.str "0 1"), (.str "look 0"), (.str "tie 0  1"), (.str "untie 0 1"), (.str "tie 1_0 2"), (.str "tie 0 1a")]) ++ [(.str "places 03"), (.str "places -3"), (.str "places 3 "), (.str "PLACES 3")]) l25 := e25 ▸ A2.append h19 h23
    refine ⟨_, _, _, _, rfl, rfl, (w24.same _ _ q21), (w24.get (pre := [])), (A2.le2 h19 h23 z25), fun p26 n26 => ?_⟩
    have w26 : W F21 _ ((p26, .lst (((([(.str ""), (.str " "), (.str "tie"), (.str "tie 0"), (.str "tie 0 1 2"), (.str "tie  0 1"), (.str " tie 0 1"), (.str "tie 0 1 "), (.str "Tie 0 1"), (.str "TIE 0 1")] ++ [(.str "tie 00 1"), (.str "tie 0 01"), (.str "tie -1 1"), (.str "tie 0 +1"), (.str "tie 1000 1"), (.str "tie 0 1000"), (.str "tie a 1")]) ++ [(.str "tie 0 1."), (.str "tie 0,1"), (.str "tie 0-1"), (.str "ties 0 1"), (.str "place 3"), (.str "places"), (.str "places 3 4")]) ++ [(.str "0 1"), (.str "look 0"), (.str "tie 0  1"), (.str "untie 0 1"), (.str "tie 1_0 2"), (.str "tie 0 1a")]) ++ [(.str "places 03"), (.str "places -3"), (.str "places 3 "), (.str "PLACES 3")])) :: (p24, .lst [(.str "places 03"), (.str "places -3"), (.str "places 3 "), (.str "PLACES 3")]) :: (a__law_purse_here, .lst vs__law_purse_here) :: os) := w24.new n26
    obtain ⟨F27, s27, w27, q27⟩ : ∃ F', Same F21 F' ∧ W F' _ ((p24, .lst [(.str "places 03"), (.str "places -3"), (.str "places 3 "), (.str "PLACES 3")]) :: (a__law_purse_here, .lst vs__law_purse_here) :: os) ∧ F' p26 = some (.lst (((([(.str ""), (.str " "), (.str "tie"), (.str "tie 0"), (.str "tie 0 1 2"), (.str "tie  0 1"), (.str " tie 0 1"), (.str "tie 0 1 "), (.str "Tie 0 1"), (.str "TIE 0 1")] ++ [(.str "tie 00 1"), (.str "tie 0 01"), (.str "tie -1 1"), (.str "tie 0 +1"), (.str "tie 1000 1"), (.str "tie 0 1000"), (.str "tie a 1")]) ++ [(.str "tie 0 1."), (.str "tie 0,1"), (.str "tie 0-1"), (.str "ties 0 1"), (.str "place 3"), (.str "places"), (.str "places 3 4")]) ++ [(.str "0 1"), (.str "look 0"), (.str "tie 0  1"), (.str "untie 0 1"), (.str "tie 1_0 2"), (.str "tie 0 1a")]) ++ [(.str "places 03"), (.str "places -3"), (.str "places 3 "), (.str "PLACES 3")])) := w26.freezeE (pre := [])
    replace h19 := A2.mono s27 h19
    replace q21 := s27 _ _ q21
    replace h__law_purse_here := A2.mono s27 h__law_purse_here
    replace h23 := A2.mono s27 h23
    replace h25 := A2.mono s27 h25
    replace sF := sF.trans s27
    have w28 : W F27 _ ((a__law_purse_here, .lst vs__law_purse_here) :: os) := w27.drop (pre := [])
    refine ⟨_, rfl, _, rfl, _, rfl, _, _, _, rfl, .inl (SqL.of (w28.same _ _ q27)), h25.length, _, _, _, _, _, _, rfl, w28, h__law_purse_here, ?_⟩
    refine (post_bind hm).mono (fun y29 hm v29 vs29 F29 H29 w29 s29 r29 h29 => ?_) (fun _ z => z)
    replace h25 := A2.mono s29 h25
    replace q27 := s29 _ _ q27
    replace sF := sF.trans s29
    obtain rfl : v29 = V.int y29.1 := r29
    obtain ⟨t30, e30, hm⟩ := pb_get hm
    obtain ⟨u30, f30, r30⟩ := A2.at h25 e30
    obtain rfl : u30 = V.str t30 := r30
    exact ⟨_, _, _, _, rfl, rfl, SqL.of (w29.same _ _ q27), f30, (post_ok hm) _ _ _ _ w29 sF rep_s h29⟩
def sp_law_apart (K : Fg) : Sp := fun vs H Q E => ∃ (F : Hp) (os : List (Addr × HO)) (x__law_many : Int) (v__law_ties : V) (x__law_ties : (List (Int × Int))), vs = [.int x__law_many, v__law_ties] ∧ W F H (os) ∧ rep K F v__law_ties x__law_ties ∧ Post (law_apart x__law_many x__law_ties) (Ret K F os Q) noX
theorem sc_law_apart : FnScope ["_law_many", "_law_ties", "_law_met", "_law_turn", "_law_one", "_law_other", "_law_left", "_law_place"] ["_law_many", "_law_ties"] (defScope s_law_apart) := ⟨rfl, rfl, rfl, by decide +kernel, rfl, by decide +kernel, by decide +kernel⟩
theorem ok_law_apart (T : Tx K mg A FD) : FnOk P w K mg base CX0 1 (A 34) (FD 34) ["_law_many", "_law_ties"] (sp_law_apart K) := by
  refine T.d34.fn.ok sc_law_apart (fun vs H Q E h => ?_) (fun cdv Ar outer s H vs Q E hr h => ?_)
  · obtain ⟨F, os, x__law_many, v__law_ties, x__law_ties, rfl, _⟩ := h
    rfl
  · obtain ⟨F0, os, x__law_many, v__law_ties, x__law_ties, rfl, w0, r__law_ties, hm⟩ := h
    have sF : Same F0 F0 := Same.refl _
    obtain ⟨a1, vs1, rfl, q1, h1⟩ := r__law_ties
    refine ⟨_, (pss_cons (ps_set (i := 2) sc_law_apart.nd rfl (Or.inr rfl) (pe_lst (pa_cons pe_int pa_nil))) (pss_cons (ps_for PassesOwn.never rfl (pi_range1 (by rfl) T.n_range (pa_cons (pv 0) pa_nil)) (pg_name (i := 3) sc_law_apart.nd rfl (Or.inl rfl)) (pss_one (ps_for PassesOwn.never rfl (pi_listK (K := K) rfl (pv 1)) (pg_k (K := K) (t := fun K => gTup K 2 _) rfl (pg_tup (n := 2) rfl (pgs_cons (pg_name (i := 4) sc_law_apart.nd rfl (Or.inl rfl)) (pgs_cons (pg_name (i := 5) sc_law_apart.nd rfl (Or.inl rfl)) pgs_nil)))) (pss_cons (ps_if (PW.pt (pw_and (pt_cmpR (op_inL (K := K) rfl Int (by decide) (Room.units65 hr)) (pv 4) (pv 2) (by rfl)) (pw_and1 (pt_cmpR (op_notInL (K := K) rfl Int (by decide) (Room.units65 hr)) (pv 5) (pv 2) (by rfl))))) (pss_one (ps_expr (pe_bm PySem.F.plainAttrs_list PySem.F.slot_list_append PySem.F.type_list_append mt_append (pv 2) (pa_cons (pv 5) pa_nil)))) pss_nil) (pss_one (ps_if (PW.pt (pw_and (pt_cmpR (op_inL (K := K) rfl Int (by decide) (Room.units65 hr)) (pv 5) (pv 2) (by rfl)) (pw_and1 (pt_cmpR (op_notInL (K := K) rfl Int (by decide) (Room.units65 hr)) (pv 4) (pv 2) (by rfl))))) (pss_one (ps_expr (pe_bm PySem.F.plainAttrs_list PySem.F.slot_list_append PySem.F.type_list_append mt_append (pv 2) (pa_cons (pv 4) pa_nil)))) pss_nil)))))) (pss_cons (ps_setLc (i := 6) (own := [("_law_place", 7)]) (g := gName 7) (by rfl) sc_law_apart.nd rfl rfl (sw_true rfl rfl rfl (by decide +kernel)) (pi_range1 (by rfl) T.n_range (pa_cons (pv 0) pa_nil)) (blkOk_by (own := [("_law_place", 7)]) (N := ["_law_many", "_law_ties", "_law_met", "_law_turn", "_law_one", "_law_other", "_law_left", "_law_place"]) (sc := defScope s_law_apart) (by decide +kernel)) (fun _ _ _ _ _ => (pg_name (i := 7) sc_law_apart.nd rfl (Or.inl rfl))) (fun _ _ _ _ _ => (pts_one (pt_cmpR (op_notInL (K := K) rfl Int (by decide) (Room.units65 hr)) (pv 7) (pv 2) (by rfl)))) (fun _ _ _ _ _ => (pv 7))) (pss_one (ps_ret (pe_ix (ix_listK (K := K) rfl) (pe_op op_cat (pv 6) (pe_lst (pa_cons pe_non pa_nil))) pe_int (fun _ _ => rfl))))))), ?_⟩
    have h2 : A2 (rep K F0) [(.int 0)] ([(0 : Int)] : (List Int)) := .cons rep_i (.nil)
    refine ⟨(by show 1 ≤ sizeLine; decide), fun p3 n3 => ?_⟩
    have w3 : W F0 _ ((p3, .lst [(.int 0)]) :: os) := w0.new n3
    obtain ⟨c5, hm⟩ := pb_rng hm
    refine ⟨_, rfl, _, rfl, c5.2.2.1, c5.2.2.2, ?_⟩
    refine forS (tw_rng0 (j := x__law_many)) hm (fun (g4 : (List Int)) σ H' => ∃ (F' : Hp) (vs4_0 : List V) (o4_4 : Option V) (o4_5 : Option V) (o4_3 : Option V), σ = [some (.int x__law_many), some (.ref a1), some (.ref p3), o4_3, o4_4, o4_5, none, none] ∧ Same F0 F' ∧ W F' H' ((p3, .lst vs4_0) :: os) ∧ A2 (rep K F') vs4_0 g4) ⟨_, _, _, _, _, rfl, Same.refl _, w3, h2⟩ (fun _ _ _ _ => trivial) ?_ ?_
    · -- a turn
      intro b4 g4 x4 σ4 H4 H4' N4 P4 hI hy hN4 hm
      obtain ⟨F4, vs4_0, o4_4, o4_5, o4_3, rfl, s4, w4, h4_0⟩ := hI
      replace h1 := A2.mono s4 h1
      replace q1 := s4 _ _ q1
      replace sF := sF.trans s4
      obtain ⟨rfl, rfl⟩ := hy
      refine ⟨_, rfl, _, rfl, ⟨_, SqL.of (w4.same _ _ q1)⟩, ?_⟩
      refine forS (tw_list (a := a1) h1) hm (fun (g6 : (List Int)) σ H' => ∃ (F' : Hp) (vs6_0 : List V) (o6_4 : Option V) (o6_5 : Option V), σ = [some (.int x__law_many), some (.ref a1), some (.ref p3), some (.int b4), o6_4, o6_5, none, none] ∧ Same F4 F' ∧ W F' H' ((p3, .lst vs6_0) :: os) ∧ A2 (rep K F') vs6_0 g6) ⟨_, _, _, _, rfl, Same.refl _, w4, h4_0⟩ (fun g σ H' hI => by obtain ⟨F', _, _, _, _, s, w, _⟩ := hI; exact SqL.of (w.same _ _ (s _ _ q1))) ?_ ?_
      · -- a turn
        intro b6 g6 x6 σ6 H6 H6' N6 P6 hI hy hN6 hm
        obtain ⟨F6, vs6_0, o6_4, o6_5, rfl, s6, w6, h6_0⟩ := hI
        replace h1 := A2.mono s6 h1
        replace q1 := s6 _ _ q1
        replace sF := sF.trans s6
        obtain ⟨rfl, r7⟩ := hy
        replace r7 := Rep.mono s6 r7
        obtain ⟨a8, u8, z8, rfl, q8, r8a, r8b⟩ := r7
        obtain rfl : u8 = V.int b6.1 := r8a
        obtain rfl : z8 = V.int b6.2 := r8b
        refine ⟨_, _, rfl, SqT.of (w6.same _ _ q8), rfl, _, _, rfl, _, _, rfl, rfl, ?_⟩
        try dsimp only
        refine joinS hm (fun (g9 : (List Int)) σ H' => ∃ (F' : Hp) (vs9_0 : List V), σ = [some (.int x__law_many), some (.ref a1), some (.ref p3), some (.int b4), some (.int b6.1), some (.int b6.2), none, none] ∧ Same F6 F' ∧ W F' H' ((p3, .lst vs9_0) :: os) ∧ A2 (rep K F') vs9_0 g9) ?_ ?_
        · intro N9 P9 hN9 hm
          refine stepIf ?_
          refine cutT (fun c H' => c = (((inB b6.1 g6) && (!inB b6.2 g6))) ∧ ∃ F', Same F6 F' ∧ W F' H' ((p3, .lst vs6_0) :: os)) (fun Q10 q10 => ?_) (fun c10 H10 hc10 => ?_)
          · -- the ways
            refine ⟨_, rfl, _, rfl, (b6.1 : Int), _, rep_i, (rep_own (pre := []) w6 h6_0), _, rfl, ?_⟩
            refine ifB (fun k11 => ?_) (fun k11 => ?_)
            · skip
              exact ⟨_, rfl, _, rfl, (b6.2 : Int), _, rep_i, (rep_own (pre := []) w6 h6_0), _, rfl, q10 _ _ ⟨(by first | rfl | exact absurd k11 (by decide) | (simp [k11]; done) | ((try simp only [Bool.not_eq_true] at k11); simp only [k11, Bool.true_or, Bool.false_or, Bool.or_false, Bool.or_true, Bool.true_and, Bool.false_and, Bool.and_true, Bool.and_false])), _, Same.refl _, w6⟩⟩
            · skip
              exact q10 _ _ ⟨(by first | rfl | exact absurd k11 (by decide) | (simp [k11]; done) | ((try simp only [Bool.not_eq_true] at k11); simp only [k11, Bool.true_or, Bool.false_or, Bool.or_false, Bool.or_true, Bool.true_and, Bool.false_and, Bool.and_true, Bool.and_false])), _, Same.refl _, w6⟩
          obtain ⟨rfl, F10, s10, w10⟩ := hc10
          replace h1 := A2.mono s10 h1
          replace q1 := s10 _ _ q1
          replace h6_0 := A2.mono s10 h6_0
          replace sF := sF.trans s10
          refine post_ite hm (fun k14 hm => ?_) (fun k14 hm => ?_)
          · skip
            obtain ⟨l15, z15, e15, hm⟩ := pn_app hm
            refine ⟨_, rfl, .inl ⟨rfl, _, SqL.of (w10.get (pre := []))⟩, _, rfl, _, _, _, rfl, rfl, (w10.get (pre := [])), (A2.lt h6_0 z15), ?_⟩
            have h15 : A2 (rep K F10) (vs6_0 ++ [(V.int b6.2)]) l15 := e15 ▸ A2.snoc h6_0 rep_i
            have w16 : W F10 _ ((p3, .lst (vs6_0 ++ [(V.int b6.2)])) :: os) := w10.set (pre := [])
            exact hN9 _ (post_ok hm) _ _ ⟨_, _, rfl, s10, w16, h15⟩
          · skip
            exact hN9 _ (post_ok hm) _ _ ⟨_, _, rfl, s10, w10, h6_0⟩
        intro g9 σ9 H9 hI hm
        obtain ⟨F9, vs9_0, rfl, s9, w9, h9_0⟩ := hI
        replace h1 := A2.mono s9 h1
        replace q1 := s9 _ _ q1
        replace sF := sF.trans s9
        try dsimp only
        refine stepIf ?_
        refine cutT (fun c H' => c = (((inB b6.2 g9) && (!inB b6.1 g9))) ∧ ∃ F', Same F9 F' ∧ W F' H' ((p3, .lst vs9_0) :: os)) (fun Q17 q17 => ?_) (fun c17 H17 hc17 => ?_)
        · -- the ways
          refine ⟨_, rfl, _, rfl, (b6.2 : Int), _, rep_i, (rep_own (pre := []) w9 h9_0), _, rfl, ?_⟩
          refine ifB (fun k18 => ?_) (fun k18 => ?_)
          · skip
            exact ⟨_, rfl, _, rfl, (b6.1 : Int), _, rep_i, (rep_own (pre := []) w9 h9_0), _, rfl, q17 _ _ ⟨(by first | rfl | exact absurd k18 (by decide) | (simp [k18]; done) | ((try simp only [Bool.not_eq_true] at k18); simp only [k18, Bool.true_or, Bool.false_or, Bool.or_false, Bool.or_true, Bool.true_and, Bool.false_and, Bool.and_true, Bool.and_false])), _, Same.refl _, w9⟩⟩
          · skip
            exact q17 _ _ ⟨(by first | rfl | exact absurd k18 (by decide) | (simp [k18]; done) | ((try simp only [Bool.not_eq_true] at k18); simp only [k18, Bool.true_or, Bool.false_or, Bool.or_false, Bool.or_true, Bool.true_and, Bool.false_and, Bool.and_true, Bool.and_false])), _, Same.refl _, w9⟩
        obtain ⟨rfl, F17, s17, w17⟩ := hc17
        replace h1 := A2.mono s17 h1
        replace q1 := s17 _ _ q1
        replace h9_0 := A2.mono s17 h9_0
        replace sF := sF.trans s17
        refine post_ite hm (fun k21 hm => ?_) (fun k21 hm => ?_)
        · skip
          obtain ⟨l22, z22, e22, hm⟩ := pn_app hm
          refine ⟨_, rfl, .inl ⟨rfl, _, SqL.of (w17.get (pre := []))⟩, _, rfl, _, _, _, rfl, rfl, (w17.get (pre := [])), (A2.lt h9_0 z22), ?_⟩
          have h22 : A2 (rep K F17) (vs9_0 ++ [(V.int b6.1)]) l22 := e22 ▸ A2.snoc h9_0 rep_i
          have w23 : W F17 _ ((p3, .lst (vs9_0 ++ [(V.int b6.1)])) :: os) := w17.set (pre := [])
          exact hN6 _ (post_ok hm) _ _ ⟨_, _, _, _, rfl, (s6.trans (s9.trans s17)), w23, h22⟩
        · skip
          exact hN6 _ (post_ok hm) _ _ ⟨_, _, _, _, rfl, (s6.trans (s9.trans s17)), w17, h9_0⟩
      intro g6 σ6 H6 hI hm
      obtain ⟨F6, vs6_0, o6_4, o6_5, rfl, s6, w6, h6_0⟩ := hI
      replace h1 := A2.mono s6 h1
      replace q1 := s6 _ _ q1
      replace sF := sF.trans s6
      exact hN4 _ (post_ok hm) _ _ ⟨_, _, _, _, _, rfl, (s4.trans s6), w6, h6_0⟩
    intro g4 σ4 H4 hI hm
    obtain ⟨F4, vs4_0, o4_4, o4_5, o4_3, rfl, s4, w4, h4_0⟩ := hI
    replace h1 := A2.mono s4 h1
    replace q1 := s4 _ _ q1
    replace sF := sF.trans s4
    obtain ⟨c24, hm⟩ := pb_rng hm
    refine ⟨_, rfl, _, rfl, c24.2.2.1, c24.2.2.2, fun D25 nD25 => ?_⟩
    refine lcF (K := K) (tw_rng0 (j := x__law_many)) hm w4 nD25 (fun F' H' acc s w => trivial) ?_ ?_
    · -- one turn
      intro b25 x25 F25 H25 H25' acc25 N25 M25 P25 s25 w25 y25 hN25 hM25 hm
      replace h1 := A2.mono s25 h1
      replace q1 := s25 _ _ q1
      replace h4_0 := A2.mono s25 h4_0
      replace sF := sF.trans s25
      obtain ⟨rfl, rfl⟩ := y25
      refine ⟨rfl, _, rfl, _, rfl, (b25 : Int), _, rep_i, (rep_own (pre := [_]) w25 h4_0), _, rfl, ?_⟩
      refine post_ite hm (fun k27 hm => ?_) (fun k27 hm => ?_)
      · skip
        exact ⟨_, rfl, hN25 _ (post_ok hm) _ _ _ w25 (Same.refl _) rep_i⟩
      · skip
        exact hM25 (post_ok hm) _ _ w25 (Same.refl _)
    intro us25 F25 H25 ys25 s25 w25 gg25 hm
    replace h1 := A2.mono s25 h1
    replace q1 := s25 _ _ q1
    replace h4_0 := A2.mono s25 h4_0
    replace sF := sF.trans s25
    obtain ⟨F29, s29, w29, q29⟩ : ∃ F', Same F25 F' ∧ W F' _ ((p3, .lst vs4_0) :: os) ∧ F' D25 = some (.lst us25) := w25.freezeE (pre := [])
    replace h1 := A2.mono s29 h1
    replace q1 := s29 _ _ q1
    replace h4_0 := A2.mono s29 h4_0
    replace gg25 := A2.mono s29 gg25
    replace sF := sF.trans s29
    have h30 : A2 (rep K F29) [.non] ([none] : (List (Option Int))) := .cons rep_none (.nil)
    refine ⟨_, rfl, (by show 1 ≤ sizeLine; decide), fun p31 n31 => ?_⟩
    have w31 : W F29 _ ((p31, .lst [.non]) :: (p3, .lst vs4_0) :: os) := w29.new n31
    obtain ⟨l32, z32, e32, hm⟩ := pn_extend hm
    have h32 : A2 (rep K F29) (us25 ++ [.non]) l32 := e32 ▸ A2.append (a2_some gg25) h30
    refine ⟨_, _, _, _, rfl, rfl, (w31.same _ _ q29), (w31.get (pre := [])), (A2.le2 (a2_some gg25) h30 z32), fun p33 n33 => ?_⟩
    have w33 : W F29 _ ((p33, .lst (us25 ++ [.non])) :: (p31, .lst [.non]) :: (p3, .lst vs4_0) :: os) := w31.new n33
    obtain ⟨t34, e34, hm⟩ := pb_get hm
    obtain ⟨u34, f34, r34⟩ := A2.at h32 e34
    have w36 : W F29 _ ((p31, .lst [.non]) :: (p3, .lst vs4_0) :: os) := w33.drop (pre := [])
    have w37 : W F29 _ ((p3, .lst vs4_0) :: os) := w36.drop (pre := [])
    have w38 : W F29 _ (os) := w37.drop (pre := [])
    exact ⟨_, _, _, _, rfl, rfl, SqL.of (w33.get (pre := [])), f34, (post_ok hm) _ _ _ w38 sF r34⟩
def sp_law_spoilt (K : Fg) : Sp := fun vs H Q E => ∃ (F : Hp) (os : List (Addr × HO)) (v__law_web_here : V) (x__law_web_here : (Int × (Tup (Int × Int)))) (a__law_purse_here : Addr) (vs__law_purse_here : List V) (x__law_purse_here : (List Int)), vs = [v__law_web_here, .ref a__law_purse_here] ∧ W F H ((a__law_purse_here, .lst vs__law_purse_here) :: os) ∧ rep K F v__law_web_here x__law_web_here ∧ A2 (rep K F) vs__law_purse_here x__law_purse_here ∧ Post (law_spoilt x__law_web_here x__law_purse_here) (RetM K F a__law_purse_here os Q) noX
theorem sc_law_spoilt : FnScope ["_law_web_here", "_law_purse_here", "_law_many", "_law_ties", "_law_rows", "_law_way", "_law_at", "_law_found", "_law_end", "_law_one", "_law_other", "_law_left", "_law_place", "_law_tie"] ["_law_web_here", "_law_purse_here"] (defScope s_law_spoilt) := ⟨rfl, rfl, rfl, by decide +kernel, rfl, by decide +kernel, by decide +kernel⟩
set_option maxHeartbeats 40000000 in
theorem ok_law_spoilt (T : Tx K mg A FD) : FnOk P w K mg base CX0 3 (A 35) (FD 35) ["_law_web_here", "_law_purse_here"] (sp_law_spoilt K) := by
  refine T.d35.fn.ok sc_law_spoilt (fun vs H Q E h => ?_) (fun cdv Ar outer s H vs Q E hr h => ?_)
  · obtain ⟨F, os, v__law_web_here, x__law_web_here, a__law_purse_here, vs__law_purse_here, x__law_purse_here, rfl, _⟩ := h
    rfl
  · obtain ⟨F0, os, v__law_web_here, x__law_web_here, a__law_purse_here, vs__law_purse_here, x__law_purse_here, rfl, w0, r__law_web_here, h__law_purse_here, hm⟩ := h
    have sF : Same F0 F0 := Same.refl _
    obtain ⟨a2, u2, z2, rfl, q2, r2a, r2b⟩ := r__law_web_here
    obtain rfl : u2 = V.int x__law_web_here.1 := r2a
    obtain ⟨a3, vs3, rfl, q3, h3⟩ := r2b
    refine ⟨_, (pss_cons (ps_asg (pv 0) (pg_k (K := K) (t := fun K => gTup K 2 _) rfl (pg_tup (n := 2) rfl (pgs_cons (pg_name (i := 2) sc_law_spoilt.nd rfl (Or.inl rfl)) (pgs_cons (pg_name (i := 3) sc_law_spoilt.nd rfl (Or.inl rfl)) pgs_nil))))) (pss_cons (ps_set (i := 4) sc_law_spoilt.nd rfl (Or.inl rfl) (pe_bm PySem.F.plainAttrs_str PySem.F.slot_str_split PySem.F.type_str_split mt_split (pe_call (ok_law_text T) (hr.mono (by decide)) (by rfl) T.d32.mg T.d32.fn.kp T.d32.b .nil pass0 (pa_cons (pv 0) pa_nil)) (pa_cons pe_str pa_nil))) (pss_cons (ps_set (i := 5) sc_law_spoilt.nd rfl (Or.inl rfl) (pe_call (ok_law_take T) (hr.mono (by decide)) (by rfl) T.d23.mg T.d23.fn.kp T.d23.b .nil pass0 (pa_cons (pv 1) (pa_cons pe_int pa_nil)))) (pss_cons (ps_set (i := 6) sc_law_spoilt.nd rfl (Or.inl rfl) (pe_call (ok_law_take T) (hr.mono (by decide)) (by rfl) T.d23.mg T.d23.fn.kp T.d23.b .nil pass0 (pa_cons (pv 1) (pa_cons (pe_op op_add (pe_callB (call_lenN (K := K) rfl) (by rfl) T.n_len (by decide +kernel) (pa_cons (pv 4) pa_nil)) pe_int) pa_nil)))) (pss_cons (ps_if (pt_cmp (pc_lt (pv 5) pe_int)) (pss_cons (ps_set (i := 7) sc_law_spoilt.nd rfl (Or.inl rfl) (pe_op op_cat (pe_op op_cat (pe_slice (sl_listK (K := K) rfl) (pv 4) po_none (po_some (pv 6))) (pe_lst (pa_cons (pe_call (ok_law_bad T) (hr.mono (by decide)) (by rfl) T.d33.mg T.d33.fn.kp T.d33.b .nil pass0 (pa_cons (pv 1) pa_nil)) pa_nil))) (pe_slice (sl_listK (K := K) rfl) (pv 4) (po_some (pe_op op_add (pv 6) (pe_op op_mod (pv 5) pe_int))) po_none))) (pss_cons (ps_if (pt_cmp (pc_eqI (pv 5) pe_int)) (pss_one (ps_expr (pe_bm PySem.F.plainAttrs_list PySem.F.slot_list_append PySem.F.type_list_append mt_append (pv 7) (pa_cons pe_str pa_nil)))) pss_nil) (pss_one (ps_ret (pe_tup (pa_cons (pv 7) (pa_cons (pe_tup (pa_cons pe_str (pa_cons (pv 6) pa_nil))) pa_nil))))))) pss_nil) (pss_cons (ps_if (pt_cmp (pc_eqI (pv 5) pe_int)) (pss_cons (ps_set (i := 6) sc_law_spoilt.nd rfl (Or.inl rfl) (pe_callB (call_min2 rfl) (by rfl) T.n_min (by decide +kernel) (pa_cons (pe_op op_add (pv 6) pe_int) (pa_cons (pe_callB (call_lenN (K := K) rfl) (by rfl) T.n_len (by decide +kernel) (pa_cons (pv 4) pa_nil)) pa_nil)))) (pss_one (ps_ret (pe_tup (pa_cons (pe_op op_cat (pe_op op_cat (pe_slice (sl_listK (K := K) rfl) (pv 4) po_none (po_some (pv 6))) (pe_lst (pa_cons (pe_op op_add_str pe_str (pe_callTy call_str_int (by rfl) T.n_str (by decide +kernel) (pa_cons (pv 2) pa_nil))) pa_nil))) (pe_slice (sl_listK (K := K) rfl) (pv 4) (po_some (pv 6)) po_none)) (pa_cons (pe_tup (pa_cons pe_str (pa_cons (pv 6) pa_nil))) pa_nil)))))) pss_nil) (pss_cons (ps_if (pt_cmp (pc_eqI (pv 5) pe_int)) (pss_cons (ps_asg (pe_op op_add_str pe_str (pe_callTy call_str_int (by rfl) T.n_str (by decide +kernel) (pa_cons (pe_ix (ix_listK (K := K) rfl) (pe_lst (pa_cons pe_int (pa_cons pe_int (pa_cons pe_int (pa_cons (pe_op op_add pe_int (pe_call (ok_law_take T) (hr.mono (by decide)) (by rfl) T.d23.mg T.d23.fn.kp T.d23.b .nil pass0 (pa_cons (pv 1) (pa_cons pe_int pa_nil)))) pa_nil))))) (pe_op op_mod (pv 6) pe_int) (fun _ _ => rfl)) pa_nil))) (pg_sub (pv 4) pe_int set_list)) (pss_one (ps_ret (pe_tup (pa_cons (pv 4) (pa_cons (pe_tup (pa_cons pe_str (pa_cons pe_int pa_nil))) pa_nil)))))) pss_nil) (pss_cons (ps_if (pt_cmp (pc_eqI (pv 5) pe_int)) (pss_cons (ps_set (i := 8) sc_law_spoilt.nd rfl (Or.inl rfl) (pe_op op_add (pv 2) (pe_call (ok_law_take T) (hr.mono (by decide)) (by rfl) T.d23.mg T.d23.fn.kp T.d23.b .nil pass0 (pa_cons (pv 1) (pa_cons (pe_op op_sub pe_int (pv 2)) pa_nil))))) (pss_one (ps_ret (pe_tup (pa_cons (pe_op op_cat (pv 4) (pe_lst (pa_cons (pe_op op_add_str (pe_op op_add_str (pe_op op_add_str pe_str (pe_callTy call_str_int (by rfl) T.n_str (by decide +kernel) (pa_cons (pe_op op_mod (pv 6) (pv 2)) pa_nil))) pe_str) (pe_callTy call_str_int (by rfl) T.n_str (by decide +kernel) (pa_cons (pv 8) pa_nil))) pa_nil))) (pa_cons (pe_tup (pa_cons pe_str (pa_cons pe_int pa_nil))) pa_nil)))))) pss_nil) (pss_cons (ps_if (pt_cmp (pc_eqI (pv 5) pe_int)) (pss_one (ps_ret (pe_tup (pa_cons (pe_op op_cat (pv 4) (pe_lst (pa_cons (pe_op op_add_str (pe_op op_add_str (pe_op op_add_str pe_str (pe_callTy call_str_int (by rfl) T.n_str (by decide +kernel) (pa_cons (pe_op op_mod (pv 6) (pv 2)) pa_nil))) pe_str) (pe_callTy call_str_int (by rfl) T.n_str (by decide +kernel) (pa_cons (pe_op op_mod (pv 6) (pv 2)) pa_nil))) pa_nil))) (pa_cons (pe_tup (pa_cons pe_str (pa_cons pe_int pa_nil))) pa_nil))))) pss_nil) (pss_cons (ps_if (PW.pt (pw_and (pt_cmp (pc_eqI (pv 5) pe_int)) (pw_and1 (pt_cmpR (op_neDt (K := K) rfl (Tup (Int × Int)) (by decide) hr.units) (pv 3) (pe_tup pa_nil) (nomark _))))) (pss_cons (ps_asg (pe_ix (ix_tupK (K := K) rfl) (pv 3) (pe_op op_mod (pv 6) (pe_callB (call_lenN (K := K) rfl) (by rfl) T.n_len (by decide +kernel) (pa_cons (pv 3) pa_nil))) (fun _ _ => rfl)) (pg_k (K := K) (t := fun K => gTup K 2 _) rfl (pg_tup (n := 2) rfl (pgs_cons (pg_name (i := 9) sc_law_spoilt.nd rfl (Or.inl rfl)) (pgs_cons (pg_name (i := 10) sc_law_spoilt.nd rfl (Or.inl rfl)) pgs_nil))))) (pss_cons (ps_if (pt_cmp (pc_eqI (pe_call (ok_law_take T) (hr.mono (by decide)) (by rfl) T.d23.mg T.d23.fn.kp T.d23.b .nil pass0 (pa_cons (pv 1) (pa_cons pe_int pa_nil))) pe_int)) (pss_one (ps_par (i := 9) (j := 10) rfl sc_law_spoilt.nd rfl rfl (by decide) rfl rfl (pa_cons (pv 10) (pa_cons (pv 9) pa_nil)) rfl)) pss_nil) (pss_one (ps_ret (pe_tup (pa_cons (pe_op op_cat (pv 4) (pe_lst (pa_cons (pe_op op_add_str (pe_op op_add_str (pe_op op_add_str pe_str (pe_callTy call_str_int (by rfl) T.n_str (by decide +kernel) (pa_cons (pv 9) pa_nil))) pe_str) (pe_callTy call_str_int (by rfl) T.n_str (by decide +kernel) (pa_cons (pv 10) pa_nil))) pa_nil))) (pa_cons (pe_tup (pa_cons pe_str (pa_cons pe_int pa_nil))) pa_nil))))))) pss_nil) (pss_cons (ps_setLc (i := 11) (own := [("_law_tie", 13)]) (g := gName 13) (by rfl) sc_law_spoilt.nd rfl rfl (sw_true rfl rfl rfl (by decide +kernel)) (pi_tupK (K := K) rfl (pv 3)) (blkOk_by (own := [("_law_tie", 13)]) (N := ["_law_web_here", "_law_purse_here", "_law_many", "_law_ties", "_law_rows", "_law_way", "_law_at", "_law_found", "_law_end", "_law_one", "_law_other", "_law_left", "_law_place", "_law_tie"]) (sc := defScope s_law_spoilt) (by decide +kernel)) (fun _ _ _ _ _ => (pg_name (i := 13) sc_law_spoilt.nd rfl (Or.inl rfl))) (fun _ _ _ _ _ => (pts_one (pt_cmp (pc_gt (pe_call (ok_law_take T) (hr.mono (by decide)) (by rfl) T.d23.mg T.d23.fn.kp T.d23.b .nil pass0 (pa_cons (pv 1) (pa_cons pe_int pa_nil))) pe_int)))) (fun _ _ _ _ _ => (pv 13))) (pss_cons (ps_set (i := 12) sc_law_spoilt.nd rfl (Or.inl rfl) (pe_call (ok_law_apart T) (hr.mono (by decide)) (by rfl) T.d34.mg T.d34.fn.kp T.d34.b .nil pass0 (pa_cons (pv 2) (pa_cons (pv 11) pa_nil)))) (pss_cons (ps_if (pt_cmpR op_isN2 (pv 12) pe_non (nomark _)) (pss_one (ps_ret (pe_tup (pa_cons (pe_bm PySem.F.plainAttrs_str PySem.F.slot_str_split PySem.F.type_str_split mt_split (pe_call (ok_law_text T) (hr.mono (by decide)) (by rfl) T.d32.mg T.d32.fn.kp T.d32.b .nil pass0 (pa_cons (pe_tup (pa_cons (pv 2) (pa_cons (pe_callTy (call_tuple_ofK (K := K) rfl) (by rfl) T.n_tuple (by decide +kernel) (pa_cons (pv 11) pa_nil)) pa_nil))) pa_nil)) (pa_cons pe_str pa_nil)) (pa_cons (pe_tup (pa_cons pe_str (pa_cons pe_int pa_nil))) pa_nil))))) pss_nil) (pss_one (ps_ret (pe_tup (pa_cons (pe_bm PySem.F.plainAttrs_str PySem.F.slot_str_split PySem.F.type_str_split mt_split (pe_call (ok_law_text T) (hr.mono (by decide)) (by rfl) T.d32.mg T.d32.fn.kp T.d32.b .nil pass0 (pa_cons (pe_tup (pa_cons (pv 2) (pa_cons (pe_callTy (call_tuple_ofK (K := K) rfl) (by rfl) T.n_tuple (by decide +kernel) (pa_cons (pv 11) pa_nil)) pa_nil))) pa_nil)) (pa_cons pe_str pa_nil)) (pa_cons (pe_tup (pa_cons pe_str (pa_cons (pv 12) pa_nil))) pa_nil)))))))))))))))))), ?_⟩
    refine ⟨_, rfl, _, _, rfl, SqT.of (w0.same _ _ q2), rfl, _, _, rfl, _, _, rfl, rfl, _, rfl, _, _, _, (x__law_web_here : (Int × (Tup (Int × Int)))), rfl, w0, (rep_pair q2 rep_i (rep_tup q3 h3)), ?_⟩
    refine (post_bind hm).mono (fun y4 hm v4 F4 H4 w4 s4 r4 => ?_) (fun _ z => z)
    replace q2 := s4 _ _ q2
    replace h3 := A2.mono s4 h3
    replace q3 := s4 _ _ q3
    replace h__law_purse_here := A2.mono s4 h__law_purse_here
    replace sF := sF.trans s4
    obtain rfl : v4 = V.str y4 := r4
    obtain ⟨c5, hm⟩ := pb_txSplit hm
    have h5 : A2 (rep K F4) ((Txt.split y4 ("
" : Str)).map V.str) (Txt.split y4 ("
" : Str)) := A2.of_strs
    refine ⟨rfl, _, _, rfl, rfl, c5.1, c5.2, fun p6 n6 => ?_⟩
    have w6 : W F4 _ ((p6, .lst ((Txt.split y4 ("
" : Str)).map V.str)) :: (a__law_purse_here, .lst vs__law_purse_here) :: os) := w4.new n6
    have w7 : W F4 _ ((a__law_purse_here, .lst vs__law_purse_here) :: (p6, .lst ((Txt.split y4 ("
" : Str)).map V.str)) :: os) := w6.front (pre := [_])
    refine ⟨_, rfl, _, _, _, _, _, _, rfl, w7, h__law_purse_here, ?_⟩
    refine (post_bind hm).mono (fun y8 hm v8 vs8 F8 H8 w8 s8 r8 h8 => ?_) (fun _ z => z)
    replace q2 := s8 _ _ q2
    replace h3 := A2.mono s8 h3
    replace q3 := s8 _ _ q3
    replace h5 := A2.mono s8 h5
    replace sF := sF.trans s8
    obtain rfl : v8 = V.int y8.1 := r8
    refine ⟨_, rfl, _, rfl, _, _, _, rfl, .inl (SqL.of (w8.get (pre := [_]))), h5.length, _, _, rfl, rfl, _, _, _, _, _, _, rfl, w8, h8, ?_⟩
    refine (post_bind hm).mono (fun y9 hm v9 vs9 F9 H9 w9 s9 r9 h9 => ?_) (fun _ z => z)
    replace q2 := s9 _ _ q2
    replace h3 := A2.mono s9 h3
    replace q3 := s9 _ _ q3
    replace h5 := A2.mono s9 h5
    replace sF := sF.trans s9
    obtain rfl : v9 = V.int y9.1 := r9
    refine ⟨_, rfl, _, _, rfl, rfl, _, rfl, ?_⟩
    refine post_ite hm (fun k10 hm => ?_) (fun k10 hm => ?_)
    · skip
      have h11 : A2 (rep K F9) (cutV ((Txt.split y4 ("
" : Str)).map V.str) none (some y9.1)) (cutL (Txt.split y4 ("
" : Str)) none (some y9.1)) := sl_cut h5 _ _
      refine ⟨_, rfl, _, rfl, _, rfl, _, _, rfl, SqL.of (w9.get (pre := [_])), fun p12 n12 => ?_⟩
      have w12 : W F9 _ ((p12, .lst (cutV ((Txt.split y4 ("
" : Str)).map V.str) none (some y9.1))) :: (a__law_purse_here, .lst vs9) :: (p6, .lst ((Txt.split y4 ("
" : Str)).map V.str)) :: os) := w9.new n12
      have w13 : W F9 _ ((a__law_purse_here, .lst vs9) :: (p12, .lst (cutV ((Txt.split y4 ("
" : Str)).map V.str) none (some y9.1))) :: (p6, .lst ((Txt.split y4 ("
" : Str)).map V.str)) :: os) := w12.front (pre := [_])
      refine ⟨_, rfl, _, _, _, _, _, rfl, w13, h9, ?_⟩
      refine (post_bind hm).mono (fun y14 hm v14 vs14 F14 H14 w14 s14 r14 h14 => ?_) (fun _ z => z)
      replace q2 := s14 _ _ q2
      replace h3 := A2.mono s14 h3
      replace q3 := s14 _ _ q3
      replace h5 := A2.mono s14 h5
      replace h11 := A2.mono s14 h11
      replace sF := sF.trans s14
      obtain rfl : v14 = V.str y14.1 := r14
      have h15 : A2 (rep K F14) [(.str y14.1)] ([y14.1] : (List Str)) := .cons rep_s (.nil)
      refine ⟨(by show 1 ≤ sizeLine; decide), fun p16 n16 => ?_⟩
      have w16 : W F14 _ ((p16, .lst [(.str y14.1)]) :: (a__law_purse_here, .lst vs14) :: (p12, .lst (cutV ((Txt.split y4 ("
" : Str)).map V.str) none (some y9.1))) :: (p6, .lst ((Txt.split y4 ("
" : Str)).map V.str)) :: os) := w14.new n16
      obtain ⟨l17, z17, e17, hm⟩ := pn_extend hm
      have h17 : A2 (rep K F14) ((cutV ((Txt.split y4 ("
" : Str)).map V.str) none (some y9.1)) ++ [(.str y14.1)]) l17 := e17 ▸ A2.append h11 h15
      refine ⟨_, _, _, _, rfl, rfl, (w16.get (pre := [_, _])), (w16.get (pre := [])), (A2.le2 h11 h15 z17), fun p18 n18 => ?_⟩
      have w18 : W F14 _ ((p18, .lst ((cutV ((Txt.split y4 ("
" : Str)).map V.str) none (some y9.1)) ++ [(.str y14.1)])) :: (p16, .lst [(.str y14.1)]) :: (a__law_purse_here, .lst vs14) :: (p12, .lst (cutV ((Txt.split y4 ("
" : Str)).map V.str) none (some y9.1))) :: (p6, .lst ((Txt.split y4 ("
" : Str)).map V.str)) :: os) := w16.new n18
      have h20 : A2 (rep K F14) (cutV ((Txt.split y4 ("
" : Str)).map V.str) (some (y9.1 + (y8.1 % (2 : Int)))) none) (cutL (Txt.split y4 ("
" : Str)) (some (y9.1 + (y8.1 % (2 : Int)))) none) := sl_cut h5 _ _
      refine ⟨_, rfl, _, rfl, _, rfl, _, _, rfl, rfl, (by show (0 : Int) < (2 : Int); decide), _, _, rfl, rfl, _, rfl, _, _, rfl, SqL.of (w18.get (pre := [_, _, _, _])), fun p21 n21 => ?_⟩
      have w21 : W F14 _ ((p21, .lst (cutV ((Txt.split y4 ("
" : Str)).map V.str) (some (y9.1 + (y8.1 % (2 : Int)))) none)) :: (p18, .lst ((cutV ((Txt.split y4 ("
" : Str)).map V.str) none (some y9.1)) ++ [(.str y14.1)])) :: (p16, .lst [(.str y14.1)]) :: (a__law_purse_here, .lst vs14) :: (p12, .lst (cutV ((Txt.split y4 ("
" : Str)).map V.str) none (some y9.1))) :: (p6, .lst ((Txt.split y4 ("
" : Str)).map V.str)) :: os) := w18.new n21
      obtain ⟨l22, z22, e22, hm⟩ := pn_extend hm
      have h22 : A2 (rep K F14) (((cutV ((Txt.split y4 ("
" : Str)).map V.str) none (some y9.1)) ++ [(.str y14.1)]) ++ (cutV ((Txt.split y4 ("
" : Str)).map V.str) (some (y9.1 + (y8.1 % (2 : Int)))) none)) l22 := e22 ▸ A2.append h17 h20
      refine ⟨_, _, _, _, rfl, rfl, (w21.get (pre := [_])), (w21.get (pre := [])), (A2.le2 h17 h20 z22), fun p23 n23 => ?_⟩
      have w23 : W F14 _ ((p23, .lst (((cutV ((Txt.split y4 ("
" : Str)).map V.str) none (some y9.1)) ++ [(.str y14.1)]) ++ (cutV ((Txt.split y4 ("
" : Str)).map V.str) (some (y9.1 + (y8.1 % (2 : Int)))) none))) :: (p21, .lst (cutV ((Txt.split y4 ("
" : Str)).map V.str) (some (y9.1 + (y8.1 % (2 : Int)))) none)) :: (p18, .lst ((cutV ((Txt.split y4 ("
" : Str)).map V.str) none (some y9.1)) ++ [(.str y14.1)])) :: (p16, .lst [(.str y14.1)]) :: (a__law_purse_here, .lst vs14) :: (p12, .lst (cutV ((Txt.split y4 ("
" : Str)).map V.str) none (some y9.1))) :: (p6, .lst ((Txt.split y4 ("
" : Str)).map V.str)) :: os) := w21.new n23
      have w24 : W F14 _ ((p23, .lst (((cutV ((Txt.split y4 ("
" : Str)).map V.str) none (some y9.1)) ++ [(.str y14.1)]) ++ (cutV ((Txt.split y4 ("
" : Str)).map V.str) (some (y9.1 + (y8.1 % (2 : Int)))) none))) :: (p18, .lst ((cutV ((Txt.split y4 ("
" : Str)).map V.str) none (some y9.1)) ++ [(.str y14.1)])) :: (p16, .lst [(.str y14.1)]) :: (a__law_purse_here, .lst vs14) :: (p12, .lst (cutV ((Txt.split y4 ("
" : Str)).map V.str) none (some y9.1))) :: (p6, .lst ((Txt.split y4 ("
" : Str)).map V.str)) :: os) := w23.drop (pre := [_])
      have w25 : W F14 _ ((p23, .lst (((cutV ((Txt.split y4 ("
" : Str)).map V.str) none (some y9.1)) ++ [(.str y14.1)]) ++ (cutV ((Txt.split y4 ("
" : Str)).map V.str) (some (y9.1 + (y8.1 % (2 : Int)))) none))) :: (p16, .lst [(.str y14.1)]) :: (a__law_purse_here, .lst vs14) :: (p12, .lst (cutV ((Txt.split y4 ("
" : Str)).map V.str) none (some y9.1))) :: (p6, .lst ((Txt.split y4 ("
" : Str)).map V.str)) :: os) := w24.drop (pre := [_])
      have w26 : W F14 _ ((p23, .lst (((cutV ((Txt.split y4 ("
" : Str)).map V.str) none (some y9.1)) ++ [(.str y14.1)]) ++ (cutV ((Txt.split y4 ("
" : Str)).map V.str) (some (y9.1 + (y8.1 % (2 : Int)))) none))) :: (a__law_purse_here, .lst vs14) :: (p12, .lst (cutV ((Txt.split y4 ("
" : Str)).map V.str) none (some y9.1))) :: (p6, .lst ((Txt.split y4 ("
" : Str)).map V.str)) :: os) := w25.drop (pre := [_])
      have w27 : W F14 _ ((p23, .lst (((cutV ((Txt.split y4 ("
" : Str)).map V.str) none (some y9.1)) ++ [(.str y14.1)]) ++ (cutV ((Txt.split y4 ("
" : Str)).map V.str) (some (y9.1 + (y8.1 % (2 : Int)))) none))) :: (a__law_purse_here, .lst vs14) :: (p6, .lst ((Txt.split y4 ("
" : Str)).map V.str)) :: os) := w26.drop (pre := [_, _])
      refine stepN ?_
      try dsimp only
      refine joinS hm (fun (g28 : (List Str)) σ H' => ∃ (F' : Hp) (vs28_0 : List V), σ = [some (.ref a2), some (.ref a__law_purse_here), some (.int x__law_web_here.1), some (.ref a3), some (.ref p6), some (.int y8.1), some (.int y9.1), some (.ref p23), none, none, none, none, none, none] ∧ Same F14 F' ∧ W F' H' ((p23, .lst vs28_0) :: (a__law_purse_here, .lst vs14) :: (p6, .lst ((Txt.split y4 ("
" : Str)).map V.str)) :: os) ∧ A2 (rep K F') vs28_0 g28) ?_ ?_
      · intro N28 P28 hN28 hm
        refine ⟨_, rfl, _, _, rfl, rfl, _, rfl, ?_⟩
        refine post_ite hm (fun k29 hm => ?_) (fun k29 hm => ?_)
        · skip
          obtain ⟨l30, z30, e30, hm⟩ := pn_app hm
          refine ⟨_, rfl, .inl ⟨rfl, _, SqL.of (w27.get (pre := []))⟩, _, _, _, rfl, rfl, (w27.get (pre := [])), (A2.lt h22 z30), ?_⟩
          have h30 : A2 (rep K F14) ((((cutV ((Txt.split y4 ("
" : Str)).map V.str) none (some y9.1)) ++ [(.str y14.1)]) ++ (cutV ((Txt.split y4 ("
" : Str)).map V.str) (some (y9.1 + (y8.1 % (2 : Int)))) none)) ++ [(V.str "tie 0 0")]) l30 := e30 ▸ A2.snoc h22 rep_s
          have w31 : W F14 _ ((p23, .lst ((((cutV ((Txt.split y4 ("
" : Str)).map V.str) none (some y9.1)) ++ [(.str y14.1)]) ++ (cutV ((Txt.split y4 ("
" : Str)).map V.str) (some (y9.1 + (y8.1 % (2 : Int)))) none)) ++ [(V.str "tie 0 0")])) :: (a__law_purse_here, .lst vs14) :: (p6, .lst ((Txt.split y4 ("
" : Str)).map V.str)) :: os) := w27.set (pre := [])
          exact hN28 _ (post_ok hm) _ _ ⟨_, _, rfl, Same.refl _, w31, h30⟩
        · skip
          exact hN28 _ (post_ok hm) _ _ ⟨_, _, rfl, Same.refl _, w27, h22⟩
      intro g28 σ28 H28 hI hm
      obtain ⟨F28, vs28_0, rfl, s28, w28, h28_0⟩ := hI
      replace q2 := s28 _ _ q2
      replace h3 := A2.mono s28 h3
      replace q3 := s28 _ _ q3
      replace h14 := A2.mono s28 h14
      replace h5 := A2.mono s28 h5
      replace sF := sF.trans s28
      refine ⟨_, rfl, _, rfl, (by show 2 ≤ sizeLine; decide), fun p32 n32 => ?_⟩
      obtain ⟨F32, s32, w32, q32⟩ := w28.frzE (o := .tup [(.str "text"), (.int y9.1)]) n32
      replace q2 := s32 _ _ q2
      replace h3 := A2.mono s32 h3
      replace q3 := s32 _ _ q3
      replace h28_0 := A2.mono s32 h28_0
      replace h14 := A2.mono s32 h14
      replace h5 := A2.mono s32 h5
      replace sF := sF.trans s32
      obtain ⟨F33, s33, w33, q33⟩ : ∃ F', Same F32 F' ∧ W F' _ ((a__law_purse_here, .lst vs14) :: (p6, .lst ((Txt.split y4 ("
" : Str)).map V.str)) :: os) ∧ F' p23 = some (.lst vs28_0) := w32.freezeE (pre := [])
      replace q2 := s33 _ _ q2
      replace h3 := A2.mono s33 h3
      replace q3 := s33 _ _ q3
      replace h28_0 := A2.mono s33 h28_0
      replace h14 := A2.mono s33 h14
      replace h5 := A2.mono s33 h5
      replace q32 := s33 _ _ q32
      replace sF := sF.trans s33
      have r34 : rep K F33 (V.ref p32) ((Tl.ap ⟨("text" : Str), by decide +kernel⟩ y9.1) : Tl) := (rep_tlA q32)
      refine ⟨(by show 2 ≤ sizeLine; decide), fun p35 n35 => ?_⟩
      obtain ⟨F35, s35, w35, q35⟩ := w33.frzE (o := .tup [(.ref p23), (.ref p32)]) n35
      replace q2 := s35 _ _ q2
      replace h3 := A2.mono s35 h3
      replace q3 := s35 _ _ q3
      replace h28_0 := A2.mono s35 h28_0
      replace h14 := A2.mono s35 h14
      replace h5 := A2.mono s35 h5
      replace q32 := s35 _ _ q32
      replace q33 := s35 _ _ q33
      replace r34 := Rep.mono s35 r34
      replace sF := sF.trans s35
      have w36 : W F35 _ ((a__law_purse_here, .lst vs14) :: os) := w35.drop (pre := [_])
      exact (post_ok hm) _ _ _ _ w36 sF (rep_pair q35 (rep_lst q33 h28_0) r34) h14
    · skip
      refine ⟨_, rfl, _, _, rfl, rfl, _, rfl, ?_⟩
      refine post_ite hm (fun k37 hm => ?_) (fun k37 hm => ?_)
      · skip
        have h38 : A2 (rep K F9) (cutV ((Txt.split y4 ("
" : Str)).map V.str) none (some (min2 (y9.1 + (1 : Int)) ((Txt.split y4 ("
" : Str)).length : Int)))) (cutL (Txt.split y4 ("
" : Str)) none (some (min2 (y9.1 + (1 : Int)) ((Txt.split y4 ("
" : Str)).length : Int)))) := sl_cut h5 _ _
        refine ⟨_, rfl, _, _, rfl, rfl, _, rfl, _, _, _, rfl, .inl (SqL.of (w9.get (pre := [_]))), h5.length, _, _, rfl, _, rfl, _, rfl, _, rfl, _, _, rfl, SqL.of (w9.get (pre := [_])), fun p39 n39 => ?_⟩
        have w39 : W F9 _ ((p39, .lst (cutV ((Txt.split y4 ("
" : Str)).map V.str) none (some (min2 (y9.1 + (1 : Int)) ((Txt.split y4 ("
" : Str)).length : Int))))) :: (a__law_purse_here, .lst vs9) :: (p6, .lst ((Txt.split y4 ("
" : Str)).map V.str)) :: os) := w9.new n39
        obtain ⟨c40, hm⟩ := pb_txNum hm
        obtain ⟨c41, hm⟩ := pb_txAdd hm
        have h42 : A2 (rep K F9) [(.str (("places " : Str) ++ (Str.ofString (toString x__law_web_here.1))))] ([(("places " : Str) ++ (Str.ofString (toString x__law_web_here.1)))] : (List Str)) := .cons rep_s (.nil)
        refine ⟨_, rfl, _, rfl, c40, _, _, rfl, rfl, c41, (by show 1 ≤ sizeLine; decide), fun p43 n43 => ?_⟩
        have w43 : W F9 _ ((p43, .lst [(.str (("places " : Str) ++ (Str.ofString (toString x__law_web_here.1))))]) :: (p39, .lst (cutV ((Txt.split y4 ("
" : Str)).map V.str) none (some (min2 (y9.1 + (1 : Int)) ((Txt.split y4 ("
" : Str)).length : Int))))) :: (a__law_purse_here, .lst vs9) :: (p6, .lst ((Txt.split y4 ("
" : Str)).map V.str)) :: os) := w39.new n43
        obtain ⟨l44, z44, e44, hm⟩ := pn_extend hm
        have h44 : A2 (rep K F9) ((cutV ((Txt.split y4 ("
" : Str)).map V.str) none (some (min2 (y9.1 + (1 : Int)) ((Txt.split y4 ("
" : Str)).length : Int)))) ++ [(.str (("places " : Str) ++ (Str.ofString (toString x__law_web_here.1))))]) l44 := e44 ▸ A2.append h38 h42
        refine ⟨_, _, _, _, rfl, rfl, (w43.get (pre := [_])), (w43.get (pre := [])), (A2.le2 h38 h42 z44), fun p45 n45 => ?_⟩
        have w45 : W F9 _ ((p45, .lst ((cutV ((Txt.split y4 ("
" : Str)).map V.str) none (some (min2 (y9.1 + (1 : Int)) ((Txt.split y4 ("
" : Str)).length : Int)))) ++ [(.str (("places " : Str) ++ (Str.ofString (toString x__law_web_here.1))))])) :: (p43, .lst [(.str (("places " : Str) ++ (Str.ofString (toString x__law_web_here.1))))]) :: (p39, .lst (cutV ((Txt.split y4 ("
" : Str)).map V.str) none (some (min2 (y9.1 + (1 : Int)) ((Txt.split y4 ("
" : Str)).length : Int))))) :: (a__law_purse_here, .lst vs9) :: (p6, .lst ((Txt.split y4 ("
" : Str)).map V.str)) :: os) := w43.new n45
        have h46 : A2 (rep K F9) (cutV ((Txt.split y4 ("
" : Str)).map V.str) (some (min2 (y9.1 + (1 : Int)) ((Txt.split y4 ("
" : Str)).length : Int))) none) (cutL (Txt.split y4 ("
" : Str)) (some (min2 (y9.1 + (1 : Int)) ((Txt.split y4 ("
" : Str)).length : Int))) none) := sl_cut h5 _ _
        refine ⟨_, rfl, _, rfl, _, rfl, _, _, rfl, SqL.of (w45.get (pre := [_, _, _, _])), fun p47 n47 => ?_⟩
        have w47 : W F9 _ ((p47, .lst (cutV ((Txt.split y4 ("
" : Str)).map V.str) (some (min2 (y9.1 + (1 : Int)) ((Txt.split y4 ("
" : Str)).length : Int))) none)) :: (p45, .lst ((cutV ((Txt.split y4 ("
" : Str)).map V.str) none (some (min2 (y9.1 + (1 : Int)) ((Txt.split y4 ("
" : Str)).length : Int)))) ++ [(.str (("places " : Str) ++ (Str.ofString (toString x__law_web_here.1))))])) :: (p43, .lst [(.str (("places " : Str) ++ (Str.ofString (toString x__law_web_here.1))))]) :: (p39, .lst (cutV ((Txt.split y4 ("
" : Str)).map V.str) none (some (min2 (y9.1 + (1 : Int)) ((Txt.split y4 ("
" : Str)).length : Int))))) :: (a__law_purse_here, .lst vs9) :: (p6, .lst ((Txt.split y4 ("
" : Str)).map V.str)) :: os) := w45.new n47
        obtain ⟨l48, z48, e48, hm⟩ := pn_extend hm
        have h48 : A2 (rep K F9) (((cutV ((Txt.split y4 ("
" : Str)).map V.str) none (some (min2 (y9.1 + (1 : Int)) ((Txt.split y4 ("
" : Str)).length : Int)))) ++ [(.str (("places " : Str) ++ (Str.ofString (toString x__law_web_here.1))))]) ++ (cutV ((Txt.split y4 ("
" : Str)).map V.str) (some (min2 (y9.1 + (1 : Int)) ((Txt.split y4 ("
" : Str)).length : Int))) none)) l48 := e48 ▸ A2.append h44 h46
        refine ⟨_, _, _, _, rfl, rfl, (w47.get (pre := [_])), (w47.get (pre := [])), (A2.le2 h44 h46 z48), fun p49 n49 => ?_⟩
        have w49 : W F9 _ ((p49, .lst (((cutV ((Txt.split y4 ("
" : Str)).map V.str) none (some (min2 (y9.1 + (1 : Int)) ((Txt.split y4 ("
" : Str)).length : Int)))) ++ [(.str (("places " : Str) ++ (Str.ofString (toString x__law_web_here.1))))]) ++ (cutV ((Txt.split y4 ("
" : Str)).map V.str) (some (min2 (y9.1 + (1 : Int)) ((Txt.split y4 ("
" : Str)).length : Int))) none))) :: (p47, .lst (cutV ((Txt.split y4 ("
" : Str)).map V.str) (some (min2 (y9.1 + (1 : Int)) ((Txt.split y4 ("
" : Str)).length : Int))) none)) :: (p45, .lst ((cutV ((Txt.split y4 ("
" : Str)).map V.str) none (some (min2 (y9.1 + (1 : Int)) ((Txt.split y4 ("
" : Str)).length : Int)))) ++ [(.str (("places " : Str) ++ (Str.ofString (toString x__law_web_here.1))))])) :: (p43, .lst [(.str (("places " : Str) ++ (Str.ofString (toString x__law_web_here.1))))]) :: (p39, .lst (cutV ((Txt.split y4 ("
" : Str)).map V.str) none (some (min2 (y9.1 + (1 : Int)) ((Txt.split y4 ("
" : Str)).length : Int))))) :: (a__law_purse_here, .lst vs9) :: (p6, .lst ((Txt.split y4 ("
" : Str)).map V.str)) :: os) := w47.new n49
        refine ⟨_, rfl, (by show 2 ≤ sizeLine; decide), fun p50 n50 => ?_⟩
        obtain ⟨F50, s50, w50, q50⟩ := w49.frzE (o := .tup [(.str "text"), (.int (min2 (y9.1 + (1 : Int)) ((Txt.split y4 ("
" : Str)).length : Int)))]) n50
        replace q2 := s50 _ _ q2
        replace h3 := A2.mono s50 h3
        replace q3 := s50 _ _ q3
        replace h9 := A2.mono s50 h9
        replace h5 := A2.mono s50 h5
        replace h38 := A2.mono s50 h38
        replace h42 := A2.mono s50 h42
        replace h44 := A2.mono s50 h44
        replace h46 := A2.mono s50 h46
        replace h48 := A2.mono s50 h48
        replace sF := sF.trans s50
        obtain ⟨F51, s51, w51, q51⟩ : ∃ F', Same F50 F' ∧ W F' _ ((p47, .lst (cutV ((Txt.split y4 ("
" : Str)).map V.str) (some (min2 (y9.1 + (1 : Int)) ((Txt.split y4 ("
" : Str)).length : Int))) none)) :: (p45, .lst ((cutV ((Txt.split y4 ("
" : Str)).map V.str) none (some (min2 (y9.1 + (1 : Int)) ((Txt.split y4 ("
" : Str)).length : Int)))) ++ [(.str (("places " : Str) ++ (Str.ofString (toString x__law_web_here.1))))])) :: (p43, .lst [(.str (("places " : Str) ++ (Str.ofString (toString x__law_web_here.1))))]) :: (p39, .lst (cutV ((Txt.split y4 ("
" : Str)).map V.str) none (some (min2 (y9.1 + (1 : Int)) ((Txt.split y4 ("
" : Str)).length : Int))))) :: (a__law_purse_here, .lst vs9) :: (p6, .lst ((Txt.split y4 ("
" : Str)).map V.str)) :: os) ∧ F' p49 = some (.lst (((cutV ((Txt.split y4 ("
" : Str)).map V.str) none (some (min2 (y9.1 + (1 : Int)) ((Txt.split y4 ("
" : Str)).length : Int)))) ++ [(.str (("places " : Str) ++ (Str.ofString (toString x__law_web_here.1))))]) ++ (cutV ((Txt.split y4 ("
" : Str)).map V.str) (some (min2 (y9.1 + (1 : Int)) ((Txt.split y4 ("
" : Str)).length : Int))) none))) := w50.freezeE (pre := [])
        replace q2 := s51 _ _ q2
        replace h3 := A2.mono s51 h3
        replace q3 := s51 _ _ q3
        replace h9 := A2.mono s51 h9
        replace h5 := A2.mono s51 h5
        replace h38 := A2.mono s51 h38
        replace h42 := A2.mono s51 h42
        replace h44 := A2.mono s51 h44
        replace h46 := A2.mono s51 h46
        replace h48 := A2.mono s51 h48
        replace q50 := s51 _ _ q50
        replace sF := sF.trans s51
        have r52 : rep K F51 (V.ref p50) ((Tl.ap ⟨("text" : Str), by decide +kernel⟩ (min2 (y9.1 + (1 : Int)) ((Txt.split y4 ("
" : Str)).length : Int))) : Tl) := (rep_tlA q50)
        refine ⟨(by show 2 ≤ sizeLine; decide), fun p53 n53 => ?_⟩
        obtain ⟨F53, s53, w53, q53⟩ := w51.frzE (o := .tup [(.ref p49), (.ref p50)]) n53
        replace q2 := s53 _ _ q2
        replace h3 := A2.mono s53 h3
        replace q3 := s53 _ _ q3
        replace h9 := A2.mono s53 h9
        replace h5 := A2.mono s53 h5
        replace h38 := A2.mono s53 h38
        replace h42 := A2.mono s53 h42
        replace h44 := A2.mono s53 h44
        replace h46 := A2.mono s53 h46
        replace h48 := A2.mono s53 h48
        replace q50 := s53 _ _ q50
        replace q51 := s53 _ _ q51
        replace r52 := Rep.mono s53 r52
        replace sF := sF.trans s53
        have w54 : W F53 _ ((p45, .lst ((cutV ((Txt.split y4 ("
" : Str)).map V.str) none (some (min2 (y9.1 + (1 : Int)) ((Txt.split y4 ("
" : Str)).length : Int)))) ++ [(.str (("places " : Str) ++ (Str.ofString (toString x__law_web_here.1))))])) :: (p43, .lst [(.str (("places " : Str) ++ (Str.ofString (toString x__law_web_here.1))))]) :: (p39, .lst (cutV ((Txt.split y4 ("
" : Str)).map V.str) none (some (min2 (y9.1 + (1 : Int)) ((Txt.split y4 ("
" : Str)).length : Int))))) :: (a__law_purse_here, .lst vs9) :: (p6, .lst ((Txt.split y4 ("
" : Str)).map V.str)) :: os) := w53.drop (pre := [])
        have w55 : W F53 _ ((p43, .lst [(.str (("places " : Str) ++ (Str.ofString (toString x__law_web_here.1))))]) :: (p39, .lst (cutV ((Txt.split y4 ("
" : Str)).map V.str) none (some (min2 (y9.1 + (1 : Int)) ((Txt.split y4 ("
" : Str)).length : Int))))) :: (a__law_purse_here, .lst vs9) :: (p6, .lst ((Txt.split y4 ("
" : Str)).map V.str)) :: os) := w54.drop (pre := [])
        have w56 : W F53 _ ((p39, .lst (cutV ((Txt.split y4 ("
" : Str)).map V.str) none (some (min2 (y9.1 + (1 : Int)) ((Txt.split y4 ("
" : Str)).length : Int))))) :: (a__law_purse_here, .lst vs9) :: (p6, .lst ((Txt.split y4 ("
" : Str)).map V.str)) :: os) := w55.drop (pre := [])
        have w57 : W F53 _ ((a__law_purse_here, .lst vs9) :: (p6, .lst ((Txt.split y4 ("
" : Str)).map V.str)) :: os) := w56.drop (pre := [])
        have w58 : W F53 _ ((a__law_purse_here, .lst vs9) :: os) := w57.drop (pre := [_])
        exact (post_ok hm) _ _ _ _ w58 sF (rep_pair q53 (rep_lst q51 h48) r52) h9
      · skip
        refine ⟨_, rfl, _, _, rfl, rfl, _, rfl, ?_⟩
        refine post_ite hm (fun k59 hm => ?_) (fun k59 hm => ?_)
        · skip
          refine ⟨_, rfl, _, _, _, _, _, _, rfl, w9, h9, ?_⟩
          refine (post_bind hm).mono (fun y60 hm v60 vs60 F60 H60 w60 s60 r60 h60 => ?_) (fun _ z => z)
          replace q2 := s60 _ _ q2
          replace h3 := A2.mono s60 h3
          replace q3 := s60 _ _ q3
          replace h5 := A2.mono s60 h5
          replace sF := sF.trans s60
          obtain rfl : v60 = V.int y60.1 := r60
          have h61 : A2 (rep K F60) [(.int 0), (.int 61), (.int 999), (.int ((62 : Int) + y60.1))] ([(0 : Int), (61 : Int), (999 : Int), ((62 : Int) + y60.1)] : (List Int)) := .cons rep_i (.cons rep_i (.cons rep_i (.cons rep_i (.nil))))
          refine ⟨_, _, rfl, rfl, (by show 4 ≤ sizeLine; decide), fun p62 n62 => ?_⟩
          have w62 : W F60 _ ((p62, .lst [(.int 0), (.int 61), (.int 999), (.int ((62 : Int) + y60.1))]) :: (a__law_purse_here, .lst vs60) :: (p6, .lst ((Txt.split y4 ("
" : Str)).map V.str)) :: os) := w60.new n62
          obtain ⟨t64, e64, hm⟩ := pb_get hm
          obtain ⟨u64, f64, r64⟩ := A2.at h61 e64
          obtain rfl : u64 = V.int t64 := r64
          obtain ⟨c65, hm⟩ := pb_txNum hm
          obtain ⟨c66, hm⟩ := pb_txAdd hm
          obtain ⟨j67, l67, z67, e67, hm⟩ := pn_set hm
          refine ⟨_, rfl, _, _, rfl, rfl, (by show (0 : Int) < (4 : Int); decide), _, _, _, _, rfl, rfl, SqL.of (w62.get (pre := [])), f64, _, rfl, c65, _, _, rfl, rfl, c66, _, rfl, _, _, _, _, rfl, rfl, (w62.get (pre := [_, _])), (A2.ix h5 z67), ?_⟩
          have h67 : A2 (rep K F60) (((Txt.split y4 ("
" : Str)).map V.str).set j67 (V.str (("places " : Str) ++ (Str.ofString (toString t64))))) l67 := e67 ▸ A2.set rep_s j67 h5
          have w68 : W F60 _ ((p62, .lst [(.int 0), (.int 61), (.int 999), (.int ((62 : Int) + y60.1))]) :: (a__law_purse_here, .lst vs60) :: (p6, .lst (((Txt.split y4 ("
" : Str)).map V.str).set j67 (V.str (("places " : Str) ++ (Str.ofString (toString t64)))))) :: os) := w62.set (pre := [_, _])
          refine ⟨_, rfl, (by show 2 ≤ sizeLine; decide), fun p69 n69 => ?_⟩
          obtain ⟨F69, s69, w69, q69⟩ := w68.frzE (o := .tup [(.str "web"), (.int 0)]) n69
          replace q2 := s69 _ _ q2
          replace h3 := A2.mono s69 h3
          replace q3 := s69 _ _ q3
          replace h61 := A2.mono s69 h61
          replace h60 := A2.mono s69 h60
          replace h67 := A2.mono s69 h67
          replace sF := sF.trans s69
          obtain ⟨F70, s70, w70, q70⟩ : ∃ F', Same F69 F' ∧ W F' _ ((p62, .lst [(.int 0), (.int 61), (.int 999), (.int ((62 : Int) + y60.1))]) :: (a__law_purse_here, .lst vs60) :: os) ∧ F' p6 = some (.lst (((Txt.split y4 ("
" : Str)).map V.str).set j67 (V.str (("places " : Str) ++ (Str.ofString (toString t64)))))) := w69.freezeE (pre := [_, _])
          replace q2 := s70 _ _ q2
          replace h3 := A2.mono s70 h3
          replace q3 := s70 _ _ q3
          replace h61 := A2.mono s70 h61
          replace h60 := A2.mono s70 h60
          replace h67 := A2.mono s70 h67
          replace q69 := s70 _ _ q69
          replace sF := sF.trans s70
          have r71 : rep K F70 (V.ref p69) ((Tl.ap ⟨("web" : Str), by decide +kernel⟩ (0 : Int)) : Tl) := (rep_tlA q69)
          refine ⟨(by show 2 ≤ sizeLine; decide), fun p72 n72 => ?_⟩
          obtain ⟨F72, s72, w72, q72⟩ := w70.frzE (o := .tup [(.ref p6), (.ref p69)]) n72
          replace q2 := s72 _ _ q2
          replace h3 := A2.mono s72 h3
          replace q3 := s72 _ _ q3
          replace h61 := A2.mono s72 h61
          replace h60 := A2.mono s72 h60
          replace h67 := A2.mono s72 h67
          replace q69 := s72 _ _ q69
          replace q70 := s72 _ _ q70
          replace r71 := Rep.mono s72 r71
          replace sF := sF.trans s72
          have w73 : W F72 _ ((a__law_purse_here, .lst vs60) :: os) := w72.drop (pre := [])
          exact (post_ok hm) _ _ _ _ w73 sF (rep_pair q72 (rep_lst q70 h67) r71) h60
        · skip
          refine ⟨_, rfl, _, _, rfl, rfl, _, rfl, ?_⟩
          refine post_ite hm (fun k74 hm => ?_) (fun k74 hm => ?_)
          · skip
            refine ⟨_, rfl, _, rfl, _, rfl, _, _, rfl, rfl, _, _, _, _, _, _, rfl, w9, h9, ?_⟩
            refine (post_bind hm).mono (fun y75 hm v75 vs75 F75 H75 w75 s75 r75 h75 => ?_) (fun _ z => z)
            replace q2 := s75 _ _ q2
            replace h3 := A2.mono s75 h3
            replace q3 := s75 _ _ q3
            replace h5 := A2.mono s75 h5
            replace sF := sF.trans s75
            obtain rfl : v75 = V.int y75.1 := r75
            obtain ⟨c76, hm⟩ := pb_mod hm
            obtain ⟨c77, hm⟩ := pb_txNum hm
            obtain ⟨c78, hm⟩ := pb_txAdd hm
            obtain ⟨c79, hm⟩ := pb_txAdd hm
            obtain ⟨c80, hm⟩ := pb_txNum hm
            obtain ⟨c81, hm⟩ := pb_txAdd hm
            have h82 : A2 (rep K F75) [(.str (((("tie " : Str) ++ (Str.ofString (toString (y9.1 % x__law_web_here.1)))) ++ (" " : Str)) ++ (Str.ofString (toString (x__law_web_here.1 + y75.1)))))] ([(((("tie " : Str) ++ (Str.ofString (toString (y9.1 % x__law_web_here.1)))) ++ (" " : Str)) ++ (Str.ofString (toString (x__law_web_here.1 + y75.1))))] : (List Str)) := .cons rep_s (.nil)
            refine ⟨_, _, rfl, rfl, _, rfl, _, rfl, _, rfl, _, _, rfl, rfl, c76, _, rfl, c77, _, _, rfl, rfl, c78, _, _, rfl, rfl, c79, _, rfl, _, rfl, c80, _, _, rfl, rfl, c81, (by show 1 ≤ sizeLine; decide), fun p83 n83 => ?_⟩
            have w83 : W F75 _ ((p83, .lst [(.str (((("tie " : Str) ++ (Str.ofString (toString (y9.1 % x__law_web_here.1)))) ++ (" " : Str)) ++ (Str.ofString (toString (x__law_web_here.1 + y75.1)))))]) :: (a__law_purse_here, .lst vs75) :: (p6, .lst ((Txt.split y4 ("
" : Str)).map V.str)) :: os) := w75.new n83
            obtain ⟨l84, z84, e84, hm⟩ := pn_extend hm
            have h84 : A2 (rep K F75) (((Txt.split y4 ("
" : Str)).map V.str) ++ [(.str (((("tie " : Str) ++ (Str.ofString (toString (y9.1 % x__law_web_here.1)))) ++ (" " : Str)) ++ (Str.ofString (toString (x__law_web_here.1 + y75.1)))))]) l84 := e84 ▸ A2.append h5 h82
            refine ⟨_, _, _, _, rfl, rfl, (w83.get (pre := [_, _])), (w83.get (pre := [])), (A2.le2 h5 h82 z84), fun p85 n85 => ?_⟩
            have w85 : W F75 _ ((p85, .lst (((Txt.split y4 ("
" : Str)).map V.str) ++ [(.str (((("tie " : Str) ++ (Str.ofString (toString (y9.1 % x__law_web_here.1)))) ++ (" " : Str)) ++ (Str.ofString (toString (x__law_web_here.1 + y75.1)))))])) :: (p83, .lst [(.str (((("tie " : Str) ++ (Str.ofString (toString (y9.1 % x__law_web_here.1)))) ++ (" " : Str)) ++ (Str.ofString (toString (x__law_web_here.1 + y75.1)))))]) :: (a__law_purse_here, .lst vs75) :: (p6, .lst ((Txt.split y4 ("
" : Str)).map V.str)) :: os) := w83.new n85
            refine ⟨(by show 2 ≤ sizeLine; decide), fun p86 n86 => ?_⟩
            obtain ⟨F86, s86, w86, q86⟩ := w85.frzE (o := .tup [(.str "web"), (.int 0)]) n86
            replace q2 := s86 _ _ q2
            replace h3 := A2.mono s86 h3
            replace q3 := s86 _ _ q3
            replace h75 := A2.mono s86 h75
            replace h5 := A2.mono s86 h5
            replace h82 := A2.mono s86 h82
            replace h84 := A2.mono s86 h84
            replace sF := sF.trans s86
            obtain ⟨F87, s87, w87, q87⟩ : ∃ F', Same F86 F' ∧ W F' _ ((p83, .lst [(.str (((("tie " : Str) ++ (Str.ofString (toString (y9.1 % x__law_web_here.1)))) ++ (" " : Str)) ++ (Str.ofString (toString (x__law_web_here.1 + y75.1)))))]) :: (a__law_purse_here, .lst vs75) :: (p6, .lst ((Txt.split y4 ("
" : Str)).map V.str)) :: os) ∧ F' p85 = some (.lst (((Txt.split y4 ("
" : Str)).map V.str) ++ [(.str (((("tie " : Str) ++ (Str.ofString (toString (y9.1 % x__law_web_here.1)))) ++ (" " : Str)) ++ (Str.ofString (toString (x__law_web_here.1 + y75.1)))))])) := w86.freezeE (pre := [])
            replace q2 := s87 _ _ q2
            replace h3 := A2.mono s87 h3
            replace q3 := s87 _ _ q3
            replace h75 := A2.mono s87 h75
            replace h5 := A2.mono s87 h5
            replace h82 := A2.mono s87 h82
            replace h84 := A2.mono s87 h84
            replace q86 := s87 _ _ q86
            replace sF := sF.trans s87
            have r88 : rep K F87 (V.ref p86) ((Tl.ap ⟨("web" : Str), by decide +kernel⟩ (0 : Int)) : Tl) := (rep_tlA q86)
            refine ⟨(by show 2 ≤ sizeLine; decide), fun p89 n89 => ?_⟩
            obtain ⟨F89, s89, w89, q89⟩ := w87.frzE (o := .tup [(.ref p85), (.ref p86)]) n89
            replace q2 := s89 _ _ q2
            replace h3 := A2.mono s89 h3
            replace q3 := s89 _ _ q3
            replace h75 := A2.mono s89 h75
            replace h5 := A2.mono s89 h5
            replace h82 := A2.mono s89 h82
            replace h84 := A2.mono s89 h84
            replace q86 := s89 _ _ q86
            replace q87 := s89 _ _ q87
            replace r88 := Rep.mono s89 r88
            replace sF := sF.trans s89
            have w90 : W F89 _ ((a__law_purse_here, .lst vs75) :: (p6, .lst ((Txt.split y4 ("
" : Str)).map V.str)) :: os) := w89.drop (pre := [])
            have w91 : W F89 _ ((a__law_purse_here, .lst vs75) :: os) := w90.drop (pre := [_])
            exact (post_ok hm) _ _ _ _ w91 sF (rep_pair q89 (rep_lst q87 h84) r88) h75
          · skip
            refine ⟨_, rfl, _, _, rfl, rfl, _, rfl, ?_⟩
            refine post_ite hm (fun k92 hm => ?_) (fun k92 hm => ?_)
            · skip
              obtain ⟨c93, hm⟩ := pb_mod hm
              obtain ⟨c94, hm⟩ := pb_txNum hm
              obtain ⟨c95, hm⟩ := pb_txAdd hm
              obtain ⟨c96, hm⟩ := pb_txAdd hm
              obtain ⟨c97, hm⟩ := pb_mod hm
              obtain ⟨c98, hm⟩ := pb_txNum hm
              obtain ⟨c99, hm⟩ := pb_txAdd hm
              have h100 : A2 (rep K F9) [(.str (((("tie " : Str) ++ (Str.ofString (toString (y9.1 % x__law_web_here.1)))) ++ (" " : Str)) ++ (Str.ofString (toString (y9.1 % x__law_web_here.1)))))] ([(((("tie " : Str) ++ (Str.ofString (toString (y9.1 % x__law_web_here.1)))) ++ (" " : Str)) ++ (Str.ofString (toString (y9.1 % x__law_web_here.1))))] : (List Str)) := .cons rep_s (.nil)
              refine ⟨_, rfl, _, rfl, _, rfl, _, _, rfl, rfl, c93, _, rfl, c94, _, _, rfl, rfl, c95, _, _, rfl, rfl, c96, _, rfl, _, rfl, _, _, rfl, rfl, c97, _, rfl, c98, _, _, rfl, rfl, c99, (by show 1 ≤ sizeLine; decide), fun p101 n101 => ?_⟩
              have w101 : W F9 _ ((p101, .lst [(.str (((("tie " : Str) ++ (Str.ofString (toString (y9.1 % x__law_web_here.1)))) ++ (" " : Str)) ++ (Str.ofString (toString (y9.1 % x__law_web_here.1)))))]) :: (a__law_purse_here, .lst vs9) :: (p6, .lst ((Txt.split y4 ("
" : Str)).map V.str)) :: os) := w9.new n101
              obtain ⟨l102, z102, e102, hm⟩ := pn_extend hm
              have h102 : A2 (rep K F9) (((Txt.split y4 ("
" : Str)).map V.str) ++ [(.str (((("tie " : Str) ++ (Str.ofString (toString (y9.1 % x__law_web_here.1)))) ++ (" " : Str)) ++ (Str.ofString (toString (y9.1 % x__law_web_here.1)))))]) l102 := e102 ▸ A2.append h5 h100
              refine ⟨_, _, _, _, rfl, rfl, (w101.get (pre := [_, _])), (w101.get (pre := [])), (A2.le2 h5 h100 z102), fun p103 n103 => ?_⟩
              have w103 : W F9 _ ((p103, .lst (((Txt.split y4 ("
" : Str)).map V.str) ++ [(.str (((("tie " : Str) ++ (Str.ofString (toString (y9.1 % x__law_web_here.1)))) ++ (" " : Str)) ++ (Str.ofString (toString (y9.1 % x__law_web_here.1)))))])) :: (p101, .lst [(.str (((("tie " : Str) ++ (Str.ofString (toString (y9.1 % x__law_web_here.1)))) ++ (" " : Str)) ++ (Str.ofString (toString (y9.1 % x__law_web_here.1)))))]) :: (a__law_purse_here, .lst vs9) :: (p6, .lst ((Txt.split y4 ("
" : Str)).map V.str)) :: os) := w101.new n103
              refine ⟨(by show 2 ≤ sizeLine; decide), fun p104 n104 => ?_⟩
              obtain ⟨F104, s104, w104, q104⟩ := w103.frzE (o := .tup [(.str "web"), (.int 0)]) n104
              replace q2 := s104 _ _ q2
              replace h3 := A2.mono s104 h3
              replace q3 := s104 _ _ q3
              replace h9 := A2.mono s104 h9
              replace h5 := A2.mono s104 h5
              replace h100 := A2.mono s104 h100
              replace h102 := A2.mono s104 h102
              replace sF := sF.trans s104
              obtain ⟨F105, s105, w105, q105⟩ : ∃ F', Same F104 F' ∧ W F' _ ((p101, .lst [(.str (((("tie " : Str) ++ (Str.ofString (toString (y9.1 % x__law_web_here.1)))) ++ (" " : Str)) ++ (Str.ofString (toString (y9.1 % x__law_web_here.1)))))]) :: (a__law_purse_here, .lst vs9) :: (p6, .lst ((Txt.split y4 ("
" : Str)).map V.str)) :: os) ∧ F' p103 = some (.lst (((Txt.split y4 ("
" : Str)).map V.str) ++ [(.str (((("tie " : Str) ++ (Str.ofString (toString (y9.1 % x__law_web_here.1)))) ++ (" " : Str)) ++ (Str.ofString (toString (y9.1 % x__law_web_here.1)))))])) := w104.freezeE (pre := [])
              replace q2 := s105 _ _ q2
              replace h3 := A2.mono s105 h3
              replace q3 := s105 _ _ q3
              replace h9 := A2.mono s105 h9
              replace h5 := A2.mono s105 h5
              replace h100 := A2.mono s105 h100
              replace h102 := A2.mono s105 h102
              replace q104 := s105 _ _ q104
              replace sF := sF.trans s105
              have r106 : rep K F105 (V.ref p104) ((Tl.ap ⟨("web" : Str), by decide +kernel⟩ (0 : Int)) : Tl) := (rep_tlA q104)
              refine ⟨(by show 2 ≤ sizeLine; decide), fun p107 n107 => ?_⟩
              obtain ⟨F107, s107, w107, q107⟩ := w105.frzE (o := .tup [(.ref p103), (.ref p104)]) n107
              replace q2 := s107 _ _ q2
              replace h3 := A2.mono s107 h3
              replace q3 := s107 _ _ q3
              replace h9 := A2.mono s107 h9
              replace h5 := A2.mono s107 h5
              replace h100 := A2.mono s107 h100
              replace h102 := A2.mono s107 h102
              replace q104 := s107 _ _ q104
              replace q105 := s107 _ _ q105
              replace r106 := Rep.mono s107 r106
              replace sF := sF.trans s107
              have w108 : W F107 _ ((a__law_purse_here, .lst vs9) :: (p6, .lst ((Txt.split y4 ("
" : Str)).map V.str)) :: os) := w107.drop (pre := [])
              have w109 : W F107 _ ((a__law_purse_here, .lst vs9) :: os) := w108.drop (pre := [_])
              exact (post_ok hm) _ _ _ _ w109 sF (rep_pair q107 (rep_lst q105 h102) r106) h9
            · skip
              refine stepX ?_
              try dsimp only
              refine stepSeq (stepIf ?_)
              refine cutT (fun c H' => c = (((decide (y8.1 = (9 : Int))) && (!decide (x__law_web_here.2 = (Tup.mk [] : (Tup (Int × Int))))))) ∧ ∃ F', Same F9 F' ∧ W F' H' ((a__law_purse_here, .lst vs9) :: (p6, .lst ((Txt.split y4 ("
" : Str)).map V.str)) :: os)) (fun Q110 q110 => ?_) (fun c110 H110 hc110 => ?_)
              · -- the ways
                refine ⟨_, rfl, _, _, rfl, rfl, _, rfl, ?_⟩
                refine ifB (fun k111 => ?_) (fun k111 => ?_)
                · skip
                  have h112 : A2 (rep K F9) [] (Tup.mk [] : (Tup (Int × Int))).l := .nil
                  refine ⟨_, rfl, (by show 0 ≤ sizeLine; decide), fun p113 n113 => ?_⟩
                  obtain ⟨F113, s113, w113, q113⟩ := w9.frzE (o := .tup []) n113
                  replace q2 := s113 _ _ q2
                  replace h3 := A2.mono s113 h3
                  replace q3 := s113 _ _ q3
                  replace h9 := A2.mono s113 h9
                  replace h5 := A2.mono s113 h5
                  replace h112 := A2.mono s113 h112
                  replace sF := sF.trans s113
                  exact ⟨(x__law_web_here.2 : (Tup (Int × Int))), ((Tup.mk [] : (Tup (Int × Int))) : (Tup (Int × Int))), (Rep.mono w113.same (rep_tup q3 h3)), (Rep.mono w113.same (rep_tup q113 h112)), _, rfl, q110 _ _ ⟨(by first | rfl | exact absurd k111 (by decide) | (simp [k111]; done) | ((try simp only [Bool.not_eq_true] at k111); simp only [k111, Bool.true_or, Bool.false_or, Bool.or_false, Bool.or_true, Bool.true_and, Bool.false_and, Bool.and_true, Bool.and_false])), _, s113, w113⟩⟩
                · skip
                  exact q110 _ _ ⟨(by first | rfl | exact absurd k111 (by decide) | (simp [k111]; done) | ((try simp only [Bool.not_eq_true] at k111); simp only [k111, Bool.true_or, Bool.false_or, Bool.or_false, Bool.or_true, Bool.true_and, Bool.false_and, Bool.and_true, Bool.and_false])), _, Same.refl _, w9⟩
              obtain ⟨rfl, F110, s110, w110⟩ := hc110
              replace q2 := s110 _ _ q2
              replace h3 := A2.mono s110 h3
              replace q3 := s110 _ _ q3
              replace h9 := A2.mono s110 h9
              replace h5 := A2.mono s110 h5
              replace sF := sF.trans s110
              refine post_ite hm (fun k116 hm => ?_) (fun k116 hm => ?_)
              · skip
                obtain ⟨c117, hm⟩ := pb_mod hm
                obtain ⟨t118, e118, hm⟩ := pb_get hm
                obtain ⟨u118, f118, r118⟩ := A2.at h3 e118
                obtain ⟨a119, u119, z119, rfl, q119, r119a, r119b⟩ := r118
                obtain rfl : u119 = V.int t118.1 := r119a
                obtain rfl : z119 = V.int t118.2 := r119b
                refine ⟨_, rfl, _, rfl, _, rfl, _, _, _, rfl, .inr (SqT.of (w110.same _ _ q3)), h3.length, _, _, rfl, rfl, c117, _, _, _, _, rfl, rfl, SqT.of (w110.same _ _ q3), f118, _, _, rfl, SqT.of (w110.same _ _ q119), rfl, _, _, rfl, _, _, rfl, rfl, ?_⟩
                try dsimp only
                refine joinS hm (fun (g120 : Int × Int × (List Int)) σ H' => ∃ (F' : Hp) (vs120_0 : List V), σ = [some (.ref a2), some (.ref a__law_purse_here), some (.int x__law_web_here.1), some (.ref a3), some (.ref p6), some (.int y8.1), some (.int y9.1), none, none, some (.int g120.1), some (.int g120.2.1), none, none, none] ∧ Same F110 F' ∧ W F' H' ((a__law_purse_here, .lst vs120_0) :: (p6, .lst ((Txt.split y4 ("
" : Str)).map V.str)) :: os) ∧ A2 (rep K F') vs120_0 g120.2.2) ?_ ?_
                · intro N120 P120 hN120 hm
                  refine ⟨_, rfl, _, _, _, _, _, _, rfl, w110, h9, ?_⟩
                  refine (post_bind hm).mono (fun y121 hm v121 vs121 F121 H121 w121 s121 r121 h121 => ?_) (fun _ z => z)
                  replace q2 := s121 _ _ q2
                  replace h3 := A2.mono s121 h3
                  replace q3 := s121 _ _ q3
                  replace h5 := A2.mono s121 h5
                  replace sF := sF.trans s121
                  obtain rfl : v121 = V.int y121.1 := r121
                  refine ⟨_, _, rfl, rfl, _, rfl, ?_⟩
                  refine post_ite hm (fun k122 hm => ?_) (fun k122 hm => ?_)
                  · skip
                    exact ⟨_, rfl, _, rfl, _, _, rfl, hN120 _ (post_ok hm) _ _ ⟨_, _, rfl, s121, w121, h121⟩⟩
                  · skip
                    exact hN120 _ (post_ok hm) _ _ ⟨_, _, rfl, s121, w121, h121⟩
                intro g120 σ120 H120 hI hm
                obtain ⟨F120, vs120_0, rfl, s120, w120, h120_0⟩ := hI
                replace q2 := s120 _ _ q2
                replace h3 := A2.mono s120 h3
                replace q3 := s120 _ _ q3
                replace h5 := A2.mono s120 h5
                replace sF := sF.trans s120
                obtain ⟨c123, hm⟩ := pb_txNum hm
                obtain ⟨c124, hm⟩ := pb_txAdd hm
                obtain ⟨c125, hm⟩ := pb_txAdd hm
                obtain ⟨c126, hm⟩ := pb_txNum hm
                obtain ⟨c127, hm⟩ := pb_txAdd hm
                have h128 : A2 (rep K F120) [(.str (((("tie " : Str) ++ (Str.ofString (toString g120.1))) ++ (" " : Str)) ++ (Str.ofString (toString g120.2.1))))] ([(((("tie " : Str) ++ (Str.ofString (toString g120.1))) ++ (" " : Str)) ++ (Str.ofString (toString g120.2.1)))] : (List Str)) := .cons rep_s (.nil)
                refine ⟨_, rfl, _, rfl, _, rfl, c123, _, _, rfl, rfl, c124, _, _, rfl, rfl, c125, _, rfl, _, rfl, c126, _, _, rfl, rfl, c127, (by show 1 ≤ sizeLine; decide), fun p129 n129 => ?_⟩
                have w129 : W F120 _ ((p129, .lst [(.str (((("tie " : Str) ++ (Str.ofString (toString g120.1))) ++ (" " : Str)) ++ (Str.ofString (toString g120.2.1))))]) :: (a__law_purse_here, .lst vs120_0) :: (p6, .lst ((Txt.split y4 ("
" : Str)).map V.str)) :: os) := w120.new n129
                obtain ⟨l130, z130, e130, hm⟩ := pn_extend hm
                have h130 : A2 (rep K F120) (((Txt.split y4 ("
" : Str)).map V.str) ++ [(.str (((("tie " : Str) ++ (Str.ofString (toString g120.1))) ++ (" " : Str)) ++ (Str.ofString (toString g120.2.1))))]) l130 := e130 ▸ A2.append h5 h128
                refine ⟨_, _, _, _, rfl, rfl, (w129.get (pre := [_, _])), (w129.get (pre := [])), (A2.le2 h5 h128 z130), fun p131 n131 => ?_⟩
                have w131 : W F120 _ ((p131, .lst (((Txt.split y4 ("
" : Str)).map V.str) ++ [(.str (((("tie " : Str) ++ (Str.ofString (toString g120.1))) ++ (" " : Str)) ++ (Str.ofString (toString g120.2.1))))])) :: (p129, .lst [(.str (((("tie " : Str) ++ (Str.ofString (toString g120.1))) ++ (" " : Str)) ++ (Str.ofString (toString g120.2.1))))]) :: (a__law_purse_here, .lst vs120_0) :: (p6, .lst ((Txt.split y4 ("
" : Str)).map V.str)) :: os) := w129.new n131
                refine ⟨(by show 2 ≤ sizeLine; decide), fun p132 n132 => ?_⟩
                obtain ⟨F132, s132, w132, q132⟩ := w131.frzE (o := .tup [(.str "web"), (.int 0)]) n132
                replace q2 := s132 _ _ q2
                replace h3 := A2.mono s132 h3
                replace q3 := s132 _ _ q3
                replace h120_0 := A2.mono s132 h120_0
                replace h5 := A2.mono s132 h5
                replace h128 := A2.mono s132 h128
                replace h130 := A2.mono s132 h130
                replace sF := sF.trans s132
                obtain ⟨F133, s133, w133, q133⟩ : ∃ F', Same F132 F' ∧ W F' _ ((p129, .lst [(.str (((("tie " : Str) ++ (Str.ofString (toString g120.1))) ++ (" " : Str)) ++ (Str.ofString (toString g120.2.1))))]) :: (a__law_purse_here, .lst vs120_0) :: (p6, .lst ((Txt.split y4 ("
" : Str)).map V.str)) :: os) ∧ F' p131 = some (.lst (((Txt.split y4 ("
" : Str)).map V.str) ++ [(.str (((("tie " : Str) ++ (Str.ofString (toString g120.1))) ++ (" " : Str)) ++ (Str.ofString (toString g120.2.1))))])) := w132.freezeE (pre := [])
                replace q2 := s133 _ _ q2
                replace h3 := A2.mono s133 h3
                replace q3 := s133 _ _ q3
                replace h120_0 := A2.mono s133 h120_0
                replace h5 := A2.mono s133 h5
                replace h128 := A2.mono s133 h128
                replace h130 := A2.mono s133 h130
                replace q132 := s133 _ _ q132
                replace sF := sF.trans s133
                have r134 : rep K F133 (V.ref p132) ((Tl.ap ⟨("web" : Str), by decide +kernel⟩ (0 : Int)) : Tl) := (rep_tlA q132)
                refine ⟨(by show 2 ≤ sizeLine; decide), fun p135 n135 => ?_⟩
                obtain ⟨F135, s135, w135, q135⟩ := w133.frzE (o := .tup [(.ref p131), (.ref p132)]) n135
                replace q2 := s135 _ _ q2
                replace h3 := A2.mono s135 h3
                replace q3 := s135 _ _ q3
                replace h120_0 := A2.mono s135 h120_0
                replace h5 := A2.mono s135 h5
                replace h128 := A2.mono s135 h128
                replace h130 := A2.mono s135 h130
                replace q132 := s135 _ _ q132
                replace q133 := s135 _ _ q133
                replace r134 := Rep.mono s135 r134
                replace sF := sF.trans s135
                have w136 : W F135 _ ((a__law_purse_here, .lst vs120_0) :: (p6, .lst ((Txt.split y4 ("
" : Str)).map V.str)) :: os) := w135.drop (pre := [])
                have w137 : W F135 _ ((a__law_purse_here, .lst vs120_0) :: os) := w136.drop (pre := [_])
                exact (post_ok hm) _ _ _ _ w137 sF (rep_pair q135 (rep_lst q133 h130) r134) h120_0
              · skip
                refine ⟨_, rfl, _, rfl, ⟨_, SqT.of (w110.same _ _ q3)⟩, fun D138 nD138 => ?_⟩
                refine lcFil (K := K) (tw_tup (a := a3) h3) hm (fun (g138 : (List Int)) F' os' => ∃ (vs138_0 : List V), os' = (a__law_purse_here, .lst vs138_0) :: (p6, .lst ((Txt.split y4 ("
" : Str)).map V.str)) :: os ∧ A2 (rep K F') vs138_0 g138) w110 ⟨_, rfl, h9⟩ nD138 (fun g F' H' os' acc s w o => by obtain ⟨_, rfl, _⟩ := o; exact SqT.of (w.same _ _ (s _ _ q3))) ?_ ?_
                · -- one turn
                  intro b138 g138 x138 F138 H138 H138' os138 acc138 N138 M138 P138 s138 w138 o138 y138 hN138 hM138 hm
                  obtain ⟨vs138_0, rfl, h138_0⟩ := o138
                  replace q2 := s138 _ _ q2
                  replace h3 := A2.mono s138 h3
                  replace q3 := s138 _ _ q3
                  replace h5 := A2.mono s138 h5
                  replace sF := sF.trans s138
                  obtain ⟨rfl, r140⟩ := y138
                  replace r140 := Rep.mono s138 r140
                  obtain ⟨a141, u141, z141, rfl, q141, r141a, r141b⟩ := r140
                  obtain rfl : u141 = V.int b138.1 := r141a
                  obtain rfl : z141 = V.int b138.2 := r141b
                  have w142 : W F138 _ ((a__law_purse_here, .lst vs138_0) :: (D138, .lst acc138) :: (p6, .lst ((Txt.split y4 ("
" : Str)).map V.str)) :: os) := w138.front (pre := [_])
                  refine ⟨rfl, _, rfl, _, _, _, _, _, _, rfl, w142, h138_0, ?_⟩
                  refine (post_bind hm).mono (fun y143 hm v143 vs143 F143 H143 w143 s143 r143 h143 => ?_) (fun _ z => z)
                  replace q2 := s143 _ _ q2
                  replace h3 := A2.mono s143 h3
                  replace q3 := s143 _ _ q3
                  replace h5 := A2.mono s143 h5
                  replace q141 := s143 _ _ q141
                  replace sF := sF.trans s143
                  obtain rfl : v143 = V.int y143.1 := r143
                  refine ⟨_, _, rfl, rfl, _, rfl, ?_⟩
                  refine post_ite hm (fun k144 hm => ?_) (fun k144 hm => ?_)
                  · skip
                    have w145 : W F143 _ ((p6, .lst ((Txt.split y4 ("
" : Str)).map V.str)) :: (a__law_purse_here, .lst vs143) :: (D138, .lst acc138) :: os) := w143.front (pre := [_, _])
                    have w146 : W F143 _ ((a__law_purse_here, .lst vs143) :: (p6, .lst ((Txt.split y4 ("
" : Str)).map V.str)) :: (D138, .lst acc138) :: os) := w145.front (pre := [_])
                    have w147 : W F143 _ ((D138, .lst acc138) :: (a__law_purse_here, .lst vs143) :: (p6, .lst ((Txt.split y4 ("
" : Str)).map V.str)) :: os) := w146.front (pre := [_, _])
                    exact ⟨_, rfl, hN138 _ _ (post_ok hm) _ _ _ _ w147 s143 ⟨_, rfl, h143⟩ (rep_pair q141 rep_i rep_i)⟩
                  · skip
                    have w148 : W F143 _ ((p6, .lst ((Txt.split y4 ("
" : Str)).map V.str)) :: (a__law_purse_here, .lst vs143) :: (D138, .lst acc138) :: os) := w143.front (pre := [_, _])
                    have w149 : W F143 _ ((a__law_purse_here, .lst vs143) :: (p6, .lst ((Txt.split y4 ("
" : Str)).map V.str)) :: (D138, .lst acc138) :: os) := w148.front (pre := [_])
                    have w150 : W F143 _ ((D138, .lst acc138) :: (a__law_purse_here, .lst vs143) :: (p6, .lst ((Txt.split y4 ("
" : Str)).map V.str)) :: os) := w149.front (pre := [_, _])
                    exact hM138 _ (post_ok hm) _ _ _ w150 s143 ⟨_, rfl, h143⟩
                intro g138 us138 F138 H138 os138 ys138 s138 w138 o138 gg138 hm
                obtain ⟨vs138_0, rfl, h138_0⟩ := o138
                replace q2 := s138 _ _ q2
                replace h3 := A2.mono s138 h3
                replace q3 := s138 _ _ q3
                replace h5 := A2.mono s138 h5
                replace sF := sF.trans s138
                obtain ⟨F152, s152, w152, q152⟩ : ∃ F', Same F138 F' ∧ W F' _ ((a__law_purse_here, .lst vs138_0) :: (p6, .lst ((Txt.split y4 ("
" : Str)).map V.str)) :: os) ∧ F' D138 = some (.lst us138) := w138.freezeE (pre := [])
                replace q2 := s152 _ _ q2
                replace h3 := A2.mono s152 h3
                replace q3 := s152 _ _ q3
                replace h5 := A2.mono s152 h5
                replace h138_0 := A2.mono s152 h138_0
                replace gg138 := A2.mono s152 gg138
                replace sF := sF.trans s152
                refine ⟨_, rfl, _, rfl, _, _, _, _, (ys138 : (List (Int × Int))), rfl, w152, (rep_lst q152 gg138), ?_⟩
                refine (post_bind hm).mono (fun y153 hm v153 F153 H153 w153 s153 r153 => ?_) (fun _ z => z)
                replace q2 := s153 _ _ q2
                replace h3 := A2.mono s153 h3
                replace q3 := s153 _ _ q3
                replace gg138 := A2.mono s153 gg138
                replace q152 := s153 _ _ q152
                replace h138_0 := A2.mono s153 h138_0
                replace h5 := A2.mono s153 h5
                replace sF := sF.trans s153
                refine ⟨_, rfl, rfl, _, isN_eq r153, _, rfl, ?_⟩
                refine post_ite hm (fun k155 hm => ?_) (fun k155 hm => ?_)
                · skip
                  have h156 : A2 (rep K F153) us138 ys138 := gg138
                  refine ⟨_, rfl, _, rfl, _, _, rfl, .inl ⟨SqL.of (w153.same _ _ q152), fun p157 n157 => ?_⟩⟩
                  obtain ⟨F157, s157, w157, q157⟩ := w153.frzE (o := .tup us138) n157
                  replace q2 := s157 _ _ q2
                  replace h3 := A2.mono s157 h3
                  replace q3 := s157 _ _ q3
                  replace gg138 := A2.mono s157 gg138
                  replace q152 := s157 _ _ q152
                  replace r153 := Rep.mono s157 r153
                  replace h138_0 := A2.mono s157 h138_0
                  replace h5 := A2.mono s157 h5
                  replace h156 := A2.mono s157 h156
                  replace sF := sF.trans s157
                  refine ⟨(by show 2 ≤ sizeLine; decide), fun p158 n158 => ?_⟩
                  obtain ⟨F158, s158, w158, q158⟩ := w157.frzE (o := .tup [(.int x__law_web_here.1), (.ref p157)]) n158
                  replace q2 := s158 _ _ q2
                  replace h3 := A2.mono s158 h3
                  replace q3 := s158 _ _ q3
                  replace gg138 := A2.mono s158 gg138
                  replace q152 := s158 _ _ q152
                  replace r153 := Rep.mono s158 r153
                  replace h138_0 := A2.mono s158 h138_0
                  replace h5 := A2.mono s158 h5
                  replace h156 := A2.mono s158 h156
                  replace q157 := s158 _ _ q157
                  replace sF := sF.trans s158
                  refine ⟨_, _, _, ((x__law_web_here.1, (Tup.mk ys138)) : (Int × (Tup (Int × Int)))), rfl, w158, (rep_pair q158 rep_i (rep_tup q157 h156)), ?_⟩
                  refine (post_bind hm).mono (fun y159 hm v159 F159 H159 w159 s159 r159 => ?_) (fun _ z => z)
                  replace q2 := s159 _ _ q2
                  replace h3 := A2.mono s159 h3
                  replace q3 := s159 _ _ q3
                  replace gg138 := A2.mono s159 gg138
                  replace q152 := s159 _ _ q152
                  replace r153 := Rep.mono s159 r153
                  replace h138_0 := A2.mono s159 h138_0
                  replace h5 := A2.mono s159 h5
                  replace h156 := A2.mono s159 h156
                  replace q157 := s159 _ _ q157
                  replace q158 := s159 _ _ q158
                  replace sF := sF.trans s159
                  obtain rfl : v159 = V.str y159 := r159
                  obtain ⟨c160, hm⟩ := pb_txSplit hm
                  have h160 : A2 (rep K F159) ((Txt.split y159 ("
" : Str)).map V.str) (Txt.split y159 ("
" : Str)) := A2.of_strs
                  refine ⟨rfl, _, _, rfl, rfl, c160.1, c160.2, fun p161 n161 => ?_⟩
                  have w161 : W F159 _ ((p161, .lst ((Txt.split y159 ("
" : Str)).map V.str)) :: (a__law_purse_here, .lst vs138_0) :: (p6, .lst ((Txt.split y4 ("
" : Str)).map V.str)) :: os) := w159.new n161
                  refine ⟨(by show 2 ≤ sizeLine; decide), fun p162 n162 => ?_⟩
                  obtain ⟨F162, s162, w162, q162⟩ := w161.frzE (o := .tup [(.str "told"), (.int 0)]) n162
                  replace q2 := s162 _ _ q2
                  replace h3 := A2.mono s162 h3
                  replace q3 := s162 _ _ q3
                  replace gg138 := A2.mono s162 gg138
                  replace q152 := s162 _ _ q152
                  replace r153 := Rep.mono s162 r153
                  replace h138_0 := A2.mono s162 h138_0
                  replace h5 := A2.mono s162 h5
                  replace h156 := A2.mono s162 h156
                  replace q157 := s162 _ _ q157
                  replace q158 := s162 _ _ q158
                  replace h160 := A2.mono s162 h160
                  replace sF := sF.trans s162
                  obtain ⟨F163, s163, w163, q163⟩ : ∃ F', Same F162 F' ∧ W F' _ ((a__law_purse_here, .lst vs138_0) :: (p6, .lst ((Txt.split y4 ("
" : Str)).map V.str)) :: os) ∧ F' p161 = some (.lst ((Txt.split y159 ("
" : Str)).map V.str)) := w162.freezeE (pre := [])
                  replace q2 := s163 _ _ q2
                  replace h3 := A2.mono s163 h3
                  replace q3 := s163 _ _ q3
                  replace gg138 := A2.mono s163 gg138
                  replace q152 := s163 _ _ q152
                  replace r153 := Rep.mono s163 r153
                  replace h138_0 := A2.mono s163 h138_0
                  replace h5 := A2.mono s163 h5
                  replace h156 := A2.mono s163 h156
                  replace q157 := s163 _ _ q157
                  replace q158 := s163 _ _ q158
                  replace h160 := A2.mono s163 h160
                  replace q162 := s163 _ _ q162
                  replace sF := sF.trans s163
                  have r164 : rep K F163 (V.ref p162) ((Tl.ap ⟨("told" : Str), by decide +kernel⟩ (0 : Int)) : Tl) := (rep_tlA q162)
                  refine ⟨(by show 2 ≤ sizeLine; decide), fun p165 n165 => ?_⟩
                  obtain ⟨F165, s165, w165, q165⟩ := w163.frzE (o := .tup [(.ref p161), (.ref p162)]) n165
                  replace q2 := s165 _ _ q2
                  replace h3 := A2.mono s165 h3
                  replace q3 := s165 _ _ q3
                  replace gg138 := A2.mono s165 gg138
                  replace q152 := s165 _ _ q152
                  replace r153 := Rep.mono s165 r153
                  replace h138_0 := A2.mono s165 h138_0
                  replace h5 := A2.mono s165 h5
                  replace h156 := A2.mono s165 h156
                  replace q157 := s165 _ _ q157
                  replace q158 := s165 _ _ q158
                  replace h160 := A2.mono s165 h160
                  replace q162 := s165 _ _ q162
                  replace q163 := s165 _ _ q163
                  replace r164 := Rep.mono s165 r164
                  replace sF := sF.trans s165
                  have w166 : W F165 _ ((a__law_purse_here, .lst vs138_0) :: os) := w165.drop (pre := [_])
                  exact (post_ok hm) _ _ _ _ w166 sF (rep_pair q165 (rep_lst q163 h160) r164) h138_0
                · skip
                  have h167 : A2 (rep K F153) us138 ys138 := gg138
                  refine ⟨_, rfl, _, rfl, _, _, rfl, .inl ⟨SqL.of (w153.same _ _ q152), fun p168 n168 => ?_⟩⟩
                  obtain ⟨F168, s168, w168, q168⟩ := w153.frzE (o := .tup us138) n168
                  replace q2 := s168 _ _ q2
                  replace h3 := A2.mono s168 h3
                  replace q3 := s168 _ _ q3
                  replace gg138 := A2.mono s168 gg138
                  replace q152 := s168 _ _ q152
                  replace r153 := Rep.mono s168 r153
                  replace h138_0 := A2.mono s168 h138_0
                  replace h5 := A2.mono s168 h5
                  replace h167 := A2.mono s168 h167
                  replace sF := sF.trans s168
                  refine ⟨(by show 2 ≤ sizeLine; decide), fun p169 n169 => ?_⟩
                  obtain ⟨F169, s169, w169, q169⟩ := w168.frzE (o := .tup [(.int x__law_web_here.1), (.ref p168)]) n169
                  replace q2 := s169 _ _ q2
                  replace h3 := A2.mono s169 h3
                  replace q3 := s169 _ _ q3
                  replace gg138 := A2.mono s169 gg138
                  replace q152 := s169 _ _ q152
                  replace r153 := Rep.mono s169 r153
                  replace h138_0 := A2.mono s169 h138_0
                  replace h5 := A2.mono s169 h5
                  replace h167 := A2.mono s169 h167
                  replace q168 := s169 _ _ q168
                  replace sF := sF.trans s169
                  refine ⟨_, _, _, ((x__law_web_here.1, (Tup.mk ys138)) : (Int × (Tup (Int × Int)))), rfl, w169, (rep_pair q169 rep_i (rep_tup q168 h167)), ?_⟩
                  refine (post_bind hm).mono (fun y170 hm v170 F170 H170 w170 s170 r170 => ?_) (fun _ z => z)
                  replace q2 := s170 _ _ q2
                  replace h3 := A2.mono s170 h3
                  replace q3 := s170 _ _ q3
                  replace gg138 := A2.mono s170 gg138
                  replace q152 := s170 _ _ q152
                  replace r153 := Rep.mono s170 r153
                  replace h138_0 := A2.mono s170 h138_0
                  replace h5 := A2.mono s170 h5
                  replace h167 := A2.mono s170 h167
                  replace q168 := s170 _ _ q168
                  replace q169 := s170 _ _ q169
                  replace sF := sF.trans s170
                  obtain rfl : v170 = V.str y170 := r170
                  obtain ⟨c171, hm⟩ := pb_txSplit hm
                  have h171 : A2 (rep K F170) ((Txt.split y170 ("
" : Str)).map V.str) (Txt.split y170 ("
" : Str)) := A2.of_strs
                  refine ⟨rfl, _, _, rfl, rfl, c171.1, c171.2, fun p172 n172 => ?_⟩
                  have w172 : W F170 _ ((p172, .lst ((Txt.split y170 ("
" : Str)).map V.str)) :: (a__law_purse_here, .lst vs138_0) :: (p6, .lst ((Txt.split y4 ("
" : Str)).map V.str)) :: os) := w170.new n172
                  obtain ⟨t173, e173, hm⟩ := pb_ofO hm
                  have r173 : rep K F170 v153 (some t173) := e173 ▸ r153
                  replace r173 : v153 = V.int t173 := r173
                  subst r173
                  refine ⟨_, rfl, (by show 2 ≤ sizeLine; decide), fun p174 n174 => ?_⟩
                  obtain ⟨F174, s174, w174, q174⟩ := w172.frzE (o := .tup [(.str "apart"), (.int t173)]) n174
                  replace q2 := s174 _ _ q2
                  replace h3 := A2.mono s174 h3
                  replace q3 := s174 _ _ q3
                  replace gg138 := A2.mono s174 gg138
                  replace q152 := s174 _ _ q152
                  replace r153 := Rep.mono s174 r153
                  replace h138_0 := A2.mono s174 h138_0
                  replace h5 := A2.mono s174 h5
                  replace h167 := A2.mono s174 h167
                  replace q168 := s174 _ _ q168
                  replace q169 := s174 _ _ q169
                  replace h171 := A2.mono s174 h171
                  replace sF := sF.trans s174
                  obtain ⟨F175, s175, w175, q175⟩ : ∃ F', Same F174 F' ∧ W F' _ ((a__law_purse_here, .lst vs138_0) :: (p6, .lst ((Txt.split y4 ("
" : Str)).map V.str)) :: os) ∧ F' p172 = some (.lst ((Txt.split y170 ("
" : Str)).map V.str)) := w174.freezeE (pre := [])
                  replace q2 := s175 _ _ q2
                  replace h3 := A2.mono s175 h3
                  replace q3 := s175 _ _ q3
                  replace gg138 := A2.mono s175 gg138
                  replace q152 := s175 _ _ q152
                  replace r153 := Rep.mono s175 r153
                  replace h138_0 := A2.mono s175 h138_0
                  replace h5 := A2.mono s175 h5
                  replace h167 := A2.mono s175 h167
                  replace q168 := s175 _ _ q168
                  replace q169 := s175 _ _ q169
                  replace h171 := A2.mono s175 h171
                  replace q174 := s175 _ _ q174
                  replace sF := sF.trans s175
                  have r176 : rep K F175 (V.ref p174) ((Tl.ap ⟨("apart" : Str), by decide +kernel⟩ t173) : Tl) := (rep_tlA q174)
                  refine ⟨(by show 2 ≤ sizeLine; decide), fun p177 n177 => ?_⟩
                  obtain ⟨F177, s177, w177, q177⟩ := w175.frzE (o := .tup [(.ref p172), (.ref p174)]) n177
                  replace q2 := s177 _ _ q2
                  replace h3 := A2.mono s177 h3
                  replace q3 := s177 _ _ q3
                  replace gg138 := A2.mono s177 gg138
                  replace q152 := s177 _ _ q152
                  replace r153 := Rep.mono s177 r153
                  replace h138_0 := A2.mono s177 h138_0
                  replace h5 := A2.mono s177 h5
                  replace h167 := A2.mono s177 h167
                  replace q168 := s177 _ _ q168
                  replace q169 := s177 _ _ q169
                  replace h171 := A2.mono s177 h171
                  replace q174 := s177 _ _ q174
                  replace q175 := s177 _ _ q175
                  replace r176 := Rep.mono s177 r176
                  replace sF := sF.trans s177
                  have w178 : W F177 _ ((a__law_purse_here, .lst vs138_0) :: os) := w177.drop (pre := [_])
                  exact (post_ok hm) _ _ _ _ w178 sF (rep_pair q177 (rep_lst q175 h171) r176) h138_0
def sp_law_told (K : Fg) : Sp := fun vs H Q E => ∃ (F : Hp) (os : List (Addr × HO)) (v__law_rows : V) (x__law_rows : (List Str)) (x__law_way : Int), vs = [v__law_rows, .int x__law_way] ∧ W F H (os) ∧ rep K F v__law_rows x__law_rows ∧ Post (law_told x__law_rows x__law_way) (Ret K F os Q) noX
theorem sc_law_told : FnScope ["_law_rows", "_law_way", "_law_caught", "_law_e", "_law_kinds"] ["_law_rows", "_law_way"] (defScope s_law_told) := ⟨rfl, rfl, rfl, by decide +kernel, rfl, by decide +kernel, by decide +kernel⟩
set_option maxHeartbeats 40000000 in
theorem ok_law_told (T : Tx K mg A FD) : FnOk P w K mg base CX0 7 (A 36) (FD 36) ["_law_rows", "_law_way"] (sp_law_told K) := by
  refine T.d36.fn.ok sc_law_told (fun vs H Q E h => ?_) (fun cdv Ar outer s H vs Q E hr h => ?_)
  · obtain ⟨F, os, v__law_rows, x__law_rows, x__law_way, rfl, _⟩ := h
    rfl
  · obtain ⟨F0, os, v__law_rows, x__law_rows, x__law_way, rfl, w0, r__law_rows, hm⟩ := h
    have sF : Same F0 F0 := Same.refl _
    obtain ⟨a1, vs1, rfl, q1, h1⟩ := r__law_rows
    refine ⟨_, (pss_cons (ps_set (i := 2) sc_law_told.nd rfl (Or.inl rfl) (pe_tup (pa_cons pe_str (pa_cons pe_int pa_nil)))) (pss_cons (L2N.ps_try_as (i := 3) rfl rfl sc_law_told.nd rfl rfl ⟨rfl, by decide, .inl T.g_HailError⟩ L2N.takes0 (fun W pn xe tk _ => (pss_one (ps_if (pt_cmp (pc_eqI (pv 1) pe_int)) (pss_one (ps_expr (pe_callS (ok_read_webX T) (hr.mono (by decide)) (by rfl) T.d18.mg T.d18.fn.kp T.d18.b (fun σ => L2N.passAt tk σ) (pa_cons (pe_k (K := K) (t := fun K => tBM K _ _ _ _) rfl (pe_bm PySem.F.plainAttrs_str PySem.F.slot_str_join PySem.F.type_str_join (mt_joinK (K := K) rfl) pe_str (pa_cons (pv 0) pa_nil))) pa_nil)))) (pss_one (ps_expr (pe_makeS T.mk_Desk (ok_Desk_init T) (hr.mono (by first | decide | omega)) (by rfl) T.mg_Desk T.d21000.b (fun σ => L2N.passAt tk σ) (pa_cons (pe_k (K := K) (t := fun K => tBM K _ _ _ _) rfl (pe_bm PySem.F.plainAttrs_str PySem.F.slot_str_join PySem.F.type_str_join (mt_joinK (K := K) rfl) pe_str (pa_cons (pv 0) pa_nil))) pa_nil))))))) (fun a oe cls d pn hz hf => (pss_cons (ps_set (i := 4) sc_law_told.nd rfl (Or.inl rfl) (pe_lst (pa_cons (pe_callB (call_isEY (K := K) rfl hz.zc hf) (by rfl) T.n_isinstance (by decide +kernel) (pa_cons (pv 3) (pa_cons (pe_glob (v := .ref (A 7)) (by rfl) T.g_NoText rfl) pa_nil))) (pa_cons (pe_callB (call_isEY (K := K) rfl hz.zc hf) (by rfl) T.n_isinstance (by decide +kernel) (pa_cons (pv 3) (pa_cons (pe_glob (v := .ref (A 3)) (by rfl) T.g_NoWeb rfl) pa_nil))) (pa_cons (pe_callB (call_isEY (K := K) rfl hz.zc hf) (by rfl) T.n_isinstance (by decide +kernel) (pa_cons (pv 3) (pa_cons (pe_glob (v := .ref (A 6)) (by rfl) T.g_Apart rfl) pa_nil))) pa_nil))))) (pss_cons (ps_set (i := 2) sc_law_told.nd rfl (Or.inl rfl) (pe_tup (pa_cons pe_str (pa_cons pe_int pa_nil)))) (pss_one (ps_if (PW.pt (pw_and (pt_val (pe_callB (call_isEY (K := K) rfl hz.zc hf) (by rfl) T.n_isinstance (by decide +kernel) (pa_cons (pv 3) (pa_cons (pe_bltn (v := .ty "ValueError") (by rfl) T.n_ValueError (by decide +kernel) rfl) pa_nil)))) (pw_and (pt_not (pt_val (pe_callB (call_isEY (K := K) rfl hz.zc hf) (by rfl) T.n_isinstance (by decide +kernel) (pa_cons (pv 3) (pa_cons (pe_tup (pa_cons (pe_glob (v := .ref (A 4)) (by rfl) T.g_NoPlace rfl) (pa_cons (pe_glob (v := .ref (A 5)) (by rfl) T.g_NoRow rfl) pa_nil))) pa_nil))))) (pw_and1 (pt_cmp (pc_eqI (pe_callB (cr_sumBH (K := K) rfl hz hf) (by rfl) T.n_sum (by decide +kernel) (pa_cons (pv 4) pa_nil)) pe_int)))))) (pss_cons (ps_set (i := 2) sc_law_told.nd rfl (Or.inl rfl) (pe_tup (pa_cons pe_str (pa_cons pe_int pa_nil)))) (pss_cons (ps_if (pt_val (pe_ix (ix_listK (K := K) rfl) (pv 4) pe_int (fun _ _ => rfl))) (pss_one (ps_set (i := 2) sc_law_told.nd rfl (Or.inl rfl) (pe_tup (pa_cons pe_str (pa_cons (pe_xf T.xi_NoText.xf T.xi_NoText.no hz.zc hf (pv 3)) pa_nil))))) pss_nil) (pss_one (ps_if (pt_val (pe_ix (ix_listK (K := K) rfl) (pv 4) pe_int (fun _ _ => rfl))) (pss_one (ps_set (i := 2) sc_law_told.nd rfl (Or.inl rfl) (pe_tup (pa_cons pe_str (pa_cons (pe_xf T.xi_Apart.xf T.xi_Apart.no hz.zc hf (pv 3)) pa_nil))))) pss_nil)))) pss_nil)))))) (pss_one (ps_ret (pv 2))))), ?_⟩
    refine ⟨(by show 2 ≤ sizeLine; decide), fun p2 n2 => ?_⟩
    obtain ⟨F2, s2, w2, q2⟩ := w0.frzE (o := .tup [(.str "told"), (.int 0)]) n2
    replace q1 := s2 _ _ q1
    replace h1 := A2.mono s2 h1
    replace sF := sF.trans s2
    have r3 : rep K F2 (.ref p2) ((Tl.ap ⟨("told" : Str), by decide +kernel⟩ (0 : Int)) : Tl) := (rep_tlA q2)
    refine stepN ?_
    try dsimp only
    refine joinS hm (fun (g4 : Tl) σ H' => ∃ (F' : Hp) (v4_2 : V) (o4_4 : Option V), σ = [some (.ref a1), some (.int x__law_way), some v4_2, none, o4_4] ∧ Same F2 F' ∧ W F' H' (os) ∧ rep K F' v4_2 (g4 : Tl)) ?_ ?_
    · intro N4 P4 hN4 hm
      replace hm := post_tryWith hm
      refine ⟨_, rfl, _, _, rfl, rfl, _, rfl, ?_⟩
      refine post_ite hm (fun k5 hm => ?_) (fun k5 hm => ?_)
      · skip
        obtain ⟨c6, hm⟩ := pb_txJoin hm
        refine ⟨rfl, _, rfl, _, _, _, rfl, rfl, .inl (strs_q (SqL.of (w2.same _ _ q1)) h1), c6, _, _, _, rfl, w2, ?_⟩
        refine (post_bind hm).mono (fun y7 hm v7 F7 H7 w7 s7 r7 => ?_) (fun e z C d Fe He nC w s xd => ?_)
        rotate_left 1
        · skip
          obtain ⟨em4, hm⟩ := z
          refine ⟨true, T.exm em4 nC, fun _ a na => ?_, fun z => nomatch z⟩
          replace h1 := A2.mono s h1
          replace q1 := s _ _ q1
          replace r3 := Rep.mono s r3
          replace sF := sF.trans s
          obtain ⟨m8, hm⟩ := pb_isC hm
          obtain ⟨m9, hm⟩ := pb_isC hm
          obtain ⟨m10, hm⟩ := pb_isC hm
          have h11 : A2 (rep K Fe) [(.bl (decide (e.cls ∈ ([("NoText" : Str)] : List Str)))), (.bl (decide (e.cls ∈ ([("NoWeb" : Str)] : List Str)))), (.bl (decide (e.cls ∈ ([("Apart" : Str)] : List Str))))] ([(decide (e.cls ∈ ([("NoText" : Str)] : List Str))), (decide (e.cls ∈ ([("NoWeb" : Str)] : List Str))), (decide (e.cls ∈ ([("Apart" : Str)] : List Str)))] : (List Bool)) := .cons rep_b (.cons rep_b (.cons rep_b (.nil)))
          refine ⟨_, rfl, _, rfl, xd.dict w.same, T.exc m8 nC, _, _, rfl, .inl ⟨.ref (A 7), fun _ h => h, T.ki0 m8 nC⟩, _, rfl, _, rfl, xd.dict w.same, T.exc m9 nC, _, _, rfl, .inl ⟨.ref (A 3), fun _ h => h, T.ki1 m9 nC⟩, _, rfl, _, rfl, xd.dict w.same, T.exc m10 nC, _, _, rfl, .inl ⟨.ref (A 6), fun _ h => h, T.ki2 m10 nC⟩, (by show 3 ≤ sizeLine; decide), fun p12 n12 => ?_⟩
          have w12 : W Fe _ ((p12, .lst [(.bl (decide (e.cls ∈ ([("NoText" : Str)] : List Str)))), (.bl (decide (e.cls ∈ ([("NoWeb" : Str)] : List Str)))), (.bl (decide (e.cls ∈ ([("Apart" : Str)] : List Str))))]) :: os) := w.new n12
          obtain ⟨F13, s13, w13, q13⟩ : ∃ F', Same Fe F' ∧ W F' _ (os) ∧ F' p12 = some (.lst [(.bl (decide (e.cls ∈ ([("NoText" : Str)] : List Str)))), (.bl (decide (e.cls ∈ ([("NoWeb" : Str)] : List Str)))), (.bl (decide (e.cls ∈ ([("Apart" : Str)] : List Str))))]) := w12.freezeE (pre := [])
          replace h1 := A2.mono s13 h1
          replace q1 := s13 _ _ q1
          replace r3 := Rep.mono s13 r3
          replace xd := XD.mono s13 xd
          replace h11 := A2.mono s13 h11
          replace sF := sF.trans s13
          refine ⟨(by show 2 ≤ sizeLine; decide), fun p14 n14 => ?_⟩
          obtain ⟨F14, s14, w14, q14⟩ := w13.frzE (o := .tup [(.str "odd"), (.int 0)]) n14
          replace h1 := A2.mono s14 h1
          replace q1 := s14 _ _ q1
          replace r3 := Rep.mono s14 r3
          replace xd := XD.mono s14 xd
          replace h11 := A2.mono s14 h11
          replace q13 := s14 _ _ q13
          replace sF := sF.trans s14
          have r15 : rep K F14 (.ref p14) ((Tl.ap ⟨("odd" : Str), by decide +kernel⟩ (0 : Int)) : Tl) := (rep_tlA q14)
          refine stepN ?_
          try dsimp only
          refine stepIf ?_
          refine joinT hm (fun (j16 : Bool) c H' => c = j16 ∧ ∃ (F' : Hp), Same F14 F' ∧ W F' H' (os)) ?_ ?_
          · intro Q16 P16 q16 hm
            obtain ⟨m17, hm⟩ := pb_isC hm
            refine ⟨_, rfl, _, rfl, xd.dict w14.same, T.exc m17 nC, _, _, rfl, .inl ⟨.type "ValueError", fun _ h => h, T.ki3 m17 nC⟩, _, rfl, ?_⟩
            refine post_ite hm (fun k18 hm => ?_) (fun k18 hm => ?_)
            · skip
              obtain ⟨m19, hm⟩ := pb_isC hm
              refine ⟨_, rfl, (by show 2 ≤ sizeLine; decide), fun p20 n20 => ?_⟩
              obtain ⟨F20, s20, w20, q20⟩ := w14.frzE (o := .tup [V.ref (A 4), V.ref (A 5)]) n20
              replace h1 := A2.mono s20 h1
              replace q1 := s20 _ _ q1
              replace r15 := Rep.mono s20 r15
              replace xd := XD.mono s20 xd
              replace h11 := A2.mono s20 h11
              replace q13 := s20 _ _ q13
              replace sF := sF.trans s20
              refine ⟨_, rfl, xd.dict w20.same, T.exc m19 nC, _, _, rfl, .inr ⟨p20, _, [.ref (A 4), .ref (A 5)], rfl, w20.same _ _ q20, fun us h => refs_at (ps := [A 4, A 5]) h, T.ki4 m19 nC⟩, _, rfl, ?_⟩
              refine post_ite hm (fun k21 hm => ?_) (fun k21 hm => ?_)
              · skip
                exact ⟨_, rfl, _, _, rfl, bools_q (SqL.of (w20.same _ _ q13)) h11, _, _, rfl, rfl, _, rfl, q16 _ (post_ok hm) _ _ ⟨rfl, _, s20, w20⟩⟩
              · skip
                exact q16 _ (post_ok hm) _ _ ⟨rfl, _, s20, w20⟩
            · skip
              exact q16 _ (post_ok hm) _ _ ⟨rfl, _, Same.refl _, w14⟩
          intro j16 c16 H16 hc16 hm
          obtain ⟨rfl, F16, s16, w16⟩ := hc16
          replace h1 := A2.mono s16 h1
          replace q1 := s16 _ _ q1
          replace r15 := Rep.mono s16 r15
          replace xd := XD.mono s16 xd
          replace h11 := A2.mono s16 h11
          replace q13 := s16 _ _ q13
          replace sF := sF.trans s16
          refine post_ite hm (fun k25 hm => ?_) (fun k25 hm => ?_)
          · skip
            refine ⟨(by show 2 ≤ sizeLine; decide), fun p26 n26 => ?_⟩
            obtain ⟨F26, s26, w26, q26⟩ := w16.frzE (o := .tup [(.str "web"), (.int 0)]) n26
            replace h1 := A2.mono s26 h1
            replace q1 := s26 _ _ q1
            replace r15 := Rep.mono s26 r15
            replace xd := XD.mono s26 xd
            replace h11 := A2.mono s26 h11
            replace q13 := s26 _ _ q13
            replace sF := sF.trans s26
            have r27 : rep K F26 (.ref p26) ((Tl.ap ⟨("web" : Str), by decide +kernel⟩ (0 : Int)) : Tl) := (rep_tlA q26)
            refine stepN ?_
            try dsimp only
            refine joinS hm (fun (g28 : Tl) σ H' => ∃ (F' : Hp) (v28_2 : V), σ = [some (.ref a1), some (.int x__law_way), some v28_2, some (.ref a), some (.ref p12)] ∧ Same F26 F' ∧ W F' H' (os) ∧ rep K F' v28_2 (g28 : Tl)) ?_ ?_
            · intro N28 P28 hN28 hm
              obtain ⟨t29, e29, hm⟩ := pb_get hm
              obtain ⟨u29, f29, r29⟩ := A2.at h11 e29
              obtain rfl : u29 = V.bl t29 := r29
              refine ⟨_, rfl, _, _, _, _, rfl, rfl, SqL.of (w26.same _ _ q13), f29, _, rfl, ?_⟩
              refine post_ite hm (fun k30 hm => ?_) (fun k30 hm => ?_)
              · skip
                obtain ⟨c31, hm⟩ := pb_xarg hm
                obtain ⟨dd31, ed31, xq31⟩ := XD.at xd (show fld e.cls = some "row" by rw [c31]; exact fd_NoText)
                refine ⟨_, rfl, rfl, (congrArg Value.ref (Nm.uniq (x := "NoText") (c31 ▸ nC) T.x_NoText.ns)), _, _, _, ed31, w26.same _ _ xq31, rfl, (by show 2 ≤ sizeLine; decide), fun p32 n32 => ?_⟩
                obtain ⟨F32, s32, w32, q32⟩ := w26.frzE (o := .tup [(.str "text"), (.int e.arg)]) n32
                replace h1 := A2.mono s32 h1
                replace q1 := s32 _ _ q1
                replace r27 := Rep.mono s32 r27
                replace xd := XD.mono s32 xd
                replace h11 := A2.mono s32 h11
                replace q13 := s32 _ _ q13
                replace sF := sF.trans s32
                have r33 : rep K F32 (.ref p32) ((Tl.ap ⟨("text" : Str), by decide +kernel⟩ e.arg) : Tl) := (rep_tlA q32)
                exact hN28 _ (post_ok hm) _ _ ⟨_, _, rfl, s32, w32, r33⟩
              · skip
                exact hN28 _ (post_ok hm) _ _ ⟨_, _, rfl, Same.refl _, w26, r27⟩
            intro g28 σ28 H28 hI hm
            obtain ⟨F28, v28_2, rfl, s28, w28, r28_2⟩ := hI
            replace h1 := A2.mono s28 h1
            replace q1 := s28 _ _ q1
            replace r27 := Rep.mono s28 r27
            replace xd := XD.mono s28 xd
            replace h11 := A2.mono s28 h11
            replace q13 := s28 _ _ q13
            replace sF := sF.trans s28
            obtain ⟨t35, e35, hm⟩ := pb_get hm
            obtain ⟨u35, f35, r35⟩ := A2.at h11 e35
            obtain rfl : u35 = V.bl t35 := r35
            refine ⟨_, rfl, _, _, _, _, rfl, rfl, SqL.of (w28.same _ _ q13), f35, _, rfl, ?_⟩
            refine post_ite hm (fun k36 hm => ?_) (fun k36 hm => ?_)
            · skip
              obtain ⟨c37, hm⟩ := pb_xarg hm
              obtain ⟨dd37, ed37, xq37⟩ := XD.at xd (show fld e.cls = some "place" by rw [c37]; exact fd_Apart)
              refine ⟨_, rfl, rfl, (congrArg Value.ref (Nm.uniq (x := "Apart") (c37 ▸ nC) T.x_Apart.ns)), _, _, _, ed37, w28.same _ _ xq37, rfl, (by show 2 ≤ sizeLine; decide), fun p38 n38 => ?_⟩
              obtain ⟨F38, s38, w38, q38⟩ := w28.frzE (o := .tup [(.str "apart"), (.int e.arg)]) n38
              replace h1 := A2.mono s38 h1
              replace q1 := s38 _ _ q1
              replace r28_2 := Rep.mono s38 r28_2
              replace xd := XD.mono s38 xd
              replace h11 := A2.mono s38 h11
              replace q13 := s38 _ _ q13
              replace sF := sF.trans s38
              have r39 : rep K F38 (.ref p38) ((Tl.ap ⟨("apart" : Str), by decide +kernel⟩ e.arg) : Tl) := (rep_tlA q38)
              exact hN4 _ (post_ok hm) _ _ ⟨_, _, _, rfl, (s.trans (s13.trans (s14.trans (s16.trans (s26.trans (s28.trans s38)))))), w38, r39⟩
            · skip
              exact hN4 _ (post_ok hm) _ _ ⟨_, _, _, rfl, (s.trans (s13.trans (s14.trans (s16.trans (s26.trans s28))))), w28, r28_2⟩
          · skip
            exact hN4 _ (post_ok hm) _ _ ⟨_, _, _, rfl, (s.trans (s13.trans (s14.trans s16))), w16, r15⟩
        replace h1 := A2.mono s7 h1
        replace q1 := s7 _ _ q1
        replace r3 := Rep.mono s7 r3
        replace sF := sF.trans s7
        obtain ⟨a40, u40, z40, rfl, q40, r40a, r40b⟩ := r7
        obtain rfl : u40 = V.int y7.1 := r40a
        obtain ⟨a41, vs41, rfl, q41, h41⟩ := r40b
        exact hN4 _ (post_ok hm) _ _ ⟨_, _, _, rfl, s7, w7, r3⟩
      · skip
        obtain ⟨c42, hm⟩ := pb_txJoin hm
        refine ⟨rfl, _, rfl, _, _, _, rfl, rfl, .inl (strs_q (SqL.of (w2.same _ _ q1)) h1), c42, fun a43 dx43 na43 nd43 ne43 => ?_⟩
        have wd43 : W F2 _ ((dx43, (.own a43)) :: os) := w2.new (o := .own a43) nd43
        have w43 : W F2 _ ((a43, (.ins (A 20) dx43 [])) :: (dx43, (.own a43)) :: os) := wd43.new (o := .ins (A 20) dx43 []) (by rw [upd_ne ne43.symm]; exact na43)
        refine ⟨_, _, _, _, _, _, rfl, w43, T.nm_Desk, ?_⟩
        refine (post_bind hm).mono (fun y43 hm us43 F43 H43 w43i s43 h43 => ⟨rfl, ?_⟩) (fun e z C d Fe He nC w s xd => ?_)
        rotate_left 1
        · skip
          obtain ⟨em4, hm⟩ := z
          refine ⟨true, T.exm em4 nC, fun _ a na => ?_, fun z => nomatch z⟩
          replace h1 := A2.mono s h1
          replace q1 := s _ _ q1
          replace r3 := Rep.mono s r3
          replace sF := sF.trans s
          obtain ⟨m46, hm⟩ := pb_isC hm
          obtain ⟨m47, hm⟩ := pb_isC hm
          obtain ⟨m48, hm⟩ := pb_isC hm
          have h49 : A2 (rep K Fe) [(.bl (decide (e.cls ∈ ([("NoText" : Str)] : List Str)))), (.bl (decide (e.cls ∈ ([("NoWeb" : Str)] : List Str)))), (.bl (decide (e.cls ∈ ([("Apart" : Str)] : List Str))))] ([(decide (e.cls ∈ ([("NoText" : Str)] : List Str))), (decide (e.cls ∈ ([("NoWeb" : Str)] : List Str))), (decide (e.cls ∈ ([("Apart" : Str)] : List Str)))] : (List Bool)) := .cons rep_b (.cons rep_b (.cons rep_b (.nil)))
          refine ⟨_, rfl, _, rfl, xd.dict w.same, T.exc m46 nC, _, _, rfl, .inl ⟨.ref (A 7), fun _ h => h, T.ki0 m46 nC⟩, _, rfl, _, rfl, xd.dict w.same, T.exc m47 nC, _, _, rfl, .inl ⟨.ref (A 3), fun _ h => h, T.ki1 m47 nC⟩, _, rfl, _, rfl, xd.dict w.same, T.exc m48 nC, _, _, rfl, .inl ⟨.ref (A 6), fun _ h => h, T.ki2 m48 nC⟩, (by show 3 ≤ sizeLine; decide), fun p50 n50 => ?_⟩
          have w50 : W Fe _ ((p50, .lst [(.bl (decide (e.cls ∈ ([("NoText" : Str)] : List Str)))), (.bl (decide (e.cls ∈ ([("NoWeb" : Str)] : List Str)))), (.bl (decide (e.cls ∈ ([("Apart" : Str)] : List Str))))]) :: os) := w.new n50
          obtain ⟨F51, s51, w51, q51⟩ : ∃ F', Same Fe F' ∧ W F' _ (os) ∧ F' p50 = some (.lst [(.bl (decide (e.cls ∈ ([("NoText" : Str)] : List Str)))), (.bl (decide (e.cls ∈ ([("NoWeb" : Str)] : List Str)))), (.bl (decide (e.cls ∈ ([("Apart" : Str)] : List Str))))]) := w50.freezeE (pre := [])
          replace h1 := A2.mono s51 h1
          replace q1 := s51 _ _ q1
          replace r3 := Rep.mono s51 r3
          replace xd := XD.mono s51 xd
          replace h49 := A2.mono s51 h49
          replace sF := sF.trans s51
          refine ⟨(by show 2 ≤ sizeLine; decide), fun p52 n52 => ?_⟩
          obtain ⟨F52, s52, w52, q52⟩ := w51.frzE (o := .tup [(.str "odd"), (.int 0)]) n52
          replace h1 := A2.mono s52 h1
          replace q1 := s52 _ _ q1
          replace r3 := Rep.mono s52 r3
          replace xd := XD.mono s52 xd
          replace h49 := A2.mono s52 h49
          replace q51 := s52 _ _ q51
          replace sF := sF.trans s52
          have r53 : rep K F52 (.ref p52) ((Tl.ap ⟨("odd" : Str), by decide +kernel⟩ (0 : Int)) : Tl) := (rep_tlA q52)
          refine stepN ?_
          try dsimp only
          refine stepIf ?_
          refine joinT hm (fun (j54 : Bool) c H' => c = j54 ∧ ∃ (F' : Hp), Same F52 F' ∧ W F' H' (os)) ?_ ?_
          · intro Q54 P54 q54 hm
            obtain ⟨m55, hm⟩ := pb_isC hm
            refine ⟨_, rfl, _, rfl, xd.dict w52.same, T.exc m55 nC, _, _, rfl, .inl ⟨.type "ValueError", fun _ h => h, T.ki3 m55 nC⟩, _, rfl, ?_⟩
            refine post_ite hm (fun k56 hm => ?_) (fun k56 hm => ?_)
            · skip
              obtain ⟨m57, hm⟩ := pb_isC hm
              refine ⟨_, rfl, (by show 2 ≤ sizeLine; decide), fun p58 n58 => ?_⟩
              obtain ⟨F58, s58, w58, q58⟩ := w52.frzE (o := .tup [V.ref (A 4), V.ref (A 5)]) n58
              replace h1 := A2.mono s58 h1
              replace q1 := s58 _ _ q1
              replace r53 := Rep.mono s58 r53
              replace xd := XD.mono s58 xd
              replace h49 := A2.mono s58 h49
              replace q51 := s58 _ _ q51
              replace sF := sF.trans s58
              refine ⟨_, rfl, xd.dict w58.same, T.exc m57 nC, _, _, rfl, .inr ⟨p58, _, [.ref (A 4), .ref (A 5)], rfl, w58.same _ _ q58, fun us h => refs_at (ps := [A 4, A 5]) h, T.ki4 m57 nC⟩, _, rfl, ?_⟩
              refine post_ite hm (fun k59 hm => ?_) (fun k59 hm => ?_)
              · skip
                exact ⟨_, rfl, _, _, rfl, bools_q (SqL.of (w58.same _ _ q51)) h49, _, _, rfl, rfl, _, rfl, q54 _ (post_ok hm) _ _ ⟨rfl, _, s58, w58⟩⟩
              · skip
                exact q54 _ (post_ok hm) _ _ ⟨rfl, _, s58, w58⟩
            · skip
              exact q54 _ (post_ok hm) _ _ ⟨rfl, _, Same.refl _, w52⟩
          intro j54 c54 H54 hc54 hm
          obtain ⟨rfl, F54, s54, w54⟩ := hc54
          replace h1 := A2.mono s54 h1
          replace q1 := s54 _ _ q1
          replace r53 := Rep.mono s54 r53
          replace xd := XD.mono s54 xd
          replace h49 := A2.mono s54 h49
          replace q51 := s54 _ _ q51
          replace sF := sF.trans s54
          refine post_ite hm (fun k63 hm => ?_) (fun k63 hm => ?_)
          · skip
            refine ⟨(by show 2 ≤ sizeLine; decide), fun p64 n64 => ?_⟩
            obtain ⟨F64, s64, w64, q64⟩ := w54.frzE (o := .tup [(.str "web"), (.int 0)]) n64
            replace h1 := A2.mono s64 h1
            replace q1 := s64 _ _ q1
            replace r53 := Rep.mono s64 r53
            replace xd := XD.mono s64 xd
            replace h49 := A2.mono s64 h49
            replace q51 := s64 _ _ q51
            replace sF := sF.trans s64
            have r65 : rep K F64 (.ref p64) ((Tl.ap ⟨("web" : Str), by decide +kernel⟩ (0 : Int)) : Tl) := (rep_tlA q64)
            refine stepN ?_
            try dsimp only
            refine joinS hm (fun (g66 : Tl) σ H' => ∃ (F' : Hp) (v66_2 : V), σ = [some (.ref a1), some (.int x__law_way), some v66_2, some (.ref a), some (.ref p50)] ∧ Same F64 F' ∧ W F' H' (os) ∧ rep K F' v66_2 (g66 : Tl)) ?_ ?_
            · intro N66 P66 hN66 hm
              obtain ⟨t67, e67, hm⟩ := pb_get hm
              obtain ⟨u67, f67, r67⟩ := A2.at h49 e67
              obtain rfl : u67 = V.bl t67 := r67
              refine ⟨_, rfl, _, _, _, _, rfl, rfl, SqL.of (w64.same _ _ q51), f67, _, rfl, ?_⟩
              refine post_ite hm (fun k68 hm => ?_) (fun k68 hm => ?_)
              · skip
                obtain ⟨c69, hm⟩ := pb_xarg hm
                obtain ⟨dd69, ed69, xq69⟩ := XD.at xd (show fld e.cls = some "row" by rw [c69]; exact fd_NoText)
                refine ⟨_, rfl, rfl, (congrArg Value.ref (Nm.uniq (x := "NoText") (c69 ▸ nC) T.x_NoText.ns)), _, _, _, ed69, w64.same _ _ xq69, rfl, (by show 2 ≤ sizeLine; decide), fun p70 n70 => ?_⟩
                obtain ⟨F70, s70, w70, q70⟩ := w64.frzE (o := .tup [(.str "text"), (.int e.arg)]) n70
                replace h1 := A2.mono s70 h1
                replace q1 := s70 _ _ q1
                replace r65 := Rep.mono s70 r65
                replace xd := XD.mono s70 xd
                replace h49 := A2.mono s70 h49
                replace q51 := s70 _ _ q51
                replace sF := sF.trans s70
                have r71 : rep K F70 (.ref p70) ((Tl.ap ⟨("text" : Str), by decide +kernel⟩ e.arg) : Tl) := (rep_tlA q70)
                exact hN66 _ (post_ok hm) _ _ ⟨_, _, rfl, s70, w70, r71⟩
              · skip
                exact hN66 _ (post_ok hm) _ _ ⟨_, _, rfl, Same.refl _, w64, r65⟩
            intro g66 σ66 H66 hI hm
            obtain ⟨F66, v66_2, rfl, s66, w66, r66_2⟩ := hI
            replace h1 := A2.mono s66 h1
            replace q1 := s66 _ _ q1
            replace r65 := Rep.mono s66 r65
            replace xd := XD.mono s66 xd
            replace h49 := A2.mono s66 h49
            replace q51 := s66 _ _ q51
            replace sF := sF.trans s66
            obtain ⟨t73, e73, hm⟩ := pb_get hm
            obtain ⟨u73, f73, r73⟩ := A2.at h49 e73
            obtain rfl : u73 = V.bl t73 := r73
            refine ⟨_, rfl, _, _, _, _, rfl, rfl, SqL.of (w66.same _ _ q51), f73, _, rfl, ?_⟩
            refine post_ite hm (fun k74 hm => ?_) (fun k74 hm => ?_)
            · skip
              obtain ⟨c75, hm⟩ := pb_xarg hm
              obtain ⟨dd75, ed75, xq75⟩ := XD.at xd (show fld e.cls = some "place" by rw [c75]; exact fd_Apart)
              refine ⟨_, rfl, rfl, (congrArg Value.ref (Nm.uniq (x := "Apart") (c75 ▸ nC) T.x_Apart.ns)), _, _, _, ed75, w66.same _ _ xq75, rfl, (by show 2 ≤ sizeLine; decide), fun p76 n76 => ?_⟩
              obtain ⟨F76, s76, w76, q76⟩ := w66.frzE (o := .tup [(.str "apart"), (.int e.arg)]) n76
              replace h1 := A2.mono s76 h1
              replace q1 := s76 _ _ q1
              replace r66_2 := Rep.mono s76 r66_2
              replace xd := XD.mono s76 xd
              replace h49 := A2.mono s76 h49
              replace q51 := s76 _ _ q51
              replace sF := sF.trans s76
              have r77 : rep K F76 (.ref p76) ((Tl.ap ⟨("apart" : Str), by decide +kernel⟩ e.arg) : Tl) := (rep_tlA q76)
              exact hN4 _ (post_ok hm) _ _ ⟨_, _, _, rfl, (s.trans (s51.trans (s52.trans (s54.trans (s64.trans (s66.trans s76)))))), w76, r77⟩
            · skip
              exact hN4 _ (post_ok hm) _ _ ⟨_, _, _, rfl, (s.trans (s51.trans (s52.trans (s54.trans (s64.trans s66))))), w66, r66_2⟩
          · skip
            exact hN4 _ (post_ok hm) _ _ ⟨_, _, _, rfl, (s.trans (s51.trans (s52.trans s54))), w54, r53⟩
        replace h1 := A2.mono s43 h1
        replace q1 := s43 _ _ q1
        replace r3 := Rep.mono s43 r3
        replace sF := sF.trans s43
        obtain ⟨F43b, s43b, w43b, q43⟩ : ∃ F', Same F43 F' ∧ W F' _ ((dx43, (.own a43)) :: os) ∧ F' a43 = some (.ins (A 20) dx43 (mkfs [("stands" : Str)] us43)) := w43i.freezeE (pre := [])
        replace h1 := A2.mono s43b h1
        replace q1 := s43b _ _ q1
        replace r3 := Rep.mono s43b r3
        replace h43 := RepL.mono s43b h43
        replace sF := sF.trans s43b
        have w43c : W F43b _ (os) := w43b.drop (pre := [])
        exact hN4 _ (post_ok hm) _ _ ⟨_, _, _, rfl, (s43.trans s43b), w43c, r3⟩
    intro g4 σ4 H4 hI hm
    obtain ⟨F4, v4_2, o4_4, rfl, s4, w4, r4_2⟩ := hI
    replace h1 := A2.mono s4 h1
    replace q1 := s4 _ _ q1
    replace r3 := Rep.mono s4 r3
    replace sF := sF.trans s4
    exact ⟨_, rfl, (post_ok hm) _ _ _ w4 sF r4_2⟩
def sp_law (K : Fg) : Sp := fun vs H Q E => ∃ (F : Hp) (os : List (Addr × HO)) (v__law_script : V) (x__law_script : Scr), vs = [v__law_script] ∧ W F H (os) ∧ rep K F v__law_script x__law_script ∧ Post (law x__law_script) (Ret K F os Q) noX
theorem sc_law : FnScope ["_law_script", "_law_k", "_law_purse_here", "_law_web_here", "_law_rows", "_law_due"] ["_law_script"] (defScope s_law) := ⟨rfl, rfl, rfl, by decide +kernel, rfl, by decide +kernel, by decide +kernel⟩
theorem ok_law (T : Tx K mg A FD) : FnOk P w K mg base CX0 8 (A 37) (FD 37) ["_law_script"] (sp_law K) := by
  refine T.d37.fn.ok sc_law (fun vs H Q E h => ?_) (fun cdv Ar outer s H vs Q E hr h => ?_)
  · obtain ⟨F, os, v__law_script, x__law_script, rfl, _⟩ := h
    rfl
  · obtain ⟨F0, os, v__law_script, x__law_script, rfl, w0, r__law_script, hm⟩ := h
    have sF : Same F0 F0 := Same.refl _
    obtain ⟨a1, rfl, q1⟩ := r__law_script
    have h1 : A2 (rep K F0) (x__law_script.l.map V.int) x__law_script.l := A2.of_ints
    refine ⟨_, (pss_cons (ps_for PassesOwn.never rfl (pi_range2 (by rfl) T.n_range (pa_cons pe_int (pa_cons (pe_callB (call_min2 rfl) (by rfl) T.n_min (by decide +kernel) (pa_cons pe_int (pa_cons (pe_callB (call_max2 rfl) (by rfl) T.n_max (by decide +kernel) (pa_cons pe_int (pa_cons (pe_callB (call_lenN (K := K) rfl) (by rfl) T.n_len (by decide +kernel) (pa_cons (pv 0) pa_nil)) pa_nil))) pa_nil))) pa_nil))) (pg_name (i := 1) sc_law.nd rfl (Or.inl rfl)) (pss_cons (ps_set (i := 2) sc_law.nd rfl (Or.inl rfl) (pe_call (ok_law_purse T) (hr.mono (by decide)) (by rfl) T.d22.mg T.d22.fn.kp T.d22.b .nil pass0 (pa_cons (pv 0) (pa_cons (pv 1) pa_nil)))) (pss_cons (ps_set (i := 3) sc_law.nd rfl (Or.inl rfl) (pe_call (ok_law_web T) (hr.mono (by decide)) (by rfl) T.d26.mg T.d26.fn.kp T.d26.b .nil pass0 (pa_cons (pv 2) (pa_cons pe_int (pa_cons pe_int pa_nil))))) (pss_cons (ps_asg (pe_call (ok_law_spoilt T) (hr.mono (by decide)) (by rfl) T.d35.mg T.d35.fn.kp T.d35.b .nil pass0 (pa_cons (pv 3) (pa_cons (pv 2) pa_nil))) (pg_k (K := K) (t := fun K => gTup K 2 _) rfl (pg_tup (n := 2) rfl (pgs_cons (pg_name (i := 4) sc_law.nd rfl (Or.inl rfl)) (pgs_cons (pg_name (i := 5) sc_law.nd rfl (Or.inl rfl)) pgs_nil))))) (pss_one (ps_if (PW.pt (pw_or (pt_cmpR (op_neDt (K := K) rfl Tl (by decide) hr.units) (pe_call (ok_law_told T) (hr.mono (by decide)) (by rfl) T.d36.mg T.d36.fn.kp T.d36.b .nil pass0 (pa_cons (pv 4) (pa_cons pe_int pa_nil))) (pv 5) (nomark _)) (pw_or1 (pt_cmpR (op_neDt (K := K) rfl Tl (by decide) hr.units) (pe_call (ok_law_told T) (hr.mono (by decide)) (by rfl) T.d36.mg T.d36.fn.kp T.d36.b .nil pass0 (pa_cons (pv 4) (pa_cons pe_int pa_nil))) (pv 5) (nomark _))))) (pss_one (ps_ret pe_bl)) pss_nil)))))) (pss_one (ps_ret pe_bl))), ?_⟩
    obtain ⟨c3, hm⟩ := pb_rng hm
    refine ⟨_, rfl, _, _, _, rfl, .inl (w0.same.seq q1), h1.length, _, _, rfl, _, _, rfl, _, _, rfl, c3, ?_⟩
    refine forX (tw_rng (i := (1 : Int)) (j := (min2 (9 : Int) (max2 (3 : Int) (x__law_script.l.length : Int))))) hm (fun (g2 : Unit) σ H' => ∃ (F' : Hp) (o2_2 : Option V) (o2_3 : Option V) (o2_4 : Option V) (o2_5 : Option V) (o2_1 : Option V), σ = [some (.ref a1), o2_1, o2_2, o2_3, o2_4, o2_5] ∧ Same F0 F' ∧ W F' H' (os)) ⟨_, _, _, _, _, _, rfl, Same.refl _, w0⟩ (fun _ _ _ _ => trivial) ?_ ?_
    · -- a turn
      intro b2 g2 x2 σ2 H2 H2' N2 B2 P2 hI hy hN2 hB2 hZ2 hm
      obtain ⟨F2, o2_2, o2_3, o2_4, o2_5, o2_1, rfl, s2, w2⟩ := hI
      replace q1 := s2.seq q1
      replace h1 := A2.mono s2 h1
      replace sF := sF.trans s2
      obtain ⟨rfl, rfl⟩ := hy
      refine ⟨_, rfl, _, rfl, _, _, _, (x__law_script : Scr), _, rfl, w2, ⟨_, rfl, q1⟩, ?_⟩
      refine (post_bind hm).mono (fun y4 hm p4 us4 F4 H4 w4 s4 g4 => ?_) (fun _ z => z)
      replace h1 := A2.mono s4 h1
      replace q1 := s4.seq q1
      replace sF := sF.trans s4
      refine ⟨_, rfl, _, _, _, _, _, _, _, rfl, w4, g4, ?_⟩
      refine (post_bind hm).mono (fun y6 hm v6 vs6 F6 H6 w6 s6 r6 h6 => ?_) (fun _ z => z)
      replace h1 := A2.mono s6 h1
      replace q1 := s6.seq q1
      replace sF := sF.trans s6
      obtain ⟨a7, u7, z7, rfl, q7, r7a, r7b⟩ := r6
      obtain rfl : u7 = V.int y6.1.1 := r7a
      obtain ⟨a8, vs8, rfl, q8, h8⟩ := r7b
      refine ⟨_, rfl, _, rfl, _, _, _, (y6.1 : (Int × (Tup (Int × Int)))), _, _, _, rfl, w6, (rep_pair q7 rep_i (rep_tup q8 h8)), h6, ?_⟩
      refine (post_bind hm).mono (fun y9 hm v9 vs9 F9 H9 w9 s9 r9 h9 => ?_) (fun _ z => z)
      replace h1 := A2.mono s9 h1
      replace q1 := s9.seq q1
      replace q7 := s9 _ _ q7
      replace h8 := A2.mono s9 h8
      replace q8 := s9 _ _ q8
      replace sF := sF.trans s9
      obtain ⟨a10, u10, z10, rfl, q10, r10a, r10b⟩ := r9
      obtain ⟨a11, vs11, rfl, q11, h11⟩ := r10a
      refine ⟨_, _, rfl, SqT.of (w9.same _ _ q10), rfl, _, _, rfl, _, _, rfl, rfl, ?_⟩
      try dsimp only
      refine stepIf ?_
      refine joinT hm (fun (j13 : Bool) c H' => c = j13 ∧ ∃ (F' : Hp), Same F9 F' ∧ W F' H' ((p4, .lst vs9) :: os)) ?_ ?_
      · intro Q13 P13 q13 hm
        refine ⟨_, rfl, _, _, _, (y9.1.1 : (List Str)), _, rfl, w9, (rep_lst q11 h11), ?_⟩
        refine (post_bind hm).mono (fun y14 hm v14 F14 H14 w14 s14 r14 => ?_) (fun _ z => z)
        replace h1 := A2.mono s14 h1
        replace q1 := s14.seq q1
        replace q7 := s14 _ _ q7
        replace h8 := A2.mono s14 h8
        replace q8 := s14 _ _ q8
        replace h11 := A2.mono s14 h11
        replace q11 := s14 _ _ q11
        replace r10b := Rep.mono s14 r10b
        replace h9 := A2.mono s14 h9
        replace sF := sF.trans s14
        refine ⟨_, rfl, (y14 : Tl), (y9.1.2 : Tl), (Rep.mono w14.same r14), (Rep.mono w14.same r10b), _, rfl, ?_⟩
        refine post_ite hm (fun k16 hm => ?_) (fun k16 hm => ?_)
        · skip
          exact q13 _ (post_ok hm) _ _ ⟨rfl, _, s14, w14⟩
        · skip
          refine ⟨_, rfl, _, _, _, (y9.1.1 : (List Str)), _, rfl, w14, (rep_lst q11 h11), ?_⟩
          refine (post_bind hm).mono (fun y18 hm v18 F18 H18 w18 s18 r18 => ?_) (fun _ z => z)
          replace h1 := A2.mono s18 h1
          replace q1 := s18.seq q1
          replace q7 := s18 _ _ q7
          replace h8 := A2.mono s18 h8
          replace q8 := s18 _ _ q8
          replace h11 := A2.mono s18 h11
          replace q11 := s18 _ _ q11
          replace r10b := Rep.mono s18 r10b
          replace h9 := A2.mono s18 h9
          replace r14 := Rep.mono s18 r14
          replace sF := sF.trans s18
          exact ⟨_, rfl, (y18 : Tl), (y9.1.2 : Tl), (Rep.mono w18.same r18), (Rep.mono w18.same r10b), _, rfl, q13 _ (post_ok hm) _ _ ⟨rfl, _, (s14.trans s18), w18⟩⟩
      intro j13 c13 H13 hc13 hm
      obtain ⟨rfl, F13, s13, w13⟩ := hc13
      replace h1 := A2.mono s13 h1
      replace q1 := s13.seq q1
      replace q7 := s13 _ _ q7
      replace h8 := A2.mono s13 h8
      replace q8 := s13 _ _ q8
      replace h11 := A2.mono s13 h11
      replace q11 := s13 _ _ q11
      replace r10b := Rep.mono s13 r10b
      replace h9 := A2.mono s13 h9
      replace sF := sF.trans s13
      refine post_ite hm (fun k21 hm => ?_) (fun k21 hm => ?_)
      · skip
        have hm := hZ2 _ (post_ok hm)
        have w22 : W F13 _ (os) := w13.drop (pre := [])
        exact (post_ok hm) _ _ _ w22 sF rep_b
      · skip
        have w23 : W F13 _ (os) := w13.drop (pre := [])
        exact hN2 _ (post_ok hm) _ _ ⟨_, _, _, _, _, _, rfl, (s2.trans (s4.trans (s6.trans (s9.trans s13)))), w23⟩
    intro g2 σ2 H2 hI hm
    obtain ⟨F2, o2_2, o2_3, o2_4, o2_5, o2_1, rfl, s2, w2⟩ := hI
    replace q1 := s2.seq q1
    replace h1 := A2.mono s2 h1
    replace sF := sF.trans s2
    exact (post_ok hm) _ _ _ w2 sF rep_b
end
end G
/-! MA2: webs drawn from a pool -/
namespace G
open PySem L2 Z
structure TiesOk (b : Nat) (n : Int) (ts : List (Int × Int)) : Prop where
  rg : ∀ p ∈ ts, 0 ≤ p.1 ∧ p.1 < p.2 ∧ p.2 < n
  nd : ts.Nodup
  conn : Conn n ts
  len : ts.length ≤ b
theorem TiesOk.up {b c : Nat} {n : Int} {ts : List (Int × Int)} (h : TiesOk b n ts) (hl : b ≤ c) : TiesOk c n ts := ⟨h.rg, h.nd, h.conn, Nat.le_trans h.len hl⟩
structure WebOk (n : Int) (ts : List (Int × Int)) : Prop where
  n1 : 1 ≤ n
  n60 : n ≤ 60
  rg : ∀ p ∈ ts, 0 ≤ p.1 ∧ p.1 < p.2 ∧ p.2 < n
  nd : ts.Nodup
  conn : Conn n ts
  len : ts.length ≤ 700
  srt : sortP ts = ts
theorem WebOk.rg4 {n : Int} {ts : List (Int × Int)} (h : WebOk n ts) : ∀ q ∈ ts, 0 ≤ q.1 ∧ q.1 < n ∧ 0 ≤ q.2 ∧ q.2 < n := fun q hq => by
  have := h.rg q hq
  omega
def moved (o : List Int) (p : Int × Int) : Int × Int := (min2 (o.getD p.1.toNat 0) (o.getD p.2.toNat 0), max2 (o.getD p.1.toNat 0) (o.getD p.2.toNat 0))
theorem perm_get {o : List Int} {n : Int} (h : o.Perm (rng 0 n)) (n0 : 0 ≤ n) {k : Int} (k0 : 0 ≤ k) (k1 : k < n) : ∃ x, o[k.toNat]? = some x ∧ 0 ≤ x ∧ x < n := by
  have hl := h.length_eq
  rw [rng_length] at hl
  have hk : k.toNat < o.length := by omega
  refine ⟨o[k.toNat], List.getElem?_eq_getElem hk, ?_⟩
  exact rng_mem.mp (h.mem_iff.mp (List.getElem_mem hk))
theorem perm_getD {o : List Int} {n : Int} (h : o.Perm (rng 0 n)) (n0 : 0 ≤ n) {k : Int} (k0 : 0 ≤ k) (k1 : k < n) : 0 ≤ o.getD k.toNat 0 ∧ o.getD k.toNat 0 < n := by
  obtain ⟨x, e, x0, x1⟩ := perm_get h n0 k0 k1
  rw [List.getD_eq_getElem?_getD, e]
  exact ⟨x0, x1⟩
theorem perm_inj {o : List Int} {n : Int} (h : o.Perm (rng 0 n)) (n0 : 0 ≤ n) {j k : Int} (j0 : 0 ≤ j) (j1 : j < n) (k0 : 0 ≤ k) (k1 : k < n) (e : o.getD j.toNat 0 = o.getD k.toNat 0) : j = k := by
  have hl := h.length_eq
  rw [rng_length] at hl
  have hnd : o.Nodup := (h.nodup_iff).mpr (rng_nodup 0 n)
  have hj : j.toNat < o.length := by omega
  have hk : k.toNat < o.length := by omega
  rw [List.getD_eq_getElem?_getD, List.getD_eq_getElem?_getD, List.getElem?_eq_getElem hj, List.getElem?_eq_getElem hk] at e
  have e' : o[j.toNat] = o[k.toNat] := e
  have hpw := List.pairwise_iff_getElem.mp hnd
  rcases Nat.lt_trichotomy j.toNat k.toNat with q | q | q
  · exact absurd e' (hpw _ _ hj hk q)
  · omega
  · exact absurd e'.symm (hpw _ _ hk hj q)
theorem perm_surj {o : List Int} {n : Int} (h : o.Perm (rng 0 n)) (n0 : 0 ≤ n) {x : Int} (x0 : 0 ≤ x) (x1 : x < n) : ∃ k, 0 ≤ k ∧ k < n ∧ o.getD k.toNat 0 = x := by
  have hx : x ∈ o := h.mem_iff.mpr (rng_mem.mpr ⟨x0, x1⟩)
  obtain ⟨i, hi⟩ := List.mem_iff_getElem?.mp hx
  have hl := h.length_eq
  rw [rng_length] at hl
  have hil := (List.getElem?_eq_some_iff.mp hi).1
  refine ⟨i, by omega, by omega, ?_⟩
  rw [List.getD_eq_getElem?_getD, Int.toNat_natCast, hi]
  rfl
theorem mm_cases (a b : Int) : (min2 a b = a ∧ max2 a b = b ∧ a ≤ b) ∨ (min2 a b = b ∧ max2 a b = a ∧ b ≤ a) := by
  unfold min2 max2
  by_cases h : b < a
  · rw [if_pos h, if_neg (by omega)]
    exact .inr ⟨rfl, rfl, by omega⟩
  · rw [if_neg h]
    by_cases h2 : b > a
    · rw [if_pos h2]
      exact .inl ⟨rfl, rfl, by omega⟩
    · rw [if_neg h2]
      have : a = b := by omega
      subst this
      exact .inl ⟨rfl, rfl, by omega⟩
theorem moved_inj {o : List Int} {n : Int} (h : o.Perm (rng 0 n)) (n0 : 0 ≤ n) {p q : Int × Int} (hp : 0 ≤ p.1 ∧ p.1 < p.2 ∧ p.2 < n) (hq : 0 ≤ q.1 ∧ q.1 < q.2 ∧ q.2 < n) (e : moved o p = moved o q) : p = q := by
  unfold moved at e
  injection e with e1 e2
  have i1 := fun e => perm_inj h n0 (j := p.1) (k := q.1) hp.1 (by omega) hq.1 (by omega) e
  have i2 := fun e => perm_inj h n0 (j := p.2) (k := q.2) (by omega) hp.2.2 (by omega) hq.2.2 e
  have i3 := fun e => perm_inj h n0 (j := p.1) (k := q.2) hp.1 (by omega) (by omega) hq.2.2 e
  have i4 := fun e => perm_inj h n0 (j := p.2) (k := q.1) (by omega) hp.2.2 hq.1 (by omega) e
  rcases mm_cases (o.getD p.1.toNat 0) (o.getD p.2.toNat 0) with ⟨a1, a2, _⟩ | ⟨a1, a2, _⟩ <;> rcases mm_cases (o.getD q.1.toNat 0) (o.getD q.2.toNat 0) with ⟨b1, b2, _⟩ | ⟨b1, b2, _⟩ <;> rw [a1, b1] at e1 <;> rw [a2, b2] at e2
  · exact Prod.ext (i1 e1) (i2 e2)
  · have := i3 e1
    have := i4 e2
    omega
  · have := i4 e1
    have := i3 e2
    omega
  · exact Prod.ext (i1 e2) (i2 e1)
theorem moved_ok {o : List Int} {n : Int} {ts : List (Int × Int)} (ho : o.Perm (rng 0 n)) (n0 : 1 ≤ n) (n1 : n ≤ 60) (h : TiesOk 700 n ts) : WebOk n (sortP (ts.map (moved o))) := by
  have hperm := sortP_perm (ts.map (moved o))
  refine ⟨n0, n1, fun p hp => ?_, ?_, ?_, ?_, ?_⟩
  · obtain ⟨q, hq, rfl⟩ := List.mem_map.mp (hperm.mem_iff.mp hp)
    have hr := h.rg q hq
    have r1 := perm_getD ho (by omega) (k := q.1) hr.1 (by omega)
    have r2 := perm_getD ho (by omega) (k := q.2) (by omega) hr.2.2
    have ne : o.getD q.1.toNat 0 ≠ o.getD q.2.toNat 0 := fun e => by
      have := perm_inj ho (by omega) hr.1 (by omega) (by omega) hr.2.2 e
      omega
    unfold moved
    dsimp only
    rcases mm_cases (o.getD q.1.toNat 0) (o.getD q.2.toNat 0) with ⟨a1, a2, _⟩ | ⟨a1, a2, _⟩ <;> rw [a1, a2] <;> omega
  · refine hperm.nodup_iff.mpr ?_
    refine List.Pairwise.map (R := fun p q => p ≠ q ∧ p ∈ ts ∧ q ∈ ts) _ (fun p q hpq e => hpq.1 (moved_inj ho (by omega) (h.rg p hpq.2.1) (h.rg q hpq.2.2) e)) ?_
    exact h.nd.imp_of_mem fun hp hq hne => ⟨hne, hp, hq⟩
  · intro S h0 hc
    obtain ⟨r, r0, r1, er⟩ := perm_surj ho (by omega) (x := 0) (by omega) (by omega)
    have key := h.conn.any (S := fun k => S (o.getD k.toNat 0)) r0 r1 (by show S (o.getD r.toNat 0); rw [er]; exact h0) fun p hp => by
      have hm : moved o p ∈ sortP (ts.map (moved o)) := hperm.mem_iff.mpr (List.mem_map.mpr ⟨p, hp, rfl⟩)
      have := hc _ hm
      unfold moved at this
      dsimp only at this
      rcases mm_cases (o.getD p.1.toNat 0) (o.getD p.2.toNat 0) with ⟨a1, a2, _⟩ | ⟨a1, a2, _⟩
      · rw [a1, a2] at this
        exact this
      · rw [a1, a2] at this
        exact this.symm
    intro k k0 k1
    obtain ⟨j, j0, j1, ej⟩ := perm_surj ho (by omega) k0 k1
    rw [← ej]
    exact key j j0 j1
  · rw [hperm.length_eq, List.length_map]
    exact h.len
  · exact (sortP_eq (List.Perm.refl _) (sortP_sorted _)).symm
/-! ### the purse -/
def PuOk (s : List Int) : Prop := ∃ a : Int, s = [a] ∧ 0 ≤ a
theorem take_ok {s : List Int} {m : Int} (h : PuOk s) (h0 : 0 < m) (h1 : m < 1073741824) : Post (law_take s m) (fun r => 0 ≤ r.1 ∧ r.1 < m ∧ PuOk r.2) noX := by
  obtain ⟨a, rfl, a0⟩ := h
  unfold law_take
  refine po_getE (x := a) rfl (po_mod h0 fun r0 r1 => po_getE (x := a) rfl (po_div h0 h1 (po_set (Int.le_refl _) (by show (0 : Int) < 1; decide) ?_)))
  exact ⟨r0, r1, a / m, rfl, Int.ediv_nonneg a0 (by omega)⟩
theorem ten30 : ((10 : Int) ^ ((30 : Int) : Int).toNat) = 1000000000000000000000000000000 := by decide +kernel
theorem ten18 : ((10 : Int) ^ ((18 : Int) : Int).toNat) = 1000000000000000000 := by decide +kernel
theorem fits400 {i : Int} (h0 : 0 ≤ i) (h1 : i < 10000000000000000000000000000000000000000) : i.natAbs < 2 ^ 400 := by
  have h : i.natAbs < 10000000000000000000000000000000000000000 := by omega
  exact Nat.lt_of_lt_of_le h (by decide +kernel)
theorem purse_ok {sc : Scr} {k : Int} (k0 : 0 ≤ k) (k1 : k < 1000) : Post (law_purse sc k) PuOk noX := by
  unfold law_purse
  rw [ten30, ten18]
  refine po_bind (Q := fun _ => True) (po_if (fun c => ?_) fun c => po_if (fun c2 => ?_) fun _ => trivial) fun g2 _ => po_if (fun c => ?_) fun c => ?_
  · exact po_get k0 (of_decide_eq_true c) fun t _ _ => trivial
  · have hl : sc.l ≠ [] := by
      intro e
      obtain ⟨l⟩ := sc
      have e' : l = [] := e
      subst e'
      rw [decide_eq_true rfl] at c2
      cases c2
    have hp : (0 : Int) < (sc.l.length : Int) := by
      have := List.length_pos_iff.mpr hl
      omega
    exact po_mod hp fun r0 r1 => po_get r0 r1 fun t _ _ => trivial
  · have c' := of_decide_eq_true c
    exact ⟨g2, rfl, by omega⟩
  · have r0 : 0 ≤ g2 % (1000000000000000000000000000000 + 57) := Int.emod_nonneg _ (by decide)
    have r1 : g2 % (1000000000000000000000000000000 + 57) < (1000000000000000000000000000000 + 57) := Int.emod_lt_of_pos _ (by decide)
    generalize g2 % (1000000000000000000000000000000 + 57) = r at r0 r1
    rw [po_sq (fits400 (by omega) (by omega)), ok_bind]
    generalize ((r + 7919 * k) + 101) * ((r + 7919 * k) + 101) = q
    have s0 : 0 ≤ q % (1000000000000000000000000000000 + 57) := Int.emod_nonneg _ (by decide)
    have s1 : q % (1000000000000000000000000000000 + 57) < (1000000000000000000000000000000 + 57) := Int.emod_lt_of_pos _ (by decide)
    generalize q % (1000000000000000000000000000000 + 57) = s at s0 s1
    rw [po_mulW (fits400 (by omega) (by omega)) (fits400 (by decide) (by decide)), ok_bind]
    exact ⟨_, rfl, Int.emod_nonneg _ (by decide)⟩
theorem order_ok {s : List Int} {n : Int} (h : PuOk s) (n0 : 0 ≤ n) (n1 : n ≤ 1000) : Post (law_order s n) (fun r => r.1.Perm (rng 0 n) ∧ PuOk r.2) noX := by
  unfold law_order
  refine po_rng (by decide) (by decide) (by omega) (by omega) ?_
  refine po_bind (po_foldP (fun pre (g : List Int × List Int) => g.1.Perm pre ∧ PuOk g.2) ⟨List.Perm.refl _, h⟩ ?_) fun g hg => po_ok hg
  rintro pre ⟨l, p⟩ x post e ⟨h1, h2⟩
  have h1' : l.Perm pre := h1
  have hx := rng_pre e
  obtain ⟨_, x0, x1⟩ := rng_split e
  have hl := h1'.length_eq
  refine po_bind (take_ok h2 (by omega) (by omega)) fun y ⟨y0, y1, hy⟩ => ?_
  have hi : insR l y.1 x = R.ok (l.take y.1.toNat ++ [x] ++ l.drop y.1.toNat) := by
    unfold insR
    rw [if_pos ⟨by omega, y0, by omega⟩]
  show Post (insR l y.1 x >>= _) _ _
  rw [hi, ok_bind]
  refine ⟨?_, hy⟩
  show (l.take y.1.toNat ++ [x] ++ l.drop y.1.toNat).Perm (pre ++ [x])
  have p1 : (l.take y.1.toNat ++ [x] ++ l.drop y.1.toNat).Perm (l.take y.1.toNat ++ l.drop y.1.toNat ++ [x]) := by
    rw [List.append_assoc, List.append_assoc]
    exact List.Perm.append_left _ List.perm_append_comm
  rw [List.take_append_drop] at p1
  exact p1.trans (h1'.append_right _)
/-! ### the pairs -/
structure PairsOk (n k : Int) (g : List (Int × Int)) : Prop where
  rg : ∀ p ∈ g, 0 ≤ p.1 ∧ p.1 < n ∧ 0 ≤ p.2 ∧ p.2 < n ∧ p.1 ≠ p.2
  dn : ∀ j, 1 ≤ j → j < k → ∃ i, 0 ≤ i ∧ i < j ∧ (i, j) ∈ g
theorem PairsOk.add {n k : Int} {g us : List (Int × Int)} (h : PairsOk n k g) (hu : ∀ p ∈ us, 0 ≤ p.1 ∧ p.1 < n ∧ 0 ≤ p.2 ∧ p.2 < n ∧ p.1 ≠ p.2) : PairsOk n k (g ++ us) :=
  ⟨fun p hp => (List.mem_append.mp hp).elim (h.rg p) (hu p), fun j j1 jk => let ⟨i, a, b, c⟩ := h.dn j j1 jk; ⟨i, a, b, List.mem_append_left _ c⟩⟩
theorem PairsOk.next {n k : Int} {g : List (Int × Int)} (h : PairsOk n k g) (hk : 1 ≤ k → ∃ i, 0 ≤ i ∧ i < k ∧ (i, k) ∈ g) : PairsOk n (k + 1) g := by
  refine ⟨h.rg, fun j j1 jk => ?_⟩
  by_cases e : j = k
  · subst e
    exact hk j1
  · exact h.dn j j1 (by omega)
theorem repL_one {α : Type} (x : α) (b : Bool) : repL [x] (b2i b) = if b = true then [x] else [] := by
  cases b <;> rfl
theorem pairs_ok {s : List Int} {n way : Int} (h : PuOk s) (n0 : 1 ≤ n) (n1 : n ≤ 60) (w0 : 0 ≤ way) : Post (law_pairs s n way) (fun r => PairsOk n n r.1 ∧ r.1.length < 5000 ∧ PuOk r.2) noX := by
  unfold law_pairs
  refine po_rng (by decide) (by decide) (by omega) (by omega) ?_
  refine po_bind (po_foldP (fun pre (g : List (Int × Int) × List Int) => PairsOk n (1 + pre.length) g.1 ∧ g.1.length ≤ 61 * pre.length ∧ PuOk g.2) ⟨⟨fun _ hp => (nomatch hp), fun j j1 jk => by
      have : j < 1 := jk
      omega⟩, Nat.le_refl _, h⟩ ?_) fun g4 ⟨g1, g2, g3⟩ => ?_
  · rintro pre ⟨g, p⟩ x post e ⟨h1, h2, h3⟩
    have h1' : PairsOk n (1 + pre.length) g := h1
    have h2' : g.length ≤ 61 * pre.length := h2
    have hx := rng_pre e
    obtain ⟨_, x1, xn⟩ := rng_split e
    refine po_bind (take_ok h3 (by omega) (by omega)) fun y ⟨y0, y1, hy⟩ => ?_
    have hm0 : 0 ≤ min2 way 3 ∧ min2 way 3 < 4 := by
      rcases mm_cases way 3 with ⟨e1, _, _⟩ | ⟨e1, _, _⟩ <;> rw [e1] <;> omega
    refine po_get hm0.1 hm0.2 fun t ht _ => ?_
    have ht' : 0 ≤ t ∧ t < x := by
      rcases List.mem_cons.mp ht with rfl | ht
      · omega
      · rcases List.mem_cons.mp ht with rfl | ht
        · omega
        · rcases List.mem_cons.mp ht with rfl | ht
          · omega
          · rcases List.mem_cons.mp ht with rfl | ht
            · omega
            · cases ht
    refine po_app (by show g.length < 100000; omega) ?_
    have q1 : PairsOk n (1 + pre.length + 1) (g ++ [(t, x)]) := by
      refine (h1'.add (us := [(t, x)]) fun p hp => ?_).next fun _ => ⟨t, ht'.1, by omega, ?_⟩
      · rw [List.mem_singleton.mp hp]
        exact ⟨ht'.1, by show t < n; omega, by show 0 ≤ x; omega, xn, by show t ≠ x; omega⟩
      · rw [← hx]
        exact List.mem_append_right _ (List.mem_singleton.mpr rfl)
    have lp : ((pre ++ [x]).length : Int) = pre.length + 1 := by rw [List.length_append]; rfl
    have lp' : (pre ++ [x]).length = pre.length + 1 := by rw [List.length_append]; rfl
    have q1' : PairsOk n (1 + ((pre ++ [x]).length : Int)) (g ++ [(t, x)]) := by rw [lp, show (1 : Int) + (pre.length + 1) = 1 + pre.length + 1 by omega]; exact q1
    refine po_if (fun _ => ?_) fun _ => ?_
    · refine po_rng (by decide) (by decide) (by omega) (by omega) ?_
      refine po_mapGE (g := fun b => (b, x)) (by rw [rng_length]; omega) (fun b _ => rfl) ?_
      have ll : ((rng 0 x).map fun b => (b, x)).length = x.toNat := by rw [List.length_map, rng_length]; omega
      refine po_extend (by rw [ll, List.length_append]; show g.length + 1 + x.toNat < 100000; omega) ⟨q1'.add fun p hp => ?_, ?_, hy⟩
      · obtain ⟨b, hb, rfl⟩ := List.mem_map.mp hp
        have := rng_mem.mp hb
        exact ⟨this.1, by show b < n; omega, by show 0 ≤ x; omega, xn, by show b ≠ x; omega⟩
      · show ((g ++ [(t, x)]) ++ _).length ≤ _
        rw [List.length_append, ll, List.length_append, lp']
        show g.length + 1 + x.toNat ≤ _
        omega
    · refine ⟨q1', ?_, hy⟩
      show (g ++ [(t, x)]).length ≤ _
      rw [List.length_append, lp']
      show g.length + 1 ≤ _
      omega
  · have lr : (rng 1 n).length = (n - 1).toNat := rng_length 1 n
    rw [lr, show (1 : Int) + (((n - 1).toNat : Nat) : Int) = n by omega] at g1
    rw [lr] at g2
    refine po_bind (Q := fun g => PairsOk n n g ∧ g.length < 3700) (po_if (fun c => ?_) fun _ => ⟨g1, by omega⟩) fun g26 ⟨k1, k2⟩ => ?_
    · have c' : (decide (way = 1) && decide ((2 : Int) < n)) = true := c
      rw [Bool.and_eq_true] at c'
      have n2 := of_decide_eq_true c'.2
      refine po_app (by omega) ⟨g1.add fun p hp => ?_, ?_⟩
      · rw [List.mem_singleton.mp hp]
        exact ⟨by show (0 : Int) ≤ 0; omega, by show (0 : Int) < n; omega, by show 0 ≤ n - 1; omega, by show n - 1 < n; omega, by show (0 : Int) ≠ n - 1; omega⟩
      · rw [List.length_append]
        show g4.1.length + 1 < _
        omega
    · refine po_bind (Q := fun (g : List (Int × Int) × List Int) => PairsOk n n g.1 ∧ g.1.length < 5000 ∧ PuOk g.2) (po_if (fun c => ?_) fun _ => ⟨k1, by show g26.length < 5000; omega, g3⟩) fun g35 hg => po_ok hg
      refine po_bind (take_ok g3 (by decide) (by decide)) fun y ⟨y0, y1, hy⟩ => ?_
      refine po_rng (by decide) (by decide) (by omega) (by omega) ?_
      refine po_bind (po_foldP (fun pre (g : List Int × List (Int × Int)) => PuOk g.1 ∧ PairsOk n n g.2 ∧ g.2.length ≤ 3700 + pre.length) ⟨hy, k1, by show g26.length ≤ 3700 + 0; omega⟩ ?_) fun g ⟨a1, a2, a3⟩ => ?_
      · rintro pre ⟨p, g⟩ x post e ⟨h1, h2, h3⟩
        have h3' : g.length ≤ 3700 + pre.length := h3
        have hx := rng_pre e
        obtain ⟨_, x1, xn⟩ := rng_split e
        refine po_bind (take_ok h1 (by omega) (by omega)) fun u ⟨u0, u1, hu⟩ => po_bind (take_ok hu (by omega) (by omega)) fun v ⟨v0, v1, hv⟩ => ?_
        have hb : 0 ≤ b2i (!decide (u.1 = v.1)) ∧ b2i (!decide (u.1 = v.1)) < 1000 := by
          cases (!decide (u.1 = v.1)) <;> decide
        refine po_rep hb.1 hb.2 (by show 1 < 100; decide) ?_
        rw [repL_one]
        have lx : (pre ++ [x]).length = pre.length + 1 := by rw [List.length_append]; rfl
        by_cases q : (!decide (u.1 = v.1)) = true
        · rw [if_pos q]
          have hne : u.1 ≠ v.1 := by
            intro z
            rw [decide_eq_true z] at q
            cases q
          refine po_extend (by show g.length + 1 < 100000; omega) ⟨hv, h2.add fun p hp => ?_, ?_⟩
          · rw [List.mem_singleton.mp hp]
            exact ⟨u0, u1, v0, v1, hne⟩
          · show (g ++ [_]).length ≤ _
            rw [List.length_append, lx]
            show g.length + 1 ≤ _
            omega
        · rw [if_neg q]
          refine po_extend (by show g.length + 0 < 100000; omega) ⟨hv, ?_, ?_⟩
          · show PairsOk n n (g ++ [])
            rw [List.append_nil]
            exact h2
          · show (g ++ []).length ≤ _
            rw [List.append_nil, lx]
            omega
      · rw [rng_length] at a3
        exact ⟨a2, by show g.2.length < 5000; omega, a1⟩
/-! ### the web -/
def norm2 (p : Int × Int) : Int × Int := (min2 p.1 p.2, max2 p.1 p.2)
theorem moved_norm (o : List Int) (p : Int × Int) : moved o (norm2 p) = moved o p := by
  unfold norm2
  rcases mm_cases p.1 p.2 with ⟨e1, e2, _⟩ | ⟨e1, e2, _⟩
  · rw [e1, e2]
  · rw [e1, e2]
    unfold moved
    show (min2 (o.getD p.2.toNat 0) (o.getD p.1.toNat 0), max2 (o.getD p.2.toNat 0) (o.getD p.1.toNat 0)) = _
    rcases mm_cases (o.getD p.1.toNat 0) (o.getD p.2.toNat 0) with ⟨a1, a2, _⟩ | ⟨a1, a2, _⟩ <;> rcases mm_cases (o.getD p.2.toNat 0) (o.getD p.1.toNat 0) with ⟨b1, b2, _⟩ | ⟨b1, b2, _⟩ <;> rw [a1, a2, b1, b2] <;> (refine Prod.ext ?_ ?_ <;> show _ = _ <;> first | rfl | omega)
theorem norm2_rg {n : Int} {p : Int × Int} (h : 0 ≤ p.1 ∧ p.1 < n ∧ 0 ≤ p.2 ∧ p.2 < n ∧ p.1 ≠ p.2) : 0 ≤ (norm2 p).1 ∧ (norm2 p).1 < (norm2 p).2 ∧ (norm2 p).2 < n := by
  unfold norm2
  rcases mm_cases p.1 p.2 with ⟨e1, e2, _⟩ | ⟨e1, e2, _⟩ <;> rw [e1, e2] <;> refine ⟨?_, ?_, ?_⟩ <;> dsimp only <;> omega
theorem few_pairs5 {ps : List (Int × Int)} {n : Int} (hn : n ≤ 26) (hd : ps.Nodup) (hr : ∀ p ∈ ps, 0 ≤ p.1 ∧ p.1 < p.2 ∧ p.2 < n) : ps.length ≤ 700 := by
  have h1 : (ps.map fun p => p.1 * 26 + p.2).Nodup := by
    refine List.pairwise_map.mpr (hd.imp_of_mem ?_)
    intro a b ha hb hne e
    have ra := hr a ha
    have rb := hr b hb
    exact hne (Prod.ext (by omega) (by omega))
  have h2 := nodup_le h1 (ys := rng 0 676) fun x hx => by
    obtain ⟨p, hp, rfl⟩ := List.mem_map.mp hx
    have := hr p hp
    exact rng_mem.mpr ⟨by omega, by omega⟩
  rw [List.length_map, rng_length] at h2
  have : ((676 : Int) - 0).toNat = 676 := by decide
  omega
theorem web_ok5 {s : List Int} {lo hi : Int} (h : PuOk s) (l1 : 1 ≤ lo) (l2 : lo ≤ hi) (l3 : hi ≤ 26) : Post (law_web s lo hi) (fun r => lo ≤ r.1.1 ∧ r.1.1 ≤ hi ∧ WebOk r.1.1 r.1.2.l ∧ PuOk r.2) noX := by
  unfold law_web
  refine po_bind (take_ok h (by omega) (by omega)) fun y2 ⟨a0, a1, h2⟩ => po_bind (take_ok h2 (by decide) (by decide)) fun y6 ⟨b0, b1, h6⟩ => ?_
  generalize hn : lo + y2.1 = n
  have n1 : 1 ≤ n := by omega
  have n2 : n ≤ 26 := by omega
  refine po_bind (pairs_ok h6 n1 (by omega) b0) fun y7 ⟨p1, p2, h7⟩ => po_bind (order_ok h7 (by omega) (by omega)) fun y10 ⟨ho, h10⟩ => ?_
  refine po_bind (po_foldP (fun pre (g : List (Int × Int)) => ∃ us : List (Int × Int), g = us.map (moved y10.1) ∧ us.Nodup ∧ (∀ q ∈ us, 0 ≤ q.1 ∧ q.1 < q.2 ∧ q.2 < n) ∧ ∀ p ∈ pre, norm2 p ∈ us) ⟨[], rfl, List.nodup_nil, fun _ z => (nomatch z), fun _ z => (nomatch z)⟩ ?_) ?_
  · rintro pre g x post e ⟨us, rfl, hd, hr, hm⟩
    have hx := p1.rg x (by rw [e]; simp)
    obtain ⟨u, eu, _⟩ := perm_get ho (by omega) (k := x.1) hx.1 hx.2.1
    obtain ⟨v, ev, _⟩ := perm_get ho (by omega) (k := x.2) hx.2.2.1 hx.2.2.2.1
    rw [getI_eq hx.1 eu, ok_bind, getI_eq hx.2.2.1 ev, ok_bind]
    have em : (min2 u v, max2 u v) = moved y10.1 x := by
      unfold moved
      rw [List.getD_eq_getElem?_getD, List.getD_eq_getElem?_getD, eu, ev]
      rfl
    rw [em]
    have hn2 := norm2_rg ⟨hx.1, hx.2.1, hx.2.2.1, hx.2.2.2.1, hx.2.2.2.2⟩
    have hlen := few_pairs5 n2 hd hr
    refine po_if (fun c => ?_) fun c => ?_
    · have hnin : moved y10.1 x ∉ us.map (moved y10.1) := by
        intro z
        have : inB (moved y10.1 x) (us.map (moved y10.1)) = true := inB_t.mpr z
        rw [this] at c
        cases c
      refine po_app (by rw [List.length_map]; omega) ⟨us ++ [norm2 x], ?_, ?_, ?_, ?_⟩
      · rw [List.map_append, List.map_singleton, moved_norm]
      · rw [List.nodup_append]
        refine ⟨hd, by simp, fun a ha b hb e2 => ?_⟩
        rw [List.mem_singleton.mp hb] at e2
        exact hnin (List.mem_map.mpr ⟨a, ha, by rw [e2, moved_norm]⟩)
      · intro q hq
        rcases List.mem_append.mp hq with hq | hq
        · exact hr q hq
        · rw [List.mem_singleton.mp hq]
          exact hn2
      · intro p hp
        rcases List.mem_append.mp hp with hp | hp
        · exact List.mem_append_left _ (hm p hp)
        · rw [List.mem_singleton.mp hp]
          exact List.mem_append_right _ (List.mem_singleton.mpr rfl)
    · have hin : moved y10.1 x ∈ us.map (moved y10.1) := by
        by_cases z : moved y10.1 x ∈ us.map (moved y10.1)
        · exact z
        · have : inB (moved y10.1 x) (us.map (moved y10.1)) = false := by
            cases q : inB (moved y10.1 x) (us.map (moved y10.1)) with
            | false => rfl
            | true => exact absurd (inB_t.mp q) z
          rw [this] at c
          exact absurd rfl c
      obtain ⟨q, hq, eq⟩ := List.mem_map.mp hin
      have e2 : q = norm2 x := moved_inj ho (by omega) (hr q hq) hn2 (by rw [eq, moved_norm])
      refine ⟨us, rfl, hd, hr, fun p hp => ?_⟩
      rcases List.mem_append.mp hp with hp | hp
      · exact hm p hp
      · rw [List.mem_singleton.mp hp, ← e2]
        exact hq
  · rintro g ⟨us, rfl, hd, hr, hm⟩
    have ht : TiesOk 700 n us := by
      refine ⟨hr, hd, conn_tree fun k k1 kn => ?_, few_pairs5 n2 hd hr⟩
      obtain ⟨i, i0, ik, hi⟩ := p1.dn k k1 kn
      refine ⟨i, i0, ik, .inl ?_⟩
      have := hm (i, k) hi
      unfold norm2 at this
      rcases mm_cases i k with ⟨e1, e2, _⟩ | ⟨_, _, z⟩
      · rw [show (min2 (i, k).1 (i, k).2, max2 (i, k).1 (i, k).2) = (i, k) by show (min2 i k, max2 i k) = _; rw [e1, e2]] at this
        exact this
      · omega
    exact ⟨by show lo ≤ n; omega, by show n ≤ hi; omega, moved_ok ho n1 (show n ≤ 60 by omega) ht, h10⟩
end G
/-! MB: neighbours and fars, as the program reckons them -/
namespace G
open PySem L2 Z
/-- the places tied to one, in the ties' order -/
def nbs (ts : List (Int × Int)) (i : Int) : List Int := ts.flatMap fun p => (if p.1 = i then [p.2] else []) ++ (if p.2 = i then [p.1] else [])
theorem nbs_snoc (ts : List (Int × Int)) (x : Int × Int) (i : Int) : nbs (ts ++ [x]) i = nbs ts i ++ ((if x.1 = i then [x.2] else []) ++ (if x.2 = i then [x.1] else [])) := by
  unfold nbs
  rw [List.flatMap_append]
  simp
theorem nbs_mem {ts : List (Int × Int)} {i j : Int} : j ∈ nbs ts i ↔ Adj ts i j := by
  unfold nbs Adj
  rw [List.mem_flatMap]
  constructor
  · rintro ⟨p, hp, h⟩
    rcases List.mem_append.mp h with h | h
    · split at h
      · rename_i e
        rw [List.mem_singleton] at h
        rw [← e, h]
        exact .inl hp
      · cases h
    · split at h
      · rename_i e
        rw [List.mem_singleton] at h
        rw [← e, h]
        exact .inr hp
      · cases h
  · rintro (h | h)
    · exact ⟨_, h, List.mem_append_left _ (by simp)⟩
    · exact ⟨_, h, List.mem_append_right _ (by simp)⟩
theorem nbs_len (ts : List (Int × Int)) (i : Int) : (nbs ts i).length ≤ 2 * ts.length := by
  induction ts with
  | nil => exact Nat.le_refl _
  | cons p ts ih =>
    have e : nbs (p :: ts) i = ((if p.1 = i then [p.2] else []) ++ (if p.2 = i then [p.1] else [])) ++ nbs ts i := rfl
    rw [e, List.length_append, List.length_append, List.length_cons]
    have h1 : (if p.1 = i then [p.2] else []).length ≤ 1 := by split <;> simp
    have h2 : (if p.2 = i then [p.1] else []).length ≤ 1 := by split <;> simp
    omega
theorem map_rng_get {α : Type} {n : Int} {F : Int → α} {j : Int} (h0 : 0 ≤ j) (h1 : j < n) : ((rng 0 n).map F)[j.toNat]? = some (F j) := by
  rw [List.getElem?_map, rng_atE (by omega)]
  show some (F (0 + (j.toNat : Int))) = _
  rw [show (0 : Int) + (j.toNat : Int) = j by omega]
theorem map_rng_set {α : Type} {n : Int} {F : Int → α} {j : Int} {y : α} (h0 : 0 ≤ j) : ((rng 0 n).map F).set j.toNat y = (rng 0 n).map fun i => if i = j then y else F i := by
  apply List.ext_getElem?
  intro k
  rw [List.getElem?_set, List.getElem?_map, List.getElem?_map, List.length_map]
  by_cases hk : k < (n - 0).toNat
  · rw [rng_atE hk]
    by_cases e : j.toNat = k
    · rw [if_pos e, if_pos (by rw [rng_length]; omega)]
      show some y = some (if (0 : Int) + (k : Int) = j then y else F (0 + k))
      rw [if_pos (by omega)]
    · rw [if_neg e]
      show some (F (0 + k)) = some (if (0 : Int) + (k : Int) = j then y else F (0 + k))
      rw [if_neg (by omega)]
  · rw [List.getElem?_eq_none (by rw [rng_length]; omega)]
    by_cases e : j.toNat = k
    · rw [if_pos e, if_neg (by rw [rng_length]; omega)]; rfl
    · rw [if_neg e]
      rfl
theorem map_rng_congr {α : Type} {n : Int} {F G : Int → α} (h : ∀ i, 0 ≤ i → i < n → F i = G i) : (rng 0 n).map F = (rng 0 n).map G := List.map_congr_left fun i hi => h i (rng_mem.mp hi).1 (rng_mem.mp hi).2
theorem range_get {N : Nat} {j : Int} (h0 : 0 ≤ j) (h1 : j < N) : getI (List.range N) j = R.ok j.toNat := by
  refine getI_eq h0 ?_
  rw [List.getElem?_range (by omega)]
def nears (n : Int) (ts : List (Int × Int)) : List (List Int) := (rng 0 n).map fun i => sortI (nbs ts i)
theorem near_lists_ok {n : Int} {ts : List (Int × Int)} (n0 : 0 ≤ n) (n1 : n < 1000) (hl : ts.length < 40000) (hr : ∀ p ∈ ts, 0 ≤ p.1 ∧ p.1 < n ∧ 0 ≤ p.2 ∧ p.2 < n) : near_lists (n, ⟨ts⟩) = R.ok (nears n ts) := by
  refine po_iff ?_
  unfold near_lists
  refine po_rng (by decide) (by decide) (by show -(2 ^ 62) ≤ n; omega) (by show n < 2 ^ 62; omega) ?_
  have hN : (rng 0 n).length = n.toNat := by rw [rng_length]; omega
  refine po_bind (po_mapStA (fun pre acc s => acc = List.range pre.length ∧ s = List.replicate pre.length []) (by show (rng 0 n).length < 100000; omega) ⟨rfl, rfl⟩ fun pre acc s x post e ⟨h1, h2⟩ => ?_) fun l5 ⟨a1, a2⟩ => ?_
  · refine po_newS ⟨?_, ?_⟩
    · show acc ++ [s.length] = _
      rw [h1, h2, List.length_replicate, List.length_append, List.length_singleton, List.range_succ]
    · show s ++ [[]] = _
      rw [h2, List.length_append, List.length_singleton, List.replicate_succ']
  · rw [hN] at a1 a2
    refine po_bind (po_foldP (fun pre g => g = (rng 0 n).map fun i => nbs pre i) ?_ fun pre g x post e hg => ?_) fun g11 hg => ?_
    · rw [a2]
      apply List.ext_getElem?
      intro k
      rw [List.getElem?_replicate, List.getElem?_map]
      by_cases hk : k < n.toNat
      · rw [if_pos hk, rng_atE (by omega)]; rfl
      · rw [if_neg hk, List.getElem?_eq_none (by rw [rng_length]; omega)]; rfl
    · obtain ⟨x1, x2, x3, x4⟩ := hr x (by rw [show ts = pre ++ x :: post from e]; simp)
      have hpl : pre.length < 40000 := by
        have : ts.length = pre.length + (post.length + 1) := by rw [show ts = pre ++ x :: post from e]; simp
        omega
      have hl1 := nbs_len pre x.1
      have hl2 := nbs_len pre x.2
      rw [a1]
      refine po_getE (range_get x1 (by omega)) (po_getS (by rw [hg]; exact map_rng_get x1 x2) (po_app (by omega) (po_setS ?_)))
      rw [hg, map_rng_set x1]
      refine po_getE (range_get x3 (by omega)) (po_getS (map_rng_get x3 x4) (po_app ?_ (po_setS ?_)))
      · split
        · rw [List.length_append, List.length_singleton]; omega
        · omega
      · rw [map_rng_set x3]
        show _ = _
        refine map_rng_congr fun i i0 i1 => ?_
        rw [nbs_snoc]
        by_cases e1 : x.1 = i
        · by_cases e2 : x.2 = i
          · subst e1
            rw [e2]
            simp
          · subst e1
            rw [if_neg (fun q => e2 q.symm), if_pos rfl, if_pos rfl, if_neg e2, List.append_nil]
        · by_cases e2 : x.2 = i
          · subst e2
            rw [if_pos rfl, if_neg (fun q => e1 q.symm), if_neg e1, if_pos rfl, List.nil_append]
          · rw [if_neg (fun q => e2 q.symm), if_neg (fun q => e1 q.symm), if_neg e1, if_neg e2, List.append_nil, List.append_nil]
    · have hg' : g11 = (rng 0 n).map fun i => nbs ts i := hg
      rw [a1]
      refine po_bind (Q := fun l => l = nears n ts) (po_eq (mapG_ok (g := fun b => sortI (nbs ts (b : Nat))) (by rw [List.length_range]; omega) fun b hb => ?_) ?_) fun l h => h
      · have hb' := List.mem_range.mp hb
        refine po_iff (po_getS (xs := nbs ts (b : Nat)) ?_ rfl)
        rw [hg']
        have := map_rng_get (n := n) (F := fun i => nbs ts i) (j := (b : Int)) (by omega) (by omega)
        rw [Int.toNat_natCast] at this
        exact this
      · unfold nears
        apply List.ext_getElem?
        intro k
        rw [List.getElem?_map, List.getElem?_map]
        by_cases hk : k < n.toNat
        · rw [rng_atE (by omega), List.getElem?_range hk]
          show some (sortI (nbs ts (k : Nat))) = some (sortI (nbs ts (0 + (k : Nat))))
          rw [Int.zero_add]
        · rw [List.getElem?_eq_none (by rw [List.length_range]; omega), List.getElem?_eq_none (by rw [rng_length]; omega)]; rfl
theorem sortI_mem {xs : List Int} {x : Int} : x ∈ sortI xs ↔ x ∈ xs := (sortI_perm xs).mem_iff
/-- so many empty lists -/
theorem empties_ok {N : Int} (h0 : 0 ≤ N) (h1 : N < 1000) : Post (mapStG (fun (g5 : (List (List Int))) (b5 : Int) => do
      let r9 ← newS g5 ([] : (List Int))
      R.ok (r9.1, r9.2)) ([] : List (List Int)) (rng 0 N)) (fun l => l.1 = List.range N.toNat ∧ l.2 = List.replicate N.toNat []) noX := by
  have hN : (rng 0 N).length = N.toNat := by rw [rng_length]; omega
  refine Post.mono (po_mapStA (fun pre acc s => acc = List.range pre.length ∧ s = List.replicate pre.length []) (by omega) ⟨rfl, rfl⟩ fun pre acc s x post e ⟨h1, h2⟩ => ?_) (fun l ⟨a1, a2⟩ => by rw [hN] at a1 a2; exact ⟨a1, a2⟩) fun _ z => z
  refine po_newS ⟨?_, ?_⟩
  · show acc ++ [s.length] = _
    rw [h1, h2, List.length_replicate, List.length_append, List.length_singleton, List.range_succ]
  · show s ++ [[]] = _
    rw [h2, List.length_append, List.length_singleton, List.replicate_succ']
/-- ties gathered at both ends -/
theorem gather_ok {n : Int} {ts : List (Int × Int)} (n0 : 0 ≤ n) (n1 : n < 1000) (hl : ts.length < 40000) (hr : ∀ p ∈ ts, 0 ≤ p.1 ∧ p.1 < n ∧ 0 ≤ p.2 ∧ p.2 < n) : Post (foldR (fun (g11 : (List (List Int))) (b11 : (Int × Int)) => do
      let t14 ← getI (List.range n.toNat) b11.1
      let x16 ← getS g11 t14
      let l17 ← app x16 b11.2
      let r17 ← setS g11 t14 l17
      let t18 ← getI (List.range n.toNat) b11.2
      let x20 ← getS r17 t18
      let l21 ← app x20 b11.1
      let r21 ← setS r17 t18 l21
      R.ok r21) (List.replicate n.toNat []) ts) (fun g => g = (rng 0 n).map fun i => nbs ts i) noX := by
  refine po_foldP (fun pre g => g = (rng 0 n).map fun i => nbs pre i) ?_ fun pre g x post e hg => ?_
  · apply List.ext_getElem?
    intro k
    rw [List.getElem?_replicate, List.getElem?_map]
    by_cases hk : k < n.toNat
    · rw [if_pos hk, rng_atE (by omega)]; rfl
    · rw [if_neg hk, List.getElem?_eq_none (by rw [rng_length]; omega)]; rfl
  · obtain ⟨x1, x2, x3, x4⟩ := hr x (by rw [show ts = pre ++ x :: post from e]; simp)
    have hpl : pre.length < 40000 := by
      have : ts.length = pre.length + (post.length + 1) := by rw [show ts = pre ++ x :: post from e]; simp
      omega
    have hl1 := nbs_len pre x.1
    have hl2 := nbs_len pre x.2
    refine po_getE (range_get x1 (by omega)) (po_getS (by rw [hg]; exact map_rng_get x1 x2) (po_app (by omega) (po_setS ?_)))
    rw [hg, map_rng_set x1]
    refine po_getE (range_get x3 (by omega)) (po_getS (map_rng_get x3 x4) (po_app ?_ (po_setS ?_)))
    · split
      · rw [List.length_append, List.length_singleton]; omega
      · omega
    · rw [map_rng_set x3]
      show _ = _
      refine map_rng_congr fun i i0 i1 => ?_
      rw [nbs_snoc]
      by_cases e1 : x.1 = i
      · by_cases e2 : x.2 = i
        · subst e1
          rw [e2]
          simp
        · subst e1
          rw [if_neg (fun q => e2 q.symm), if_pos rfl, if_pos rfl, if_neg e2, List.append_nil]
      · by_cases e2 : x.2 = i
        · subst e2
          rw [if_pos rfl, if_neg (fun q => e1 q.symm), if_neg e1, if_pos rfl, List.nil_append]
        · rw [if_neg (fun q => e2 q.symm), if_neg (fun q => e1 q.symm), if_neg e1, if_neg e2, List.append_nil, List.append_nil]
theorem deref_range {α : Type} {st : List (List α)} {k : Nat} (h : st.length = k) : deref st (List.range k) = R.ok st := by
  unfold deref
  have h1 : mapR (getS st) (List.range k) = R.ok ((List.range k).map fun i => st[i]?.getD []) := mapR_ok fun i hi => by
    have hi' := List.mem_range.mp hi
    unfold getS
    rw [List.getElem?_eq_getElem (by omega)]
    rfl
  rw [h1]
  congr 1
  apply List.ext_getElem?
  intro i
  rw [List.getElem?_map]
  by_cases hi : i < k
  · rw [List.getElem?_range hi, List.getElem?_eq_getElem (by omega)]
    show some (st[i]?.getD []) = _
    rw [List.getElem?_eq_getElem (by omega)]
    rfl
  · rw [List.getElem?_eq_none (by rw [List.length_range]; omega), List.getElem?_eq_none (by omega)]
    rfl
end G
/-! MC: drawn webs: neighbours, fars -/
namespace G
open PySem L2 Z
theorem web_near {n : Int} {ts : List (Int × Int)} (h : WebOk n ts) : near_lists (n, ⟨ts⟩) = R.ok (nears n ts) := near_lists_ok (by have := h.n1; omega) (by have := h.n60; omega) (by have := h.len; omega) h.rg4
theorem enum_mem {α : Type} {xs : List α} {b : Int × α} (h : b ∈ enum xs) : 0 ≤ b.1 ∧ b.1 < (xs.length : Int) ∧ xs[b.1.toNat]? = some b.2 := by
  unfold enum at h
  obtain ⟨i, hi⟩ := List.mem_iff_getElem?.mp h
  rw [List.getElem?_zip_eq_some] at hi
  obtain ⟨h1, h2⟩ := hi
  have hl := (List.getElem?_eq_some_iff.mp h2).1
  rw [rng_atE (by omega)] at h1
  have e : b.1 = (i : Int) := by
    injection h1 with h1
    omega
  rw [e]
  exact ⟨by omega, by omega, by rw [Int.toNat_natCast]; exact h2⟩
theorem web_dist {n : Int} {ts : List (Int × Int)} {p : Int} (h : WebOk n ts) (p0 : 0 ≤ p) (p1 : p < n) : IsDist n ts p (dst n ts p) := conn_ex h.rg4 h.conn p0 p1
theorem WebOk.adj {n : Int} {ts : List (Int × Int)} (h : WebOk n ts) {a b : Int} (q : Adj ts a b) : 0 ≤ a ∧ a < n ∧ 0 ≤ b ∧ b < n ∧ a ≠ b := by
  rcases q with q | q <;> have := h.rg _ q <;> dsimp only at this <;> omega
section
variable {n : Int} {ts : List (Int × Int)} (h : WebOk n ts)
include h
theorem dst_zero {p v : Int} (p0 : 0 ≤ p) (p1 : p < n) (v0 : 0 ≤ v) (v1 : v < n) : dst n ts p v = 0 ↔ v = p := by
  have d := web_dist h p0 p1
  constructor
  · intro e
    apply Classical.byContradiction
    intro hne
    obtain ⟨w, w0, w1, _, ew⟩ := d.desc v v0 v1 hne
    have := d.nn w w0 w1
    omega
  · rintro rfl
    exact d.zero
theorem dst_nn {p v : Int} (p0 : 0 ≤ p) (p1 : p < n) (v0 : 0 ≤ v) (v1 : v < n) : 0 ≤ dst n ts p v := (web_dist h p0 p1).nn v v0 v1
theorem dst_tri {a b x : Int} (q : Adj ts a b) (x0 : 0 ≤ x) (x1 : x < n) : dst n ts a x ≤ dst n ts b x + 1 := by
  obtain ⟨a0, a1, b0, b1, _⟩ := h.adj q
  have da := web_dist h a0 a1
  have db := web_dist h b0 b1
  have key : ∀ (m : Nat) (x : Int), (dst n ts b x).toNat ≤ m → 0 ≤ x → x < n → dst n ts a x ≤ dst n ts b x + 1 := by
    intro m
    induction m with
    | zero =>
      intro x hm x0 x1
      have hx := db.nn x x0 x1
      have e : x = b := (dst_zero h b0 b1 x0 x1).mp (by omega)
      subst e
      have := da.lip a x q
      rw [da.zero] at this
      rw [db.zero]
      exact this
    | succ m ih =>
      intro x hm x0 x1
      by_cases e : x = b
      · subst e
        have := da.lip a x q
        rw [da.zero] at this
        rw [db.zero]
        exact this
      · obtain ⟨y, y0, y1, hy, ey⟩ := db.desc x x0 x1 e
        have := db.nn y y0 y1
        have h1 := ih y (by omega) y0 y1
        have h2 := da.lip y x hy
        omega
  exact key _ x (Nat.le_refl _) x0 x1
theorem dst_le_symm {p v : Int} (p0 : 0 ≤ p) (p1 : p < n) (v0 : 0 ≤ v) (v1 : v < n) : dst n ts v p ≤ dst n ts p v := by
  have dp := web_dist h p0 p1
  have key : ∀ (m : Nat) (v : Int), (dst n ts p v).toNat ≤ m → 0 ≤ v → v < n → dst n ts v p ≤ dst n ts p v := by
    intro m
    induction m with
    | zero =>
      intro v hm v0 v1
      have hx := dp.nn v v0 v1
      have e : v = p := (dst_zero h p0 p1 v0 v1).mp (by omega)
      subst e
      exact Int.le_refl _
    | succ m ih =>
      intro v hm v0 v1
      by_cases e : v = p
      · subst e
        exact Int.le_refl _
      · obtain ⟨w, w0, w1, hw, ew⟩ := dp.desc v v0 v1 e
        have := dp.nn w w0 w1
        have h1 := ih w (by omega) w0 w1
        have h2 := dst_tri h hw.symm p0 p1
        omega
  exact key _ v (Nat.le_refl _) v0 v1
theorem dst_symm {p v : Int} (p0 : 0 ≤ p) (p1 : p < n) (v0 : 0 ≤ v) (v1 : v < n) : dst n ts v p = dst n ts p v := Int.le_antisymm (dst_le_symm h p0 p1 v0 v1) (dst_le_symm h v0 v1 p0 p1)
/-- neighbours are just one far -/
theorem dst_one {p v : Int} (p0 : 0 ≤ p) (p1 : p < n) (v0 : 0 ≤ v) (v1 : v < n) : dst n ts p v = 1 ↔ Adj ts p v := by
  have d := web_dist h p0 p1
  constructor
  · intro e
    obtain ⟨w, w0, w1, hw, ew⟩ := d.desc v v0 v1 (fun q => by
      have := (dst_zero h p0 p1 v0 v1).mpr q
      omega)
    have : w = p := (dst_zero h p0 p1 w0 w1).mp (by omega)
    rw [← this]
    exact hw
  · intro q
    have h1 := d.lip p v q
    rw [d.zero] at h1
    have h2 := d.nn v v0 v1
    have h3 : dst n ts p v ≠ 0 := fun e => (h.adj q).2.2.2.2 ((dst_zero h p0 p1 v0 v1).mp e).symm
    omega
end
theorem perm_nodup {xs ys : List Int} (h1 : xs.Nodup) (h2 : ys.Nodup) (h : ∀ x, x ∈ xs ↔ x ∈ ys) : xs.Perm ys := by
  rw [List.perm_iff_count]
  intro a
  rw [h1.count, h2.count]
  by_cases q : a ∈ xs
  · rw [if_pos q, if_pos ((h a).mp q)]
  · rw [if_neg q, if_neg (fun z => q ((h a).mpr z))]
theorem nbs_nodup {ts : List (Int × Int)} (hn : ts.Nodup) (hr : ∀ p ∈ ts, p.1 < p.2) (i : Int) : (nbs ts i).Nodup := by
  induction ts with
  | nil => exact List.nodup_nil
  | cons p ts ih =>
    have e : nbs (p :: ts) i = ((if p.1 = i then [p.2] else []) ++ (if p.2 = i then [p.1] else [])) ++ nbs ts i := rfl
    obtain ⟨hn1, hn2⟩ := List.nodup_cons.mp hn
    have ih' := ih hn2 fun q hq => hr q (List.mem_cons_of_mem _ hq)
    have hp := hr p List.mem_cons_self
    rw [e]
    by_cases h1 : p.1 = i
    · have h2 : p.2 ≠ i := by omega
      rw [if_pos h1, if_neg h2, List.append_nil]
      refine List.nodup_cons.mpr ⟨fun q => ?_, ih'⟩
      rcases nbs_mem.mp q with q | q
      · exact hn1 (by rw [← h1] at q; exact q)
      · have := hr _ (List.mem_cons_of_mem _ q)
        dsimp only at this
        omega
    · by_cases h2 : p.2 = i
      · rw [if_neg h1, if_pos h2, List.nil_append]
        refine List.nodup_cons.mpr ⟨fun q => ?_, ih'⟩
        rcases nbs_mem.mp q with q | q
        · have := hr _ (List.mem_cons_of_mem _ q)
          dsimp only at this
          omega
        · exact hn1 (by rw [← h2] at q; exact q)
      · rw [if_neg h1, if_neg h2, List.append_nil, List.nil_append]
        exact ih'
theorem rng_sorted (i j : Int) : (rng i j).Pairwise (· < ·) := by
  unfold rng
  refine List.Pairwise.map _ (fun a b h => ?_) List.pairwise_lt_range
  show i + (a : Int) < i + b
  omega
/-- the neighbours of a place, gathered otherwise -/
theorem sort_nbs {n : Int} {ts : List (Int × Int)} (h : WebOk n ts) (i : Int) (P : Int → Bool) (hP : ∀ v, 0 ≤ v → v < n → (P v = true ↔ Adj ts i v)) : sortI (nbs ts i) = (rng 0 n).filter P := by
  refine (sortI_eq ?_ ?_).symm
  · refine perm_nodup ((rng_nodup 0 n).filter _) (nbs_nodup h.nd (fun p hp => (h.rg p hp).2.1) i) fun x => ?_
    rw [List.mem_filter, nbs_mem, rng_mem]
    constructor
    · rintro ⟨⟨x0, x1⟩, hx⟩
      exact (hP x x0 x1).mp hx
    · intro hx
      have := h.adj hx
      exact ⟨⟨this.2.2.1, this.2.2.2.1⟩, (hP x this.2.2.1 this.2.2.2.1).mpr hx⟩
  · exact ((rng_sorted 0 n).sublist List.filter_sublist).imp fun h => Int.le_of_lt h
theorem nears_get {n p : Int} {ts : List (Int × Int)} (p0 : 0 ≤ p) (p1 : p < n) : getI (nears n ts) p = R.ok (sortI (nbs ts p)) := getI_eq p0 (map_rng_get p0 p1)
theorem nbs_len_n {n : Int} {ts : List (Int × Int)} (h : WebOk n ts) (i : Int) : (nbs ts i).length ≤ n.toNat := by
  have := nodup_le (nbs_nodup h.nd (fun p hp => (h.rg p hp).2.1) i) (ys := rng 0 n) fun x hx => by
    have := h.adj (nbs_mem.mp hx)
    exact rng_mem.mpr ⟨this.2.2.1, this.2.2.2.1⟩
  rw [rng_length] at this
  omega
theorem fil_ite {α : Type} (l : List α) (P : α → Bool) : l.filterMap (fun b => if P b = true then some b else none) = l.filter P := by
  induction l with
  | nil => rfl
  | cons a l ih =>
    rw [List.filterMap_cons, List.filter_cons]
    cases P a
    · exact ih
    · show a :: _ = a :: _
      rw [ih]
end G
/-! MF: fars, as the program reckons them -/
namespace G
open PySem L2 Z
/-! ### fars -/
section
variable {n : Int} {ts : List (Int × Int)} {p : Int}
structure Bfs (n : Int) (ts : List (Int × Int)) (p : Int) (at_ : Nat) (line : List Int) (F : Int → Option Int) : Prop where
  le : at_ ≤ line.length
  nd : line.Nodup
  rg : ∀ v ∈ line, 0 ≤ v ∧ v < n
  mem : ∀ v, 0 ≤ v → v < n → (v ∈ line ↔ (F v).isSome = true)
  p0 : F p = some 0
  nn : ∀ v d, F v = some d → 0 ≤ d
  par : ∀ v ∈ line, v = p ∨ ∃ w ∈ line, Adj ts w v ∧ ∃ d, F w = some d ∧ F v = some (d + 1)
  mono : line.Pairwise fun a b => (F a).getD 0 ≤ (F b).getD 0
  cap : ∀ v ∈ line, ∀ u ∈ line.drop at_, (F v).getD 0 ≤ (F u).getD 0 + 1
  done : ∀ i u, i < at_ → line[i]? = some u → ∀ w, Adj ts u w → w ∈ line ∧ (F w).getD 0 ≤ (F u).getD 0 + 1
/-- within a turn: the neighbours of u that are gone through -/
structure BfsIn (n : Int) (ts : List (Int × Int)) (p : Int) (at_ : Nat) (u : Int) (pre : List Int) (line : List Int) (F : Int → Option Int) : Prop where
  b : Bfs n ts p at_ line F
  u0 : line[at_]? = some u
  ok : ∀ w ∈ pre, w ∈ line ∧ (F w).getD 0 ≤ (F u).getD 0 + 1
theorem BfsIn.add {at_ : Nat} {u w : Int} {pre line : List Int} {F : Int → Option Int} {d : Int} (h : BfsIn n ts p at_ u pre line F) (hw : Adj ts u w) (w0 : 0 ≤ w) (w1 : w < n) (hn : F w = none) (hd : F u = some d) :
    BfsIn n ts p at_ u (pre ++ [w]) (line ++ [w]) (fun v => if v = w then some (d + 1) else F v) := by
  have b := h.b
  have hu : u ∈ line := List.mem_of_getElem? h.u0
  have hat : at_ < line.length := (List.getElem?_eq_some_iff.mp h.u0).1
  have hwl : w ∉ line := fun q => by
    have := (b.mem w w0 w1).mp q
    rw [hn] at this
    cases this
  have ne : ∀ v ∈ line, v ≠ w := fun v hv e => hwl (e ▸ hv)
  have eF : ∀ v ∈ line, (if v = w then some (d + 1) else F v) = F v := fun v hv => if_neg (ne v hv)
  have eW : (if w = w then some (d + 1) else F w) = some (d + 1) := if_pos rfl
  have hpl : p ∈ line ∨ True := .inr trivial
  have hd0 := b.nn u d hd
  have hud : u ∈ line.drop at_ := by
    rw [List.mem_iff_getElem?]
    exact ⟨0, by rw [List.getElem?_drop]; exact h.u0⟩
  refine ⟨⟨?_, ?_, ?_, ?_, ?_, ?_, ?_, ?_, ?_, ?_⟩, ?_, ?_⟩
  · rw [List.length_append]; omega
  · rw [List.nodup_append]
    refine ⟨b.nd, by simp, fun a ha c hc => ?_⟩
    rw [List.mem_singleton] at hc
    rw [hc]
    exact ne a ha
  · intro v hv
    rcases List.mem_append.mp hv with hv | hv
    · exact b.rg v hv
    · rw [List.mem_singleton] at hv
      rw [hv]; exact ⟨w0, w1⟩
  · intro v v0 v1
    by_cases e : v = w
    · subst e
      simp
    · show v ∈ line ++ [w] ↔ (if v = w then some (d + 1) else F v).isSome = true
      rw [if_neg e, ← b.mem v v0 v1]
      simp [e]
  · show (if p = w then some (d + 1) else F p) = some 0
    rw [if_neg]
    · exact b.p0
    · intro e
      rw [← e, b.p0] at hn
      cases hn
  · intro v e hv
    have hv' : (if v = w then some (d + 1) else F v) = some e := hv
    by_cases q : v = w
    · rw [if_pos q] at hv'
      cases hv'
      omega
    · rw [if_neg q] at hv'
      exact b.nn v e hv'
  · intro v hv
    rcases List.mem_append.mp hv with hv | hv
    · rcases b.par v hv with e | ⟨x, hx, ha, k, h1, h2⟩
      · exact .inl e
      · refine .inr ⟨x, List.mem_append_left _ hx, ha, k, ?_, ?_⟩
        · show (if x = w then some (d + 1) else F x) = some k
          rw [eF x hx]; exact h1
        · show (if v = w then some (d + 1) else F v) = some (k + 1)
          rw [eF v hv]; exact h2
    · rw [List.mem_singleton] at hv
      subst hv
      refine .inr ⟨u, List.mem_append_left _ hu, hw, d, ?_, eW⟩
      show (if u = v then some (d + 1) else F u) = some d
      rw [eF u hu]; exact hd
  · rw [List.pairwise_append]
    refine ⟨b.mono.imp_of_mem fun {a c} ha hc q => ?_, by simp, fun a ha c hc => ?_⟩
    · show (if a = w then some (d + 1) else F a).getD 0 ≤ (if c = w then some (d + 1) else F c).getD 0
      rw [eF a ha, eF c hc]; exact q
    · rw [List.mem_singleton] at hc
      subst hc
      show (if a = c then some (d + 1) else F a).getD 0 ≤ (if c = c then some (d + 1) else F c).getD 0
      rw [eF a ha, eW]
      have := b.cap a ha u hud
      rw [hd] at this
      exact this
  · intro v hv x hx
    rw [List.drop_append_of_le_length (by omega)] at hx
    show (if v = w then some (d + 1) else F v).getD 0 ≤ (if x = w then some (d + 1) else F x).getD 0 + 1
    have key : ∀ x, x ∈ line.drop at_ → d ≤ (F x).getD 0 := by
      intro x hx
      have hs : line.drop at_ = u :: line.drop (at_ + 1) := by
        rw [List.drop_eq_getElem_cons hat]
        have := (List.getElem?_eq_some_iff.mp h.u0).2
        rw [this]
      have hm := b.mono.sublist (List.drop_sublist at_ line)
      rw [hs] at hm hx
      rcases List.mem_cons.mp hx with rfl | hx
      · rw [hd]; exact Int.le_refl _
      · have := (List.pairwise_cons.mp hm).1 x hx
        rw [hd] at this
        exact this
    have hvd : (if v = w then some (d + 1) else F v).getD 0 ≤ d + 1 := by
      rcases List.mem_append.mp hv with hv | hv
      · rw [eF v hv]
        have := b.cap v hv u hud
        rw [hd] at this
        exact this
      · rw [List.mem_singleton] at hv
        rw [if_pos hv]; exact Int.le_refl _
    rcases List.mem_append.mp hx with hx | hx
    · rw [eF x (List.mem_of_mem_drop hx)]
      have := key x hx
      omega
    · rw [List.mem_singleton] at hx
      rw [if_pos hx]
      show _ ≤ (d + 1) + 1
      omega
  · intro i x hi hx y hy
    rw [List.getElem?_append_left (by omega)] at hx
    obtain ⟨h1, h2⟩ := b.done i x hi hx y hy
    refine ⟨List.mem_append_left _ h1, ?_⟩
    show (if y = w then some (d + 1) else F y).getD 0 ≤ (if x = w then some (d + 1) else F x).getD 0 + 1
    rw [eF y h1, eF x (List.mem_of_getElem? hx)]
    exact h2
  · rw [List.getElem?_append_left hat]; exact h.u0
  · intro v hv
    show v ∈ line ++ [w] ∧ (if v = w then some (d + 1) else F v).getD 0 ≤ (if u = w then some (d + 1) else F u).getD 0 + 1
    rw [eF u hu]
    rcases List.mem_append.mp hv with hv | hv
    · obtain ⟨h1, h2⟩ := h.ok v hv
      rw [eF v h1]
      exact ⟨List.mem_append_left _ h1, h2⟩
    · rw [List.mem_singleton] at hv
      rw [if_pos hv, hd, hv]
      exact ⟨List.mem_append_right _ (List.mem_singleton_self _), Int.le_refl _⟩
theorem BfsIn.skip {at_ : Nat} {u w : Int} {pre line : List Int} {F : Int → Option Int} (h : BfsIn n ts p at_ u pre line F) (hw : (F w).isSome = true) (w0 : 0 ≤ w) (w1 : w < n) : BfsIn n ts p at_ u (pre ++ [w]) line F := by
  refine ⟨h.b, h.u0, fun v hv => ?_⟩
  rcases List.mem_append.mp hv with hv | hv
  · exact h.ok v hv
  · rw [List.mem_singleton] at hv
    subst hv
    have hl := (h.b.mem v w0 w1).mpr hw
    refine ⟨hl, h.b.cap v hl u ?_⟩
    rw [List.mem_iff_getElem?]
    exact ⟨0, by rw [List.getElem?_drop]; exact h.u0⟩
theorem BfsIn.next {at_ : Nat} {u : Int} {nb line : List Int} {F : Int → Option Int} (h : BfsIn n ts p at_ u nb line F) (hnb : ∀ w, Adj ts u w → w ∈ nb) : Bfs n ts p (at_ + 1) line F := by
  have hat : at_ < line.length := (List.getElem?_eq_some_iff.mp h.u0).1
  refine { h.b with le := hat, cap := fun v hv x hx => h.b.cap v hv x ?_, done := fun i x hi hx w hw => ?_ }
  · exact (List.drop_sublist_drop_left line (Nat.le_succ at_)).subset hx
  · by_cases e : i = at_
    · subst e
      rw [h.u0] at hx
      cases hx
      exact h.ok w (hnb w hw)
    · exact h.b.done i x (by omega) hx w hw
theorem Bfs.isDist {line : List Int} {F : Int → Option Int} (b : Bfs n ts p line.length line F) (hc : Conn n ts) (hr : ∀ q ∈ ts, 0 ≤ q.1 ∧ q.1 < n ∧ 0 ≤ q.2 ∧ q.2 < n) (p0 : 0 ≤ p) (p1 : p < n) :
    (∀ v, 0 ≤ v → v < n → (F v).isSome = true) ∧ IsDist n ts p fun v => (F v).getD 0 := by
  have hp : p ∈ line := (b.mem p p0 p1).mpr (by rw [b.p0]; rfl)
  have cl : ∀ u w, u ∈ line → Adj ts u w → w ∈ line ∧ (F w).getD 0 ≤ (F u).getD 0 + 1 := by
    intro u w hu hw
    obtain ⟨i, hi⟩ := List.mem_iff_getElem?.mp hu
    exact b.done i u (List.getElem?_eq_some_iff.mp hi).1 hi w hw
  have all : ∀ k, 0 ≤ k → k < n → k ∈ line := hc.any (S := fun k => k ∈ line) p0 p1 hp fun q hq => ⟨fun h => (cl q.1 q.2 h (.inl hq)).1, fun h => (cl q.2 q.1 h (.inr hq)).1⟩
  refine ⟨fun v v0 v1 => (b.mem v v0 v1).mp (all v v0 v1), ⟨?_, fun v v0 v1 => ?_, fun a c h => ?_, fun v v0 v1 hne => ?_⟩⟩
  · show (F p).getD 0 = 0
    rw [b.p0]; rfl
  · show 0 ≤ (F v).getD 0
    cases e : F v with
    | none => exact Int.le_refl _
    | some d => exact b.nn v d e
  · have ra : 0 ≤ a ∧ a < n := by
      rcases h with h | h
      · exact ⟨(hr _ h).1, (hr _ h).2.1⟩
      · exact ⟨(hr _ h).2.2.1, (hr _ h).2.2.2⟩
    exact (cl a c (all a ra.1 ra.2) h).2
  · rcases b.par v (all v v0 v1) with e | ⟨w, hw, ha, d, h1, h2⟩
    · exact absurd e hne
    · refine ⟨w, (b.rg w hw).1, (b.rg w hw).2, ha, ?_⟩
      show (F w).getD 0 + 1 = (F v).getD 0
      rw [h1, h2]; rfl
end
theorem fars_by_post {n : Int} {ts : List (Int × Int)} {p : Int} (n1 : n < 900) (hr : ∀ q ∈ ts, 0 ≤ q.1 ∧ q.1 < n ∧ 0 ≤ q.2 ∧ q.2 < n) (hc : Conn n ts) (p0 : 0 ≤ p) (p1 : p < n) :
    Post (fars_by (nears n ts) p) (fun l => l = ((rng 0 n).map fun v => some (dst n ts p v)) ∧ IsDist n ts p (dst n ts p)) noX := by
  unfold fars_by
  have hN : (nears n ts).length = n.toNat := by unfold nears; rw [List.length_map, rng_length]; omega
  rw [hN]
  refine po_rep (by omega) (by omega) (by decide) ?_
  have e0 : repL ([none] : List (Option Int)) (n.toNat : Nat) = (rng 0 n).map fun _ => none := by
    unfold repL
    rw [Int.toNat_natCast]
    have h1 : (rng 0 n).length = n.toNat := by rw [rng_length]; omega
    rw [← h1]
    generalize rng 0 n = l
    induction l with
    | nil => rfl
    | cons a l ih =>
      rw [List.length_cons, List.replicate_succ, List.flatten_cons, ih]
      rfl
  rw [e0]
  refine po_set p0 (by rw [List.length_map, rng_length]; omega) ?_
  rw [map_rng_set p0]
  refine po_bind (Q := fun g => g.2.2 = ((rng 0 n).map fun v => some (dst n ts p v)) ∧ IsDist n ts p (dst n ts p)) (po_while (fun g => 0 ≤ g.1 ∧ ∃ F, g.2.2 = (rng 0 n).map F ∧ Bfs n ts p g.1.toNat g.2.1 F) (fun g => n.toNat - g.1.toNat) ?_ (n := fu 1000) ?_ ?_) fun g hg => hg
  · rintro ⟨a, line, fd⟩ ⟨a0, F, e1, b⟩
    have e1' : fd = (rng 0 n).map F := e1
    have a0' : 0 ≤ a := a0
    have b' : Bfs n ts p a.toNat line F := b
    clear e1 b a0
    subst e1'
    refine ⟨fun ht => ?_, fun hf => ?_⟩
    · have ht : a < (line.length : Int) := of_decide_eq_true ht
      refine po_get a0' ht fun u hu e2 => ?_
      obtain ⟨u0, u1⟩ := b'.rg u hu
      refine po_getE (getI_eq u0 (map_rng_get u0 u1)) ?_
      have hin : BfsIn n ts p a.toNat u [] line F := ⟨b', e2, fun _ h => nomatch h⟩
      refine po_bind (po_foldP (fun pre g => ∃ F', g.2 = (rng 0 n).map F' ∧ BfsIn n ts p a.toNat u pre g.1 F') ⟨F, rfl, hin⟩ ?_) ?_
      · rintro pre ⟨ln, fd⟩ w post ew ⟨F', e3, h3⟩
        have e3' : fd = (rng 0 n).map F' := e3
        have h3' : BfsIn n ts p a.toNat u pre ln F' := h3
        clear e3 h3
        subst e3'
        have hw : w ∈ sortI (nbs ts u) := by rw [show sortI (nbs ts u) = pre ++ w :: post from ew]; simp
        have hw := nbs_mem.mp (sortI_mem.mp hw)
        have rw' : 0 ≤ w ∧ w < n := by
          rcases hw with h | h
          · exact ⟨(hr _ h).2.2.1, (hr _ h).2.2.2⟩
          · exact ⟨(hr _ h).1, (hr _ h).2.1⟩
        obtain ⟨w0, w1⟩ := rw'
        refine po_getE (getI_eq w0 (map_rng_get w0 w1)) ?_
        refine po_if (fun c => ?_) (fun c => ?_)
        · have hn : F' w = none := by
            cases e : F' w with
            | none => rfl
            | some d => rw [e] at c; cases c
          refine po_getE (getI_eq a0' h3'.u0) (po_getE (getI_eq u0 (map_rng_get u0 u1)) ?_)
          have hus := (h3'.b.mem u u0 u1).mp (List.mem_of_getElem? h3'.u0)
          obtain ⟨d, hd⟩ := Option.isSome_iff_exists.mp hus
          have hlen : ln.length ≤ n.toNat := by
            have := nodup_le h3'.b.nd (ys := rng 0 n) fun v hv => rng_mem.mpr (h3'.b.rg v hv)
            rw [rng_length] at this
            omega
          refine po_ofO hd (po_set w0 (by rw [List.length_map, rng_length]; omega) (po_app (by show ln.length < 100000; omega) ?_))
          refine ⟨_, map_rng_set w0, ?_⟩
          exact h3'.add hw w0 w1 hn hd
        · refine ⟨F', rfl, h3'.skip ?_ w0 w1⟩
          cases e : F' w with
          | none => rw [e] at c; exact absurd rfl c
          | some d => rfl
      · rintro ⟨ln, fd⟩ ⟨F', e3, h3⟩
        have h3' : BfsIn n ts p a.toNat u (sortI (nbs ts u)) ln F' := h3
        have h4 := h3'.next fun w hw => sortI_mem.mpr (nbs_mem.mpr hw)
        have hat : a.toNat < ln.length := (List.getElem?_eq_some_iff.mp h3'.u0).1
        have hlen : ln.length ≤ n.toNat := by
          have := nodup_le h3'.b.nd (ys := rng 0 n) fun v hv => rng_mem.mpr (h3'.b.rg v hv)
          rw [rng_length] at this
          omega
        refine ⟨⟨by show 0 ≤ a + 1; omega, F', e3, ?_⟩, ?_⟩
        · show Bfs n ts p (a + 1).toNat ln F'
          rw [show (a + 1).toNat = a.toNat + 1 by omega]
          exact h4
        · show n.toNat - (a + 1).toNat < n.toNat - a.toNat
          omega
    · have hf : ¬ a < (line.length : Int) := of_decide_eq_false hf
      have hle := b'.le
      have ea : a.toNat = line.length := by omega
      rw [ea] at b'
      obtain ⟨h1, h2⟩ := b'.isDist hc hr p0 p1
      refine ⟨map_rng_congr fun v v0 v1 => ?_, dst_is h2⟩
      have h3 := dst_eq h2 v v0 v1
      obtain ⟨d, hd⟩ := Option.isSome_iff_exists.mp (h1 v v0 v1)
      have h3' : (F v).getD 0 = dst n ts p v := h3
      rw [hd] at h3' ⊢
      exact congrArg some h3'
  · refine ⟨Int.le_refl 0, _, rfl, ?_⟩
    show Bfs n ts p 0 [p] (fun i => if i = p then some 0 else none)
    refine ⟨Nat.zero_le _, by simp, fun v hv => ?_, fun v v0 v1 => ?_, if_pos rfl, fun v d hv => ?_, fun v hv => ?_, by simp, fun v hv u hu => ?_, fun i u hi => absurd hi (Nat.not_lt_zero _)⟩
    · rw [List.mem_singleton] at hv
      rw [hv]; exact ⟨p0, p1⟩
    · show v ∈ [p] ↔ (if v = p then some (0 : Int) else none).isSome = true
      rw [List.mem_singleton]
      by_cases e : v = p
      · rw [if_pos e]; simp [e]
      · rw [if_neg e]; simp [e]
    · have hv' : (if v = p then some (0 : Int) else none) = some d := hv
      split at hv'
      · cases hv'; exact Int.le_refl _
      · cases hv'
    · exact .inl (List.mem_singleton.mp hv)
    · rw [List.drop_zero] at hu
      rw [List.mem_singleton] at hv hu
      subst hv hu
      show (if u = u then some (0 : Int) else none).getD 0 ≤ (if u = u then some (0 : Int) else none).getD 0 + 1
      rw [if_pos rfl]
      decide
  · rw [fu_eq]
    show n.toNat - (0 : Int).toNat < 1000
    omega
theorem fars_by_ok {n : Int} {ts : List (Int × Int)} {p : Int} (n1 : n < 900) (hr : ∀ q ∈ ts, 0 ≤ q.1 ∧ q.1 < n ∧ 0 ≤ q.2 ∧ q.2 < n) (hc : Conn n ts) (p0 : 0 ≤ p) (p1 : p < n) :
    fars_by (nears n ts) p = R.ok ((rng 0 n).map fun v => some (dst n ts p v)) := po_iff ((fars_by_post n1 hr hc p0 p1).mono (fun _ h => h.1) fun _ h => h)
theorem web_fars {n : Int} {ts : List (Int × Int)} {p : Int} (h : WebOk n ts) (p0 : 0 ≤ p) (p1 : p < n) : fars_by (nears n ts) p = R.ok ((rng 0 n).map fun v => some (dst n ts p v)) := fars_by_ok (by have := h.n60; omega) h.rg4 h.conn p0 p1
end G
namespace G
open PySem L2 Z
theorem cut_from {α : Type} (xs : List α) (k : Nat) : cutL xs (some (k : Int)) none = xs.drop k := by
  unfold cutL
  have e0 : HT.sIx xs.length 0 (some (k : Int)) = min k xs.length := HT.sIx_nat xs.length 0 k
  have e : HT.sIx xs.length xs.length none = xs.length := rfl
  rw [e, e0]
  by_cases h : k ≤ xs.length
  · rw [Nat.min_eq_left h, List.take_of_length_le (by rw [List.length_drop]; exact Nat.le_refl _)]
  · rw [Nat.min_eq_right (by omega), List.drop_of_length_le (Nat.le_refl _), List.drop_of_length_le (by omega), List.take_nil]
theorem number_ok {i : Int} (h0 : 0 ≤ i) (h1 : i < 1000) : number_of (numS i) = R.ok (some i) := by
  refine po_iff ?_
  unfold number_of
  have hl := numS_len h0 h1
  have hne := TL.numL_ne i.toNat
  have ht := numS_tl h0
  have hne2 : numS i ≠ "" := fun e => hne (by rw [← ht, e]; rfl)
  refine po_bind (Q := fun j => j = false) ?_ fun j hj => ?_
  · rw [if_neg (by rw [decide_eq_true_eq]; exact hne2), txLen_ok (by omega), ok_bind, if_neg (by rw [decide_eq_true_eq]; omega)]
    refine po_mapGE (g := fun _ => true) ?_ (fun b hb => ?_) ?_
    · unfold signs
      rw [List.length_map, ← TL.len_tl]
      omega
    · obtain ⟨c, hc, rfl⟩ := List.mem_map.mp hb
      have hc2 : c ∈ TL.numL i.toNat := by rw [← ht]; exact hc
      have hd := TL.numL_digits i.toNat c hc2
      show (txIn ⟨#[c]⟩ _ >>= _) = _
      rw [txIn_ok, ok_bind, decide_eq_true]
      show c ∈ [48, 49, 50, 51, 52, 53, 54, 55, 56, 57]
      have : c = 48 ∨ c = 49 ∨ c = 50 ∨ c = 51 ∨ c = 52 ∨ c = 53 ∨ c = 54 ∨ c = 55 ∨ c = 56 ∨ c = 57 := by omega
      rcases this with rfl | rfl | rfl | rfl | rfl | rfl | rfl | rfl | rfl | rfl <;> decide
    · show (!(((signs (numS i)).map fun _ => true).all id)) = false
      simp
  · rw [hj]
    refine po_if (fun c => absurd c (by decide)) fun _ => ?_
    refine po_bind (Q := fun j => j = false) ?_ fun j hj => ?_
    · obtain ⟨c, l, e⟩ : ∃ c l, TL.numL i.toNat = c :: l := by
        cases q : TL.numL i.toNat with
        | nil => exact absurd q hne
        | cons c l => exact ⟨c, l, rfl⟩
      have hat : atI (numS i).cps.toList 0 = some c := by
        rw [show (numS i).cps.toList = c :: l by rw [← e, ← ht]]
        unfold atI ixN
        rw [if_pos (by decide), if_pos (by show (0 : Int) < ((l.length + 1 : Nat) : Int); omega)]
        rfl
      rw [txAt_ok (by omega) hat, ok_bind]
      refine po_if (fun q => ?_) fun _ => rfl
      rw [decide_eq_true_eq] at q
      have e48 : c = 48 := by
        have q2 := congrArg TL.tl q
        have q3 : [c] = [48] := q2
        injection q3
      rw [e48] at e
      have i0 := numL_lead _ _ e
      have : i = 0 := by omega
      subst this
      rfl
    · rw [hj]
      refine po_if (fun c => absurd c (by decide)) fun _ => ?_
      rw [txInt_ok h0 h1]
      rfl
/-- a word and numbers behind it -/
def rowW (w : Str) (vs : List Int) : Str := Txt.join " " (w :: vs.map numS)
theorem rowW_len {w : Str} {vs : List Int} (hw : w.length ≤ 10) (hv : ∀ v ∈ vs, 0 ≤ v ∧ v < 1000) : (rowW w vs).length ≤ (vs.length + 1) * 11 := by
  have hb : ∀ y ∈ w :: vs.map numS, y.length ≤ 10 := by
    intro y hy
    rcases List.mem_cons.mp hy with rfl | hy
    · exact hw
    · obtain ⟨v, hv2, rfl⟩ := List.mem_map.mp hy
      have := numS_len (hv v hv2).1 (hv v hv2).2
      omega
  have h1 := join_len " " (w :: vs.map numS)
  have h2 := sum_le (f := fun y : Str => y.length) hb
  rw [List.length_cons, List.length_map] at h1 h2
  rw [show (" " : Str).length = 1 from rfl] at h1
  unfold rowW
  omega
theorem rowW_tl {w : Str} {v : Int} {vs : List Int} : TL.tl (rowW w (v :: vs)) = TL.tl w ++ ([32] ++ TL.joinL [32] (((v :: vs).map numS).map TL.tl)) := by
  unfold rowW
  rw [TL.join_eq, TL.tl_join]
  rfl
theorem numbers_ok {w : Str} {vs : List Int} {m : Int} (hw : 32 ∉ TL.tl w) (hv : ∀ v ∈ vs, 0 ≤ v ∧ v < 1000) (hl : vs.length < 100) (hwl : w.length ≤ 10) (hm : m = vs.length) : numbers_of (rowW w vs) w m = R.ok (some vs) := by
  refine po_iff ?_
  unfold numbers_of rowW
  have hb : ∀ y ∈ w :: vs.map numS, y.length ≤ 10 := by
    intro y hy
    rcases List.mem_cons.mp hy with rfl | hy
    · exact hwl
    · obtain ⟨v, hv2, rfl⟩ := List.mem_map.mp hy
      have := numS_len (hv v hv2).1 (hv v hv2).2
      omega
  have hs : txSplit (Txt.join " " (w :: vs.map numS)) " " = R.ok (w :: vs.map numS) := txSplit_ok (s := 32) rfl (by decide +kernel) (List.cons_ne_nil _ _) (fun p hp => by
    rcases List.mem_cons.mp hp with rfl | hp
    · exact hw
    · obtain ⟨v, hv2, rfl⟩ := List.mem_map.mp hp
      rw [numS_tl (hv v hv2).1]
      exact TL.numL_free (.inl (by decide))) hb (by rw [List.length_cons, List.length_map]; omega)
  rw [hs, ok_bind]
  refine po_bind (Q := fun j => j = false) ?_ fun j hj => ?_
  · rw [getI_eq (x := w) (Int.le_refl 0) rfl, ok_bind]
    refine po_if (fun c => ?_) fun _ => ?_
    · rw [decide_eq_true (rfl : w = w)] at c
      cases c
    · show (!decide (((w :: vs.map numS).length : Int) = m + 1)) = false
      rw [decide_eq_true (by rw [List.length_cons, List.length_map]; omega)]
      rfl
  · rw [hj]
    refine po_if (fun c => absurd c (by decide)) fun _ => ?_
    have ec : cutL (w :: vs.map numS) (some (1 : Int)) none = vs.map numS := cut_from _ 1
    rw [ec]
    have hmap : mapG (fun (b13 : Str) => do
        let y16 ← number_of b13
        R.ok y16) (vs.map numS) = R.ok (vs.map some) := by
      rw [mapG_ok (g := fun s => (intText? s)) (by rw [List.length_map]; omega) fun x hx => by
        obtain ⟨v, hv2, rfl⟩ := List.mem_map.mp hx
        rw [number_ok (hv v hv2).1 (hv v hv2).2, ok_bind]
        have := txInt_ok (hv v hv2).1 (hv v hv2).2
        have e := TL.int_num (n := v.toNat) (by rw [← numS_tl (hv v hv2).1, ← TL.len_tl]; have := numS_len (hv v hv2).1 (hv v hv2).2; omega)
        rw [show ((v.toNat : Nat) : Int) = v by have := (hv v hv2).1; omega] at e
        exact congrArg R.ok e.symm]
      rw [List.map_map]
      refine congrArg R.ok (List.map_congr_left fun v hv2 => ?_)
      have e := TL.int_num (n := v.toNat) (by rw [← numS_tl (hv v hv2).1, ← TL.len_tl]; have := numS_len (hv v hv2).1 (hv v hv2).2; omega)
      rw [show ((v.toNat : Nat) : Int) = v by have := (hv v hv2).1; omega] at e
      exact e
    rw [hmap, ok_bind]
    refine po_if (fun c => ?_) fun _ => ?_
    · exfalso
      have := inB_t.mp c
      obtain ⟨v, _, e⟩ := List.mem_map.mp this
      cases e
    · have ha : ∀ us : List Int, allS (us.map some) = R.ok us := by
        intro us
        induction us with
        | nil => rfl
        | cons u us ih =>
          show (allS (us.map some) >>= fun l => R.ok (u :: l)) = _
          rw [ih]
          rfl
      rw [ha]
      rfl
/-- a web's text, its ties in any order -/
def tieS (p : Int × Int) : Str := rowW "tie" [p.1, p.2]
def webS (n : Int) (us : List (Int × Int)) : Str := Txt.join "\n" (rowW "places" [n] :: us.map tieS)
theorem tieS_len {p : Int × Int} (h1 : 0 ≤ p.1 ∧ p.1 < 1000) (h2 : 0 ≤ p.2 ∧ p.2 < 1000) : (tieS p).length ≤ 33 := rowW_len (w := "tie") (vs := [p.1, p.2]) (by decide) fun v hv => by
  rcases List.mem_cons.mp hv with rfl | hv
  · exact h1
  · rw [List.mem_singleton.mp hv]
    exact h2
theorem headS_len {n : Int} (h : 0 ≤ n ∧ n < 1000) : (rowW "places" [n]).length ≤ 33 := Nat.le_trans (rowW_len (w := "places") (vs := [n]) (by decide) fun v hv => by rw [List.mem_singleton.mp hv]; exact h) (by show (1 + 1) * 11 ≤ 33; decide)
theorem tieS_tl {p : Int × Int} (h1 : 0 ≤ p.1) (h2 : 0 ≤ p.2) : TL.tl (tieS p) = [116, 105, 101, 32] ++ (TL.numL p.1.toNat ++ ([32] ++ TL.numL p.2.toNat)) := by
  unfold tieS
  rw [rowW_tl]
  show [116, 105, 101] ++ ([32] ++ (TL.tl (numS p.1) ++ ([32] ++ TL.tl (numS p.2)))) = _
  rw [numS_tl h1, numS_tl h2]
  rfl
theorem headS_tl {n : Int} (h1 : 0 ≤ n) : TL.tl (rowW "places" [n]) = [112, 108, 97, 99, 101, 115, 32] ++ TL.numL n.toNat := by
  rw [rowW_tl]
  show [112, 108, 97, 99, 101, 115] ++ ([32] ++ (TL.tl (numS n))) = _
  rw [numS_tl h1]
  rfl
theorem tie_eq {a b : Int} : (("tie " : Str) ++ numS a) ++ (" " : Str) ++ numS b = tieS (a, b) := by
  apply TL.ext_tl
  unfold tieS
  rw [rowW_tl, TL.tl_append, TL.tl_append, TL.tl_append]
  show (([116, 105, 101, 32] ++ TL.tl (numS a)) ++ [32]) ++ TL.tl (numS b) = [116, 105, 101] ++ ([32] ++ (TL.tl (numS a) ++ ([32] ++ TL.tl (numS b))))
  simp
theorem head_eq {n : Int} : (("places " : Str) ++ numS n) = rowW "places" [n] := by
  apply TL.ext_tl
  rw [rowW_tl, TL.tl_append]
  show ([112, 108, 97, 99, 101, 115, 32] ++ TL.tl (numS n)) = [112, 108, 97, 99, 101, 115] ++ ([32] ++ (TL.tl (numS n)))
  simp
section
variable {n : Int} {us : List (Int × Int)} (hn : 0 ≤ n ∧ n < 1000) (hu : ∀ p ∈ us, 0 ≤ p.1 ∧ p.1 < 1000 ∧ 0 ≤ p.2 ∧ p.2 < 1000) (hl : us.length ≤ 700)
include hn hu hl
theorem rows_len : ∀ y ∈ rowW "places" [n] :: us.map tieS, y.length ≤ 33 := by
  intro y hy
  rcases List.mem_cons.mp hy with rfl | hy
  · exact headS_len hn
  · obtain ⟨p, hp, rfl⟩ := List.mem_map.mp hy
    have := hu p hp
    exact tieS_len ⟨this.1, this.2.1⟩ this.2.2
theorem webS_join : txJoin "\n" (rowW "places" [n] :: us.map tieS) = R.ok (webS n us) := txJoin_ok (rows_len hn hu hl) (by
  rw [List.length_cons, List.length_map, show ("\n" : Str).length = 1 from rfl]
  omega)
theorem webS_split : txSplit (webS n us) "\n" = R.ok (rowW "places" [n] :: us.map tieS) := txSplit_ok (s := 10) rfl (by decide +kernel) (List.cons_ne_nil _ _) (fun p hp => by
    rcases List.mem_cons.mp hp with rfl | hp
    · rw [headS_tl hn.1]
      intro q
      rcases List.mem_append.mp q with q | q
      · exact absurd q (by decide)
      · exact TL.numL_free (.inl (by decide)) q
    · obtain ⟨x, hx, rfl⟩ := List.mem_map.mp hp
      have := hu x hx
      rw [tieS_tl this.1 this.2.2.1]
      intro q
      rcases List.mem_append.mp q with q | q
      · exact absurd q (by decide)
      · rcases List.mem_append.mp q with q | q
        · exact TL.numL_free (.inl (by decide)) q
        · rcases List.mem_append.mp q with q | q
          · exact absurd q (by decide)
          · exact TL.numL_free (.inl (by decide)) q) (rows_len hn hu hl) (by
  rw [List.length_cons, List.length_map]
  omega)
end
theorem webS_rg {n : Int} {ts : List (Int × Int)} (h : WebOk n ts) : (0 ≤ n ∧ n < 1000) ∧ (∀ p ∈ ts, 0 ≤ p.1 ∧ p.1 < 1000 ∧ 0 ≤ p.2 ∧ p.2 < 1000) ∧ ts.length ≤ 700 := by
  have h1 := h.n1
  have h2 := h.n60
  refine ⟨⟨by omega, by omega⟩, fun p hp => ?_, h.len⟩
  have := h.rg p hp
  omega
theorem tie_made {x : Int × Int} (hx : 0 ≤ x.1 ∧ x.1 < 1000 ∧ 0 ≤ x.2 ∧ x.2 < 1000) {β : Type} {k : Str → R β} : (txNum x.1 >>= fun t10 => txAdd "tie " t10 >>= fun t11 => txAdd t11 " " >>= fun t12 => txNum x.2 >>= fun t13 => txAdd t12 t13 >>= k) = (R.ok (tieS x) >>= k) := by
  have l1 := numS_len hx.1 hx.2.1
  have l2 := numS_len hx.2.2.1 hx.2.2.2
  have e4 : ("tie " : Str).length = 4 := rfl
  have e5 : (" " : Str).length = 1 := rfl
  have e6 : (("tie " : Str) ++ numS x.1).length = 4 + (numS x.1).length := by rw [TL.len_tl, TL.tl_append, List.length_append, ← TL.len_tl, ← TL.len_tl]; rfl
  have e7 : (("tie " : Str) ++ numS x.1 ++ (" " : Str)).length = 4 + (numS x.1).length + 1 := by rw [TL.len_tl, TL.tl_append, List.length_append, ← TL.len_tl, ← TL.len_tl, e6]; rfl
  rw [txNum_ok hx.1 hx.2.1, ok_bind, txAdd_ok (by omega), ok_bind, txAdd_ok (by omega), ok_bind, txNum_ok hx.2.2.1 hx.2.2.2, ok_bind, txAdd_ok (by omega), ok_bind, tie_eq, ok_bind]
/-! ### how far, where not all may be come to -/
/-- f: how far places are, n (as many as there are) where one can not come -/
structure PD (n : Int) (ts : List (Int × Int)) (p : Int) (f : Int → Int) : Prop where
  zero : f p = 0
  nn : ∀ v, 0 ≤ v → v < n → 0 ≤ f v
  lip : ∀ a b, Adj ts a b → f b ≤ f a + 1
  desc : ∀ v, 0 ≤ v → v < n → v ≠ p → f v < n → ∃ w, 0 ≤ w ∧ w < n ∧ Adj ts w v ∧ f w + 1 = f v
theorem PD.z {n p v : Int} {ts : List (Int × Int)} {f : Int → Int} (d : PD n ts p f) (n1 : 1 ≤ n) (v0 : 0 ≤ v) (v1 : v < n) (h : f v ≤ 0) : v = p := by
  apply Classical.byContradiction
  intro hne
  obtain ⟨w, w0, w1, _, e⟩ := d.desc v v0 v1 hne (by omega)
  have := d.nn w w0 w1
  omega
theorem pd_ex {n : Int} {ts : List (Int × Int)} {p : Int} (hr : ∀ q ∈ ts, 0 ≤ q.1 ∧ q.1 < n ∧ 0 ≤ q.2 ∧ q.2 < n) (n1 : 1 ≤ n) : ∃ f, PD n ts p f := by
  classical
  have adj : ∀ a b, Adj ts a b → (0 ≤ a ∧ a < n) ∧ (0 ≤ b ∧ b < n) := fun a b h => by
    rcases h with h | h
    · have := hr _ h
      exact ⟨⟨this.1, this.2.1⟩, ⟨this.2.2.1, this.2.2.2⟩⟩
    · have := hr _ h
      exact ⟨⟨this.2.2.1, this.2.2.2⟩, ⟨this.1, this.2.1⟩⟩
  have key : ∀ v, ∃ d : Int, 0 ≤ d ∧ d ≤ n ∧ (∀ k : Nat, Rch ts p k v → d ≤ k) ∧ (d < n → Rch ts p d.toNat v) := fun v => by
    by_cases hv : ∃ k, Rch ts p k v
    · obtain ⟨k, h1, h2⟩ := least hv
      by_cases q : (k : Int) < n
      · exact ⟨k, by omega, by omega, fun j hj => by
          have : ¬ j < k := fun z => h2 j z hj
          omega, fun _ => by rw [Int.toNat_natCast]; exact h1⟩
      · exact ⟨n, by omega, by omega, fun j hj => by
          have : ¬ j < k := fun z => h2 j z hj
          omega, fun z => absurd z (Int.lt_irrefl n)⟩
    · exact ⟨n, by omega, by omega, fun k hk => absurd ⟨k, hk⟩ hv, fun z => absurd z (Int.lt_irrefl n)⟩
  have hf : ∃ f : Int → Int, ∀ v, 0 ≤ f v ∧ f v ≤ n ∧ (∀ k : Nat, Rch ts p k v → f v ≤ k) ∧ (f v < n → Rch ts p (f v).toNat v) := ⟨fun v => Classical.choose (key v), fun v => Classical.choose_spec (key v)⟩
  obtain ⟨f, hf⟩ := hf
  have lip : ∀ a b, Adj ts a b → f b ≤ f a + 1 := fun a b h => by
    by_cases q : f a < n
    · have h1 := (hf a).2.2.2 q
      have h2 := (hf b).2.2.1 _ (h1.step h)
      have h3 := (hf a).1
      omega
    · have := (hf b).2.1
      omega
  refine ⟨f, ?_, fun v _ _ => (hf v).1, lip, fun v v0 v1 hne hlt => ?_⟩
  · have h1 := (hf p).2.2.1 0 .here
    have h2 := (hf p).1
    omega
  · have h1 := (hf v).2.2.2 hlt
    have h0 := (hf v).1
    generalize hm : (f v).toNat = m at h1
    cases h1 with
    | here => exact absurd rfl hne
    | step h3 h4 =>
      rename_i j w
      obtain ⟨⟨w0, w1⟩, _⟩ := adj _ _ h4
      have h5 := (hf w).2.2.1 _ h3
      have := lip w v h4
      exact ⟨w, w0, w1, h4, by omega⟩
/-- what is gone through round by round is just what is nearer than n -/
theorem bfs_pd {n : Int} {ts : List (Int × Int)} {p : Int} {line : List Int} {F : Int → Option Int} {f : Int → Int} (b : Bfs n ts p line.length line F) (d : PD n ts p f) (p0 : 0 ≤ p) (p1 : p < n) (v : Int) (v0 : 0 ≤ v) (v1 : v < n) : (F v).isSome = true ↔ f v < n := by
  rw [← b.mem v v0 v1]
  have hp : p ∈ line := (b.mem p p0 p1).mpr (by rw [b.p0]; rfl)
  have cl : ∀ u w, u ∈ line → Adj ts u w → w ∈ line := by
    intro u w hu hw
    obtain ⟨i, hi⟩ := List.mem_iff_getElem?.mp hu
    exact (b.done i u (List.getElem?_eq_some_iff.mp hi).1 hi w hw).1
  have hlen : line.length ≤ n.toNat := by
    have := nodup_le b.nd (ys := rng 0 n) fun v hv => rng_mem.mpr (b.rg v hv)
    rw [rng_length] at this
    omega
  have low : ∀ (i : Nat) (u : Int), line[i]? = some u → ∃ e, F u = some e ∧ e ≤ i ∧ f u ≤ e := by
    intro i
    induction i using Nat.strongRecOn with
    | _ i ih =>
      intro u hu
      have hul := List.mem_of_getElem? hu
      rcases b.par u hul with e | ⟨w, hw, ha, k, h1, h2⟩
      · refine ⟨0, by rw [e]; exact b.p0, by omega, by rw [e, d.zero]; exact Int.le_refl _⟩
      · obtain ⟨j, hj⟩ := List.mem_iff_getElem?.mp hw
        have hji : j < i := by
          apply Classical.byContradiction
          intro q
          obtain ⟨jl, ej⟩ := List.getElem?_eq_some_iff.mp hj
          obtain ⟨il, ei⟩ := List.getElem?_eq_some_iff.mp hu
          by_cases q2 : j = i
          · subst q2
            rw [hj] at hu
            cases hu
            rw [h1] at h2
            have := Option.some.inj h2
            omega
          · have := List.pairwise_iff_getElem.mp b.mono i j il jl (by omega)
            rw [ei, ej, h1, h2] at this
            have this' : k + 1 ≤ k := this
            omega
        obtain ⟨e, e1, e2, e3⟩ := ih j hji w hj
        rw [h1] at e1
        cases e1
        have := d.lip w u ha
        exact ⟨_, h2, by omega, by omega⟩
  constructor
  · intro hv
    obtain ⟨i, hi⟩ := List.mem_iff_getElem?.mp hv
    obtain ⟨e, _, e2, e3⟩ := low i v hi
    have := (List.getElem?_eq_some_iff.mp hi).1
    omega
  · have key : ∀ (m : Nat) (v : Int), (f v).toNat = m → 0 ≤ v → v < n → f v < n → v ∈ line := by
      intro m
      induction m with
      | zero =>
        intro v hm v0 v1 hv
        have := d.z (by omega) v0 v1 (by omega)
        rw [this]; exact hp
      | succ m ih =>
        intro v hm v0 v1 hv
        by_cases e : v = p
        · rw [e]; exact hp
        · obtain ⟨w, w0, w1, ha, ew⟩ := d.desc v v0 v1 e hv
          have := d.nn w w0 w1
          exact cl w v (ih w (by omega) w0 w1 (by omega)) ha
    exact key _ v rfl v0 v1
theorem fars_by_bfs {n : Int} {ts : List (Int × Int)} {p : Int} (n1 : n < 900) (hr : ∀ q ∈ ts, 0 ≤ q.1 ∧ q.1 < n ∧ 0 ≤ q.2 ∧ q.2 < n) (p0 : 0 ≤ p) (p1 : p < n) :
    Post (fars_by (nears n ts) p) (fun l => ∃ F line, l = (rng 0 n).map F ∧ Bfs n ts p line.length line F) noX := by
  unfold fars_by
  have hN : (nears n ts).length = n.toNat := by unfold nears; rw [List.length_map, rng_length]; omega
  rw [hN]
  refine po_rep (by omega) (by omega) (by decide) ?_
  have e0 : repL ([none] : List (Option Int)) (n.toNat : Nat) = (rng 0 n).map fun _ => none := by
    unfold repL
    rw [Int.toNat_natCast]
    have h1 : (rng 0 n).length = n.toNat := by rw [rng_length]; omega
    rw [← h1]
    generalize rng 0 n = l
    induction l with
    | nil => rfl
    | cons a l ih =>
      rw [List.length_cons, List.replicate_succ, List.flatten_cons, ih]
      rfl
  rw [e0]
  refine po_set p0 (by rw [List.length_map, rng_length]; omega) ?_
  rw [map_rng_set p0]
  refine po_bind (Q := fun g => ∃ F line, g.2.2 = (rng 0 n).map F ∧ Bfs n ts p line.length line F) (po_while (fun g => 0 ≤ g.1 ∧ ∃ F, g.2.2 = (rng 0 n).map F ∧ Bfs n ts p g.1.toNat g.2.1 F) (fun g => n.toNat - g.1.toNat) ?_ (n := fu 1000) ?_ ?_) fun g hg => hg
  · rintro ⟨a, line, fd⟩ ⟨a0, F, e1, b⟩
    have e1' : fd = (rng 0 n).map F := e1
    have a0' : 0 ≤ a := a0
    have b' : Bfs n ts p a.toNat line F := b
    clear e1 b a0
    subst e1'
    refine ⟨fun ht => ?_, fun hf => ?_⟩
    · have ht : a < (line.length : Int) := of_decide_eq_true ht
      refine po_get a0' ht fun u hu e2 => ?_
      obtain ⟨u0, u1⟩ := b'.rg u hu
      refine po_getE (getI_eq u0 (map_rng_get u0 u1)) ?_
      have hin : BfsIn n ts p a.toNat u [] line F := ⟨b', e2, fun _ h => nomatch h⟩
      refine po_bind (po_foldP (fun pre g => ∃ F', g.2 = (rng 0 n).map F' ∧ BfsIn n ts p a.toNat u pre g.1 F') ⟨F, rfl, hin⟩ ?_) ?_
      · rintro pre ⟨ln, fd⟩ w post ew ⟨F', e3, h3⟩
        have e3' : fd = (rng 0 n).map F' := e3
        have h3' : BfsIn n ts p a.toNat u pre ln F' := h3
        clear e3 h3
        subst e3'
        have hw : w ∈ sortI (nbs ts u) := by rw [show sortI (nbs ts u) = pre ++ w :: post from ew]; simp
        have hw := nbs_mem.mp (sortI_mem.mp hw)
        have rw' : 0 ≤ w ∧ w < n := by
          rcases hw with h | h
          · exact ⟨(hr _ h).2.2.1, (hr _ h).2.2.2⟩
          · exact ⟨(hr _ h).1, (hr _ h).2.1⟩
        obtain ⟨w0, w1⟩ := rw'
        refine po_getE (getI_eq w0 (map_rng_get w0 w1)) ?_
        refine po_if (fun c => ?_) (fun c => ?_)
        · have hn : F' w = none := by
            cases e : F' w with
            | none => rfl
            | some d => rw [e] at c; cases c
          refine po_getE (getI_eq a0' h3'.u0) (po_getE (getI_eq u0 (map_rng_get u0 u1)) ?_)
          have hus := (h3'.b.mem u u0 u1).mp (List.mem_of_getElem? h3'.u0)
          obtain ⟨d, hd⟩ := Option.isSome_iff_exists.mp hus
          have hlen : ln.length ≤ n.toNat := by
            have := nodup_le h3'.b.nd (ys := rng 0 n) fun v hv => rng_mem.mpr (h3'.b.rg v hv)
            rw [rng_length] at this
            omega
          refine po_ofO hd (po_set w0 (by rw [List.length_map, rng_length]; omega) (po_app (by show ln.length < 100000; omega) ?_))
          refine ⟨_, map_rng_set w0, ?_⟩
          exact h3'.add hw w0 w1 hn hd
        · refine ⟨F', rfl, h3'.skip ?_ w0 w1⟩
          cases e : F' w with
          | none => rw [e] at c; exact absurd rfl c
          | some d => rfl
      · rintro ⟨ln, fd⟩ ⟨F', e3, h3⟩
        have h3' : BfsIn n ts p a.toNat u (sortI (nbs ts u)) ln F' := h3
        have h4 := h3'.next fun w hw => sortI_mem.mpr (nbs_mem.mpr hw)
        have hat : a.toNat < ln.length := (List.getElem?_eq_some_iff.mp h3'.u0).1
        have hlen : ln.length ≤ n.toNat := by
          have := nodup_le h3'.b.nd (ys := rng 0 n) fun v hv => rng_mem.mpr (h3'.b.rg v hv)
          rw [rng_length] at this
          omega
        refine ⟨⟨by show 0 ≤ a + 1; omega, F', e3, ?_⟩, ?_⟩
        · show Bfs n ts p (a + 1).toNat ln F'
          rw [show (a + 1).toNat = a.toNat + 1 by omega]
          exact h4
        · show n.toNat - (a + 1).toNat < n.toNat - a.toNat
          omega
    · have hf : ¬ a < (line.length : Int) := of_decide_eq_false hf
      have hle := b'.le
      have ea : a.toNat = line.length := by omega
      rw [ea] at b'
      exact ⟨F, line, rfl, b'⟩
  · refine ⟨Int.le_refl 0, _, rfl, ?_⟩
    show Bfs n ts p 0 [p] (fun i => if i = p then some 0 else none)
    refine ⟨Nat.zero_le _, by simp, fun v hv => ?_, fun v v0 v1 => ?_, if_pos rfl, fun v d hv => ?_, fun v hv => ?_, by simp, fun v hv u hu => ?_, fun i u hi => absurd hi (Nat.not_lt_zero _)⟩
    · rw [List.mem_singleton] at hv
      rw [hv]; exact ⟨p0, p1⟩
    · show v ∈ [p] ↔ (if v = p then some (0 : Int) else none).isSome = true
      rw [List.mem_singleton]
      by_cases e : v = p
      · rw [if_pos e]; simp [e]
      · rw [if_neg e]; simp [e]
    · have hv' : (if v = p then some (0 : Int) else none) = some d := hv
      split at hv'
      · cases hv'; exact Int.le_refl _
      · cases hv'
    · exact .inl (List.mem_singleton.mp hv)
    · rw [List.drop_zero] at hu
      rw [List.mem_singleton] at hv hu
      subst hv hu
      show (if u = u then some (0 : Int) else none).getD 0 ≤ (if u = u then some (0 : Int) else none).getD 0 + 1
      rw [if_pos rfl]
      decide
  · rw [fu_eq]
    show n.toNat - (0 : Int).toNat < 1000
    omega
/-! ### rows that are none -/
def badL : List Str := ([("" : Str), (" " : Str), ("tie" : Str), ("tie 0" : Str), ("tie 0 1 2" : Str), ("tie  0 1" : Str), (" tie 0 1" : Str), ("tie 0 1 " : Str), ("Tie 0 1" : Str), ("TIE 0 1" : Str)] : (List Str)) ++ ([("tie 00 1" : Str), ("tie 0 01" : Str), ("tie -1 1" : Str), ("tie 0 +1" : Str), ("tie 1000 1" : Str), ("tie 0 1000" : Str), ("tie a 1" : Str)] : (List Str)) ++
  ([("tie 0 1." : Str), ("tie 0,1" : Str), ("tie 0-1" : Str), ("ties 0 1" : Str), ("place 3" : Str), ("places" : Str), ("places 3 4" : Str)] : (List Str)) ++ ([("0 1" : Str), ("look 0" : Str), ("tie 0  1" : Str), ("untie 0 1" : Str), ("tie 1_0 2" : Str), ("tie 0 1a" : Str)] : (List Str)) ++ ([("places 03" : Str), ("places -3" : Str), ("places 3 " : Str), ("PLACES 3" : Str)] : (List Str))
def okN (x : R (Option (List Int))) : Bool := match x with
  | .ok none => true
  | _ => false
theorem okN_of {x : R (Option (List Int))} (h : okN x = true) : x = R.ok none := by
  cases x with
  | ok a =>
    cases a with
    | none => rfl
    | some l => exact nomatch (show false = true from h)
  | exc e => exact nomatch (show false = true from h)
  | bad => exact nomatch (show false = true from h)
theorem badK : badL.all (fun s => okN (numbers_of s "tie" 2) && okN (numbers_of s "places" 1) && (!(TL.tl s).contains 10 && decide (s.length ≤ 33))) = true := by decide +kernel
/-! ### texts of rows -/
structure Rows (L : List Str) : Prop where
  ne : L ≠ []
  no : ∀ y ∈ L, 10 ∉ TL.tl y
  len : ∀ y ∈ L, y.length ≤ 33
  few : L.length ≤ 800
theorem Rows.join {L : List Str} (h : Rows L) : txJoin "\n" L = R.ok (Txt.join "\n" L) := txJoin_ok h.len (by
  have := h.few
  rw [show ("\n" : Str).length = 1 from rfl]
  omega)
theorem Rows.split {L : List Str} (h : Rows L) : txSplit (Txt.join "\n" L) "\n" = R.ok L := txSplit_ok (s := 10) rfl (by decide +kernel) h.ne h.no h.len (by
  have := h.few
  omega)
theorem tieS_no {p : Int × Int} (h1 : 0 ≤ p.1) (h2 : 0 ≤ p.2) : 10 ∉ TL.tl (tieS p) := by
  rw [tieS_tl h1 h2]
  intro q
  rcases List.mem_append.mp q with q | q
  · exact absurd q (by decide)
  · rcases List.mem_append.mp q with q | q
    · exact TL.numL_free (.inl (by decide)) q
    · rcases List.mem_append.mp q with q | q
      · exact absurd q (by decide)
      · exact TL.numL_free (.inl (by decide)) q
theorem headS_no {n : Int} (h : 0 ≤ n) : 10 ∉ TL.tl (rowW "places" [n]) := by
  rw [headS_tl h]
  intro q
  rcases List.mem_append.mp q with q | q
  · exact absurd q (by decide)
  · exact TL.numL_free (.inl (by decide)) q
/-- fit numbers -/
def Fit (p : Int × Int) : Prop := 0 ≤ p.1 ∧ p.1 < 1000 ∧ 0 ≤ p.2 ∧ p.2 < 1000
theorem num_tie {p : Int × Int} (h : Fit p) : numbers_of (tieS p) "tie" 2 = R.ok (some [p.1, p.2]) := by
  show numbers_of (rowW "tie" [p.1, p.2]) "tie" 2 = _
  exact numbers_ok (w := "tie") (vs := [p.1, p.2]) (m := 2) (by decide) (fun v hv => by
    rcases List.mem_cons.mp hv with rfl | hv
    · exact ⟨h.1, h.2.1⟩
    · rw [List.mem_singleton.mp hv]
      exact h.2.2) (by show 2 < 100; decide) (by decide) rfl
theorem num_head {n : Int} (h : 0 ≤ n ∧ n < 1000) : numbers_of (rowW "places" [n]) "places" 1 = R.ok (some [n]) := numbers_ok (w := "places") (vs := [n]) (m := 1) (by decide) (fun v hv => by rw [List.mem_singleton.mp hv]; exact h) (by show 1 < 100; decide) (by decide) rfl
/-- a row of places is no row of a tie -/
theorem head_none {n : Int} (h : 0 ≤ n ∧ n < 1000) : numbers_of (rowW "places" [n]) "tie" 2 = R.ok none := by
  have hs : txSplit (rowW "places" [n]) (" " : Str) = R.ok ([("places" : Str), numS n] : List Str) := txSplit_ok (y := (" " : Str)) (ps := [("places" : Str), numS n]) (s := 32) rfl (by decide +kernel) (List.cons_ne_nil _ _) (fun p hp => by
    rcases List.mem_cons.mp hp with rfl | hp
    · decide +kernel
    · rw [List.mem_singleton.mp hp, numS_tl h.1]
      exact TL.numL_free (.inl (by decide))) (b := 10) (fun p hp => by
    rcases List.mem_cons.mp hp with rfl | hp
    · decide +kernel
    · rw [List.mem_singleton.mp hp]
      have := numS_len h.1 h.2
      omega) (by show 2 * 10 + 2 ≤ 1000000; decide)
  unfold numbers_of
  rw [hs, ok_bind, getI_eq (x := ("places" : Str)) (Int.le_refl 0) rfl, ok_bind, if_pos (by decide +kernel), ok_bind, if_pos rfl]
/-! ### reading -/
def zipE : Int → List Str → List (Int × Str)
  | _, [] => []
  | k, x :: l => (k, x) :: zipE (k + 1) l
theorem zip_rng : ∀ (l : List Str) (k : Int), (rng k (k + l.length)).zip l = zipE k l
  | [], k => by rw [List.zip_nil_right]; rfl
  | x :: l, k => by
    have e : rng k (k + ((x :: l).length : Int)) = k :: rng (k + 1) (k + 1 + (l.length : Int)) := by
      unfold rng
      rw [show (k + ((x :: l).length : Int) - k).toNat = l.length + 1 by rw [List.length_cons]; omega, show (k + 1 + (l.length : Int) - (k + 1)).toNat = l.length by omega, List.range_succ_eq_map, List.map_cons, List.map_map]
      congr 1
      · omega
      · exact List.map_congr_left fun j _ => by show k + ((j + 1 : Nat) : Int) = k + 1 + (j : Int); omega
    rw [e, List.zip_cons_cons, zip_rng l (k + 1)]
    rfl
theorem enum_zip (l : List Str) : enum l = zipE 0 l := by
  have := zip_rng l 0
  rw [Int.zero_add] at this
  exact this
def rdF (g10 : List (Int × Int)) (b10 : Int × Str) : R (List (Int × Int)) := do
        let y15 ← nx (numbers_of b10.2 ("tie" : Str) (2 : Int))
        if y15.isNone = true then do
          raiseX "NoText" (b10.1 + (1 : Int))
        else do
          let t19 ← ofO y15
          let t21 ← getI t19 (0 : Int)
          let t22 ← getI t19 (1 : Int)
          let l24 ← app g10 (t21, t22)
          R.ok l24
theorem rd_tie {g : List (Int × Int)} {p : Int × Int} {k : Int} (h : Fit p) (hg : g.length < 5000) : rdF g (k, tieS p) = R.ok (g ++ [p]) := by
  unfold rdF
  rw [num_tie h]
  show (app g (p.1, p.2) >>= _) = _
  rw [Z.app_ok (by omega)]
  rfl
theorem rd_bad {g : List (Int × Int)} {s : Str} {k : Int} (h : numbers_of s "tie" 2 = R.ok none) : rdF g (k, s) = R.exc ⟨"NoText", k + 1⟩ := by
  unfold rdF
  rw [h]
  rfl
theorem rd_ties : ∀ {us : List (Int × Int)} {g : List (Int × Int)} {k : Int} {l : List Str}, (∀ p ∈ us, Fit p) → g.length + us.length < 5000 → foldR rdF g (zipE k (us.map tieS ++ l)) = foldR rdF (g ++ us) (zipE (k + us.length) l)
  | [], g, k, l, _, _ => by rw [List.append_nil, show k + (([] : List (Int × Int)).length : Int) = k by show k + 0 = k; omega]; rfl
  | p :: us, g, k, l, h, hl => by
    rw [List.length_cons] at hl
    show (rdF g (k, tieS p) >>= fun s' => foldR rdF s' (zipE (k + 1) (us.map tieS ++ l))) = _
    rw [rd_tie (h p List.mem_cons_self) (by omega), ok_bind, rd_ties (fun q hq => h q (List.mem_cons_of_mem _ hq)) (by rw [List.length_append, List.length_singleton]; omega), List.append_assoc,
      show k + 1 + (us.length : Int) = k + ((p :: us).length : Int) by rw [List.length_cons]; omega]
    rfl
theorem rd_eq {r0 : Str} {rs : List Str} (h : Rows (r0 :: rs)) : read_webX (Txt.join "\n" (r0 :: rs)) = (do
  let y5 ← nx (numbers_of r0 ("places" : Str) (1 : Int))
  if y5.isNone = true then do
    raiseX "NoText" (0 : Int)
  else do
    let g10 ← foldR rdF ([] : (List (Int × Int))) (zipE 0 rs)
    let t26 ← ofO y5
    let t28 ← getI t26 (0 : Int)
    let y29 ← made_webX t28 g10
    R.ok y29) := by
  unfold read_webX
  rw [h.split, ok_bind, getI_eq (x := r0) (Int.le_refl 0) rfl, ok_bind]
  have ec : cutL (r0 :: rs) (some (1 : Int)) none = rs := cut_from _ 1
  rw [ec, enum_zip]
  rfl
theorem rd_none {r0 : Str} {rs : List Str} (h : Rows (r0 :: rs)) (h0 : numbers_of r0 "places" 1 = R.ok none) : read_webX (Txt.join "\n" (r0 :: rs)) = R.exc ⟨"NoText", 0⟩ := by
  rw [rd_eq h, h0]
  rfl
theorem rd_late {n : Int} {us : List (Int × Int)} {b : Str} {rest : List Str} (h : Rows (rowW "places" [n] :: (us.map tieS ++ b :: rest))) (hn : 0 ≤ n ∧ n < 1000) (hu : ∀ p ∈ us, Fit p) (hl : us.length < 4000) (hb : numbers_of b "tie" 2 = R.ok none) :
    read_webX (Txt.join "\n" (rowW "places" [n] :: (us.map tieS ++ b :: rest))) = R.exc ⟨"NoText", (us.length : Int) + 1⟩ := by
  rw [rd_eq h, num_head hn, rd_ties hu (by show 0 + us.length < 5000; omega)]
  show (foldR rdF ([] ++ us) (zipE (0 + (us.length : Int)) (b :: rest)) >>= _) = _
  show ((rdF ([] ++ us) (0 + (us.length : Int), b) >>= _) >>= _) = _
  rw [rd_bad hb, Int.zero_add]
  rfl
theorem rd_good {n : Int} {us : List (Int × Int)} (h : Rows (rowW "places" [n] :: us.map tieS)) (hn : 0 ≤ n ∧ n < 1000) (hu : ∀ p ∈ us, Fit p) (hl : us.length < 4000) :
    read_webX (Txt.join "\n" (rowW "places" [n] :: us.map tieS)) = made_webX n us := by
  have e : us.map tieS = us.map tieS ++ [] := (List.append_nil _).symm
  rw [rd_eq h, num_head hn]
  show (foldR rdF [] (zipE 0 (us.map tieS)) >>= _) = _
  rw [e, rd_ties hu (by show 0 + us.length < 5000; omega)]
  show (made_webX n ([] ++ us) >>= fun y => R.ok y) = _
  rw [List.nil_append]
  cases made_webX n us <;> rfl
/-! ### webs that are none -/
def stF (n : Int) (g4 : List (Int × Int)) (b4 : Int × Int) : R (List (Int × Int)) := do
      if ((decide ((min2 b4.1 b4.2) < (0 : Int))) || ((decide (n ≤ (max2 b4.1 b4.2))) || ((decide (b4.1 = b4.2)) || (inB ((min2 b4.1 b4.2), (max2 b4.1 b4.2)) g4)))) = true then do
        raiseR "NoWeb"
      else do
        let l18 ← app g4 ((min2 b4.1 b4.2), (max2 b4.1 b4.2))
        R.ok l18
theorem foldR_app {α β : Type} {f : β → α → R β} : ∀ {xs ys : List α} {s : β}, foldR f s (xs ++ ys) = (foldR f s xs >>= fun s' => foldR f s' ys)
  | [], ys, s => rfl
  | x :: xs, ys, s => by
    show (f s x >>= fun s' => foldR f s' (xs ++ ys)) = ((f s x >>= fun s' => foldR f s' xs) >>= fun s' => foldR f s' ys)
    cases f s x with
    | ok a => exact foldR_app
    | exc e => rfl
    | bad => rfl
/-- ties as a web has them: rising, each once -/
structure Ties (n : Int) (ts : List (Int × Int)) : Prop where
  rg : ∀ p ∈ ts, 0 ≤ p.1 ∧ p.1 < p.2 ∧ p.2 < n
  nd : ts.Nodup
theorem up_mm {p : Int × Int} (h : p.1 < p.2) : min2 p.1 p.2 = p.1 ∧ max2 p.1 p.2 = p.2 := by
  rcases mm_cases p.1 p.2 with ⟨e1, e2, _⟩ | ⟨_, _, z⟩
  · exact ⟨e1, e2⟩
  · omega
theorem st_ties {n : Int} : ∀ {ts g : List (Int × Int)}, Ties n (g ++ ts) → g.length + ts.length < 5000 → foldR (stF n) g ts = R.ok (g ++ ts)
  | [], g, _, _ => by rw [List.append_nil]; rfl
  | p :: ts, g, h, hl => by
    rw [List.length_cons] at hl
    have hp := h.rg p (by simp)
    obtain ⟨e1, e2⟩ := up_mm hp.2.1
    have hno : inB p g = false := by
      cases q : inB p g with
      | false => rfl
      | true => exact absurd rfl ((List.nodup_append.mp h.nd).2.2 p (inB_t.mp q) p List.mem_cons_self)
    have e : stF n g p = R.ok (g ++ [p]) := by
      unfold stF
      rw [e1, e2, decide_eq_false (show ¬ p.1 < 0 by omega), decide_eq_false (show ¬ n ≤ p.2 by omega), decide_eq_false (show ¬ p.1 = p.2 by omega), show ((p.1, p.2) : Int × Int) = p from rfl, hno, if_neg (by decide), Z.app_ok (by omega)]
      rfl
    show (stF n g p >>= fun s' => foldR (stF n) s' ts) = _
    rw [e, ok_bind, st_ties (by rw [List.append_assoc]; exact h) (by rw [List.length_append, List.length_singleton]; omega), List.append_assoc]
    rfl
theorem made_many {n : Int} {us : List (Int × Int)} (h : ¬ (1 ≤ n ∧ n ≤ 60)) : made_webX n us = R.exc ⟨"NoWeb", 0⟩ := by
  unfold made_webX
  rw [if_pos]
  · rfl
  · have hq : ¬ 1 ≤ n ∨ ¬ n ≤ 60 := by omega
    rcases hq with q | q
    · rw [decide_eq_false q]; rfl
    · rw [decide_eq_false q, Bool.and_false]; rfl
theorem made_bad {n : Int} {ts : List (Int × Int)} {b : Int × Int} (n1 : 1 ≤ n) (n60 : n ≤ 60) (h : Ties n ts) (hl : ts.length < 4000) (hb : n ≤ max2 b.1 b.2 ∨ b.1 = b.2 ∨ (min2 b.1 b.2, max2 b.1 b.2) ∈ ts) : made_webX n (ts ++ [b]) = R.exc ⟨"NoWeb", 0⟩ := by
  unfold made_webX
  rw [decide_eq_true n1, decide_eq_true n60, if_neg (by decide)]
  have e : sorted_tiesX n (ts ++ [b]) = R.exc ⟨"NoWeb", 0⟩ := by
    unfold sorted_tiesX
    show (foldR (stF n) [] (ts ++ [b]) >>= _) = _
    rw [foldR_app, st_ties (by exact h) (by show 0 + ts.length < 5000; omega), ok_bind]
    have e2 : stF n ([] ++ ts) b = R.exc ⟨"NoWeb", 0⟩ := by
      unfold stF
      rw [if_pos]
      · rfl
      · rcases hb with q | q | q
        · rw [decide_eq_true q, Bool.true_or, Bool.or_true]
        · rw [decide_eq_true q, Bool.true_or, Bool.or_true, Bool.or_true]
        · rw [inB_t.mpr (show (min2 b.1 b.2, max2 b.1 b.2) ∈ [] ++ ts from q), Bool.or_true, Bool.or_true, Bool.or_true]
    show ((stF n ([] ++ ts) b >>= _) >>= _) = _
    rw [e2]
    rfl
  rw [e]
  rfl
/-- the places to which one can not come -/
def offL (n : Int) (f : Int → Int) : List Int := (rng 0 n).filter fun v => decide (n ≤ f v)
theorem loop_off {n : Int} {F : Int → Option Int} {f : Int → Int} : ∀ {l : List Int}, (∀ v ∈ l, 0 ≤ v ∧ v < n) → (∀ v ∈ l, (F v).isNone = decide (n ≤ f v)) →
    foldR (fun (g15 : Unit) (b15 : Int) => do
        let t17 ← getI ((rng 0 n).map F) b15
        if t17.isNone = true then do
          raiseX "Apart" b15
        else do
          R.ok ()) () l = match l.filter (fun v => decide (n ≤ f v)) with
      | [] => R.ok ()
      | v :: _ => R.exc ⟨"Apart", v⟩
  | [], _, _ => rfl
  | v :: l, h, hf => by
    have hv := h v List.mem_cons_self
    show ((getI ((rng 0 n).map F) v >>= _) >>= _) = _
    rw [getI_eq hv.1 (map_rng_get hv.1 hv.2), ok_bind, hf v List.mem_cons_self, List.filter_cons]
    by_cases q : n ≤ f v
    · rw [decide_eq_true q, if_pos rfl, if_pos rfl]
      rfl
    · rw [decide_eq_false q, if_neg (by decide), if_neg (by decide), ok_bind]
      exact loop_off (fun u hu => h u (List.mem_cons_of_mem _ hu)) fun u hu => hf u (List.mem_cons_of_mem _ hu)
theorem made_ties {n : Int} {ts : List (Int × Int)} {f : Int → Int} (n1 : 1 ≤ n) (n60 : n ≤ 60) (h : Ties n ts) (hl : ts.length ≤ 700) (d : PD n ts 0 f) : (offL n f = [] → ∃ w, made_webX n ts = R.ok w) ∧ ∀ v l, offL n f = v :: l → made_webX n ts = R.exc ⟨"Apart", v⟩ := by
  have P := sortP_perm ts
  have adj : ∀ a b, Adj (sortP ts) a b ↔ Adj ts a b := fun a b => by
    unfold Adj
    rw [P.mem_iff, P.mem_iff]
  have d2 : PD n (sortP ts) 0 f := ⟨d.zero, d.nn, fun a b h => d.lip a b ((adj a b).mp h), fun v v0 v1 hne hlt => by
    obtain ⟨w, w0, w1, ha, e⟩ := d.desc v v0 v1 hne hlt
    exact ⟨w, w0, w1, (adj w v).mpr ha, e⟩⟩
  have hr : ∀ q ∈ sortP ts, 0 ≤ q.1 ∧ q.1 < n ∧ 0 ≤ q.2 ∧ q.2 < n := fun q hq => by
    have := h.rg q (P.mem_iff.mp hq)
    omega
  have hsl : (sortP ts).length = ts.length := P.length_eq
  have en : near_lists (n, ⟨sortP ts⟩) = R.ok (nears n (sortP ts)) := near_lists_ok (by omega) (by omega) (by omega) hr
  obtain ⟨l, ef, F, line, rfl, b⟩ := po_ex (fars_by_bfs (n := n) (ts := sortP ts) (p := 0) (by omega) hr (Int.le_refl 0) (by omega))
  have hb : ∀ v, 0 ≤ v → v < n → ((F v).isSome = true ↔ f v < n) := fun v v0 v1 => bfs_pd b d2 (Int.le_refl 0) (by omega) v v0 v1
  have er : rngI 0 n = R.ok (rng 0 n) := rngI_ok (by decide) (by decide) (by omega) (by omega)
  have e : sorted_tiesX n ts = R.ok ⟨sortP ts⟩ := by
    unfold sorted_tiesX
    show (foldR (stF n) [] ts >>= _) = _
    rw [st_ties (by exact h) (by show 0 + ts.length < 5000; omega)]
    rfl
  have lo := loop_off (n := n) (F := F) (f := f) (l := rng 0 n) (fun v hv => rng_mem.mp hv) fun v hv => by
    have r := rng_mem.mp hv
    have := hb v r.1 r.2
    cases q : F v with
    | none =>
      rw [q] at this
      have : ¬ f v < n := fun z => absurd (this.mpr z) (by decide)
      exact (decide_eq_true (show n ≤ f v by omega)).symm
    | some x =>
      rw [q] at this
      have : f v < n := this.mp rfl
      exact (decide_eq_false (show ¬ n ≤ f v by omega)).symm
  have em : made_webX n ts = (match offL n f with
      | [] => R.ok ()
      | v :: _ => R.exc ⟨"Apart", v⟩) >>= fun _ => R.ok (n, ⟨sortP ts⟩) := by
    have nxo : ∀ {α : Type} (a : α), nx (R.ok a) = R.ok a := fun _ => rfl
    unfold made_webX
    rw [decide_eq_true n1, decide_eq_true n60, if_neg (by decide), e, ok_bind, en, nxo, ok_bind, ef, nxo, ok_bind, er, ok_bind, lo]
    rfl
  constructor
  · intro h0
    rw [em, h0]
    exact ⟨_, rfl⟩
  · intro v l h0
    rw [em, h0]
    rfl
end G
namespace G
open PySem L2 Z
/-! ### what is told -/
def hnd (e : Exn) : R Tl := (do
      let b8 ← isC names [("NoText" : Str)] e
      let b9 ← isC names [("NoWeb" : Str)] e
      let b10 ← isC names [("Apart" : Str)] e
      let j16 ← (do
        let b17 ← isC names [("NoText" : Str), ("NoWeb" : Str), ("Apart" : Str)] e
        if b17 = true then do
          let b19 ← isC names [] e
          if (!b19) = true then do
            R.ok (decide (((([b8, b9, b10] : (List Bool)).map fun b => if b = true then (1 : Int) else 0).sum) = (1 : Int)))
          else do
            R.ok false
        else do
          R.ok false : R (Bool))
      if j16 = true then do
        let g28 ← (do
          let t29 ← getI ([b8, b9, b10] : (List Bool)) (0 : Int)
          if t29 = true then do
            let b31 ← xarg "NoText" e
            R.ok (Tl.ap ⟨("text" : Str), by decide +kernel⟩ b31)
          else do
            R.ok (Tl.ap ⟨("web" : Str), by decide +kernel⟩ (0 : Int)) : R (Tl))
        let t35 ← getI ([b8, b9, b10] : (List Bool)) (2 : Int)
        if t35 = true then do
          let b37 ← xarg "Apart" e
          R.ok (Tl.ap ⟨("apart" : Str), by decide +kernel⟩ b37)
        else do
          R.ok g28
      else do
        R.ok (Tl.ap ⟨("odd" : Str), by decide +kernel⟩ (0 : Int)) : R (Tl))
theorem isC_t {tn : List Str} {c : Str} {i : Int} {b : Bool} (h : c ∈ names) (hb : decide (c ∈ tn) = b) : isC names tn ⟨c, i⟩ = R.ok b := by
  unfold isC
  rw [if_pos h, hb]
theorem xarg_t {c : Str} {i : Int} : xarg c ⟨c, i⟩ = R.ok i := if_pos rfl
theorem gB {a b c : Bool} : getI ([a, b, c] : List Bool) (0 : Int) = R.ok a ∧ getI ([a, b, c] : List Bool) (2 : Int) = R.ok c := ⟨getI_eq (by decide) rfl, getI_eq (by decide) rfl⟩
theorem hnd_text {i : Int} : hnd ⟨"NoText", i⟩ = R.ok (Tl.ap ⟨("text" : Str), by decide +kernel⟩ i) := by
  have m : ("NoText" : Str) ∈ names := by decide +kernel
  unfold hnd
  rw [isC_t m (b := true) (by decide +kernel), isC_t m (b := false) (by decide +kernel), isC_t m (b := false) (by decide +kernel), isC_t m (b := true) (by decide +kernel), isC_t m (b := false) (by decide +kernel)]
  simp [ok_bind, gB.1, gB.2, xarg_t]
theorem hnd_web {i : Int} : hnd ⟨"NoWeb", i⟩ = R.ok (Tl.ap ⟨("web" : Str), by decide +kernel⟩ 0) := by
  have m : ("NoWeb" : Str) ∈ names := by decide +kernel
  unfold hnd
  rw [isC_t m (b := false) (by decide +kernel), isC_t m (b := true) (by decide +kernel), isC_t m (b := false) (by decide +kernel), isC_t m (b := true) (by decide +kernel), isC_t m (b := false) (by decide +kernel)]
  simp [ok_bind, gB.1, gB.2, xarg_t]
theorem hnd_apart {i : Int} : hnd ⟨"Apart", i⟩ = R.ok (Tl.ap ⟨("apart" : Str), by decide +kernel⟩ i) := by
  have m : ("Apart" : Str) ∈ names := by decide +kernel
  unfold hnd
  rw [isC_t m (b := false) (by decide +kernel), isC_t m (b := false) (by decide +kernel), isC_t m (b := true) (by decide +kernel), isC_t m (b := true) (by decide +kernel), isC_t m (b := false) (by decide +kernel)]
  simp [ok_bind, gB.1, gB.2, xarg_t]
theorem tryX {α : Type} {names : List Str} {e : Exn} {f : Exn → R α} (h : e.cls ∈ names) : tryWith names (R.exc e) f = f e := if_pos h
theorem told_exc {L : List Str} {w : Int} {e : Exn} {t : Tl} (h : Rows L) (hr : read_webX (Txt.join "\n" L) = R.exc e) (hm : e.cls ∈ names) (ht : hnd e = R.ok t) : law_told L w = R.ok t := by
  have key : ∀ b : R Tl, b = R.exc e → (tryWith names b hnd >>= fun g4 => R.ok g4) = R.ok t := fun b hb => by
    rw [hb, tryX hm, ht]
    rfl
  unfold law_told
  refine key _ ?_
  rw [h.join, ok_bind, ok_bind, hr]
  unfold Desk_init
  rw [hr]
  split <;> rfl
theorem told_ok {L : List Str} {w : Int} {x : Int × Tup (Int × Int)} (h : Rows L) (hr : read_webX (Txt.join "\n" L) = R.ok x) : law_told L w = R.ok (Tl.ap ⟨("told" : Str), by decide +kernel⟩ 0) := by
  unfold law_told
  rw [h.join, ok_bind, ok_bind, hr]
  unfold Desk_init
  rw [hr]
  split <;> rfl
theorem told_text {L : List Str} {w i : Int} (h : Rows L) (hr : read_webX (Txt.join "\n" L) = R.exc ⟨"NoText", i⟩) : law_told L w = R.ok (Tl.ap ⟨("text" : Str), by decide +kernel⟩ i) := told_exc h hr (show ("NoText" : Str) ∈ names by decide +kernel) hnd_text
theorem told_web {L : List Str} {w i : Int} (h : Rows L) (hr : read_webX (Txt.join "\n" L) = R.exc ⟨"NoWeb", i⟩) : law_told L w = R.ok (Tl.ap ⟨("web" : Str), by decide +kernel⟩ 0) := told_exc h hr (show ("NoWeb" : Str) ∈ names by decide +kernel) hnd_web
theorem told_apart {L : List Str} {w i : Int} (h : Rows L) (hr : read_webX (Txt.join "\n" L) = R.exc ⟨"Apart", i⟩) : law_told L w = R.ok (Tl.ap ⟨("apart" : Str), by decide +kernel⟩ i) := told_exc h hr (show ("Apart" : Str) ∈ names by decide +kernel) hnd_apart
/-! ### what is apart -/
theorem pd_step {n : Int} {ts : List (Int × Int)} {f : Int → Int} (n1 : 1 ≤ n) (d : PD n ts 0 f) {a b : Int} (a0 : 0 ≤ a) (a1 : a < n) (b0 : 0 ≤ b) (b1 : b < n) (q : Adj ts a b) (h : f a < n) : f b < n := by
  apply Classical.byContradiction
  intro z
  have l := d.lip a b q
  have lvl : ∀ j : Nat, (j : Int) ≤ f a → ∃ u, 0 ≤ u ∧ u < n ∧ f u = f a - j := by
    intro j
    induction j with
    | zero => exact fun _ => ⟨a, a0, a1, by omega⟩
    | succ j ih =>
      intro hj
      obtain ⟨u, u0, u1, e⟩ := ih (by omega)
      have hne : u ≠ 0 := fun z => by
        rw [z, d.zero] at e
        omega
      obtain ⟨w, w0, w1, _, ew⟩ := d.desc u u0 u1 hne (by omega)
      exact ⟨w, w0, w1, by omega⟩
  have hb : b ∈ rng 0 n := rng_mem.mpr ⟨b0, b1⟩
  have u := nodup_le (rng_nodup 0 n) (ys := ((rng 0 n).erase b).map f) fun x hx => by
    obtain ⟨x0, x1⟩ := rng_mem.mp hx
    obtain ⟨u, u0, u1, e⟩ := lvl (f a - x).toNat (by omega)
    refine List.mem_map.mpr ⟨u, (rng_nodup 0 n).mem_erase_iff.mpr ⟨fun z => ?_, rng_mem.mpr ⟨u0, u1⟩⟩, by omega⟩
    subst z
    omega
  rw [List.length_map, List.length_erase_of_mem hb, rng_length] at u
  omega
theorem apart_ok {n : Int} {ts : List (Int × Int)} {f : Int → Int} (n1 : 1 ≤ n) (n60 : n ≤ 60) (h : Ties n ts) (d : PD n ts 0 f) : law_apart n ts = R.ok (offL n f).head? := by
  refine po_iff ?_
  unfold law_apart
  refine po_rng (by decide) (by decide) (by omega) (by omega) ?_
  have step : ∀ {g : List Int} {a b : Int}, (∀ v ∈ g, (0 ≤ v ∧ v < n) ∧ f v < n) → g.Nodup → Adj ts a b → 0 ≤ b → b < n → ∀ {β : Type} {S : β → Prop} {k : List Int → R β},
      (∀ g' : List Int, (∀ v ∈ g', (0 ≤ v ∧ v < n) ∧ f v < n) → g'.Nodup → (∀ v ∈ g, v ∈ g') → (a ∈ g → b ∈ g') → Post (k g') S noX) →
      Post ((if ((inB a g) && (!inB b g)) = true then (do
        let l ← app g b
        R.ok l) else R.ok g) >>= k) S noX := fun {g a b} hg hd q b0 b1 {β S k} hk => by
    have gl : g.length ≤ n.toNat := by
      have := nodup_le hd (ys := rng 0 n) fun v hv => rng_mem.mpr (hg v hv).1
      rw [rng_length] at this
      omega
    refine po_bind (Q := fun g' => (∀ v ∈ g', (0 ≤ v ∧ v < n) ∧ f v < n) ∧ g'.Nodup ∧ (∀ v ∈ g, v ∈ g') ∧ (a ∈ g → b ∈ g')) (po_if (fun c => ?_) fun c => ?_) fun g' ⟨x1, x2, x3, x4⟩ => hk g' x1 x2 x3 x4
    · rw [Bool.and_eq_true] at c
      have ha := inB_t.mp c.1
      have hb : b ∉ g := fun z => by
        have := c.2
        rw [inB_t.mpr z] at this
        cases this
      refine po_app (by omega) ⟨fun v hv => ?_, ?_, fun v hv => List.mem_append_left _ hv, fun _ => by simp⟩
      · rcases List.mem_append.mp hv with hv | hv
        · exact hg v hv
        · rw [List.mem_singleton.mp hv]
          exact ⟨⟨b0, b1⟩, pd_step n1 d (hg a ha).1.1 (hg a ha).1.2 b0 b1 q (hg a ha).2⟩
      · rw [List.nodup_append]
        exact ⟨hd, by simp, fun x hx y hy e => hb (by rw [List.mem_singleton] at hy; rw [← hy, ← e]; exact hx)⟩
    · refine ⟨hg, hd, fun v hv => hv, fun ha => ?_⟩
      apply Classical.byContradiction
      intro z
      apply c
      rw [inB_t.mpr ha]
      cases q : inB b g with
      | false => rfl
      | true => exact absurd (inB_t.mp q) z
  refine po_bind (po_foldP (fun pre (g : List Int) => (∀ v ∈ g, (0 ≤ v ∧ v < n) ∧ f v < n) ∧ g.Nodup ∧ ∀ v, 0 ≤ v → v < n → f v ≤ pre.length → f v < n → v ∈ g) ⟨fun v hv => ?_, by simp, fun v v0 v1 hv _ => ?_⟩ ?_) fun g4 ⟨g1, g2, g3⟩ => ?_
  · rw [List.mem_singleton.mp hv, d.zero]
    omega
  · rw [d.z n1 v0 v1 hv]
    exact List.mem_cons_self
  · rintro pre g x post e ⟨hg, hd, hl⟩
    refine po_bind (po_foldP (fun pre2 (g6 : List Int) => (∀ v ∈ g6, (0 ≤ v ∧ v < n) ∧ f v < n) ∧ g6.Nodup ∧ (∀ v ∈ g, v ∈ g6) ∧ ∀ p ∈ pre2, (p.1 ∈ g → p.2 ∈ g6) ∧ (p.2 ∈ g → p.1 ∈ g6)) ⟨hg, hd, fun v hv => hv, fun _ z => (nomatch z)⟩ ?_) fun g6 ⟨k1, k2, k3, k4⟩ => ?_
    · rintro pre2 g6 p post2 e2 ⟨k1, k2, k3, k4⟩
      have hp : p ∈ ts := by rw [e2]; simp
      have hr := h.rg p hp
      refine step k1 k2 (show Adj ts p.1 p.2 from .inl hp) (by omega) (by omega) fun g7 a1 a2 a3 a4 => ?_
      have := step a1 a2 (show Adj ts p.2 p.1 from .inr hp) (by omega) (by omega) (k := fun g => R.ok g) (S := fun g8 => (∀ v ∈ g8, (0 ≤ v ∧ v < n) ∧ f v < n) ∧ g8.Nodup ∧ (∀ v ∈ g, v ∈ g8) ∧ ∀ q ∈ pre2 ++ [p], (q.1 ∈ g → q.2 ∈ g8) ∧ (q.2 ∈ g → q.1 ∈ g8)) fun g8 b1 b2 b3 b4 => ⟨b1, b2, fun v hv => b3 v (a3 v (k3 v hv)), fun q hq => ?_⟩
      · refine Post.mono (P := fun g8 => (∀ v ∈ g8, (0 ≤ v ∧ v < n) ∧ f v < n) ∧ g8.Nodup ∧ (∀ v ∈ g, v ∈ g8) ∧ ∀ q ∈ pre2 ++ [p], (q.1 ∈ g → q.2 ∈ g8) ∧ (q.2 ∈ g → q.1 ∈ g8)) ?_ (fun _ z => z) fun _ z => z
        generalize (if ((inB p.2 g7) && (!inB p.1 g7)) = true then (do
          let l ← app g7 p.1
          R.ok l) else R.ok g7) = m at this
        cases m with
        | ok a => exact this
        | exc e => exact this
        | bad => exact this
      · rcases List.mem_append.mp hq with hq | hq
        · exact ⟨fun z => b3 _ (a3 _ ((k4 q hq).1 z)), fun z => b3 _ (a3 _ ((k4 q hq).2 z))⟩
        · rw [List.mem_singleton.mp hq]
          exact ⟨fun z => b3 _ (a4 (k3 _ z)), fun z => b4 (a3 _ (k3 _ z))⟩
    · refine ⟨k1, k2, fun v v0 v1 hv qn => ?_⟩
      rw [List.length_append, List.length_singleton] at hv
      by_cases q : f v ≤ pre.length
      · exact k3 v (hl v v0 v1 q qn)
      · have hne : v ≠ 0 := fun z => q (by rw [z, d.zero]; omega)
        obtain ⟨w, w0, w1, ha, ew⟩ := d.desc v v0 v1 hne qn
        have hw := hl w w0 w1 (by omega) (by omega)
        rcases ha with ha | ha
        · exact (k4 _ ha).1 hw
        · exact (k4 _ ha).2 hw
  · rw [rng_length] at g3
    have mem : ∀ v, 0 ≤ v → v < n → (v ∈ g4 ↔ f v < n) := fun v v0 v1 => ⟨fun z => (g1 v z).2, fun z => g3 v v0 v1 (by omega) z⟩
    refine po_rng (by decide) (by decide) (by omega) (by omega) ?_
    rw [filG_ok (g := fun b => if (!inB b g4) = true then some b else none) (by rw [rng_length]; omega) fun b hb => by split <;> rfl, ok_bind, fil_ite]
    have ef : (rng 0 n).filter (fun b => !inB b g4) = offL n f := by
      unfold offL
      refine List.filter_congr fun v hv => ?_
      have r := rng_mem.mp hv
      have := mem v r.1 r.2
      cases q : inB v g4 with
      | false =>
        have : ¬ f v < n := fun z => by
          rw [inB_t.mpr (this.mpr z)] at q
          cases q
        exact (decide_eq_true (show n ≤ f v by omega)).symm
      | true =>
        have := this.mp (inB_t.mp q)
        exact (decide_eq_false (show ¬ n ≤ f v by omega)).symm
    rw [ef]
    have hol : (offL n f).length ≤ n.toNat := by
      have := List.length_filter_le (fun v => decide (n ≤ f v)) (rng 0 n)
      rw [rng_length] at this
      unfold offL
      omega
    refine po_extend (by rw [List.length_map]; show (offL n f).length + 1 < 100000; omega) ?_
    cases offL n f with
    | nil => exact po_getE (getI_eq (x := none) (by decide) rfl) rfl
    | cons v l => exact po_getE (getI_eq (x := some v) (by decide) rfl) rfl
end G
namespace G
open PySem L2 Z
theorem cut_to {α : Type} (xs : List α) {k : Int} (k0 : 0 ≤ k) : cutL xs none (some k) = xs.take k.toNat := by
  have := cut_take xs k.toNat
  rw [show ((k.toNat : Nat) : Int) = k by omega] at this
  exact this
theorem cut_fromI {α : Type} (xs : List α) {k : Int} (k0 : 0 ≤ k) : cutL xs (some k) none = xs.drop k.toNat := by
  have := cut_from xs k.toNat
  rw [show ((k.toNat : Nat) : Int) = k by omega] at this
  exact this
/-! ### a web's rows -/
theorem text_ok {n : Int} {us : List (Int × Int)} (hn : 0 ≤ n ∧ n < 1000) (hu : ∀ p ∈ us, Fit p) (hl : us.length ≤ 700) : law_text (n, ⟨us⟩) = R.ok (Txt.join "\n" (rowW "places" [n] :: us.map tieS)) := by
  refine po_iff ?_
  unfold law_text
  show Post (txNum n >>= _) _ _
  rw [txNum_ok hn.1 hn.2, ok_bind, txAdd_ok (by have := numS_len hn.1 hn.2; show ("places " : Str).length + _ ≤ _; rw [show ("places " : Str).length = 7 from rfl]; omega), ok_bind, head_eq]
  refine po_bind (po_foldP (fun pre g => g = rowW "places" [n] :: pre.map tieS) rfl fun pre g x post e hg => ?_) fun g hg => ?_
  · have hx := hu x (by show x ∈ us; rw [show us = pre ++ x :: post from e]; simp)
    have hel := congrArg List.length (show us = pre ++ x :: post from e)
    simp at hel
    rw [tie_made hx, ok_bind]
    refine po_app (by rw [hg, List.length_cons, List.length_map]; omega) ?_
    rw [hg, List.map_append]
    rfl
  · rw [hg]
    show Post (txJoin "\n" (rowW "places" [n] :: us.map tieS) >>= _) _ _
    rw [webS_join hn hu hl]
    rfl
/-- a row that may stand -/
def Row (y : Str) : Prop := 10 ∉ TL.tl y ∧ y.length ≤ 33
theorem row_tie {p : Int × Int} (h : Fit p) : Row (tieS p) := ⟨tieS_no h.1 h.2.2.1, tieS_len ⟨h.1, h.2.1⟩ h.2.2⟩
theorem row_head {n : Int} (h : 0 ≤ n ∧ n < 1000) : Row (rowW "places" [n]) := ⟨headS_no h.1, headS_len h⟩
theorem rows_of {L : List Str} (hne : L ≠ []) (h : ∀ y ∈ L, Row y) (hl : L.length ≤ 800) : Rows L := ⟨hne, fun y hy => (h y hy).1, fun y hy => (h y hy).2, hl⟩
theorem row_web {n : Int} {us : List (Int × Int)} (hn : 0 ≤ n ∧ n < 1000) (hu : ∀ p ∈ us, Fit p) : ∀ y ∈ rowW "places" [n] :: us.map tieS, Row y := fun y hy => by
  rcases List.mem_cons.mp hy with rfl | hy
  · exact row_head hn
  · obtain ⟨p, hp, rfl⟩ := List.mem_map.mp hy
    exact row_tie (hu p hp)
theorem bad_of {b : Str} (h : b ∈ badL) : numbers_of b "tie" 2 = R.ok none ∧ numbers_of b "places" 1 = R.ok none ∧ Row b := by
  have := List.all_eq_true.mp badK b h
  rw [Bool.and_eq_true, Bool.and_eq_true, Bool.and_eq_true] at this
  obtain ⟨⟨h1, h2⟩, h3, h4⟩ := this
  refine ⟨okN_of h1, okN_of h2, fun z => ?_, of_decide_eq_true h4⟩
  rw [List.contains_iff_mem.mpr z] at h3
  cases h3
theorem law_bad_ok {s : List Int} (h : PuOk s) : Post (law_bad s) (fun r => r.1 ∈ badL ∧ PuOk r.2) noX := by
  unfold law_bad
  refine po_extend (by decide) (po_extend (by decide) (po_extend (by decide) (po_extend (by decide) ?_)))
  show Post (law_take s (badL.length : Int) >>= _) _ _
  have e : badL.length = 34 := by decide +kernel
  refine po_bind (take_ok h (by rw [e]; decide) (by rw [e]; decide)) fun y ⟨y0, y1, hy⟩ => ?_
  show Post (getI badL y.1 >>= _) _ _
  exact po_get y0 y1 fun t ht _ => ⟨ht, hy⟩
section
variable {n : Int} {ts : List (Int × Int)} (h : WebOk n ts) (n7 : n ≤ 7)
include h
theorem web_fit : ∀ p ∈ ts, Fit p := fun p hp => by
  have := h.rg p hp
  have := h.n60
  exact ⟨by omega, by omega, by omega, by omega⟩
theorem web_ties : Ties n ts := ⟨h.rg, h.nd⟩
/-- a row that is none, at its place -/
theorem told_bad {a : Nat} {b : Str} {X : List Str} {w : Int} (ha : a ≤ ts.length + 1) (hb : numbers_of b "tie" 2 = R.ok none) (hb0 : a = 0 → numbers_of b "places" 1 = R.ok none) (hr : Row b) (hX : ∀ y ∈ X, Row y) (hl : X.length ≤ 90) (hts : ts.length ≤ 700) :
    law_told ((rowW "places" [n] :: ts.map tieS).take a ++ b :: X) w = R.ok (Tl.ap ⟨("text" : Str), by decide +kernel⟩ (a : Int)) := by
  have hn : 0 ≤ n ∧ n < 1000 := by have := h.n1; have := h.n60; omega
  have hu := web_fit h
  have R : Rows ((rowW "places" [n] :: ts.map tieS).take a ++ b :: X) := rows_of (by simp) (fun y hy => by
    rcases List.mem_append.mp hy with hy | hy
    · exact row_web hn hu y (List.mem_of_mem_take hy)
    · rcases List.mem_cons.mp hy with rfl | hy
      · exact hr
      · exact hX y hy) (by
    rw [List.length_append, List.length_take, List.length_cons, List.length_map, List.length_cons]
    omega)
  refine told_text R ?_
  cases a with
  | zero => exact rd_none R (hb0 rfl)
  | succ k =>
    have e : (rowW "places" [n] :: ts.map tieS).take (k + 1) ++ b :: X = rowW "places" [n] :: ((ts.take k).map tieS ++ b :: X) := by
      rw [List.take_succ_cons, List.map_take]
      rfl
    rw [e] at R ⊢
    have := rd_late R hn (fun p hp => hu p (List.mem_of_mem_take hp)) (by rw [List.length_take]; omega) hb
    rw [this, List.length_take, Nat.min_eq_left (by omega)]
    rfl
/-- a tie more that is none -/
theorem told_more {b : Int × Int} {w : Int} (hb : Fit b) (hbad : n ≤ max2 b.1 b.2 ∨ b.1 = b.2 ∨ (min2 b.1 b.2, max2 b.1 b.2) ∈ ts) (hts : ts.length ≤ 700) : law_told ((rowW "places" [n] :: ts.map tieS) ++ [tieS b]) w = R.ok (Tl.ap ⟨("web" : Str), by decide +kernel⟩ 0) := by
  have h1 := h.n1
  have h60 := h.n60
  have hn : 0 ≤ n ∧ n < 1000 := by omega
  have hu : ∀ p ∈ ts ++ [b], Fit p := fun p hp => by
    rcases List.mem_append.mp hp with hp | hp
    · exact web_fit h p hp
    · rw [List.mem_singleton.mp hp]; exact hb
  have e : (rowW "places" [n] :: ts.map tieS) ++ [tieS b] = rowW "places" [n] :: (ts ++ [b]).map tieS := by rw [List.map_append]; rfl
  rw [e]
  have R : Rows (rowW "places" [n] :: (ts ++ [b]).map tieS) := rows_of (by simp) (row_web hn hu) (by rw [List.length_cons, List.length_map, List.length_append, List.length_singleton]; omega)
  refine told_web R ((rd_good R hn hu (by rw [List.length_append, List.length_singleton]; omega)).trans (made_bad h1 h60 (web_ties h) (by omega) hbad))
theorem told_many {m : Int} {w : Int} (hm : 0 ≤ m ∧ m < 1000) (hbad : ¬ (1 ≤ m ∧ m ≤ 60)) (hts : ts.length ≤ 700) : law_told (rowW "places" [m] :: ts.map tieS) w = R.ok (Tl.ap ⟨("web" : Str), by decide +kernel⟩ 0) := by
  have hu := web_fit h
  have R : Rows (rowW "places" [m] :: ts.map tieS) := rows_of (by simp) (row_web hm hu) (by rw [List.length_cons, List.length_map]; omega)
  exact told_web R ((rd_good R hm hu (by omega)).trans (made_many hbad))
end
theorem sub_drawn {l : List (Int × Int)} : ∀ {s : List Int}, PuOk s → l.length ≤ 5000 → Post (filStG (fun (g138 : (List Int)) (b138 : (Int × Int)) => do
                  let y143 ← law_take g138 (4 : Int)
                  if (decide ((0 : Int) < y143.1)) = true then do
                    R.ok ((some b138), y143.2)
                  else
                    R.ok (none, y143.2)) s l) (fun r => r.1.Sublist l ∧ PuOk r.2) noX := by
  intro s hs hl
  unfold filStG
  rw [grd_t (decide_eq_true (by omega)), ok_bind]
  clear hl
  revert s
  induction l with
  | nil => exact fun {s} hs => ⟨List.Sublist.refl _, hs⟩
  | cons b l ih =>
    intro s hs
    refine po_bind (Q := fun p => (p.1 = some b ∨ p.1 = none) ∧ PuOk p.2) (po_bind (take_ok hs (by decide) (by decide)) fun z ⟨_, _, hz⟩ => po_if (fun _ => ⟨.inl rfl, hz⟩) fun _ => ⟨.inr rfl, hz⟩) fun p ⟨h1, h2⟩ => po_bind (ih h2) fun q ⟨h3, h4⟩ => ?_
    rcases h1 with h1 | h1
    · rw [h1]
      exact ⟨h3.cons₂ b, h4⟩
    · rw [h1]
      exact ⟨h3.cons b, h4⟩
theorem spoilt_ok {n : Int} {ts : List (Int × Int)} {s : List Int} (h : WebOk n ts) (n7 : n ≤ 7) (hts : ts.length ≤ 60) (hs : PuOk s) : Post (law_spoilt (n, ⟨ts⟩) s) (fun r => ∀ w, law_told r.1.1 w = R.ok r.1.2) noX := by
  have n1 := h.n1
  have hn : 0 ≤ n ∧ n < 1000 := by omega
  have hu := web_fit h
  have R0 : Rows (rowW "places" [n] :: ts.map tieS) := rows_of (by simp) (row_web hn hu) (by rw [List.length_cons, List.length_map]; omega)
  unfold law_spoilt
  rw [text_ok hn hu (by omega), ok_bind, R0.split, ok_bind]
  have hL : (rowW "places" [n] :: ts.map tieS).length = ts.length + 1 := by rw [List.length_cons, List.length_map]
  have hrow : ∀ {k : Nat}, ∀ y ∈ (rowW "places" [n] :: ts.map tieS).drop k, Row y := fun {k} y hy => row_web hn hu y (List.mem_of_mem_drop hy)
  have hdl : ∀ {k : Nat}, ((rowW "places" [n] :: ts.map tieS).drop k).length ≤ 61 := fun {k} => by rw [List.length_drop, hL]; omega
  have htl : ∀ {k : Nat}, ((rowW "places" [n] :: ts.map tieS).take k).length ≤ 61 := fun {k} => by rw [List.length_take, hL]; omega
  generalize hLL : rowW "places" [n] :: ts.map tieS = L at hL hrow hdl htl R0
  refine po_bind (take_ok hs (by decide) (by decide)) fun y8 ⟨a0, a1, h8⟩ => po_bind (take_ok h8 (by rw [hL]; omega) (by rw [hL]; omega)) fun y9 ⟨b0, b1, h9⟩ => ?_
  rw [hL] at b1
  refine po_if (fun c => ?_) fun c5 => ?_
  · refine po_bind (law_bad_ok h9) fun y14 ⟨hb, h14⟩ => ?_
    obtain ⟨x1, x2, x3⟩ := bad_of hb
    have hm0 : 0 ≤ y9.1 + y8.1 % 2 := by omega
    rw [cut_to _ b0, cut_fromI _ hm0]
    refine po_extend (by have := htl (k := y9.1.toNat); show _ + 1 < 100000; omega) (po_extend (by
      have := htl (k := y9.1.toNat)
      have := hdl (k := (y9.1 + y8.1 % 2).toNat)
      rw [List.length_append, List.length_singleton]
      omega) ?_)
    refine po_bind (Q := fun g => ∃ X : List Str, g = L.take y9.1.toNat ++ y14.1 :: X ∧ (∀ y ∈ X, Row y) ∧ X.length ≤ 90) (po_if (fun _ => ?_) fun _ => ?_) fun g28 ⟨X, e, hX, hXl⟩ => ?_
    · refine po_app (by
        have := htl (k := y9.1.toNat)
        have := hdl (k := (y9.1 + y8.1 % 2).toNat)
        rw [List.length_append, List.length_append, List.length_singleton]
        omega) ⟨L.drop (y9.1 + y8.1 % 2).toNat ++ [("tie 0 0" : Str)], by simp, fun y hy => ?_, by rw [List.length_append, List.length_singleton]; have := hdl (k := (y9.1 + y8.1 % 2).toNat); omega⟩
      rcases List.mem_append.mp hy with hy | hy
      · exact hrow y hy
      · rw [List.mem_singleton.mp hy]
        exact ⟨by decide +kernel, by decide +kernel⟩
    · exact ⟨L.drop (y9.1 + y8.1 % 2).toNat, by simp, hrow, by have := hdl (k := (y9.1 + y8.1 % 2).toNat); omega⟩
    · intro w
      show law_told g28 w = R.ok (Tl.ap ⟨("text" : Str), by decide +kernel⟩ y9.1)
      rw [e, ← hLL, told_bad h (a := y9.1.toNat) (by omega) x1 (fun _ => x2) x3 hX hXl (by omega), show ((y9.1.toNat : Nat) : Int) = y9.1 by omega]
  · refine po_if (fun c => ?_) fun _ => ?_
    · have hm : ∃ m : Int, min2 (y9.1 + 1) (L.length : Int) = m ∧ 1 ≤ m ∧ m ≤ ts.length + 1 := by
        refine ⟨_, rfl, ?_⟩
        rcases mm_cases (y9.1 + 1) (L.length : Int) with ⟨e1, _, _⟩ | ⟨e1, _, _⟩ <;> rw [e1] <;> omega
      obtain ⟨m, em, m1, m2⟩ := hm
      show Post (txNum n >>= _) _ _
      rw [txNum_ok hn.1 hn.2, ok_bind, txAdd_ok (by have := numS_len hn.1 hn.2; show ("places " : Str).length + _ ≤ _; rw [show ("places " : Str).length = 7 from rfl]; omega), ok_bind, head_eq, em, cut_to _ (by omega), cut_fromI _ (by omega)]
      refine po_extend (by have := htl (k := m.toNat); show _ + 1 < 100000; omega) (po_extend (by
        have := htl (k := m.toNat)
        have := hdl (k := m.toNat)
        rw [List.length_append, List.length_singleton]
        omega) ?_)
      intro w
      show law_told (L.take m.toNat ++ [rowW "places" [n]] ++ L.drop m.toNat) w = R.ok (Tl.ap ⟨("text" : Str), by decide +kernel⟩ m)
      rw [List.append_assoc, ← hLL]
      have := told_bad h (a := m.toNat) (b := rowW "places" [n]) (X := L.drop m.toNat) (w := w) (by omega) (head_none hn) (fun z => by omega) (row_head hn) hrow (by have := hdl (k := m.toNat); omega) (by omega)
      rw [show ((m.toNat : Nat) : Int) = m by omega, ← hLL] at this
      exact this
    · refine po_if (fun c => ?_) fun _ => ?_
      · refine po_bind (take_ok h9 (by decide) (by decide)) fun y60 ⟨c0, c1, h60⟩ => ?_
        refine po_get (by omega) (by show y9.1 % 4 < 4; omega) fun t64 m64 _ => ?_
        have ht : (0 ≤ t64 ∧ t64 < 1000) ∧ ¬ (1 ≤ t64 ∧ t64 ≤ 60) := by
          rcases List.mem_cons.mp m64 with rfl | m
          · omega
          · rcases List.mem_cons.mp m with rfl | m
            · omega
            · rcases List.mem_cons.mp m with rfl | m
              · omega
              · rw [List.mem_singleton.mp m]
                omega
        rw [txNum_ok ht.1.1 ht.1.2, ok_bind, txAdd_ok (by have := numS_len ht.1.1 ht.1.2; show ("places " : Str).length + _ ≤ _; rw [show ("places " : Str).length = 7 from rfl]; omega), ok_bind, head_eq, ← hLL]
        refine po_set (by decide) (by rw [List.length_cons]; omega) ?_
        intro w
        exact told_many h ht.1 ht.2 (by omega)
      · refine po_if (fun c => ?_) fun _ => ?_
        · refine po_bind (take_ok h9 (by show 0 < 999 - n; omega) (by show 999 - n < _; omega)) fun y75 ⟨c0, c1, h75⟩ => ?_
          have c1' : y75.1 < 999 - n := c1
          have q0 := Int.emod_nonneg y9.1 (show n ≠ 0 by omega)
          have q1 := Int.emod_lt_of_pos y9.1 (show 0 < n by omega)
          have hf : Fit (y9.1 % n, n + y75.1) := ⟨q0, by show y9.1 % n < 1000; omega, by show 0 ≤ n + y75.1; omega, by show n + y75.1 < 1000; omega⟩
          show Post (modI y9.1 n >>= _) _ _
          rw [modI_ok (show 0 < n by omega), ok_bind]
          have tm := fun {β : Type} {k : Str → R β} => tie_made (x := (y9.1 % n, n + y75.1)) hf (k := k)
          dsimp only at tm
          dsimp only
          rw [tm, ok_bind]
          refine po_extend (by show L.length + 1 < 100000; omega) ?_
          intro w
          show law_told (L ++ [tieS (y9.1 % n, n + y75.1)]) w = _
          rw [← hLL]
          exact told_more h hf (.inl (by
            show n ≤ max2 (y9.1 % n) (n + y75.1)
            rcases mm_cases (y9.1 % n) (n + y75.1) with ⟨_, e2, _⟩ | ⟨_, e2, _⟩ <;> rw [e2] <;> omega)) (by omega)
        · refine po_if (fun c => ?_) fun _ => ?_
          · have q0 := Int.emod_nonneg y9.1 (show n ≠ 0 by omega)
            have q1 := Int.emod_lt_of_pos y9.1 (show 0 < n by omega)
            have hf : Fit (y9.1 % n, y9.1 % n) := ⟨q0, by show y9.1 % n < 1000; omega, q0, by show y9.1 % n < 1000; omega⟩
            dsimp only
            rw [modI_ok (show 0 < n by omega)]
            simp only [ok_bind]
            have tm := fun {β : Type} {k : Str → R β} => tie_made (x := (y9.1 % n, y9.1 % n)) hf (k := k)
            dsimp only at tm
            rw [tm, ok_bind]
            refine po_extend (by show L.length + 1 < 100000; omega) ?_
            intro w
            show law_told (L ++ [tieS (y9.1 % n, y9.1 % n)]) w = _
            rw [← hLL]
            exact told_more h hf (.inr (.inl rfl)) (by omega)
          · refine po_if (fun c => ?_) fun _ => ?_
            · rw [Bool.and_eq_true] at c
              have hne : ts ≠ [] := fun e => by
                have c2 : (!decide ((Tup.mk ts : Tup (Int × Int)) = Tup.mk [])) = true := c.2
                rw [e, decide_eq_true rfl] at c2
                cases c2
              have hlp := List.length_pos_iff.mpr hne
              show Post (modI y9.1 (ts.length : Int) >>= _) _ _
              refine po_mod (by omega) fun q0 q1 => po_get q0 q1 fun x hx _ => ?_
              have hr := h.rg x hx
              have hxf := hu x hx
              refine po_bind (Q := fun g : Int × Int × List Int => (g.1 = x.1 ∧ g.2.1 = x.2) ∨ (g.1 = x.2 ∧ g.2.1 = x.1)) (po_bind (take_ok h9 (by decide) (by decide)) fun y _ => po_if (fun _ => .inr ⟨rfl, rfl⟩) fun _ => .inl ⟨rfl, rfl⟩) fun g hg => ?_
              have hf : Fit (g.1, g.2.1) := by
                rcases hg with ⟨e1, e2⟩ | ⟨e1, e2⟩ <;> rw [e1, e2]
                · exact hxf
                · exact ⟨hxf.2.2.1, hxf.2.2.2, hxf.1, hxf.2.1⟩
              have tm := fun {β : Type} {k : Str → R β} => tie_made (x := (g.1, g.2.1)) hf (k := k)
              dsimp only at tm
              rw [tm, ok_bind]
              refine po_extend (by show L.length + 1 < 100000; omega) ?_
              intro w
              show law_told (L ++ [tieS (g.1, g.2.1)]) w = _
              rw [← hLL]
              refine told_more h hf (.inr (.inr ?_)) (by omega)
              obtain ⟨u1, u2⟩ := up_mm hr.2.1
              rcases hg with ⟨e1, e2⟩ | ⟨e1, e2⟩ <;> rw [e1, e2]
              · rw [u1, u2]; exact hx
              · have : min2 x.2 x.1 = x.1 ∧ max2 x.2 x.1 = x.2 := by
                  rcases mm_cases x.2 x.1 with ⟨e3, e4, z⟩ | ⟨e3, e4, _⟩
                  · omega
                  · exact ⟨e3, e4⟩
                rw [this.1, this.2]; exact hx
            · refine po_bind (sub_drawn h9 (show ts.length ≤ 5000 by omega)) fun y138 ⟨hsub, h138⟩ => ?_
              have T := web_ties h
              have T' : Ties n y138.1 := ⟨fun p hp => T.rg p (hsub.subset hp), T.nd.sublist hsub⟩
              have hu' : ∀ p ∈ y138.1, Fit p := fun p hp => hu p (hsub.subset hp)
              have hl' : y138.1.length ≤ ts.length := hsub.length_le
              obtain ⟨f, d⟩ := pd_ex (n := n) (ts := y138.1) (p := 0) (fun q hq => by have := T'.rg q hq; omega) n1
              obtain ⟨mt1, mt2⟩ := made_ties n1 (by omega) T' (by omega) d
              have R1 : Rows (rowW "places" [n] :: y138.1.map tieS) := rows_of (by simp) (row_web hn hu') (by rw [List.length_cons, List.length_map]; omega)
              have rg := rd_good R1 hn hu' (by omega)
              have te := text_ok hn hu' (show y138.1.length ≤ 700 by omega)
              show Post (law_apart n y138.1 >>= _) _ _
              rw [apart_ok n1 (by omega) T' d, ok_bind]
              cases ho : offL n f with
              | nil =>
                refine po_if (fun _ => ?_) fun c => absurd (show true = true from rfl) c
                rw [te, ok_bind, R1.split, ok_bind]
                intro w
                obtain ⟨x, hx⟩ := mt1 ho
                exact told_ok R1 (rg.trans hx)
              | cons v l =>
                refine po_if (fun c => Bool.noConfusion (show false = true from c)) fun _ => ?_
                rw [te, ok_bind, R1.split, ok_bind]
                intro w
                exact told_apart R1 (rg.trans (mt2 v l ho))
theorem law_true (ns : List Int) (h : ns.length ≤ 63) : law ⟨ns⟩ = R.ok true := by
  refine po_iff ?_
  unfold law
  have hm : ∃ m : Int, min2 9 (max2 3 (ns.length : Int)) = m ∧ 0 ≤ m ∧ m ≤ 9 := by
    refine ⟨_, rfl, ?_⟩
    rcases mm_cases 3 (ns.length : Int) with ⟨_, e2, _⟩ | ⟨_, e2, _⟩ <;> rw [e2]
    · rcases mm_cases 9 (ns.length : Int) with ⟨e1, _, _⟩ | ⟨e1, _, _⟩ <;> rw [e1] <;> omega
    · decide
  obtain ⟨m, em, m0, m9⟩ := hm
  show Post (rngI 1 (min2 9 (max2 3 (ns.length : Int))) >>= _) _ _
  rw [em]
  refine po_rng (by decide) (by decide) (by omega) (by omega) ?_
  refine po_bind (po_foldX (fun _ => True) trivial fun _ x _ hx => ?_) fun r ⟨_, e, _⟩ => by rw [e]; exact rfl
  obtain ⟨x0, x1⟩ := rng_mem.mp hx
  refine po_bind (purse_ok (by omega) (by omega)) fun y4 h4 => po_bind (web_ok5 h4 (by decide) (by decide) (by decide)) fun y6 ⟨_, w1, hw, h6⟩ => ?_
  obtain ⟨⟨n, ⟨ts⟩⟩, s6⟩ := y6
  have hw' : WebOk n ts := hw
  have w1' : n ≤ 7 := w1
  have hts : ts.length ≤ 60 := by
    have := hw'.n1
    have h1 : (ts.map fun p => p.1 * 7 + p.2).Nodup := by
      refine List.pairwise_map.mpr (hw'.nd.imp_of_mem ?_)
      intro a b ha hb hne e
      have ra := hw'.rg a ha
      have rb := hw'.rg b hb
      exact hne (Prod.ext (by omega) (by omega))
    have h2 := nodup_le h1 (ys := rng 0 49) fun x hx => by
      obtain ⟨p, hp, rfl⟩ := List.mem_map.mp hx
      have := hw'.rg p hp
      exact rng_mem.mpr ⟨by omega, by omega⟩
    rw [List.length_map, rng_length] at h2
    have : ((49 : Int) - 0).toNat = 49 := by decide
    omega
  refine po_bind (spoilt_ok hw' w1' hts h6) fun y9 h9 => ?_
  refine po_bind (Q := fun j => j = false) ?_ fun j hj => by rw [hj]; exact po_if (fun c => absurd c (by decide)) fun _ => ⟨(), rfl, trivial⟩
  rw [h9, ok_bind]
  refine po_if (fun c => ?_) fun _ => ?_
  · rw [decide_eq_true rfl] at c
    cases c
  · rw [h9, ok_bind, decide_eq_true rfl]
    rfl
end G
namespace G
open PySem L2 Z
open Rep (rep)
theorem dn_mk {K : Fg} {h : Heap} {mg : Str → Option Value} (X : K.In h) (G : h.Ns mainGlobals mg) {x y : Str} {st : Stmt} {ps : List Str} {f : Addr} {od an : Option Addr} {sl : Array (Option Value)} {oc kV dc pm cd ct : Value}
    (a : PySem.W.nsIn K mainGlobals x = some (some (.ref f))) (l : K.lookup f = some ⟨oc, od, .func (PySem.W.fnOf y y (defArgs st) (defBody st) (defScope st) .none kV dc pm an cd ct), sl⟩) (c : PySem.W.codeIn K cd y = true) (k : PySem.W.keepIn K (.ref f) = true)
    (b : ∀ (kV doc pm : Value) (an : Option Addr) (cdv ct : Value) (us : List Value), us.length = ps.length → bindArgs (PySem.W.fnOf y y (defArgs st) (defBody st) (defScope st) .none kV doc pm an cdv ct) ⟨us, []⟩ = pure (ps.zip us)) :
    Dn K mg x y st ps f (PySem.W.fnOf y y (defArgs st) (defBody st) (defScope st) .none kV dc pm an cd ct) := ⟨fun_mk l c k, PySem.W.mg_of X G a, (fun_mk l c k).binds b⟩
theorem all_mk {l : PySem.W.OpenLaw} {w : World} {K : PySem.W.Frag} {h : Heap} {mg : Str → Option Value} {fa : Addr} (X : K.In h) (G : h.Ns mainGlobals mg) (hfa : mg "law" = some (.ref fa))
    {f10 : Addr} {od10 an10 : Option Addr} {sl10 : Array (Option Value)} {oc10 kV10 dc10 pm10 cd10 ct10 : Value}
    {f11 : Addr} {od11 an11 : Option Addr} {sl11 : Array (Option Value)} {oc11 kV11 dc11 pm11 cd11 ct11 : Value}
    {f12 : Addr} {od12 an12 : Option Addr} {sl12 : Array (Option Value)} {oc12 kV12 dc12 pm12 cd12 ct12 : Value}
    {f13 : Addr} {od13 an13 : Option Addr} {sl13 : Array (Option Value)} {oc13 kV13 dc13 pm13 cd13 ct13 : Value}
    {f16 : Addr} {od16 an16 : Option Addr} {sl16 : Array (Option Value)} {oc16 kV16 dc16 pm16 cd16 ct16 : Value}
    {f17 : Addr} {od17 an17 : Option Addr} {sl17 : Array (Option Value)} {oc17 kV17 dc17 pm17 cd17 ct17 : Value}
    {f18 : Addr} {od18 an18 : Option Addr} {sl18 : Array (Option Value)} {oc18 kV18 dc18 pm18 cd18 ct18 : Value}
    {f22 : Addr} {od22 an22 : Option Addr} {sl22 : Array (Option Value)} {oc22 kV22 dc22 pm22 cd22 ct22 : Value}
    {f23 : Addr} {od23 an23 : Option Addr} {sl23 : Array (Option Value)} {oc23 kV23 dc23 pm23 cd23 ct23 : Value}
    {f24 : Addr} {od24 an24 : Option Addr} {sl24 : Array (Option Value)} {oc24 kV24 dc24 pm24 cd24 ct24 : Value}
    {f25 : Addr} {od25 an25 : Option Addr} {sl25 : Array (Option Value)} {oc25 kV25 dc25 pm25 cd25 ct25 : Value}
    {f26 : Addr} {od26 an26 : Option Addr} {sl26 : Array (Option Value)} {oc26 kV26 dc26 pm26 cd26 ct26 : Value}
    {f32 : Addr} {od32 an32 : Option Addr} {sl32 : Array (Option Value)} {oc32 kV32 dc32 pm32 cd32 ct32 : Value}
    {f33 : Addr} {od33 an33 : Option Addr} {sl33 : Array (Option Value)} {oc33 kV33 dc33 pm33 cd33 ct33 : Value}
    {f34 : Addr} {od34 an34 : Option Addr} {sl34 : Array (Option Value)} {oc34 kV34 dc34 pm34 cd34 ct34 : Value}
    {f35 : Addr} {od35 an35 : Option Addr} {sl35 : Array (Option Value)} {oc35 kV35 dc35 pm35 cd35 ct35 : Value}
    {f36 : Addr} {od36 an36 : Option Addr} {sl36 : Array (Option Value)} {oc36 kV36 dc36 pm36 cd36 ct36 : Value}
    {f37 : Addr} {od37 an37 : Option Addr} {sl37 : Array (Option Value)} {oc37 kV37 dc37 pm37 cd37 ct37 : Value}
    {f7000 : Addr} {od7000 an7000 : Option Addr} {sl7000 : Array (Option Value)} {oc7000 kV7000 dc7000 pm7000 cd7000 ct7000 : Value}
    {f8000 : Addr} {od8000 an8000 : Option Addr} {sl8000 : Array (Option Value)} {oc8000 kV8000 dc8000 pm8000 cd8000 ct8000 : Value}
    {f21000 : Addr} {od21000 an21000 : Option Addr} {sl21000 : Array (Option Value)} {oc21000 kV21000 dc21000 pm21000 cd21000 ct21000 : Value}
    {g2 : Addr}
    {g3 : Addr}
    {g4 : Addr}
    {g5 : Addr}
    {g6 : Addr}
    {g7 : Addr}
    {g20 : Addr}
    {nm_NoText q_NoText : _} {N_NoText : Addr} {bs_NoText bm_NoText sub_NoText : List Value} {sn_NoText : List Str} {ab_NoText : Bool} {col_NoText : Option Bool} {dd_NoText : Option Addr} {k0_NoText k1_NoText k2_NoText k3_NoText k5_NoText : Option Value}
    {nm_Apart q_Apart : _} {N_Apart : Addr} {bs_Apart bm_Apart sub_Apart : List Value} {sn_Apart : List Str} {ab_Apart : Bool} {col_Apart : Option Bool} {dd_Apart : Option Addr} {k0_Apart k1_Apart k2_Apart k3_Apart k5_Apart : Option Value}
    {tk_MOST_FIGURES : Tok}
    {tk_MOST_PLACES : Tok}
    (a10 : PySem.W.nsIn K mainGlobals "near_lists" = some (some (.ref f10))) (l10 : K.lookup f10 = some ⟨oc10, od10, .func (PySem.W.fnOf "near_lists" "near_lists" (defArgs s_near_lists) (defBody s_near_lists) (defScope s_near_lists) .none kV10 dc10 pm10 an10 cd10 ct10), sl10⟩) (c10 : PySem.W.codeIn K cd10 "near_lists" = true) (k10 : PySem.W.keepIn K (.ref f10) = true)
    (a11 : PySem.W.nsIn K mainGlobals "fars_by" = some (some (.ref f11))) (l11 : K.lookup f11 = some ⟨oc11, od11, .func (PySem.W.fnOf "fars_by" "fars_by" (defArgs s_fars_by) (defBody s_fars_by) (defScope s_fars_by) .none kV11 dc11 pm11 an11 cd11 ct11), sl11⟩) (c11 : PySem.W.codeIn K cd11 "fars_by" = true) (k11 : PySem.W.keepIn K (.ref f11) = true)
    (a12 : PySem.W.nsIn K mainGlobals "sorted_ties" = some (some (.ref f12))) (l12 : K.lookup f12 = some ⟨oc12, od12, .func (PySem.W.fnOf "sorted_ties" "sorted_ties" (defArgs s_sorted_ties) (defBody s_sorted_ties) (defScope s_sorted_ties) .none kV12 dc12 pm12 an12 cd12 ct12), sl12⟩) (c12 : PySem.W.codeIn K cd12 "sorted_ties" = true) (k12 : PySem.W.keepIn K (.ref f12) = true)
    (a13 : PySem.W.nsIn K mainGlobals "made_web" = some (some (.ref f13))) (l13 : K.lookup f13 = some ⟨oc13, od13, .func (PySem.W.fnOf "made_web" "made_web" (defArgs s_made_web) (defBody s_made_web) (defScope s_made_web) .none kV13 dc13 pm13 an13 cd13 ct13), sl13⟩) (c13 : PySem.W.codeIn K cd13 "made_web" = true) (k13 : PySem.W.keepIn K (.ref f13) = true)
    (a16 : PySem.W.nsIn K mainGlobals "number_of" = some (some (.ref f16))) (l16 : K.lookup f16 = some ⟨oc16, od16, .func (PySem.W.fnOf "number_of" "number_of" (defArgs s_number_of) (defBody s_number_of) (defScope s_number_of) .none kV16 dc16 pm16 an16 cd16 ct16), sl16⟩) (c16 : PySem.W.codeIn K cd16 "number_of" = true) (k16 : PySem.W.keepIn K (.ref f16) = true)
    (a17 : PySem.W.nsIn K mainGlobals "numbers_of" = some (some (.ref f17))) (l17 : K.lookup f17 = some ⟨oc17, od17, .func (PySem.W.fnOf "numbers_of" "numbers_of" (defArgs s_numbers_of) (defBody s_numbers_of) (defScope s_numbers_of) .none kV17 dc17 pm17 an17 cd17 ct17), sl17⟩) (c17 : PySem.W.codeIn K cd17 "numbers_of" = true) (k17 : PySem.W.keepIn K (.ref f17) = true)
    (a18 : PySem.W.nsIn K mainGlobals "read_web" = some (some (.ref f18))) (l18 : K.lookup f18 = some ⟨oc18, od18, .func (PySem.W.fnOf "read_web" "read_web" (defArgs s_read_web) (defBody s_read_web) (defScope s_read_web) .none kV18 dc18 pm18 an18 cd18 ct18), sl18⟩) (c18 : PySem.W.codeIn K cd18 "read_web" = true) (k18 : PySem.W.keepIn K (.ref f18) = true)
    (a22 : PySem.W.nsIn K mainGlobals "_law_purse" = some (some (.ref f22))) (l22 : K.lookup f22 = some ⟨oc22, od22, .func (PySem.W.fnOf "_law_purse" "_law_purse" (defArgs s_law_purse) (defBody s_law_purse) (defScope s_law_purse) .none kV22 dc22 pm22 an22 cd22 ct22), sl22⟩) (c22 : PySem.W.codeIn K cd22 "_law_purse" = true) (k22 : PySem.W.keepIn K (.ref f22) = true)
    (a23 : PySem.W.nsIn K mainGlobals "_law_take" = some (some (.ref f23))) (l23 : K.lookup f23 = some ⟨oc23, od23, .func (PySem.W.fnOf "_law_take" "_law_take" (defArgs s_law_take) (defBody s_law_take) (defScope s_law_take) .none kV23 dc23 pm23 an23 cd23 ct23), sl23⟩) (c23 : PySem.W.codeIn K cd23 "_law_take" = true) (k23 : PySem.W.keepIn K (.ref f23) = true)
    (a24 : PySem.W.nsIn K mainGlobals "_law_order" = some (some (.ref f24))) (l24 : K.lookup f24 = some ⟨oc24, od24, .func (PySem.W.fnOf "_law_order" "_law_order" (defArgs s_law_order) (defBody s_law_order) (defScope s_law_order) .none kV24 dc24 pm24 an24 cd24 ct24), sl24⟩) (c24 : PySem.W.codeIn K cd24 "_law_order" = true) (k24 : PySem.W.keepIn K (.ref f24) = true)
    (a25 : PySem.W.nsIn K mainGlobals "_law_pairs" = some (some (.ref f25))) (l25 : K.lookup f25 = some ⟨oc25, od25, .func (PySem.W.fnOf "_law_pairs" "_law_pairs" (defArgs s_law_pairs) (defBody s_law_pairs) (defScope s_law_pairs) .none kV25 dc25 pm25 an25 cd25 ct25), sl25⟩) (c25 : PySem.W.codeIn K cd25 "_law_pairs" = true) (k25 : PySem.W.keepIn K (.ref f25) = true)
    (a26 : PySem.W.nsIn K mainGlobals "_law_web" = some (some (.ref f26))) (l26 : K.lookup f26 = some ⟨oc26, od26, .func (PySem.W.fnOf "_law_web" "_law_web" (defArgs s_law_web) (defBody s_law_web) (defScope s_law_web) .none kV26 dc26 pm26 an26 cd26 ct26), sl26⟩) (c26 : PySem.W.codeIn K cd26 "_law_web" = true) (k26 : PySem.W.keepIn K (.ref f26) = true)
    (a32 : PySem.W.nsIn K mainGlobals "_law_text" = some (some (.ref f32))) (l32 : K.lookup f32 = some ⟨oc32, od32, .func (PySem.W.fnOf "_law_text" "_law_text" (defArgs s_law_text) (defBody s_law_text) (defScope s_law_text) .none kV32 dc32 pm32 an32 cd32 ct32), sl32⟩) (c32 : PySem.W.codeIn K cd32 "_law_text" = true) (k32 : PySem.W.keepIn K (.ref f32) = true)
    (a33 : PySem.W.nsIn K mainGlobals "_law_bad" = some (some (.ref f33))) (l33 : K.lookup f33 = some ⟨oc33, od33, .func (PySem.W.fnOf "_law_bad" "_law_bad" (defArgs s_law_bad) (defBody s_law_bad) (defScope s_law_bad) .none kV33 dc33 pm33 an33 cd33 ct33), sl33⟩) (c33 : PySem.W.codeIn K cd33 "_law_bad" = true) (k33 : PySem.W.keepIn K (.ref f33) = true)
    (a34 : PySem.W.nsIn K mainGlobals "_law_apart" = some (some (.ref f34))) (l34 : K.lookup f34 = some ⟨oc34, od34, .func (PySem.W.fnOf "_law_apart" "_law_apart" (defArgs s_law_apart) (defBody s_law_apart) (defScope s_law_apart) .none kV34 dc34 pm34 an34 cd34 ct34), sl34⟩) (c34 : PySem.W.codeIn K cd34 "_law_apart" = true) (k34 : PySem.W.keepIn K (.ref f34) = true)
    (a35 : PySem.W.nsIn K mainGlobals "_law_spoilt" = some (some (.ref f35))) (l35 : K.lookup f35 = some ⟨oc35, od35, .func (PySem.W.fnOf "_law_spoilt" "_law_spoilt" (defArgs s_law_spoilt) (defBody s_law_spoilt) (defScope s_law_spoilt) .none kV35 dc35 pm35 an35 cd35 ct35), sl35⟩) (c35 : PySem.W.codeIn K cd35 "_law_spoilt" = true) (k35 : PySem.W.keepIn K (.ref f35) = true)
    (a36 : PySem.W.nsIn K mainGlobals "_law_told" = some (some (.ref f36))) (l36 : K.lookup f36 = some ⟨oc36, od36, .func (PySem.W.fnOf "_law_told" "_law_told" (defArgs s_law_told) (defBody s_law_told) (defScope s_law_told) .none kV36 dc36 pm36 an36 cd36 ct36), sl36⟩) (c36 : PySem.W.codeIn K cd36 "_law_told" = true) (k36 : PySem.W.keepIn K (.ref f36) = true)
    (a37 : PySem.W.nsIn K mainGlobals "law" = some (some (.ref f37))) (l37 : K.lookup f37 = some ⟨oc37, od37, .func (PySem.W.fnOf "law" "law" (defArgs s_law) (defBody s_law) (defScope s_law) .none kV37 dc37 pm37 an37 cd37 ct37), sl37⟩) (c37 : PySem.W.codeIn K cd37 "law" = true) (k37 : PySem.W.keepIn K (.ref f37) = true)
    (a7000 : PySem.W.findIn K (.ref g6) "__init__" = some (some (.ref f7000))) (i7000 : PySem.W.isFn K (.ref f7000) = true) (l7000 : K.lookup f7000 = some ⟨oc7000, od7000, .func (PySem.W.fnOf "__init__" "Apart.__init__" (defArgs s_Apart_init) (defBody s_Apart_init) (defScope s_Apart_init) .none kV7000 dc7000 pm7000 an7000 cd7000 ct7000), sl7000⟩) (c7000 : PySem.W.codeIn K cd7000 "Apart.__init__" = true) (k7000 : PySem.W.keepIn K (.ref f7000) = true)
    (a8000 : PySem.W.findIn K (.ref g7) "__init__" = some (some (.ref f8000))) (i8000 : PySem.W.isFn K (.ref f8000) = true) (l8000 : K.lookup f8000 = some ⟨oc8000, od8000, .func (PySem.W.fnOf "__init__" "NoText.__init__" (defArgs s_NoText_init) (defBody s_NoText_init) (defScope s_NoText_init) .none kV8000 dc8000 pm8000 an8000 cd8000 ct8000), sl8000⟩) (c8000 : PySem.W.codeIn K cd8000 "NoText.__init__" = true) (k8000 : PySem.W.keepIn K (.ref f8000) = true)
    (a21000 : PySem.W.findIn K (.ref g20) "__init__" = some (some (.ref f21000))) (i21000 : PySem.W.isFn K (.ref f21000) = true) (l21000 : K.lookup f21000 = some ⟨oc21000, od21000, .func (PySem.W.fnOf "__init__" "Desk.__init__" (defArgs s_Desk_init) (defBody s_Desk_init) (defScope s_Desk_init) .none kV21000 dc21000 pm21000 an21000 cd21000 ct21000), sl21000⟩) (c21000 : PySem.W.codeIn K cd21000 "Desk.__init__" = true) (k21000 : PySem.W.keepIn K (.ref f21000) = true)
    (ns_HailError : PySem.W.nsIn K mainGlobals "HailError" = some (some (.ref g2)))
    (ns_NoWeb : PySem.W.nsIn K mainGlobals "NoWeb" = some (some (.ref g3)))
    (ns_NoPlace : PySem.W.nsIn K mainGlobals "NoPlace" = some (some (.ref g4)))
    (ns_NoRow : PySem.W.nsIn K mainGlobals "NoRow" = some (some (.ref g5)))
    (ns_Apart : PySem.W.nsIn K mainGlobals "Apart" = some (some (.ref g6)))
    (ns_NoText : PySem.W.nsIn K mainGlobals "NoText" = some (some (.ref g7)))
    (ns_Desk : PySem.W.nsIn K mainGlobals "Desk" = some (some (.ref g20)))
    (lo_NoText : K.lookup g7 = some (excClassObj nm_NoText q_NoText g7 N_NoText bs_NoText bm_NoText true sn_NoText sub_NoText ab_NoText col_NoText dd_NoText k0_NoText k1_NoText k2_NoText k3_NoText k5_NoText "ValueError.__new__"))
    (rv_NoText : PySem.HandSPX.refsVE bm_NoText = true)
    (sa_NoText : PySem.W.findIn K (.ref g7) "__setattr__" = some (some (.builtin "object.__setattr__")))
    (no_NoText : PySem.W.findIn K (.ref g7) "row" = some none)
    (kp_NoText : PySem.W.keepIn K (.ref g7) = true)
    (b_NoText : PySem.W.subIn K (.ref g7) (.type "BaseException") = some true)
    (t_NoText : PySem.W.typeIn K (.ref g7) = some (.type "type"))
    (hg_NoText : PySem.W.findIn K (.ref g7) "__getattribute__" = some (some (.builtin "BaseException.__getattribute__")))
    (hk_NoText : PySem.W.findIn K (.ref g7) "__getattr__" = some none)
    (hd_NoText : PySem.W.hasDictIn K g7 = true)
    (ha_NoText : PySem.W.findIn K (.ref g7) "__class__" = some (some (.builtin "object.__class__")))
    (hm_NoText : PySem.W.mroIn K g7 (.type "object") = some true)
    (eh_NoText : PySem.W.subIn K (.ref g7) (.ref g2) = some true)
    (ks_NoText_Apart : PySem.W.subIn K (.ref g7) (.ref g6) = some false)
    (ne_NoText_Apart : (Value.ref g7 == Value.ref g6) = false)
    (ks_NoText_NoPlace : PySem.W.subIn K (.ref g7) (.ref g4) = some false)
    (ne_NoText_NoPlace : (Value.ref g7 == Value.ref g4) = false)
    (ks_NoText_NoRow : PySem.W.subIn K (.ref g7) (.ref g5) = some false)
    (ne_NoText_NoRow : (Value.ref g7 == Value.ref g5) = false)
    (ks_NoText_NoText : PySem.W.subIn K (.ref g7) (.ref g7) = some true)
    (ks_NoText_NoWeb : PySem.W.subIn K (.ref g7) (.ref g3) = some false)
    (ne_NoText_NoWeb : (Value.ref g7 == Value.ref g3) = false)
    (ks_NoText_ValueError : PySem.W.subIn K (.ref g7) (.type "ValueError") = some true)
    (xc_NoWeb : PySem.W.excIn K g3 [.type "ValueError", .type "Exception", .type "BaseException", .type "object"] "ValueError.__new__" = true)
    (kp_NoWeb : PySem.W.keepIn K (.ref g3) = true)
    (b_NoWeb : PySem.W.subIn K (.ref g3) (.type "BaseException") = some true)
    (t_NoWeb : PySem.W.typeIn K (.ref g3) = some (.type "type"))
    (hg_NoWeb : PySem.W.findIn K (.ref g3) "__getattribute__" = some (some (.builtin "BaseException.__getattribute__")))
    (hk_NoWeb : PySem.W.findIn K (.ref g3) "__getattr__" = some none)
    (hd_NoWeb : PySem.W.hasDictIn K g3 = true)
    (ha_NoWeb : PySem.W.findIn K (.ref g3) "__class__" = some (some (.builtin "object.__class__")))
    (hm_NoWeb : PySem.W.mroIn K g3 (.type "object") = some true)
    (eh_NoWeb : PySem.W.subIn K (.ref g3) (.ref g2) = some true)
    (ks_NoWeb_Apart : PySem.W.subIn K (.ref g3) (.ref g6) = some false)
    (ne_NoWeb_Apart : (Value.ref g3 == Value.ref g6) = false)
    (ks_NoWeb_NoPlace : PySem.W.subIn K (.ref g3) (.ref g4) = some false)
    (ne_NoWeb_NoPlace : (Value.ref g3 == Value.ref g4) = false)
    (ks_NoWeb_NoRow : PySem.W.subIn K (.ref g3) (.ref g5) = some false)
    (ne_NoWeb_NoRow : (Value.ref g3 == Value.ref g5) = false)
    (ks_NoWeb_NoText : PySem.W.subIn K (.ref g3) (.ref g7) = some false)
    (ne_NoWeb_NoText : (Value.ref g3 == Value.ref g7) = false)
    (ks_NoWeb_NoWeb : PySem.W.subIn K (.ref g3) (.ref g3) = some true)
    (ks_NoWeb_ValueError : PySem.W.subIn K (.ref g3) (.type "ValueError") = some true)
    (lo_Apart : K.lookup g6 = some (excClassObj nm_Apart q_Apart g6 N_Apart bs_Apart bm_Apart true sn_Apart sub_Apart ab_Apart col_Apart dd_Apart k0_Apart k1_Apart k2_Apart k3_Apart k5_Apart "ValueError.__new__"))
    (rv_Apart : PySem.HandSPX.refsVE bm_Apart = true)
    (sa_Apart : PySem.W.findIn K (.ref g6) "__setattr__" = some (some (.builtin "object.__setattr__")))
    (no_Apart : PySem.W.findIn K (.ref g6) "place" = some none)
    (kp_Apart : PySem.W.keepIn K (.ref g6) = true)
    (b_Apart : PySem.W.subIn K (.ref g6) (.type "BaseException") = some true)
    (t_Apart : PySem.W.typeIn K (.ref g6) = some (.type "type"))
    (hg_Apart : PySem.W.findIn K (.ref g6) "__getattribute__" = some (some (.builtin "BaseException.__getattribute__")))
    (hk_Apart : PySem.W.findIn K (.ref g6) "__getattr__" = some none)
    (hd_Apart : PySem.W.hasDictIn K g6 = true)
    (ha_Apart : PySem.W.findIn K (.ref g6) "__class__" = some (some (.builtin "object.__class__")))
    (hm_Apart : PySem.W.mroIn K g6 (.type "object") = some true)
    (eh_Apart : PySem.W.subIn K (.ref g6) (.ref g2) = some true)
    (ks_Apart_Apart : PySem.W.subIn K (.ref g6) (.ref g6) = some true)
    (ks_Apart_NoPlace : PySem.W.subIn K (.ref g6) (.ref g4) = some false)
    (ne_Apart_NoPlace : (Value.ref g6 == Value.ref g4) = false)
    (ks_Apart_NoRow : PySem.W.subIn K (.ref g6) (.ref g5) = some false)
    (ne_Apart_NoRow : (Value.ref g6 == Value.ref g5) = false)
    (ks_Apart_NoText : PySem.W.subIn K (.ref g6) (.ref g7) = some false)
    (ne_Apart_NoText : (Value.ref g6 == Value.ref g7) = false)
    (ks_Apart_NoWeb : PySem.W.subIn K (.ref g6) (.ref g3) = some false)
    (ne_Apart_NoWeb : (Value.ref g6 == Value.ref g3) = false)
    (ks_Apart_ValueError : PySem.W.subIn K (.ref g6) (.type "ValueError") = some true)
    (rd_HailError : PySem.W.readsIn K g2 (.type "type") = true)
    (rg_HailError : PySem.W.specialIn K (.ref g2) "__getattribute__" = some (some (.builtin "type.__getattribute__")))
    (fv_HailError : PySem.W.findCls K (.ref g2) (.type "type") "__init__" = some (.val (.builtin "ValueError.__init__")))
    (ic_Apart : PySem.W.isClsIn K g6 = true)
    (tc_Apart : PySem.W.typeIn K (.ref g6) = some (.type "type"))
    (ic_NoPlace : PySem.W.isClsIn K g4 = true)
    (tc_NoPlace : PySem.W.typeIn K (.ref g4) = some (.type "type"))
    (ic_NoRow : PySem.W.isClsIn K g5 = true)
    (tc_NoRow : PySem.W.typeIn K (.ref g5) = some (.type "type"))
    (ic_NoText : PySem.W.isClsIn K g7 = true)
    (tc_NoText : PySem.W.typeIn K (.ref g7) = some (.type "type"))
    (ic_NoWeb : PySem.W.isClsIn K g3 = true)
    (tc_NoWeb : PySem.W.typeIn K (.ref g3) = some (.type "type"))
    (hb_HailError : PySem.W.subIn K (.ref g2) (.type "BaseException") = some true)
    (hh_HailError : PySem.W.hasDictIn K g2 = true)
    (ht_HailError : PySem.W.typeIn K (.ref g2) = some (.type "type"))
    (op_Desk : PySem.W.plainGet K g20 Str.empty = true)
    (oh_Desk : PySem.W.hasDictIn K g20 = true)
    (oo_Desk : PySem.W.plainOver K g20 = true)
    (os_Desk : PySem.W.findIn K (.ref g20) "__setattr__" = some (some (.builtin "object.__setattr__")))
    (om_Desk : PySem.W.makesIn K g20 = true)
    (ok_Desk : PySem.W.keepIn K (.ref g20) = true)
    (of_Desk_stands : PySem.W.findIn K (.ref g20) "stands" = some none)
    (hn_ : PySem.W.specialIn K (.builtin "object.__class__") "__get__" = some (some (.builtin "getset_descriptor.__get__")))
    (ht_ : PySem.W.takesIn K (.builtin "object.__class__") = some true)
    (kc_MOST_FIGURES : PySem.W.nsIn K mainGlobals "MOST_FIGURES" = some (some (.int 3 tk_MOST_FIGURES)))
    (kc_MOST_PLACES : PySem.W.nsIn K mainGlobals "MOST_PLACES" = some (some (.int 60 tk_MOST_PLACES)))
    (z_ValueError : PySem.W.nsIn K mainGlobals "ValueError" = some none)
    (z_all : PySem.W.nsIn K mainGlobals "all" = some none)
    (z_enumerate : PySem.W.nsIn K mainGlobals "enumerate" = some none)
    (z_int : PySem.W.nsIn K mainGlobals "int" = some none)
    (z_isinstance : PySem.W.nsIn K mainGlobals "isinstance" = some none)
    (z_len : PySem.W.nsIn K mainGlobals "len" = some none)
    (z_max : PySem.W.nsIn K mainGlobals "max" = some none)
    (z_min : PySem.W.nsIn K mainGlobals "min" = some none)
    (z_range : PySem.W.nsIn K mainGlobals "range" = some none)
    (z_sorted : PySem.W.nsIn K mainGlobals "sorted" = some none)
    (z_str : PySem.W.nsIn K mainGlobals "str" = some none)
    (z_sum : PySem.W.nsIn K mainGlobals "sum" = some none)
    (z_tuple : PySem.W.nsIn K mainGlobals "tuple" = some none) :
    ∃ fd : FuncData, (∀ (s : Shared) (v : Value), BindsTo s fd ⟨[v], []⟩ [("_law_script", v)]) ∧ ∀ base : Heap, K.In base → base.Ns mainGlobals mg → FnOk l.prog w K mg base CX0 8 fa fd ["_law_script"] (sp_law K) := by
  have e := hfa.symm.trans (PySem.W.mg_of X G a37)
  cases e
  let A : Nat → Addr := fun i => match i with | 10 => f10 | 11 => f11 | 12 => f12 | 13 => f13 | 16 => f16 | 17 => f17 | 18 => f18 | 22 => f22 | 23 => f23 | 24 => f24 | 25 => f25 | 26 => f26 | 32 => f32 | 33 => f33 | 34 => f34 | 35 => f35 | 36 => f36 | 37 => fa | 7000 => f7000 | 8000 => f8000 | 21000 => f21000 | 2 => g2 | 3 => g3 | 4 => g4 | 5 => g5 | 6 => g6 | 7 => g7 | 20 => g20 | _ => fa
  let FD : Nat → FuncData := fun i => match i with | 10 => (PySem.W.fnOf "near_lists" "near_lists" (defArgs s_near_lists) (defBody s_near_lists) (defScope s_near_lists) .none kV10 dc10 pm10 an10 cd10 ct10) | 11 => (PySem.W.fnOf "fars_by" "fars_by" (defArgs s_fars_by) (defBody s_fars_by) (defScope s_fars_by) .none kV11 dc11 pm11 an11 cd11 ct11) | 12 => (PySem.W.fnOf "sorted_ties" "sorted_ties" (defArgs s_sorted_ties) (defBody s_sorted_ties) (defScope s_sorted_ties) .none kV12 dc12 pm12 an12 cd12 ct12) | 13 => (PySem.W.fnOf "made_web" "made_web" (defArgs s_made_web) (defBody s_made_web) (defScope s_made_web) .none kV13 dc13 pm13 an13 cd13 ct13) | 16 => (PySem.W.fnOf "number_of" "number_of" (defArgs s_number_of) (defBody s_number_of) (defScope s_number_of) .none kV16 dc16 pm16 an16 cd16 ct16) | 17 => (PySem.W.fnOf "numbers_of" "numbers_of" (defArgs s_numbers_of) (defBody s_numbers_of) (defScope s_numbers_of) .none kV17 dc17 pm17 an17 cd17 ct17) | 18 => (PySem.W.fnOf "read_web" "read_web" (defArgs s_read_web) (defBody s_read_web) (defScope s_read_web) .none kV18 dc18 pm18 an18 cd18 ct18) | 22 => (PySem.W.fnOf "_law_purse" "_law_purse" (defArgs s_law_purse) (defBody s_law_purse) (defScope s_law_purse) .none kV22 dc22 pm22 an22 cd22 ct22) | 23 => (PySem.W.fnOf "_law_take" "_law_take" (defArgs s_law_take) (defBody s_law_take) (defScope s_law_take) .none kV23 dc23 pm23 an23 cd23 ct23) | 24 => (PySem.W.fnOf "_law_order" "_law_order" (defArgs s_law_order) (defBody s_law_order) (defScope s_law_order) .none kV24 dc24 pm24 an24 cd24 ct24) | 25 => (PySem.W.fnOf "_law_pairs" "_law_pairs" (defArgs s_law_pairs) (defBody s_law_pairs) (defScope s_law_pairs) .none kV25 dc25 pm25 an25 cd25 ct25) | 26 => (PySem.W.fnOf "_law_web" "_law_web" (defArgs s_law_web) (defBody s_law_web) (defScope s_law_web) .none kV26 dc26 pm26 an26 cd26 ct26) | 32 => (PySem.W.fnOf "_law_text" "_law_text" (defArgs s_law_text) (defBody s_law_text) (defScope s_law_text) .none kV32 dc32 pm32 an32 cd32 ct32) | 33 => (PySem.W.fnOf "_law_bad" "_law_bad" (defArgs s_law_bad) (defBody s_law_bad) (defScope s_law_bad) .none kV33 dc33 pm33 an33 cd33 ct33) | 34 => (PySem.W.fnOf "_law_apart" "_law_apart" (defArgs s_law_apart) (defBody s_law_apart) (defScope s_law_apart) .none kV34 dc34 pm34 an34 cd34 ct34) | 35 => (PySem.W.fnOf "_law_spoilt" "_law_spoilt" (defArgs s_law_spoilt) (defBody s_law_spoilt) (defScope s_law_spoilt) .none kV35 dc35 pm35 an35 cd35 ct35) | 36 => (PySem.W.fnOf "_law_told" "_law_told" (defArgs s_law_told) (defBody s_law_told) (defScope s_law_told) .none kV36 dc36 pm36 an36 cd36 ct36) | 37 => (PySem.W.fnOf "law" "law" (defArgs s_law) (defBody s_law) (defScope s_law) .none kV37 dc37 pm37 an37 cd37 ct37) | 7000 => (PySem.W.fnOf "__init__" "Apart.__init__" (defArgs s_Apart_init) (defBody s_Apart_init) (defScope s_Apart_init) .none kV7000 dc7000 pm7000 an7000 cd7000 ct7000) | 8000 => (PySem.W.fnOf "__init__" "NoText.__init__" (defArgs s_NoText_init) (defBody s_NoText_init) (defScope s_NoText_init) .none kV8000 dc8000 pm8000 an8000 cd8000 ct8000) | 21000 => (PySem.W.fnOf "__init__" "Desk.__init__" (defArgs s_Desk_init) (defBody s_Desk_init) (defScope s_Desk_init) .none kV21000 dc21000 pm21000 an21000 cd21000 ct21000) | _ => (PySem.W.fnOf "law" "law" (defArgs s_law) (defBody s_law) (defScope s_law) .none kV37 dc37 pm37 an37 cd37 ct37)
  have T : Tx K mg A FD := {
    d10 := dn_mk (st := s_near_lists) (ps := ["web"]) X G a10 l10 c10 k10 fun _ _ _ _ _ _ us hl => match us, hl with | [_], _ => rfl
    d11 := dn_mk (st := s_fars_by) (ps := ["near", "place"]) X G a11 l11 c11 k11 fun _ _ _ _ _ _ us hl => match us, hl with | [_, _], _ => rfl
    d12 := dn_mk (st := s_sorted_ties) (ps := ["many", "ties"]) X G a12 l12 c12 k12 fun _ _ _ _ _ _ us hl => match us, hl with | [_, _], _ => rfl
    d13 := dn_mk (st := s_made_web) (ps := ["many", "ties"]) X G a13 l13 c13 k13 fun _ _ _ _ _ _ us hl => match us, hl with | [_, _], _ => rfl
    d16 := dn_mk (st := s_number_of) (ps := ["word"]) X G a16 l16 c16 k16 fun _ _ _ _ _ _ us hl => match us, hl with | [_], _ => rfl
    d17 := dn_mk (st := s_numbers_of) (ps := ["row", "word", "many"]) X G a17 l17 c17 k17 fun _ _ _ _ _ _ us hl => match us, hl with | [_, _, _], _ => rfl
    d18 := dn_mk (st := s_read_web) (ps := ["text"]) X G a18 l18 c18 k18 fun _ _ _ _ _ _ us hl => match us, hl with | [_], _ => rfl
    d22 := dn_mk (st := s_law_purse) (ps := ["_law_script", "_law_k"]) X G a22 l22 c22 k22 fun _ _ _ _ _ _ us hl => match us, hl with | [_, _], _ => rfl
    d23 := dn_mk (st := s_law_take) (ps := ["_law_purse_here", "_law_many"]) X G a23 l23 c23 k23 fun _ _ _ _ _ _ us hl => match us, hl with | [_, _], _ => rfl
    d24 := dn_mk (st := s_law_order) (ps := ["_law_purse_here", "_law_many"]) X G a24 l24 c24 k24 fun _ _ _ _ _ _ us hl => match us, hl with | [_, _], _ => rfl
    d25 := dn_mk (st := s_law_pairs) (ps := ["_law_purse_here", "_law_many", "_law_way"]) X G a25 l25 c25 k25 fun _ _ _ _ _ _ us hl => match us, hl with | [_, _, _], _ => rfl
    d26 := dn_mk (st := s_law_web) (ps := ["_law_purse_here", "_law_least", "_law_most"]) X G a26 l26 c26 k26 fun _ _ _ _ _ _ us hl => match us, hl with | [_, _, _], _ => rfl
    d32 := dn_mk (st := s_law_text) (ps := ["_law_web_here"]) X G a32 l32 c32 k32 fun _ _ _ _ _ _ us hl => match us, hl with | [_], _ => rfl
    d33 := dn_mk (st := s_law_bad) (ps := ["_law_purse_here"]) X G a33 l33 c33 k33 fun _ _ _ _ _ _ us hl => match us, hl with | [_], _ => rfl
    d34 := dn_mk (st := s_law_apart) (ps := ["_law_many", "_law_ties"]) X G a34 l34 c34 k34 fun _ _ _ _ _ _ us hl => match us, hl with | [_, _], _ => rfl
    d35 := dn_mk (st := s_law_spoilt) (ps := ["_law_web_here", "_law_purse_here"]) X G a35 l35 c35 k35 fun _ _ _ _ _ _ us hl => match us, hl with | [_, _], _ => rfl
    d36 := dn_mk (st := s_law_told) (ps := ["_law_rows", "_law_way"]) X G a36 l36 c36 k36 fun _ _ _ _ _ _ us hl => match us, hl with | [_, _], _ => rfl
    d37 := dn_mk (st := s_law) (ps := ["_law_script"]) X G a37 l37 c37 k37 fun _ _ _ _ _ _ us hl => match us, hl with | [_], _ => rfl
    d7000 := ⟨fun_mk (st := s_Apart_init) l7000 c7000 k7000, ⟨a7000, i7000, k7000⟩, (fun_mk (st := s_Apart_init) l7000 c7000 k7000).binds (ps := ["self", "place"]) fun _ _ _ _ _ _ us hl => match us, hl with | [_, _], _ => rfl⟩
    d8000 := ⟨fun_mk (st := s_NoText_init) l8000 c8000 k8000, ⟨a8000, i8000, k8000⟩, (fun_mk (st := s_NoText_init) l8000 c8000 k8000).binds (ps := ["self", "row"]) fun _ _ _ _ _ _ us hl => match us, hl with | [_, _], _ => rfl⟩
    d21000 := ⟨fun_mk (st := s_Desk_init) l21000 c21000 k21000, ⟨a21000, i21000, k21000⟩, (fun_mk (st := s_Desk_init) l21000 c21000 k21000).binds (ps := ["self", "text"]) fun _ _ _ _ _ _ us hl => match us, hl with | [_, _], _ => rfl⟩
    n_ValueError := PySem.W.mg_none_of X G z_ValueError
    n_all := PySem.W.mg_none_of X G z_all
    n_enumerate := PySem.W.mg_none_of X G z_enumerate
    n_int := PySem.W.mg_none_of X G z_int
    n_isinstance := PySem.W.mg_none_of X G z_isinstance
    n_len := PySem.W.mg_none_of X G z_len
    n_max := PySem.W.mg_none_of X G z_max
    n_min := PySem.W.mg_none_of X G z_min
    n_range := PySem.W.mg_none_of X G z_range
    n_sorted := PySem.W.mg_none_of X G z_sorted
    n_str := PySem.W.mg_none_of X G z_str
    n_sum := PySem.W.mg_none_of X G z_sum
    n_tuple := PySem.W.mg_none_of X G z_tuple
    c_MOST_FIGURES := ⟨_, PySem.W.mg_of X G kc_MOST_FIGURES⟩
    c_MOST_PLACES := ⟨_, PySem.W.mg_of X G kc_MOST_PLACES⟩
    cl_Desk := ⟨op_Desk, oh_Desk, oo_Desk, os_Desk⟩
    nm_Desk := ns_Desk
    mg_Desk := PySem.W.mg_of X G ns_Desk
    mk_Desk := ⟨om_Desk, a21000, i21000, ok_Desk⟩
    na_Desk_stands := of_Desk_stands
    x_Apart := ⟨ns_Apart, PySem.W.mg_of X G ns_Apart, kp_Apart, b_Apart, t_Apart, ⟨hg_Apart, hk_Apart, b_Apart, hd_Apart, ha_Apart, hn_, ht_, hm_Apart⟩⟩
    xi_Apart := ⟨⟨⟨nm_Apart, q_Apart, N_Apart, bs_Apart, bm_Apart, sn_Apart, sub_Apart, ab_Apart, col_Apart, dd_Apart, k0_Apart, k1_Apart, k2_Apart, k3_Apart, k5_Apart, lo_Apart, rv_Apart⟩, sa_Apart, b_Apart, t_Apart, kp_Apart⟩, a7000, eq_of_beq i7000, no_Apart, ⟨hg_Apart, hk_Apart, b_Apart, hd_Apart⟩⟩
    x_NoText := ⟨ns_NoText, PySem.W.mg_of X G ns_NoText, kp_NoText, b_NoText, t_NoText, ⟨hg_NoText, hk_NoText, b_NoText, hd_NoText, ha_NoText, hn_, ht_, hm_NoText⟩⟩
    xi_NoText := ⟨⟨⟨nm_NoText, q_NoText, N_NoText, bs_NoText, bm_NoText, sn_NoText, sub_NoText, ab_NoText, col_NoText, dd_NoText, k0_NoText, k1_NoText, k2_NoText, k3_NoText, k5_NoText, lo_NoText, rv_NoText⟩, sa_NoText, b_NoText, t_NoText, kp_NoText⟩, a8000, eq_of_beq i8000, no_NoText, ⟨hg_NoText, hk_NoText, b_NoText, hd_NoText⟩⟩
    cr_HailError := ⟨rd_HailError, rg_HailError⟩
    vi_HailError := fv_HailError
    x_NoWeb := ⟨ns_NoWeb, PySem.W.mg_of X G ns_NoWeb, xc_NoWeb, kp_NoWeb, b_NoWeb, t_NoWeb, ⟨hg_NoWeb, hk_NoWeb, b_NoWeb, hd_NoWeb, ha_NoWeb, hn_, ht_, hm_NoWeb⟩⟩
    g_Apart := PySem.W.mg_of X G ns_Apart
    g_HailError := PySem.W.mg_of X G ns_HailError
    g_NoPlace := PySem.W.mg_of X G ns_NoPlace
    g_NoRow := PySem.W.mg_of X G ns_NoRow
    g_NoText := PySem.W.mg_of X G ns_NoText
    g_NoWeb := PySem.W.mg_of X G ns_NoWeb
    eh_NoText := PySem.W.exm_ref hb_HailError hh_HailError ht_HailError eh_NoText
    eh_NoWeb := PySem.W.exm_ref hb_HailError hh_HailError ht_HailError eh_NoWeb
    eh_Apart := PySem.W.exm_ref hb_HailError hh_HailError ht_HailError eh_Apart
    kt_NoText_Apart := kit_ref ic_Apart tc_Apart ks_NoText_Apart (.inr ne_NoText_Apart)
    kt_NoWeb_Apart := kit_ref ic_Apart tc_Apart ks_NoWeb_Apart (.inr ne_NoWeb_Apart)
    kt_Apart_Apart := kit_ref ic_Apart tc_Apart ks_Apart_Apart (.inl rfl)
    kt_NoText_NoPlace := kit_ref ic_NoPlace tc_NoPlace ks_NoText_NoPlace (.inr ne_NoText_NoPlace)
    kt_NoWeb_NoPlace := kit_ref ic_NoPlace tc_NoPlace ks_NoWeb_NoPlace (.inr ne_NoWeb_NoPlace)
    kt_Apart_NoPlace := kit_ref ic_NoPlace tc_NoPlace ks_Apart_NoPlace (.inr ne_Apart_NoPlace)
    kt_NoText_NoRow := kit_ref ic_NoRow tc_NoRow ks_NoText_NoRow (.inr ne_NoText_NoRow)
    kt_NoWeb_NoRow := kit_ref ic_NoRow tc_NoRow ks_NoWeb_NoRow (.inr ne_NoWeb_NoRow)
    kt_Apart_NoRow := kit_ref ic_NoRow tc_NoRow ks_Apart_NoRow (.inr ne_Apart_NoRow)
    kt_NoText_NoText := kit_ref ic_NoText tc_NoText ks_NoText_NoText (.inl rfl)
    kt_NoWeb_NoText := kit_ref ic_NoText tc_NoText ks_NoWeb_NoText (.inr ne_NoWeb_NoText)
    kt_Apart_NoText := kit_ref ic_NoText tc_NoText ks_Apart_NoText (.inr ne_Apart_NoText)
    kt_NoText_NoWeb := kit_ref ic_NoWeb tc_NoWeb ks_NoText_NoWeb (.inr ne_NoText_NoWeb)
    kt_NoWeb_NoWeb := kit_ref ic_NoWeb tc_NoWeb ks_NoWeb_NoWeb (.inl rfl)
    kt_Apart_NoWeb := kit_ref ic_NoWeb tc_NoWeb ks_Apart_NoWeb (.inr ne_Apart_NoWeb)
    kt_NoText_ValueError := kit_ty (by decide +kernel) ks_NoText_ValueError
    kt_NoWeb_ValueError := kit_ty (by decide +kernel) ks_NoWeb_ValueError
    kt_Apart_ValueError := kit_ty (by decide +kernel) ks_Apart_ValueError }
  exact ⟨(PySem.W.fnOf "law" "law" (defArgs s_law) (defBody s_law) (defScope s_law) .none kV37 dc37 pm37 an37 cd37 ct37), fun s v => .of_eq rfl, fun base _ _ => ok_law (A := A) (FD := FD) T⟩
theorem walk {l : PySem.W.OpenLaw} {q : Program} {loose : List Str} {XP : (Str → Option Value) → Heap → Prop} {YP : World → Heap → Prop} {d : DefRec} {K : Params → PySem.W.Frag} (hn : l.most = some 63) (hdf : d.params.defaults = [])
    (hY : ∀ (w : World) (h : Heap), YP w h → (K w.params).In h)
    (F : ∀ (w : World) (mg : Str → Option Value) (fa : Addr) (h : Heap), (K w.params).In h → h.Ns mainGlobals mg → mg d.name = some (.ref fa) →
      ∃ fd : FuncData, (∀ (s : Shared) (u : Value), BindsTo s fd ⟨[u], []⟩ [("_law_script", u)]) ∧ ∀ base : Heap, (K w.params).In base → base.Ns mainGlobals mg → FnOk l.prog w (K w.params) mg base CX0 8 fa fd ["_law_script"] (sp_law (K w.params))) :
    PySem.W.WalkO q loose XP YP l.row.toRowW d [] (fun f vs => PySem.call f vs) :=
  L2.walk_of (n := 63) (k := 8) (x := "_law_script") (CX := fun _ => CX0) (sp := fun w => sp_law (K w.params)) hn (by decide) hdf ⟨rfl, by decide, by decide⟩ hY F
    (fun _ H a ns hl _ hS => ⟨H, [], .ref a, ⟨ns⟩, rfl, ⟨Same.refl _, (fun _ z => nomatch z), List.Pairwise.nil, (fun _ z => nomatch z)⟩, ⟨a, rfl, hS⟩, by rw [law_true ns hl]; exact fun v F2 H2 w s r => r⟩) fun _ _ _ _ _ z => z
end G
open PySem PySem.W PyProof.Rows
set_option maxRecDepth 100000 in
set_option maxHeartbeats 0 in
theorem PySem.Challenge.cw_farhail_k64_no_texts_holds : PySem.Challenge.rw_farhail_k64_no_texts.Holds := by
  w_on; o_law; k_head; (case hw => w_witness2)
  k_fill
  refine G.walk (l := PySem.Challenge.rw_farhail_k64_no_texts) rfl rfl (fun w h Y => PySem.W.kIn_of Y) ?F
  case F =>
    intro w mg fa h KX Gn hmg
    refine' G.all_mk KX Gn hmg ?a10 ?l10 ?c10 ?k10 ?a11 ?l11 ?c11 ?k11 ?a12 ?l12 ?c12 ?k12 ?a13 ?l13 ?c13 ?k13 ?a16 ?l16 ?c16 ?k16 ?a17 ?l17 ?c17 ?k17 ?a18 ?l18 ?c18 ?k18 ?a22 ?l22 ?c22 ?k22 ?a23 ?l23 ?c23 ?k23 ?a24 ?l24 ?c24 ?k24 ?a25 ?l25 ?c25 ?k25 ?a26 ?l26 ?c26 ?k26 ?a32 ?l32 ?c32 ?k32 ?a33 ?l33 ?c33 ?k33 ?a34 ?l34 ?c34 ?k34 ?a35 ?l35 ?c35 ?k35 ?a36 ?l36 ?c36 ?k36 ?a37 ?l37 ?c37 ?k37 ?a7000 ?i7000 ?l7000 ?c7000 ?k7000 ?a8000 ?i8000 ?l8000 ?c8000 ?k8000 ?a21000 ?i21000 ?l21000 ?c21000 ?k21000 ?ns_HailError ?ns_NoWeb ?ns_NoPlace ?ns_NoRow ?ns_Apart ?ns_NoText ?ns_Desk ?lo_NoText ?rv_NoText ?sa_NoText ?no_NoText ?kp_NoText ?b_NoText ?t_NoText ?hg_NoText ?hk_NoText ?hd_NoText ?ha_NoText ?hm_NoText ?eh_NoText ?ks_NoText_Apart ?ne_NoText_Apart ?ks_NoText_NoPlace ?ne_NoText_NoPlace ?ks_NoText_NoRow ?ne_NoText_NoRow ?ks_NoText_NoText ?ks_NoText_NoWeb ?ne_NoText_NoWeb ?ks_NoText_ValueError ?xc_NoWeb ?kp_NoWeb ?b_NoWeb ?t_NoWeb ?hg_NoWeb ?hk_NoWeb ?hd_NoWeb ?ha_NoWeb ?hm_NoWeb ?eh_NoWeb ?ks_NoWeb_Apart ?ne_NoWeb_Apart ?ks_NoWeb_NoPlace ?ne_NoWeb_NoPlace ?ks_NoWeb_NoRow ?ne_NoWeb_NoRow ?ks_NoWeb_NoText ?ne_NoWeb_NoText ?ks_NoWeb_NoWeb ?ks_NoWeb_ValueError ?lo_Apart ?rv_Apart ?sa_Apart ?no_Apart ?kp_Apart ?b_Apart ?t_Apart ?hg_Apart ?hk_Apart ?hd_Apart ?ha_Apart ?hm_Apart ?eh_Apart ?ks_Apart_Apart ?ks_Apart_NoPlace ?ne_Apart_NoPlace ?ks_Apart_NoRow ?ne_Apart_NoRow ?ks_Apart_NoText ?ne_Apart_NoText ?ks_Apart_NoWeb ?ne_Apart_NoWeb ?ks_Apart_ValueError ?rd_HailError ?rg_HailError ?fv_HailError ?ic_Apart ?tc_Apart ?ic_NoPlace ?tc_NoPlace ?ic_NoRow ?tc_NoRow ?ic_NoText ?tc_NoText ?ic_NoWeb ?tc_NoWeb ?hb_HailError ?hh_HailError ?ht_HailError ?op_Desk ?oh_Desk ?oo_Desk ?os_Desk ?om_Desk ?ok_Desk ?of_Desk_stands ?hn_ ?ht_ ?kc_MOST_FIGURES ?kc_MOST_PLACES ?z_ValueError ?z_all ?z_enumerate ?z_int ?z_isinstance ?z_len ?z_max ?z_min ?z_range ?z_sorted ?z_str ?z_sum ?z_tuple
    (case a10 => k_is); (case l10 => k_is); (case c10 => k_is); (case k10 => k_is)
    (case a11 => k_is); (case l11 => k_is); (case c11 => k_is); (case k11 => k_is)
    (case a12 => k_is); (case l12 => k_is); (case c12 => k_is); (case k12 => k_is)
    (case a13 => k_is); (case l13 => k_is); (case c13 => k_is); (case k13 => k_is)
    (case a16 => k_is); (case l16 => k_is); (case c16 => k_is); (case k16 => k_is)
    (case a17 => k_is); (case l17 => k_is); (case c17 => k_is); (case k17 => k_is)
    (case a18 => k_is); (case l18 => k_is); (case c18 => k_is); (case k18 => k_is)
    (case a22 => k_is); (case l22 => k_is); (case c22 => k_is); (case k22 => k_is)
    (case a23 => k_is); (case l23 => k_is); (case c23 => k_is); (case k23 => k_is)
    (case a24 => k_is); (case l24 => k_is); (case c24 => k_is); (case k24 => k_is)
    (case a25 => k_is); (case l25 => k_is); (case c25 => k_is); (case k25 => k_is)
    (case a26 => k_is); (case l26 => k_is); (case c26 => k_is); (case k26 => k_is)
    (case a32 => k_is); (case l32 => k_is); (case c32 => k_is); (case k32 => k_is)
    (case a33 => k_is); (case l33 => k_is); (case c33 => k_is); (case k33 => k_is)
    (case a34 => k_is); (case l34 => k_is); (case c34 => k_is); (case k34 => k_is)
    (case a35 => k_is); (case l35 => k_is); (case c35 => k_is); (case k35 => k_is)
    (case a36 => k_is); (case l36 => k_is); (case c36 => k_is); (case k36 => k_is)
    (case a37 => k_is); (case l37 => k_is); (case c37 => k_is); (case k37 => k_is)
    (case ns_HailError => k_is)
    (case ns_NoWeb => k_is)
    (case ns_NoPlace => k_is)
    (case ns_NoRow => k_is)
    (case ns_Apart => k_is)
    (case ns_NoText => k_is)
    (case ns_Desk => k_is)
    (case a7000 => k_is); (case i7000 => k_is); (case l7000 => k_is); (case c7000 => k_is); (case k7000 => k_is)
    (case a8000 => k_is); (case i8000 => k_is); (case l8000 => k_is); (case c8000 => k_is); (case k8000 => k_is)
    (case a21000 => k_is); (case i21000 => k_is); (case l21000 => k_is); (case c21000 => k_is); (case k21000 => k_is)
    (case lo_NoText => k_is)
    (case rv_NoText => first | rfl | decide)
    (case sa_NoText => k_is)
    (case no_NoText => k_is)
    (case kp_NoText => k_is)
    (case b_NoText => k_is)
    (case t_NoText => k_is)
    (case hg_NoText => k_is)
    (case hk_NoText => k_is)
    (case hd_NoText => k_is)
    (case ha_NoText => k_is)
    (case hm_NoText => k_is)
    (case eh_NoText => first | rfl | k_is)
    (case ks_NoText_Apart => first | rfl | k_is)
    (case ne_NoText_Apart => first | rfl | decide +kernel)
    (case ks_NoText_NoPlace => first | rfl | k_is)
    (case ne_NoText_NoPlace => first | rfl | decide +kernel)
    (case ks_NoText_NoRow => first | rfl | k_is)
    (case ne_NoText_NoRow => first | rfl | decide +kernel)
    (case ks_NoText_NoText => first | rfl | k_is)
    (case ks_NoText_NoWeb => first | rfl | k_is)
    (case ne_NoText_NoWeb => first | rfl | decide +kernel)
    (case ks_NoText_ValueError => first | rfl | k_is)
    (case xc_NoWeb => k_exc)
    (case kp_NoWeb => k_is)
    (case b_NoWeb => k_is)
    (case t_NoWeb => k_is)
    (case hg_NoWeb => k_is)
    (case hk_NoWeb => k_is)
    (case hd_NoWeb => k_is)
    (case ha_NoWeb => k_is)
    (case hm_NoWeb => k_is)
    (case eh_NoWeb => first | rfl | k_is)
    (case ks_NoWeb_Apart => first | rfl | k_is)
    (case ne_NoWeb_Apart => first | rfl | decide +kernel)
    (case ks_NoWeb_NoPlace => first | rfl | k_is)
    (case ne_NoWeb_NoPlace => first | rfl | decide +kernel)
    (case ks_NoWeb_NoRow => first | rfl | k_is)
    (case ne_NoWeb_NoRow => first | rfl | decide +kernel)
    (case ks_NoWeb_NoText => first | rfl | k_is)
    (case ne_NoWeb_NoText => first | rfl | decide +kernel)
    (case ks_NoWeb_NoWeb => first | rfl | k_is)
    (case ks_NoWeb_ValueError => first | rfl | k_is)
    (case lo_Apart => k_is)
    (case rv_Apart => first | rfl | decide)
    (case sa_Apart => k_is)
    (case no_Apart => k_is)
    (case kp_Apart => k_is)
    (case b_Apart => k_is)
    (case t_Apart => k_is)
    (case hg_Apart => k_is)
    (case hk_Apart => k_is)
    (case hd_Apart => k_is)
    (case ha_Apart => k_is)
    (case hm_Apart => k_is)
    (case eh_Apart => first | rfl | k_is)
    (case ks_Apart_Apart => first | rfl | k_is)
    (case ks_Apart_NoPlace => first | rfl | k_is)
    (case ne_Apart_NoPlace => first | rfl | decide +kernel)
    (case ks_Apart_NoRow => first | rfl | k_is)
    (case ne_Apart_NoRow => first | rfl | decide +kernel)
    (case ks_Apart_NoText => first | rfl | k_is)
    (case ne_Apart_NoText => first | rfl | decide +kernel)
    (case ks_Apart_NoWeb => first | rfl | k_is)
    (case ne_Apart_NoWeb => first | rfl | decide +kernel)
    (case ks_Apart_ValueError => first | rfl | k_is)
    (case rd_HailError => k_is)
    (case rg_HailError => k_is)
    (case fv_HailError => k_is)
    (case ic_Apart => k_is)
    (case tc_Apart => k_is)
    (case ic_NoPlace => k_is)
    (case tc_NoPlace => k_is)
    (case ic_NoRow => k_is)
    (case tc_NoRow => k_is)
    (case ic_NoText => k_is)
    (case tc_NoText => k_is)
    (case ic_NoWeb => k_is)
    (case tc_NoWeb => k_is)
    (case hb_HailError => k_is)
    (case hh_HailError => k_is)
    (case ht_HailError => k_is)
    (case op_Desk => k_is)
    (case oh_Desk => k_is)
    (case oo_Desk => k_is)
    (case os_Desk => k_is)
    (case om_Desk => k_is)
    (case ok_Desk => k_is)
    (case of_Desk_stands => k_is)
    (case hn_ => k_is)
    (case ht_ => k_is)
    (case kc_MOST_FIGURES => k_is)
    (case kc_MOST_PLACES => k_is)
    (case z_ValueError => k_is)
    (case z_all => k_is)
    (case z_enumerate => k_is)
    (case z_int => k_is)
    (case z_isinstance => k_is)
    (case z_len => k_is)
    (case z_max => k_is)
    (case z_min => k_is)
    (case z_range => k_is)
    (case z_sorted => k_is)
    (case z_str => k_is)
    (case z_sum => k_is)
    (case z_tuple => k_is)
#print axioms PySem.Challenge.cw_farhail_k64_no_texts_holds
