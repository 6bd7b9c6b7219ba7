import PyProof.Rows.All
import Wide.All
import OpenK.AllK
import Wide.FinOn
import HandS.ForMost
import HandS.Wide
import HandS.Walk
import HandS.Deep
import HandS.SortInts
import HandS.Flow
import HandS.IsInst
import PyProof.P3In
import HandS.TupSets
import HandS.Dict
import HandS.Conv
import HandS.SortRule
import KE.KIsAll
import HandS.Base
import HandS.Call
import HandS.Exc
import HandS.ExcOwn
import HandS.ExcIs
import HandS.ExcValue
import HandS.TryOnly
import HandS.WordsExc
import HandS.TupAny
import HandS.DictTup
import KE.KDictWalk
import HandS.Iter
import HandS.SortKw
import HandS.Codes
import KE.SortKeyHeap
import PyProof.DictMoreH
import HandS.SetKeys
import KE.IntBitsLaws
import PyProof.AutoSeq1
import KE.KDictSum
import HandS.SortOrd
import KE.KDictKeyed
import HandS.Zip0
import HandS.Zip
import HandS.SetFor
import HandS.Strs
import HandS.More
import PySem.Challenge.RW_farhail_k56_whole_plans_played
set_option Elab.async false
set_option linter.all false
set_option maxRecDepth 100000
set_option maxHeartbeats 4000000
/-! Z0: results with refusals, data as it stands in a heap, the heap in a frozen part and cells of one's own -/
namespace Z
open PySem L2
abbrev Fg := PySem.W.Frag
/-! ### results -/
structure Exn where
  cls : Str
  arg : Int
  deriving DecidableEq
inductive R (α : Type) where
  | ok (a : α)
  | exc (e : Exn)
  | bad
def R.bind {α β : Type} (m : R α) (f : α → R β) : R β :=
  match m with
  | .ok a => f a
  | .exc e => .exc e
  | .bad => .bad
instance : Monad R where
  pure := R.ok
  bind := R.bind
section
variable {α β γ : Type}
theorem ok_bind (a : α) (f : α → R β) : (R.ok a >>= f) = f a := rfl
theorem bind_bind (m : R α) (f : α → R β) (g : β → R γ) : ((m >>= f) >>= g) = (m >>= fun a => f a >>= g) := by
  cases m <;> rfl
theorem bind_ok_iff {m : R α} {f : α → R β} {b : β} : (m >>= f) = R.ok b ↔ ∃ a, m = R.ok a ∧ f a = R.ok b := by
  cases m with
  | ok a => exact ⟨fun h => ⟨a, rfl, h⟩, fun ⟨_, h1, h2⟩ => by cases h1; exact h2⟩
  | exc e => exact ⟨fun h => (nomatch (show R.exc e = R.ok b from h)), fun ⟨_, h1, _⟩ => nomatch h1⟩
  | bad => exact ⟨fun h => (nomatch (show R.bad = R.ok b from h)), fun ⟨_, h1, _⟩ => nomatch h1⟩
def grd (b : Bool) : R Unit := if b = true then .ok () else .bad
theorem grd_t {b : Bool} (h : b = true) : grd b = R.ok () := by rw [h]; rfl
def ofO (o : Option α) : R α :=
  match o with
  | some a => .ok a
  | none => .bad
/-- the item at an index of any sign -/
def getI (xs : List α) (i : Int) : R α := ofO (atI xs i)
/-- the list with another item at an index -/
def setI (xs : List α) (i : Int) (x : α) : R (List α) :=
  match ixN xs.length i with
  | some j => .ok (xs.set j x)
  | none => .bad
/-- a list of at most a thousand items grows by one -/
def app (xs : List α) (x : α) : R (List α) := if xs.length < 100000 then .ok (xs ++ [x]) else .bad
def extend (xs ys : List α) : R (List α) := if xs.length + ys.length < 100000 then .ok (xs ++ ys) else .bad
@[irreducible] def mulI (i j : Int) : R Int := if (-(2 ^ 64) < i ∧ i < 2 ^ 64) ∨ (-(2 ^ 64) < j ∧ j < 2 ^ 64) then .ok (i * j) else .bad
@[irreducible] def modI (i j : Int) : R Int := if 0 < j then .ok (i % j) else .bad
@[irreducible] def divI (i j : Int) : R Int := if 0 < j ∧ j.natAbs.log2 < 9000 then .ok (i / j) else .bad
/-- the ints from i on below j -/
def rng (i j : Int) : List Int := (List.range (j - i).toNat).map fun (k : Nat) => i + (k : Int)
@[irreducible] def rngI (i j : Int) : R (List Int) := if -(2 ^ 62) ≤ i ∧ i < 2 ^ 62 ∧ -(2 ^ 62) ≤ j ∧ j < 2 ^ 62 then .ok (rng i j) else .bad
/-- items for items -/
def mapR (f : α → R β) : List α → R (List β)
  | [] => .ok []
  | x :: xs => do
    let y ← f x
    let ys ← mapR f xs
    pure (y :: ys)
/-- a fold whose turn may leave -/
def foldR (f : β → α → R β) : β → List α → R β
  | s, [] => .ok s
  | s, x :: xs => f s x >>= fun s' => foldR f s' xs
/-- a fold whose turn may end the whole with a value (inl), or the loop alone (inr inl) -/
def foldX {ρ : Type} (f : β → α → R (Sum ρ (Bool × β))) : β → List α → R (Sum ρ β)
  | s, [] => .ok (.inr s)
  | s, x :: xs => f s x >>= fun r =>
    match r with
    | .inl z => .ok (.inl z)
    | .inr (true, s') => foldX f s' xs
    | .inr (false, s') => .ok (.inr s')
/-- what holds of a result -/
def Post (m : R α) (P : α → Prop) (E : Exn → Prop) : Prop :=
  match m with
  | .ok a => P a
  | .exc e => E e
  | .bad => False
variable {P P' : α → Prop} {Q : β → Prop} {E E' : Exn → Prop}
theorem Post.mono {m : R α} (h : Post m P E) (hP : ∀ a, P a → P' a) (hE : ∀ e, E e → E' e) : Post m P' E' := by
  cases m with
  | ok a => exact hP a h
  | exc e => exact hE e h
  | bad => exact h
theorem post_bind {m : R α} {f : α → R β} (h : Post (m >>= f) Q E) : Post m (fun a => Post (f a) Q E) E := by
  cases m <;> exact h
theorem post_ok {a : α} (h : Post (R.ok a) P E) : P a := h
theorem pb_assoc {m : R α} {f : α → R β} {g : β → R γ} {Q : γ → Prop} (h : Post ((m >>= f) >>= g) Q E) : Post (m >>= fun a => f a >>= g) Q E := by
  rw [bind_bind] at h
  exact h
theorem pb_grd {b : Bool} {f : Unit → R β} (h : Post (grd b >>= f) Q E) : b = true ∧ Post (f ()) Q E := by
  cases b with
  | true => exact ⟨rfl, h⟩
  | false => exact (show False from h).elim
theorem pb_ofO {o : Option α} {f : α → R β} (h : Post (ofO o >>= f) Q E) : ∃ a, o = some a ∧ Post (f a) Q E := by
  cases o with
  | some a => exact ⟨a, rfl, h⟩
  | none => exact (show False from h).elim
theorem pb_get {xs : List α} {i : Int} {f : α → R β} (h : Post (getI xs i >>= f) Q E) : ∃ a, atI xs i = some a ∧ Post (f a) Q E := pb_ofO h
theorem pb_set {xs : List α} {i : Int} {x : α} {f : List α → R β} (h : Post (setI xs i x >>= f) Q E) : ∃ j, ixN xs.length i = some j ∧ Post (f (xs.set j x)) Q E := by
  unfold setI at h
  cases e : ixN xs.length i with
  | some j => rw [e] at h; exact ⟨j, rfl, h⟩
  | none => rw [e] at h; exact (show False from h).elim
theorem pb_if {c : Prop} [Decidable c] {a : α} {f : α → R β} (h : Post ((if c then R.ok a else R.bad) >>= f) Q E) : c ∧ Post (f a) Q E := by
  by_cases hc : c
  · rw [if_pos hc] at h
    exact ⟨hc, h⟩
  · rw [if_neg hc] at h
    exact (show False from h).elim
theorem line5 : 100000 ≤ sizeLine := by decide
theorem pb_app {xs : List α} {x : α} {f : List α → R β} (h : Post (app xs x >>= f) Q E) : xs.length < sizeLine ∧ Post (f (xs ++ [x])) Q E :=
  let ⟨a, b⟩ := pb_if h
  ⟨Nat.lt_of_lt_of_le a line5, b⟩
theorem pb_extend {xs ys : List α} {f : List α → R β} (h : Post (extend xs ys >>= f) Q E) : xs.length + ys.length ≤ sizeLine ∧ Post (f (xs ++ ys)) Q E :=
  let ⟨a, b⟩ := pb_if h
  ⟨Nat.le_of_lt (Nat.lt_of_lt_of_le a line5), b⟩
theorem pb_mul {i j : Int} {f : Int → R β} (h : Post (mulI i j >>= f) Q E) : CMul i j ∧ Post (f (i * j)) Q E := by
  unfold mulI at h
  exact let ⟨a, b⟩ := pb_if (c := (-(2 ^ 64) < i ∧ i < 2 ^ 64) ∨ (-(2 ^ 64) < j ∧ j < 2 ^ 64)) h
  ⟨a, b⟩
theorem pb_mod {i j : Int} {f : Int → R β} (h : Post (modI i j >>= f) Q E) : 0 < j ∧ Post (f (i % j)) Q E := by
  unfold modI at h
  exact pb_if h
theorem pb_div {i j : Int} {f : Int → R β} (h : Post (divI i j >>= f) Q E) : CDivW i j ∧ Post (f (i / j)) Q E := by
  unfold divI at h
  exact let ⟨a, b⟩ := pb_if (c := 0 < j ∧ j.natAbs.log2 < 9000) h
  ⟨a, b⟩
theorem pb_rng {i j : Int} {f : List Int → R β} (h : Post (rngI i j >>= f) Q E) : (-(2 ^ 62) ≤ i ∧ i < 2 ^ 62 ∧ -(2 ^ 62) ≤ j ∧ j < 2 ^ 62) ∧ Post (f (rng i j)) Q E := by
  unfold rngI at h
  exact pb_if h
theorem post_ite {c : Bool} {m n : R α} {A B : Prop} (h : Post (if c = true then m else n) P E) (ht : c = true → Post m P E → A) (hf : c = false → Post n P E → B) : if c = true then A else B := by
  cases c with
  | true => exact ht rfl h
  | false => exact hf rfl h
theorem pb_foldR {f : γ → α → R γ} {s : γ} {x : α} {xs : List α} {g : γ → R β} (h : Post (foldR f s (x :: xs) >>= g) Q E) : Post (f s x >>= fun s' => foldR f s' xs >>= g) Q E := by
  have h' : Post ((f s x >>= fun s' => foldR f s' xs) >>= g) Q E := h
  rw [bind_bind] at h'
  exact h'
end
/-! ### lists of values and what they stand for -/
inductive A2 {α : Type} (r : V → α → Prop) : List V → List α → Prop
  | nil : A2 r [] []
  | cons {v : V} {x : α} {vs : List V} {xs : List α} : r v x → A2 r vs xs → A2 r (v :: vs) (x :: xs)
section
variable {α : Type} {r r' : V → α → Prop} {vs us : List V} {xs ys : List α} {v : V} {x : α}
theorem A2.length : ∀ {vs : List V} {xs : List α}, A2 r vs xs → vs.length = xs.length
  | _, _, .nil => rfl
  | _, _, .cons _ t => by rw [List.length_cons, List.length_cons, A2.length t]
theorem A2.imp (f : ∀ v x, r v x → r' v x) : ∀ {vs : List V} {xs : List α}, A2 r vs xs → A2 r' vs xs
  | _, _, .nil => .nil
  | _, _, .cons h t => .cons (f _ _ h) (A2.imp f t)
theorem A2.append : ∀ {vs us : List V} {xs ys : List α}, A2 r vs xs → A2 r us ys → A2 r (vs ++ us) (xs ++ ys)
  | _, _, _, _, .nil, h => h
  | _, _, _, _, .cons a t, h => .cons a (A2.append t h)
theorem A2.snoc (h : A2 r vs xs) (a : r v x) : A2 r (vs ++ [v]) (xs ++ [x]) := h.append (.cons a .nil)
theorem A2.get : ∀ {vs : List V} {xs : List α} {i : Nat} {x : α}, A2 r vs xs → xs[i]? = some x → ∃ v, vs[i]? = some v ∧ r v x
  | _, _, _, _, .nil, e => by simp at e
  | _, _, 0, _, .cons a _, e => by simp at e; subst e; exact ⟨_, rfl, a⟩
  | _, _, i + 1, x, .cons _ t, e => by
    obtain ⟨v, h1, h2⟩ := A2.get (i := i) (x := x) t (by simpa using e)
    exact ⟨v, by simpa using h1, h2⟩
theorem A2.getV : ∀ {vs : List V} {xs : List α} {i : Nat} {v : V}, A2 r vs xs → vs[i]? = some v → ∃ x, xs[i]? = some x ∧ r v x
  | _, _, _, _, .nil, e => by simp at e
  | _, _, 0, _, .cons a _, e => by simp at e; subst e; exact ⟨_, rfl, a⟩
  | _, _, i + 1, x, .cons _ t, e => by
    obtain ⟨v, h1, h2⟩ := A2.getV (i := i) (v := x) t (by simpa using e)
    exact ⟨v, by simpa using h1, h2⟩
theorem A2.at {i : Int} (h : A2 r vs xs) (e : atI xs i = some x) : ∃ v, atI vs i = some v ∧ r v x := by
  unfold atI at e ⊢
  rw [h.length]
  cases q : ixN xs.length i with
  | none => rw [q] at e; cases e
  | some j =>
    rw [q] at e
    exact h.get e
theorem A2.set (a : r v x) : ∀ {vs : List V} {xs : List α} (i : Nat), A2 r vs xs → A2 r (vs.set i v) (xs.set i x)
  | _, _, _, .nil => .nil
  | _, _, 0, .cons _ t => .cons a t
  | _, _, i + 1, .cons q t => .cons q (A2.set a i t)
theorem A2.take : ∀ {vs : List V} {xs : List α} (n : Nat), A2 r vs xs → A2 r (vs.take n) (xs.take n)
  | _, _, 0, _ => .nil
  | _, _, _ + 1, .nil => .nil
  | _, _, n + 1, .cons a t => .cons a (A2.take n t)
theorem A2.drop : ∀ {vs : List V} {xs : List α} (n : Nat), A2 r vs xs → A2 r (vs.drop n) (xs.drop n)
  | _, _, 0, h => h
  | _, _, _ + 1, .nil => .nil
  | _, _, n + 1, .cons _ t => A2.drop n t
theorem A2.reverse : ∀ {vs : List V} {xs : List α}, A2 r vs xs → A2 r vs.reverse xs.reverse
  | _, _, .nil => .nil
  | _, _, .cons a t => by
    rw [List.reverse_cons, List.reverse_cons]
    exact (A2.reverse t).snoc a
end
/-! ### data in a heap -/
class Rep (α : Type) where
  rep : Fg → Hp → V → α → Prop
  mono : ∀ {K : Fg} {H H' : Hp} {v : V} {x : α}, Same H H' → rep K H v x → rep K H' v x
open Rep (rep)
section
variable {α β : Type} [Rep α] [Rep β] {K : Fg} {H H' : Hp} {v : V}
theorem A2.mono {vs : List V} {xs : List α} (s : Same H H') (h : A2 (rep K H) vs xs) : A2 (rep K H') vs xs := h.imp fun _ _ => Rep.mono s
instance : Rep Int := ⟨fun _ _ v x => v = .int x, fun _ h => h⟩
instance : Rep Bool := ⟨fun _ _ v x => v = .bl x, fun _ h => h⟩
instance : Rep Unit := ⟨fun _ _ v _ => v = .non, fun _ h => h⟩
instance : Rep Str := ⟨fun _ _ v x => v = .str x, fun _ h => h⟩
instance repOpt : Rep (Option α) := ⟨fun K H v x => match x with
  | none => v = .non
  | some y => rep K H v y, fun {_ _ _ _ x} s h => by
    cases x with
    | none => exact h
    | some y => exact Rep.mono (α := α) s h⟩
instance repPair : Rep (α × β) := ⟨fun K H v x => ∃ a u w, v = .ref a ∧ H a = some (.tup [u, w]) ∧ rep K H u x.1 ∧ rep K H w x.2,
  fun s ⟨a, u, w, e, q, h1, h2⟩ => ⟨a, u, w, e, s _ _ q, Rep.mono s h1, Rep.mono s h2⟩⟩
instance repList : Rep (List α) := ⟨fun K H v xs => ∃ a vs, v = .ref a ∧ H a = some (.lst vs) ∧ A2 (rep K H) vs xs,
  fun s ⟨a, vs, e, q, h⟩ => ⟨a, vs, e, s _ _ q, h.mono s⟩⟩
/-- the script -/
structure Scr where
  l : List Int
  deriving DecidableEq
instance repScr : Rep Scr := ⟨fun K H v xs => ∃ a, v = .ref a ∧ SqL K H a (xs.l.map V.int), fun s ⟨a, e, q⟩ => ⟨a, e, s.seq q⟩⟩
/-- a tuple of any number of like things -/
structure Tup (α : Type) where
  l : List α
  deriving DecidableEq
instance repTup : Rep (Tup α) := ⟨fun K H v xs => ∃ a vs, v = .ref a ∧ H a = some (.tup vs) ∧ A2 (rep K H) vs xs.l,
  fun s ⟨a, vs, e, q, h⟩ => ⟨a, vs, e, s _ _ q, h.mono s⟩⟩
/-- a place, or a pair -/
inductive Thing where
  | pl (i : Int)
  | ti (a b : Int)
  deriving DecidableEq
instance repThing : Rep Thing := ⟨fun K H v x => match x with
  | .pl i => v = .int i
  | .ti a b => rep K H v (a, b), fun {_ _ _ _ x} s h => by
    cases x with
    | pl i => exact h
    | ti a b => exact Rep.mono (α := Int × Int) s h⟩
theorem A2.ints {vs : List V} {xs : List Int} (h : A2 (rep K H) vs xs) : vs = xs.map V.int := by
  induction h with
  | nil => rfl
  | cons a _ ih =>
    have a' : _ = V.int _ := a
    rw [a', ih]
    rfl
theorem A2.of_ints {xs : List Int} : A2 (rep K H) (xs.map V.int) xs := by
  induction xs with
  | nil => exact .nil
  | cons x xs ih => exact .cons rfl ih
end
/-! ### the heap: F, frozen, is read alone; the cells os are one's own, not in F -/
structure W (F H : Hp) (os : List (Addr × HO)) : Prop where
  same : Same F H
  own : ∀ p ∈ os, H p.1 = some p.2 ∧ F p.1 = none
  nd : os.Pairwise fun p q => p.1 ≠ q.1
  nt : ∀ p ∈ os, ∀ vs, p.2 ≠ .tup vs
theorem same_new {H : Hp} {p : Addr} {o : HO} (h : H p = none) : Same H (upd H p o) := fun a u e => by
  rw [upd_ne (ne_of_none e h)]
  exact e
section
variable {F H : Hp} {os pre post : List (Addr × HO)} {a p : Addr} {o o' : HO}
theorem W.free (w : W F H os) (n : H p = none) : F p = none := w.same.free n
theorem W.get (w : W F H (pre ++ (a, o) :: post)) : H a = some o := (w.own (a, o) (List.mem_append_right _ List.mem_cons_self)).1
theorem W.no (w : W F H (pre ++ (a, o) :: post)) : F a = none := (w.own (a, o) (List.mem_append_right _ List.mem_cons_self)).2
theorem W.ne (w : W F H os) (n : H p = none) : ∀ q ∈ os, q.1 ≠ p := fun q hq e => by
  have h := (w.own q hq).1
  rw [e, n] at h
  cases h
/-- a new thing, never to be written -/
theorem W.frz (w : W F H os) (n : H p = none) : W (upd F p o) (upd H p o) os where
  same := fun b u e => by
    by_cases hb : b = p
    · subst hb
      rw [upd_same] at e ⊢
      exact e
    · rw [upd_ne hb] at e ⊢
      exact w.same b u e
  own := fun q hq => by
    have hne := w.ne n q hq
    rw [upd_ne hne, upd_ne hne]
    exact w.own q hq
  nd := w.nd
  nt := w.nt
theorem W.frzS (w : W F H os) (n : H p = none) : Same F (upd F p o) := same_new (w.free n)
/-- a new cell of one's own -/
theorem W.new (w : W F H os) (n : H p = none) (ho : ∀ vs, o ≠ .tup vs := by exact fun _ h => nomatch h) : W F (upd H p o) ((p, o) :: os) where
  same := w.same.trans (same_new n)
  own := fun q hq => by
    rcases List.mem_cons.mp hq with rfl | hq
    · exact ⟨upd_same, w.free n⟩
    · rw [upd_ne (w.ne n q hq)]
      exact w.own q hq
  nd := List.pairwise_cons.mpr ⟨fun q hq => fun e => w.ne n q hq e.symm, w.nd⟩
  nt := fun q hq => by
    rcases List.mem_cons.mp hq with rfl | hq
    · exact ho
    · exact w.nt q hq
/-- a cell of one's own is written -/
theorem W.set (w : W F H (pre ++ (a, o) :: post)) (ho : ∀ vs, o' ≠ .tup vs := by exact fun _ h => nomatch h) : W F (upd H a o') (pre ++ (a, o') :: post) where
  same := fun b u e => by
    have hn := w.no
    rw [upd_ne (ne_of_none e hn)]
    exact w.same b u e
  own := fun q hq => by
    have nd := w.nd
    rw [List.pairwise_append] at nd
    obtain ⟨_, n2, n3⟩ := nd
    rw [List.pairwise_cons] at n2
    rcases List.mem_append.mp hq with hq | hq
    · have hne : q.1 ≠ a := n3 q hq (a, o) List.mem_cons_self
      rw [upd_ne hne]
      exact w.own q (List.mem_append_left _ hq)
    · rcases List.mem_cons.mp hq with rfl | hq
      · exact ⟨upd_same, w.no⟩
      · have hne : q.1 ≠ a := fun e => n2.1 q hq e.symm
        rw [upd_ne hne]
        exact w.own q (List.mem_append_right _ (List.mem_cons_of_mem _ hq))
  nd := by
    have nd := w.nd
    rw [List.pairwise_append] at nd ⊢
    obtain ⟨n1, n2, n3⟩ := nd
    rw [List.pairwise_cons] at n2 ⊢
    refine ⟨n1, ⟨n2.1, n2.2⟩, fun x hx y hy => ?_⟩
    rcases List.mem_cons.mp hy with rfl | hy
    · exact n3 x hx (a, o) List.mem_cons_self
    · exact n3 x hx y (List.mem_cons_of_mem _ hy)
  nt := fun q hq => by
    rcases List.mem_append.mp hq with hq | hq
    · exact w.nt q (List.mem_append_left _ hq)
    · rcases List.mem_cons.mp hq with rfl | hq
      · exact ho
      · exact w.nt q (List.mem_append_right _ (List.mem_cons_of_mem _ hq))
/-- a cell is forgotten -/
theorem W.drop (w : W F H (pre ++ (a, o) :: post)) : W F H (pre ++ post) where
  same := w.same
  own := fun q hq => w.own q (by
    rcases List.mem_append.mp hq with h | h
    · exact List.mem_append_left _ h
    · exact List.mem_append_right _ (List.mem_cons_of_mem _ h))
  nd := by
    have nd := w.nd
    rw [List.pairwise_append] at nd ⊢
    obtain ⟨n1, n2, n3⟩ := nd
    rw [List.pairwise_cons] at n2
    exact ⟨n1, n2.2, fun x hx y hy => n3 x hx y (List.mem_cons_of_mem _ hy)⟩
  nt := fun q hq => w.nt q (by
    rcases List.mem_append.mp hq with h | h
    · exact List.mem_append_left _ h
    · exact List.mem_append_right _ (List.mem_cons_of_mem _ h))
/-- a cell of one's own is never written again -/
theorem W.freeze (w : W F H (pre ++ (a, o) :: post)) : W (upd F a o) H (pre ++ post) where
  same := fun b u e => by
    by_cases hb : b = a
    · subst hb
      rw [upd_same] at e
      rw [← e]
      exact w.get
    · rw [upd_ne hb] at e
      exact w.same b u e
  own := fun q hq => by
    have nd := w.nd
    rw [List.pairwise_append] at nd
    obtain ⟨n1, n2, n3⟩ := nd
    rw [List.pairwise_cons] at n2
    have hne : q.1 ≠ a := by
      rcases List.mem_append.mp hq with h | h
      · exact n3 q h (a, o) List.mem_cons_self
      · exact fun e => n2.1 q h e.symm
    have h := w.drop.own q hq
    rw [upd_ne hne]
    exact h
  nd := w.drop.nd
  nt := w.drop.nt
theorem W.freezeS (w : W F H (pre ++ (a, o) :: post)) : Same F (upd F a o) := same_new w.no
/-- a cell is told first -/
theorem W.front (w : W F H (pre ++ (a, o) :: post)) : W F H ((a, o) :: (pre ++ post)) where
  same := w.same
  own := fun x hx => w.own x (by
    rcases List.mem_cons.mp hx with rfl | h
    · exact List.mem_append_right _ List.mem_cons_self
    · rcases List.mem_append.mp h with h | h
      · exact List.mem_append_left _ h
      · exact List.mem_append_right _ (List.mem_cons_of_mem _ h))
  nd := by
    have nd := w.nd
    have nd' := w.drop.nd
    rw [List.pairwise_append] at nd
    obtain ⟨n1, n2, n3⟩ := nd
    rw [List.pairwise_cons] at n2
    refine List.pairwise_cons.mpr ⟨fun x hx => ?_, nd'⟩
    rcases List.mem_append.mp hx with h | h
    · exact fun e => n3 x h (a, o) List.mem_cons_self e.symm
    · exact n2.1 x h
  nt := fun x hx => w.nt x (by
    rcases List.mem_cons.mp hx with rfl | h
    · exact List.mem_append_right _ List.mem_cons_self
    · rcases List.mem_append.mp h with h | h
      · exact List.mem_append_left _ h
      · exact List.mem_append_right _ (List.mem_cons_of_mem _ h))
end
/-! ### what a call hands back -/
section
variable {α β : Type} [Rep α] [Rep β]
/-- a value of the frozen part -/
def Ret (K : Fg) (F : Hp) (os : List (Addr × HO)) (Q : VK) (y : α) : Prop := ∀ v F' H', W F' H' os → Same F F' → rep K F' v y → Q v H'
/-- a new list, the caller's own -/
def RetL (K : Fg) (F : Hp) (os : List (Addr × HO)) (Q : VK) (ys : List α) : Prop := ∀ p vs F' H', W F' H' ((p, .lst vs) :: os) → Same F F' → A2 (rep K F') vs ys → Q (.ref p) H'
/-- a value, and what the list at a holds now -/
def RetM (K : Fg) (F : Hp) (a : Addr) (os : List (Addr × HO)) (Q : VK) (y : α × List β) : Prop :=
  ∀ v vs F' H', W F' H' ((a, .lst vs) :: os) → Same F F' → rep K F' v y.1 → A2 (rep K F') vs y.2 → Q v H'
def noX : Exn → Prop := fun _ => False
end
end Z
/-! Z1: loops, comprehensions and joins against their mirrors; calls by typed data -/
namespace Z
open PySem L2
open Rep (rep)
/-! ### ways that join -/
section
variable {γ δ : Type} {m : R γ} {k : γ → R δ} {P : δ → Prop} {X : Exn → Prop}
theorem joinS {t u : TS} {D : Ends} {σ : St} {H : Hp} (hm : Post (m >>= k) P X) (J : γ → St → Hp → Prop)
    (h : ∀ (N : St → Hp → Prop) (P' : γ → Prop), (∀ g, P' g → ∀ σ' H', J g σ' H' → N σ' H') → Post m P' X → t { D with nx := N } σ H)
    (h2 : ∀ g σ' H', J g σ' H' → Post (k g) P X → u D σ' H') : tSeq t u D σ H :=
  h _ _ (fun g p σ' H' j => h2 g σ' H' j p) (post_bind hm)
theorem joinT {t : TT} {σ : St} {H : Hp} {Q : Bool → Hp → Prop} (hm : Post (m >>= k) P X) (J : γ → Bool → Hp → Prop)
    (h : ∀ (Q' : Bool → Hp → Prop) (P' : γ → Prop), (∀ g, P' g → ∀ c H', J g c H' → Q' c H') → Post m P' X → t σ H Q')
    (h2 : ∀ g c H', J g c H' → Post (k g) P X → Q c H') : t σ H Q :=
  h _ _ (fun g p c H' j => h2 g c H' j p) (post_bind hm)
/-- a test of a value that is told -/
theorem cutT {t : TT} {σ : St} {H : Hp} {Q : Bool → Hp → Prop} (J : Bool → Hp → Prop) (h : ∀ Q' : Bool → Hp → Prop, (∀ c H', J c H' → Q' c H') → t σ H Q') (h2 : ∀ c H', J c H' → Q c H') : t σ H Q := h _ h2
theorem ifB {c : Bool} {A B : Prop} (h1 : c = true → A) (h2 : c = false → B) : if c = true then A else B := by
  cases c with
  | true => exact h1 rfl
  | false => exact h2 rfl
end
/-! ### what is walked, typed -/
structure TW (J : It) {β : Type} (items : List β) (G : Hp → Prop) (Y : β → Hp → V → Hp → Prop) : Prop where
  walk : Walk J items.length G (fun i H x H' => ∃ b, items[i]? = some b ∧ Y b H x H')
section
variable {K : Fg} {F : Hp} {a : Addr} {α β : Type} [Rep α] [Rep β] {vs us : List V} {xs : List α} {ys : List β}
theorem tw_list (h : A2 (rep K F) vs xs) : TW (Itl K a) xs (fun H => SqL K H a vs) (fun b H x H' => H' = H ∧ rep K F x b) := ⟨by
  rw [← h.length]
  exact walk_list.mono (fun _ g => g) fun i H x H' _ _ y => by
    obtain ⟨y1, y2⟩ := y
    obtain ⟨b, h1, h2⟩ := h.getV y2
    exact ⟨b, h1, y1, h2⟩⟩
theorem tw_tup (h : A2 (rep K F) vs xs) : TW (Itt K a) xs (fun H => SqT K H a vs) (fun b H x H' => H' = H ∧ rep K F x b) := ⟨by
  rw [← h.length]
  exact walk_tup.mono (fun _ g => g) fun i H x H' _ _ y => by
    obtain ⟨y1, y2⟩ := y
    obtain ⟨b, h1, h2⟩ := h.getV y2
    exact ⟨b, h1, y1, h2⟩⟩
theorem rng_length (i j : Int) : (rng i j).length = (j - i).toNat := by
  unfold rng
  rw [List.length_map, List.length_range]
theorem rng_get {i j : Int} {n : Nat} (h : n < (j - i).toNat) : (rng i j)[n]? = some (i + (n : Int)) := by
  unfold rng
  rw [List.getElem?_map, List.getElem?_range h]
  rfl
theorem tw_rng {i j : Int} : TW (Itr i (j - i).toNat) (rng i j) (fun _ => True) (fun b H x H' => H' = H ∧ x = .int b) := ⟨by
  rw [rng_length]
  exact walk_range.mono (fun _ g => g) fun n H x H' hn _ y => ⟨_, rng_get hn, y.1, y.2⟩⟩
theorem tw_rng0 {j : Int} : TW (Itr 0 j.toNat) (rng 0 j) (fun _ => True) (fun b H x H' => H' = H ∧ x = .int b) := by
  have h := tw_rng (i := 0) (j := j)
  rw [Int.sub_zero] at h
  exact h
/-- pairs of a place and the item there -/
def enum (xs : List α) : List (Int × α) := (rng 0 xs.length).zip xs
theorem enum_length (xs : List α) : (enum xs).length = xs.length := by
  unfold enum
  rw [List.length_zip, rng_length]
  omega
theorem enum_get {xs : List α} {i : Nat} {x : α} (h : xs[i]? = some x) : (enum xs)[i]? = some ((i : Int), x) := by
  have hl := (List.getElem?_eq_some_iff.mp h).1
  unfold enum
  rw [List.getElem?_zip_eq_some]
  refine ⟨?_, h⟩
  rw [rng_get (by omega)]
  simp
theorem tw_enum (h : A2 (rep K F) vs xs) : TW (Ite K a) (enum xs) (fun H => SqL K H a vs) (fun b H v H' => ∃ T x, v = .ref T ∧ H T = none ∧ H' = upd H T (.tup [.int b.1, x]) ∧ rep K F x b.2) := ⟨by
  rw [enum_length, ← h.length]
  exact walk_enum.mono (fun _ g => g) fun i H x H' _ _ y => by
    obtain ⟨T, u, w, e1, e2, e3, e4, e5⟩ := y
    obtain ⟨b, h1, h2⟩ := h.getV e5
    cases e4
    exact ⟨((i : Int), b), enum_get h1, T, w, e1, e2, e3, h2⟩⟩
end
/-! ### for -/
section
variable {J : It} {β γ δ ρ : Type} {items : List β} {G : Hp → Prop} {Y : β → Hp → V → Hp → Prop} {g : TG} {tb : TS} {D : Ends} {σ : St} {H : Hp} {P : δ → Prop} {X : Exn → Prop}
theorem drop_cons {l : List β} {i : Nat} {b : β} (h : l[i]? = some b) : l.drop i = b :: l.drop (i + 1) := by
  obtain ⟨hl, e⟩ := List.getElem?_eq_some_iff.mp h
  rw [List.drop_eq_getElem_cons hl, e]
theorem forS (tw : TW J items G Y) {body : γ → β → R γ} {s0 : γ} {k : γ → R δ} (hm : Post (foldR body s0 items >>= k) P X) (I : γ → St → Hp → Prop) (h0 : I s0 σ H) (hG : ∀ c σ H, I c σ H → G H)
    (hs : ∀ (b : β) (c : γ) (x : V) (σ : St) (H H' : Hp) (N : St → Hp → Prop) (P' : γ → Prop), I c σ H → Y b H x H' → (∀ c', P' c' → ∀ σ' H', I c' σ' H' → N σ' H') → Post (body c b) P' X → g x σ H' fun σ2 H2 => tb { D with nx := N, ct := N, bk := D.nx } σ2 H2)
    (hd : ∀ c σ H, I c σ H → Post (k c) P X → D.nx σ H) :
    ∃ W : Nat → Nat → St → Hp → Prop, (∃ m, W 0 m σ H) ∧ ∀ i m σ H, W i m σ H →
      (J.stop i H ∧ D.nx σ H) ∨ (J.go i H ∧ ∃ N : St → Hp → Prop, (∀ σ' H', N σ' H' → ∃ m', m' < m ∧ W (i + 1) m' σ' H') ∧ ∀ x H', J.yld i H x H' → g x σ H' fun σ2 H2 => tb { D with nx := N, ct := N, bk := D.nx } σ2 H2) := by
  refine for_it tw.walk (fun i σ H => ∃ c, I c σ H ∧ Post (foldR body c (items.drop i) >>= k) P X) ⟨s0, h0, hm⟩ (fun i σ H _ ⟨c, h, _⟩ => hG c σ H h) ?_ ?_
  · rintro i x σ H H' hi ⟨c, h, hm⟩ ⟨b, hb, y⟩
    rw [drop_cons hb] at hm
    exact hs b c x σ H H' _ _ h y (fun c' p' σ' H' h' => ⟨c', h', p'⟩) (post_bind (pb_foldR hm))
  · rintro σ H ⟨c, h, hm⟩
    rw [List.drop_length] at hm
    exact hd c σ H h hm
/-- a for that may end the whole, or itself -/
theorem forX (tw : TW J items G Y) {body : γ → β → R (Sum ρ (Bool × γ))} {s0 : γ} {k : Sum ρ γ → R δ} (hm : Post (foldX body s0 items >>= k) P X) (I : γ → St → Hp → Prop) (h0 : I s0 σ H) (hG : ∀ c σ H, I c σ H → G H)
    (hs : ∀ (b : β) (c : γ) (x : V) (σ : St) (H H' : Hp) (N B : St → Hp → Prop) (P' : Sum ρ (Bool × γ) → Prop), I c σ H → Y b H x H' → (∀ c', P' (.inr (true, c')) → ∀ σ' H', I c' σ' H' → N σ' H') → (∀ c', P' (.inr (false, c')) → ∀ σ' H', I c' σ' H' → B σ' H') →
      (∀ z, P' (.inl z) → Post (k (.inl z)) P X) → Post (body c b) P' X → g x σ H' fun σ2 H2 => tb { D with nx := N, ct := N, bk := B } σ2 H2)
    (hd : ∀ c σ H, I c σ H → Post (k (.inr c)) P X → D.nx σ H) :
    ∃ W : Nat → Nat → St → Hp → Prop, (∃ m, W 0 m σ H) ∧ ∀ i m σ H, W i m σ H →
      (J.stop i H ∧ D.nx σ H) ∨ (J.go i H ∧ ∃ N : St → Hp → Prop, (∀ σ' H', N σ' H' → ∃ m', m' < m ∧ W (i + 1) m' σ' H') ∧ ∀ x H', J.yld i H x H' → g x σ H' fun σ2 H2 => tb { D with nx := N, ct := N, bk := D.nx } σ2 H2) := by
  refine for_it tw.walk (fun i σ H => ∃ c, I c σ H ∧ Post (foldX body c (items.drop i) >>= k) P X) ⟨s0, h0, hm⟩ (fun i σ H _ ⟨c, h, _⟩ => hG c σ H h) ?_ ?_
  · rintro i x σ H H' hi ⟨c, h, hm⟩ ⟨b, hb, y⟩
    rw [drop_cons hb] at hm
    have hm' : Post ((body c b >>= fun r => match r with
      | .inl z => (R.ok (.inl z) : R (Sum ρ γ))
      | .inr (true, s') => foldX body s' (items.drop (i + 1))
      | .inr (false, s') => R.ok (.inr s')) >>= k) P X := hm
    rw [bind_bind] at hm'
    exact hs b c x σ H H' _ _ _ h y (fun c' p' σ' H' h' => ⟨c', h', p'⟩) (fun c' p' σ' H' h' => hd c' σ' H' h' p') (fun z p' => p') (post_bind hm')
  · rintro σ H ⟨c, h, hm⟩
    rw [List.drop_length] at hm
    exact hd c σ H h hm
end
/-! ### comprehensions -/
/-- items for items, of a list that is not too long -/
def mapG {α β : Type} (f : α → R β) (xs : List α) : R (List β) := grd (decide (xs.length < 100000)) >>= fun _ => mapR f xs
/-- items for some items -/
def filR {α β : Type} (f : α → R (Option β)) : List α → R (List β)
  | [] => .ok []
  | x :: xs => f x >>= fun o => filR f xs >>= fun ys => match o with
    | some y => .ok (y :: ys)
    | none => .ok ys
def filG {α β : Type} (f : α → R (Option β)) (xs : List α) : R (List β) := grd (decide (xs.length < 100000)) >>= fun _ => filR f xs
/-- items for items, by a state that turns -/
def mapSt {α β γ : Type} (f : γ → α → R (β × γ)) : γ → List α → R (List β × γ)
  | s, [] => .ok ([], s)
  | s, x :: xs => f s x >>= fun p => mapSt f p.2 xs >>= fun q => .ok (p.1 :: q.1, q.2)
def mapStG {α β γ : Type} (f : γ → α → R (β × γ)) (s : γ) (xs : List α) : R (List β × γ) := grd (decide (xs.length < 100000)) >>= fun _ => mapSt f s xs
/-- items for some items, by a state that turns -/
def filSt {α β γ : Type} (f : γ → α → R (Option β × γ)) : γ → List α → R (List β × γ)
  | s, [] => .ok ([], s)
  | s, x :: xs => f s x >>= fun p => filSt f p.2 xs >>= fun q => match p.1 with
    | some y => .ok (y :: q.1, q.2)
    | none => .ok q
def filStG {α β γ : Type} (f : γ → α → R (Option β × γ)) (s : γ) (xs : List α) : R (List β × γ) := grd (decide (xs.length < 100000)) >>= fun _ => filSt f s xs
section
variable {J : It} {β γ δ ε : Type} {items : List β} {G : Hp → Prop} {Y : β → Hp → V → Hp → Prop} {g : TG} {tt : TT} {te : TE} {P : ε → Prop} {X : Exn → Prop} {K : Fg} {vs : List Nat} {σ : St} {F H1 : Hp} {os : List (Addr × HO)} {D : Addr} {Qd : Hp → Prop}
/-- what is asked of a comprehension's list D behind its walk J: by the readings' own words -/
abbrev LcAsk (J : It) (g : TG) (tt : TT) (te : TE) (vs : List Nat) (σ : St) (H1 : Hp) (D : Addr) (Qd : Hp → Prop) : Prop :=
  ∃ W : Nat → Nat → Hp → Prop, (∃ m, W 0 m (upd H1 D (.lst []))) ∧ ∀ i m H, W i m H →
      (J.stop i H ∧ Qd H) ∨ (J.go i H ∧ ∃ Nx : Hp → Prop, (∀ H', Nx H' → ∃ m', m' < m ∧ W (i + 1) m' H') ∧ ∀ x H', J.yld i H x H' → g x (wipe σ vs) H' fun σ2 H2 => wipe σ2 vs = wipe σ vs ∧ tt σ2 H2 fun b H3 =>
        if b = true then te σ2 H3 fun y H4 => ∃ acc, H4 D = some (.lst acc) ∧ acc.length < sizeLine ∧ Nx (upd H4 D (.lst (acc ++ [y]))) else Nx H3)
/-- the state and the items told of a comprehension: os by the state -/
theorem lcFil [Rep δ] (tw : TW J items G Y) {f : γ → β → R (Option δ × γ)} {s0 : γ} {k : List δ × γ → R ε} (hm : Post (filStG f s0 items >>= k) P X) (O : γ → Hp → List (Addr × HO) → Prop) (w : W F H1 os) (o0 : O s0 F os) (nD : H1 D = none)
    (hG : ∀ c F' H' os' acc, Same F F' → W F' H' ((D, .lst acc) :: os') → O c F' os' → G H')
    (hs : ∀ (b : β) (c : γ) (x : V) (F' H' H'' : Hp) (os' : List (Addr × HO)) (acc : List V) (N : V → Hp → Prop) (N0 : Hp → Prop) (P' : Option δ × γ → Prop), Same F F' → W F' H' ((D, .lst acc) :: os') → O c F' os' → Y b H' x H'' →
      (∀ d c', P' (some d, c') → ∀ y F'' H'' os'', W F'' H'' ((D, .lst acc) :: os'') → Same F' F'' → O c' F'' os'' → rep K F'' y d → N y H'') →
      (∀ c', P' (none, c') → ∀ F'' H'' os'', W F'' H'' ((D, .lst acc) :: os'') → Same F' F'' → O c' F'' os'' → N0 H'') → Post (f c b) P' X →
      g x (wipe σ vs) H'' fun σ2 H2 => wipe σ2 vs = wipe σ vs ∧ tt σ2 H2 fun b H3 => if b = true then te σ2 H3 N else N0 H3)
    (hd : ∀ c us F' H' os' ys, Same F F' → W F' H' ((D, .lst us) :: os') → O c F' os' → A2 (rep K F') us ys → Post (k (ys, c)) P X → Qd H') : LcAsk J g tt te vs σ H1 D Qd := by
  obtain ⟨hlen, hm⟩ := pb_grd (pb_assoc hm)
  have hlen : items.length < sizeLine := Nat.lt_of_lt_of_le (of_decide_eq_true hlen) line5
  refine lc_it tw.walk (fun i H => ∃ c F' os' us ys, i ≤ items.length ∧ Same F F' ∧ W F' H ((D, .lst us) :: os') ∧ O c F' os' ∧ A2 (rep K F') us ys ∧ ys.length ≤ i ∧ Post (filSt f c (items.drop i) >>= fun q => k (ys ++ q.1, q.2)) P X) ?_ ?_ ?_ ?_
  · exact ⟨s0, F, os, [], [], Nat.zero_le _, Same.refl _, w.new nD, o0, .nil, Nat.le_refl _, hm⟩
  · rintro i H _ ⟨c, F', os', us, ys, _, s, w', o, _⟩
    exact hG c F' H os' us s w' o
  · rintro i x H H' hi ⟨c, F', os', us, ys, _, s, w', o, h, hl, hm⟩ ⟨b, hb, y⟩
    rw [drop_cons hb] at hm
    have hm' : Post ((f c b >>= fun p => filSt f p.2 (items.drop (i + 1)) >>= fun q => match p.1 with
      | some y => (R.ok (y :: q.1, q.2) : R (List δ × γ))
      | none => R.ok q) >>= fun q => k (ys ++ q.1, q.2)) P X := hm
    rw [bind_bind] at hm'
    have hm2 := post_bind hm'
    have hul : us.length = ys.length := h.length
    refine hs b c x F' H H' os' us (fun y H4 => ∃ acc, H4 D = some (.lst acc) ∧ acc.length < sizeLine ∧ _) _ _ s w' o y ?_ ?_ hm2
    · intro d c' p2 y F'' H'' os'' w2 s2 o2 r2
      refine ⟨us, w2.get (pre := []), by omega, c', F'', os'', us ++ [y], ys ++ [d], hi, s.trans s2, w2.set (pre := []), o2, (h.mono s2).snoc r2, by rw [List.length_append, List.length_singleton]; omega, ?_⟩
      have p3 : Post ((filSt f c' (items.drop (i + 1)) >>= fun q => (R.ok (d :: q.1, q.2) : R (List δ × γ))) >>= fun q => k (ys ++ q.1, q.2)) P X := p2
      rw [bind_bind] at p3
      have e : (fun q : List δ × γ => (R.ok (d :: q.1, q.2) : R (List δ × γ)) >>= fun q => k (ys ++ q.1, q.2)) = fun q => k (ys ++ [d] ++ q.1, q.2) := by
        funext q
        show k (ys ++ (d :: q.1), q.2) = k (ys ++ [d] ++ q.1, q.2)
        rw [List.append_assoc]
        rfl
      rw [e] at p3
      exact p3
    · intro c' p2 F'' H'' os'' w2 s2 o2
      refine ⟨c', F'', os'', us, ys, hi, s.trans s2, w2, o2, h.mono s2, by omega, ?_⟩
      have p3 : Post ((filSt f c' (items.drop (i + 1)) >>= fun q => (R.ok q : R (List δ × γ))) >>= fun q => k (ys ++ q.1, q.2)) P X := p2
      rw [bind_bind] at p3
      exact p3
  · rintro H ⟨c, F', os', us, ys, _, s, w', o, h, _, hm⟩
    rw [List.drop_length] at hm
    have hm' : Post (k (ys ++ [], c)) P X := hm
    rw [List.append_nil] at hm'
    exact hd c us F' H os' ys s w' o h hm'
/-- without a test -/
theorem lcMap [Rep δ] (tw : TW J items G Y) {f : γ → β → R (δ × γ)} {s0 : γ} {k : List δ × γ → R ε} (hm : Post (mapStG f s0 items >>= k) P X) (O : γ → Hp → List (Addr × HO) → Prop) (w : W F H1 os) (o0 : O s0 F os) (nD : H1 D = none)
    (hG : ∀ c F' H' os' acc, Same F F' → W F' H' ((D, .lst acc) :: os') → O c F' os' → G H')
    (hs : ∀ (b : β) (c : γ) (x : V) (F' H' H'' : Hp) (os' : List (Addr × HO)) (acc : List V) (N : V → Hp → Prop) (P' : δ × γ → Prop), Same F F' → W F' H' ((D, .lst acc) :: os') → O c F' os' → Y b H' x H'' →
      (∀ d c', P' (d, c') → ∀ y F'' H'' os'', W F'' H'' ((D, .lst acc) :: os'') → Same F' F'' → O c' F'' os'' → rep K F'' y d → N y H'') → Post (f c b) P' X →
      g x (wipe σ vs) H'' fun σ2 H2 => wipe σ2 vs = wipe σ vs ∧ te σ2 H2 N)
    (hd : ∀ c us F' H' os' ys, Same F F' → W F' H' ((D, .lst us) :: os') → O c F' os' → A2 (rep K F') us ys → Post (k (ys, c)) P X → Qd H') : LcAsk J g tYes te vs σ H1 D Qd := by
  have e : ∀ (s : γ) (l : List β), filSt (fun c b => f c b >>= fun p => R.ok (some p.1, p.2)) s l = mapSt f s l := by
    intro s l
    induction l generalizing s with
    | nil => rfl
    | cons b l ih =>
      show ((f s b >>= fun p => R.ok (some p.1, p.2)) >>= fun p => filSt (fun c b => f c b >>= fun p => R.ok (some p.1, p.2)) p.2 l >>= fun q => match p.1 with
        | some y => (R.ok (y :: q.1, q.2) : R (List δ × γ))
        | none => R.ok q) = (f s b >>= fun p => mapSt f p.2 l >>= fun q => .ok (p.1 :: q.1, q.2))
      rw [bind_bind]
      refine congrArg (f s b >>= ·) ?_
      funext p
      show (filSt (fun c b => f c b >>= fun p => R.ok (some p.1, p.2)) p.2 l >>= fun q => (R.ok (p.1 :: q.1, q.2) : R (List δ × γ))) = _
      rw [ih]
  have hm' : Post (filStG (fun c b => f c b >>= fun p => R.ok (some p.1, p.2)) s0 items >>= k) P X := by
    unfold filStG
    simp only [e]
    exact hm
  refine lcFil tw hm' O w o0 nD hG (fun b c x F' H' H'' os' acc N N0 P' s w' o y hN hN0 hp => ?_) hd
  exact hs b c x F' H' H'' os' acc N _ s w' o y (fun d c' p2 y F'' H'' os'' w2 s2 o2 r2 => hN d c' p2 y F'' H'' os'' w2 s2 o2 r2) (post_bind hp)
/-- without a state -/
theorem lcM [Rep δ] (tw : TW J items G Y) {f : β → R δ} {k : List δ → R ε} (hm : Post (mapG f items >>= k) P X) (w : W F H1 os) (nD : H1 D = none)
    (hG : ∀ F' H' acc, Same F F' → W F' H' ((D, .lst acc) :: os) → G H')
    (hs : ∀ (b : β) (x : V) (F' H' H'' : Hp) (acc : List V) (N : V → Hp → Prop) (P' : δ → Prop), Same F F' → W F' H' ((D, .lst acc) :: os) → Y b H' x H'' →
      (∀ d, P' d → ∀ y F'' H'', W F'' H'' ((D, .lst acc) :: os) → Same F' F'' → rep K F'' y d → N y H'') → Post (f b) P' X →
      g x (wipe σ vs) H'' fun σ2 H2 => wipe σ2 vs = wipe σ vs ∧ te σ2 H2 N)
    (hd : ∀ us F' H' ys, Same F F' → W F' H' ((D, .lst us) :: os) → A2 (rep K F') us ys → Post (k ys) P X → Qd H') : LcAsk J g tYes te vs σ H1 D Qd := by
  have e : ∀ (l : List β), (mapSt (fun (_ : Unit) b => f b >>= fun d => R.ok (d, ())) () l >>= fun q => R.ok q.1) = mapR f l := by
    intro l
    induction l with
    | nil => rfl
    | cons b l ih =>
      show (((f b >>= fun d => R.ok (d, ())) >>= fun p => mapSt (fun (_ : Unit) b => f b >>= fun d => R.ok (d, ())) p.2 l >>= fun q => (R.ok (p.1 :: q.1, q.2) : R (List δ × Unit))) >>= fun q => R.ok q.1) = (f b >>= fun y => mapR f l >>= fun ys => R.ok (y :: ys))
      rw [bind_bind, bind_bind]
      refine congrArg (f b >>= ·) ?_
      funext d
      show ((mapSt (fun (_ : Unit) b => f b >>= fun d => R.ok (d, ())) () l >>= fun q => (R.ok (d :: q.1, q.2) : R (List δ × Unit))) >>= fun q => R.ok q.1) = _
      rw [bind_bind, ← ih, bind_bind]
      rfl
  have hm' : Post (mapStG (fun (_ : Unit) b => f b >>= fun d => R.ok (d, ())) () items >>= fun q => k q.1) P X := by
    have e2 : (mapStG (fun (_ : Unit) b => f b >>= fun d => R.ok (d, ())) () items >>= fun q => R.ok q.1) = mapG f items := by
      unfold mapStG mapG
      rw [bind_bind]
      simp only [e]
    have h2 : Post ((mapStG (fun (_ : Unit) b => f b >>= fun d => R.ok (d, ())) () items >>= fun q => R.ok q.1) >>= k) P X := by
      rw [e2]
      exact hm
    rw [bind_bind] at h2
    exact h2
  refine lcMap tw hm' (fun _ _ os' => os = os') w rfl nD (fun c F' H' os' acc s w' o => by subst o; exact hG F' H' acc s w') (fun b c x F' H' H'' os' acc N P' s w' o y hN hp => ?_) (fun c us F' H' os' ys s w' o h hm => by subst o; exact hd us F' H' ys s w' h hm)
  subst o
  exact hs b x F' H' H'' acc N _ s w' y (fun d p2 y F'' H'' w2 s2 r2 => hN d () p2 y F'' H'' _ w2 s2 rfl r2) (post_bind hp)
/-- .. with a test -/
theorem lcF [Rep δ] (tw : TW J items G Y) {f : β → R (Option δ)} {k : List δ → R ε} (hm : Post (filG f items >>= k) P X) (w : W F H1 os) (nD : H1 D = none)
    (hG : ∀ F' H' acc, Same F F' → W F' H' ((D, .lst acc) :: os) → G H')
    (hs : ∀ (b : β) (x : V) (F' H' H'' : Hp) (acc : List V) (N : V → Hp → Prop) (N0 : Hp → Prop) (P' : Option δ → Prop), Same F F' → W F' H' ((D, .lst acc) :: os) → Y b H' x H'' →
      (∀ d, P' (some d) → ∀ y F'' H'', W F'' H'' ((D, .lst acc) :: os) → Same F' F'' → rep K F'' y d → N y H'') →
      (P' none → ∀ F'' H'', W F'' H'' ((D, .lst acc) :: os) → Same F' F'' → N0 H'') → Post (f b) P' X →
      g x (wipe σ vs) H'' fun σ2 H2 => wipe σ2 vs = wipe σ vs ∧ tt σ2 H2 fun b H3 => if b = true then te σ2 H3 N else N0 H3)
    (hd : ∀ us F' H' ys, Same F F' → W F' H' ((D, .lst us) :: os) → A2 (rep K F') us ys → Post (k ys) P X → Qd H') : LcAsk J g tt te vs σ H1 D Qd := by
  have e : ∀ (l : List β), (filSt (fun (_ : Unit) b => f b >>= fun d => R.ok (d, ())) () l >>= fun q => R.ok q.1) = filR f l := by
    intro l
    induction l with
    | nil => rfl
    | cons b l ih =>
      show (((f b >>= fun d => R.ok (d, ())) >>= fun p => filSt (fun (_ : Unit) b => f b >>= fun d => R.ok (d, ())) p.2 l >>= fun q => match p.1 with
        | some y => (R.ok (y :: q.1, q.2) : R (List δ × Unit))
        | none => R.ok q) >>= fun q => R.ok q.1) = (f b >>= fun o => filR f l >>= fun ys => match o with
        | some y => .ok (y :: ys)
        | none => .ok ys)
      rw [bind_bind, bind_bind]
      refine congrArg (f b >>= ·) ?_
      funext d
      show ((filSt (fun (_ : Unit) b => f b >>= fun d => R.ok (d, ())) () l >>= fun q => match d with
        | some y => (R.ok (y :: q.1, q.2) : R (List δ × Unit))
        | none => R.ok q) >>= fun q => R.ok q.1) = _
      rw [bind_bind, ← ih, bind_bind]
      cases d <;> rfl
  have hm' : Post (filStG (fun (_ : Unit) b => f b >>= fun d => R.ok (d, ())) () items >>= fun q => k q.1) P X := by
    have e2 : (filStG (fun (_ : Unit) b => f b >>= fun d => R.ok (d, ())) () items >>= fun q => R.ok q.1) = filG f items := by
      unfold filStG filG
      rw [bind_bind]
      simp only [e]
    have h2 : Post ((filStG (fun (_ : Unit) b => f b >>= fun d => R.ok (d, ())) () items >>= fun q => R.ok q.1) >>= k) P X := by
      rw [e2]
      exact hm
    rw [bind_bind] at h2
    exact h2
  refine lcFil tw hm' (fun _ _ os' => os = os') w rfl nD (fun c F' H' os' acc s w' o => by subst o; exact hG F' H' acc s w') (fun b c x F' H' H'' os' acc N N0 P' s w' o y hN hN0 hp => ?_) (fun c us F' H' os' ys s w' o h hm => by subst o; exact hd us F' H' ys s w' h hm)
  subst o
  exact hs b x F' H' H'' acc N N0 _ s w' y (fun d p2 y F'' H'' w2 s2 r2 => hN d () p2 y F'' H'' _ w2 s2 rfl r2) (fun p2 F'' H'' w2 s2 => hN0 () p2 F'' H'' _ w2 s2 rfl) (post_bind hp)
end
end Z
namespace Z
open PySem L2
open Rep (rep)
/-! ### short words for a walk -/
section
variable {F F1 F2 H H1 : Hp} {os os' pre post : List (Addr × HO)} {a p : Addr} {o o' : HO} {K : Fg}
theorem W.frzE (w : W F H os) (n : H p = none) : ∃ F', Same F F' ∧ W F' (upd H p o) os ∧ F' p = some o := ⟨_, w.frzS n, w.frz n, upd_same⟩
theorem W.freezeE (w : W F H (pre ++ (a, o) :: post)) : ∃ F', Same F F' ∧ W F' H (pre ++ post) ∧ F' a = some o := ⟨_, w.freezeS, w.freeze, upd_same⟩
theorem rep_own {α : Type} [Rep α] {vs : List V} {xs : List α} (w : W F H (pre ++ (a, .lst vs) :: post)) (h : A2 (rep K F) vs xs) : rep K H (.ref a) xs := ⟨a, vs, rfl, w.get, h.mono w.same⟩
theorem rep_lst {α : Type} [Rep α] {vs : List V} {xs : List α} (q : F a = some (.lst vs)) (h : A2 (rep K F) vs xs) : rep K F (.ref a) xs := ⟨a, vs, rfl, q, h⟩
theorem rep_tup {α : Type} [Rep α] {vs : List V} {xs : List α} (q : F a = some (.tup vs)) (h : A2 (rep K F) vs xs) : rep K F (.ref a) (Tup.mk xs) := ⟨a, vs, rfl, q, h⟩
theorem rep_pair {α β : Type} [Rep α] [Rep β] {u v : V} {x : α} {y : β} (q : F a = some (.tup [u, v])) (h1 : rep K F u x) (h2 : rep K F v y) : rep K F (.ref a) (x, y) := ⟨a, u, v, rfl, q, h1, h2⟩
theorem ints_q {vs : List V} {xs : List Int} (q : SqL K H a vs) (h : A2 (rep K F) vs xs) : SqL K H a (xs.map V.int) := h.ints ▸ q
theorem Room.units65 {k : Nat} {A : Around} (r : Room k A) : A.units + 65 < cLine := by
  have := r.un
  omega
theorem sl_cut {α : Type} {r : V → α → Prop} {vs : List V} {xs : List α} (h : A2 r vs xs) (lo hi : Option Int) : A2 r (cutV vs lo hi) (((xs.drop (HT.sIx xs.length 0 lo)).take (HT.sIx xs.length xs.length hi - HT.sIx xs.length 0 lo))) := by
  unfold cutV
  rw [h.length]
  exact (h.drop _).take _
/-- xs[lo:hi] -/
def cutL {α : Type} (xs : List α) (lo hi : Option Int) : List α := (xs.drop (HT.sIx xs.length 0 lo)).take (HT.sIx xs.length xs.length hi - HT.sIx xs.length 0 lo)
end
end Z
namespace Z
open PySem L2
open Rep (rep)
/-- a while by its fuel -/
def whileR {γ : Type} (c : γ → R Bool) (b : γ → R γ) : Nat → γ → R γ
  | 0, _ => .bad
  | n + 1, s => c s >>= fun t => if t = true then b s >>= fun s' => whileR c b n s' else .ok s
section
variable {γ δ : Type} {P : δ → Prop} {X : Exn → Prop} {tc : TT} {tb : TS} {D : Ends} {σ : St} {H : Hp}
theorem whileS {c : γ → R Bool} {b : γ → R γ} {n : Nat} {s0 : γ} {k : γ → R δ} (hm : Post (whileR c b n s0 >>= k) P X) (I : γ → St → Hp → Prop) (h0 : I s0 σ H)
    (hc : ∀ (g : γ) (σ : St) (H : Hp) (Q' : Bool → Hp → Prop) (P' : Bool → Prop), I g σ H → (∀ t, P' t → ∀ H', I g σ H' → Q' t H') → Post (c g) P' X → tc σ H Q')
    (hs : ∀ (g : γ) (σ : St) (H : Hp) (N : St → Hp → Prop) (P' : γ → Prop), I g σ H → (∀ g', P' g' → ∀ σ' H', I g' σ' H' → N σ' H') → Post (b g) P' X → tb { D with nx := N, ct := N, bk := D.nx } σ H)
    (hd : ∀ g σ H, I g σ H → Post (k g) P X → D.nx σ H) : tWhile tc tb D σ H := by
  refine ⟨fun m σ H => ∃ g, I g σ H ∧ Post (whileR c b m g >>= k) P X, ⟨n, s0, h0, hm⟩, ?_⟩
  rintro m σ H ⟨g, h, hm⟩
  cases m with
  | zero => exact (show False from hm).elim
  | succ m =>
    have hm' : Post ((c g >>= fun t => if t = true then b g >>= fun s' => whileR c b m s' else .ok g) >>= k) P X := hm
    rw [bind_bind] at hm'
    refine hc g σ H _ _ h (fun t p H' h' => ?_) (post_bind hm')
    cases t with
    | false => exact iteF (hd g σ H' h' p)
    | true =>
      refine iteT ?_
      have p' : Post ((b g >>= fun s' => whileR c b m s') >>= k) P X := p
      rw [bind_bind] at p'
      exact ⟨fun σ' H' => ∃ g', I g' σ' H' ∧ Post (whileR c b m g' >>= k) P X, fun σ' H' ⟨g', h1, h2⟩ => ⟨m, Nat.lt_succ_self m, g', h1, h2⟩, hs g σ H' _ _ h' (fun g' p2 σ' H' h2 => ⟨g', h2, p2⟩) (post_bind p')⟩
end
section
variable {α β : Type} {Q : β → Prop} {E : Exn → Prop}
theorem pn_set {xs : List α} {i : Int} {x : α} {f : List α → R β} (h : Post (setI xs i x >>= f) Q E) : ∃ j ys, ixN xs.length i = some j ∧ ys = xs.set j x ∧ Post (f ys) Q E :=
  let ⟨j, a, b⟩ := pb_set h
  ⟨j, _, a, rfl, b⟩
theorem pn_app {xs : List α} {x : α} {f : List α → R β} (h : Post (app xs x >>= f) Q E) : ∃ ys, xs.length < sizeLine ∧ ys = xs ++ [x] ∧ Post (f ys) Q E :=
  let ⟨a, b⟩ := pb_app h
  ⟨_, a, rfl, b⟩
theorem pn_extend {xs ys : List α} {f : List α → R β} (h : Post (extend xs ys >>= f) Q E) : ∃ zs, xs.length + ys.length ≤ sizeLine ∧ zs = xs ++ ys ∧ Post (f zs) Q E :=
  let ⟨a, b⟩ := pb_extend h
  ⟨_, a, rfl, b⟩
theorem A2.lt {r : V → α → Prop} {vs : List V} {xs : List α} {n : Nat} (h : A2 r vs xs) (z : xs.length < n) : vs.length < n := by rw [h.length]; exact z
theorem A2.ix {r : V → α → Prop} {vs : List V} {xs : List α} {i : Int} {j : Nat} (h : A2 r vs xs) (z : ixN xs.length i = some j) : ixN vs.length i = some j := by rw [h.length]; exact z
theorem A2.le2 {γ : Type} {r : V → α → Prop} {r' : V → γ → Prop} {vs us : List V} {xs : List α} {ys : List γ} {n : Nat} (h : A2 r vs xs) (h' : A2 r' us ys) (z : xs.length + ys.length ≤ n) : vs.length + us.length ≤ n := by rw [h.length, h'.length]; exact z
end
section
variable {K : Fg} {F : Hp}
theorem rep_i {i : Int} : rep K F (.int i) i := rfl
theorem rep_b {i : Bool} : rep K F (.bl i) i := rfl
theorem rep_s {i : Str} : rep K F (.str i) i := rfl
theorem rep_n : rep K F .non () := rfl
end
end Z
namespace Z
open PySem L2
section
variable {X : Cx} {D : Ends} {σ : L2.St} {H : Hp}
def tC1 (v : V) : TE := fun _ H Q => True ∧ Q v H
theorem pe_int1 {i j pos} : PE X (.Constant (.int i) j pos) (tC1 (.int i)) := ⟨fun pins s σ H Q I h => pe_int.run pins s σ H Q I h.2⟩
theorem pe_str1 {i j pos} : PE X (.Constant (.str i) j pos) (tC1 (.str i)) := ⟨fun pins s σ H Q I h => pe_str.run pins s σ H Q I h.2⟩
theorem stepN {i : Nat} {v : V} {Q : L2.St → Hp → Prop} (h : Q (σ.set i (some v)) H) : gName i v σ H Q := h
theorem stepX (h : D.nx σ H) : tNext D σ H := h
theorem stepSeq {t u : TS} (h : t { D with nx := u D } σ H) : tSeq t u D σ H := h
theorem stepIf {c : TT} {a b : TS} (h : c σ H fun t H1 => if t = true then a D σ H1 else b D σ H1) : tIfS c a b D σ H := h
end
end Z
namespace Z
open PySem L2
open Rep (rep)
section
variable {α : Type} [Rep α] {K : Fg} {F : Hp} {v : V} {x : α}
theorem rep_none : rep K F .non (none : Option α) := rfl
theorem rep_some (h : rep K F v x) : rep K F v (some x) := h
end
end Z
/-! Z2: rules by typed data -/
namespace Z
open PySem L2 PySem.Spec PyProof.Rows
open Rep (rep)
/-! ### data that is compared -/
class Dat (α : Type) extends Rep α where
  toD : α → PyData
  dmax : Nat
  dp : ∀ {K : Fg} {H : Hp} {v : V} {x : α}, rep K H v x → Dp K H v (toD x)
  lay : ∀ x : α, (toD x).canLay0 = true
  dep : ∀ x : α, (toD x).depth ≤ dmax
  eqv : ∀ x y : α, PyData.eqv (toD x) (toD y) = true ↔ x = y
section
variable {α β : Type} {K : Fg} {H : Hp}
instance : Dat Int where
  toD := .int
  dmax := 0
  dp := fun h => by
    have h' : _ = V.int _ := h
    subst h'
    exact .int _
  lay := fun x => by simp only [PyData.canLay0]
  dep := fun x => by simp only [PyData.depth, Nat.le_refl]
  eqv := fun x y => by simp [PyData.eqv]
instance : Dat Bool where
  toD := .bool
  dmax := 0
  dp := fun h => by
    have h' : _ = V.bl _ := h
    subst h'
    exact .bl _
  lay := fun x => by simp only [PyData.canLay0]
  dep := fun x => by simp only [PyData.depth, Nat.le_refl]
  eqv := fun x y => by simp [PyData.eqv]
instance datOptInt : Dat (Option Int) where
  toD := fun x => match x with
    | none => .none
    | some i => .int i
  dmax := 0
  dp := fun {K H v x} h => by
    cases x with
    | none =>
      have h' : v = V.non := h
      subst h'
      exact .non
    | some i =>
      have h' : v = V.int i := h
      subst h'
      exact .int _
  lay := fun x => by cases x <;> simp only [PyData.canLay0]
  dep := fun x => by cases x <;> simp only [PyData.depth, Nat.le_refl]
  eqv := fun x y => by cases x <;> cases y <;> simp [PyData.eqv]
instance datPair [Dat α] [Dat β] : Dat (α × β) where
  toD := fun x => .tuple [Dat.toD x.1, Dat.toD x.2]
  dmax := max (Dat.dmax α) (Dat.dmax β) + 1
  dp := fun {K H v x} h => by
    obtain ⟨a, u, w, rfl, q, h1, h2⟩ := h
    exact .tup (SqT.of q) (.cons (Dat.dp h1) (.cons (Dat.dp h2) .nil))
  lay := fun x => by simp only [PyData.canLay0, PyData.canLayAll0, Dat.lay, Bool.and_true]
  dep := fun x => by
    have h1 := Dat.dep x.1
    have h2 := Dat.dep x.2
    simp only [PyData.depth, PyData.depthAll]
    omega
  eqv := fun x y => by
    obtain ⟨x1, x2⟩ := x
    obtain ⟨y1, y2⟩ := y
    simp only [PyData.eqv, PyData.eqvAll, Bool.and_true, Bool.and_eq_true, Dat.eqv, Prod.mk.injEq]
theorem dp_all [Dat α] : ∀ {vs : List V} {xs : List α}, A2 (rep K H) vs xs → DpAll K H vs (xs.map Dat.toD)
  | _, _, .nil => .nil
  | _, _, .cons h t => .cons (Dat.dp h) (dp_all t)
theorem lay_all [Dat α] : ∀ xs : List α, PyData.canLayAll0 (xs.map Dat.toD) = true
  | [] => by simp only [List.map_nil, PyData.canLayAll0]
  | x :: xs => by simp only [List.map_cons, PyData.canLayAll0, Dat.lay, lay_all xs, Bool.and_true]
theorem dep_all [Dat α] : ∀ xs : List α, PyData.depthAll (xs.map Dat.toD) ≤ Dat.dmax α
  | [] => by simp only [List.map_nil, PyData.depthAll, Nat.zero_le]
  | x :: xs => by
    have h1 := dep_all xs
    have h2 := Dat.dep x
    simp only [List.map_cons, PyData.depthAll]
    omega
theorem eqv_all [Dat α] : ∀ xs ys : List α, PyData.eqvAll (xs.map Dat.toD) (ys.map Dat.toD) = true ↔ xs = ys
  | [], [] => by simp [PyData.eqvAll]
  | x :: xs, [] => by simp [PyData.eqvAll]
  | [], y :: ys => by simp [PyData.eqvAll]
  | x :: xs, y :: ys => by simp only [List.map_cons, PyData.eqvAll, Bool.and_eq_true, Dat.eqv, eqv_all xs ys, List.cons.injEq]
instance datList [Dat α] : Dat (List α) where
  toD := fun xs => .list (xs.map Dat.toD)
  dmax := Dat.dmax α + 1
  dp := fun {K H v x} h => by
    obtain ⟨a, vs, rfl, q, h⟩ := h
    exact .lst (SqL.of q) (dp_all h)
  lay := fun x => by
    simp only [PyData.canLay0]
    exact lay_all x
  dep := fun x => by
    have h := dep_all x
    simp only [PyData.depth]
    omega
  eqv := fun x y => by
    simp only [PyData.eqv]
    exact eqv_all x y
instance datTup [Dat α] : Dat (Tup α) where
  toD := fun xs => .tuple (xs.l.map Dat.toD)
  dmax := Dat.dmax α + 1
  dp := fun {K H v x} h => by
    obtain ⟨a, vs, rfl, q, h⟩ := h
    exact .tup (SqT.of q) (dp_all h)
  lay := fun x => by
    simp only [PyData.canLay0]
    exact lay_all x.l
  dep := fun x => by
    have h := dep_all x.l
    simp only [PyData.depth]
    omega
  eqv := fun x y => by
    obtain ⟨x⟩ := x
    obtain ⟨y⟩ := y
    simp only [PyData.eqv, Tup.mk.injEq]
    exact eqv_all x y
instance datThing : Dat Thing where
  toD := fun x => match x with
    | .pl i => .int i
    | .ti a b => .tuple [.int a, .int b]
  dmax := 1
  dp := fun {K H v x} h => by
    cases x with
    | pl i =>
      have h' : v = V.int i := h
      subst h'
      exact .int _
    | ti a b =>
      obtain ⟨p, u, w, rfl, q, h1, h2⟩ := (show rep K H v (a, b) from h)
      have h1' : u = V.int a := h1
      have h2' : w = V.int b := h2
      subst h1' h2'
      exact .tup (SqT.of q) (.cons (.int _) (.cons (.int _) .nil))
  lay := fun x => by cases x <;> simp [PyData.canLay0, PyData.canLayAll0]
  dep := fun x => by cases x <;> simp [PyData.depth, PyData.depthAll]
  eqv := fun x y => by cases x <;> cases y <;> simp [PyData.eqv, PyData.eqvAll]
instance datScr : Dat Scr where
  toD := fun xs => .list (xs.l.map PyData.int)
  dmax := 1
  dp := fun {K H v x} h => by
    obtain ⟨a, rfl, q⟩ := h
    have e : ∀ l : List Int, DpAll K H (l.map V.int) (l.map PyData.int) := fun l => by
      induction l with
      | nil => exact .nil
      | cons x l ih => exact .cons (.int _) ih
    exact .lst q (e x.l)
  lay := fun x => by
    simp only [PyData.canLay0]
    exact lay_all (α := Int) x.l
  dep := fun x => by
    have h := dep_all (α := Int) x.l
    have h' : PyData.depthAll (x.l.map PyData.int) ≤ 0 := h
    simp only [PyData.depth]
    omega
  eqv := fun x y => by
    obtain ⟨x⟩ := x
    obtain ⟨y⟩ := y
    simp only [PyData.eqv, Scr.mk.injEq]
    exact eqv_all (α := Int) x y
theorem shapedD [Dat α] (hd : Dat.dmax α ≤ 60) (x : α) : SeqAt.shaped (Dat.toD x) = true := by
  have h := Dat.dep x
  show ((Dat.toD x).canLay0 && decide ((Dat.toD x).depth ≤ 64)) = true
  rw [Bool.and_eq_true]
  exact ⟨Dat.lay x, decide_eq_true (by omega)⟩
theorem eqvD [Dat α] [DecidableEq α] (x y : α) : PyData.eqv (Dat.toD x) (Dat.toD y) = decide (x = y) := by
  by_cases h : x = y
  · rw [decide_eq_true h]
    exact (Dat.eqv x y).mpr h
  · rw [decide_eq_false h]
    exact Bool.eq_false_iff.mpr fun e => h ((Dat.eqv x y).mp e)
theorem anyD [Dat α] [DecidableEq α] (x : α) : ∀ ys : List α, ((ys.map Dat.toD).any fun z => PyData.eqv z (Dat.toD x)) = decide (x ∈ ys)
  | [] => by simp
  | y :: ys => by
    rw [List.map_cons, List.any_cons, anyD x ys, eqvD]
    by_cases h : y = x
    · subst h; simp
    · have h' : ¬ x = y := fun e => h e.symm
      simp [h, h']
end
section
variable {X : Cx} {α β : Type} {K : Fg}
/-- ==, != of data -/
theorem op_eqDt (hK : X.K = K) (α : Type) [Dat α] [DecidableEq α] (hd : Dat.dmax α ≤ 60) (hu : X.A.units + 64 < cLine) : OpR X (compareOp .Eq) (fun x y H Q => ∃ a b : α, rep K H x a ∧ rep K H y b ∧ Q (.bl (decide (a = b))) H) := by
  subst hK
  intro pins s σ H x y v u Q I rx ry ⟨a, b, h1, h2, q⟩
  exact op_eqD hu pins s σ H x y v u Q I rx ry ⟨Dat.toD a, Dat.toD b, Dat.dp h1, Dat.dp h2, shapedD hd a, shapedD hd b, by rw [eqvD]; exact q⟩
theorem op_neDt (hK : X.K = K) (α : Type) [Dat α] [DecidableEq α] (hd : Dat.dmax α ≤ 60) (hu : X.A.units + 64 < cLine) : OpR X (compareOp .NotEq) (fun x y H Q => ∃ a b : α, rep K H x a ∧ rep K H y b ∧ Q (.bl (!decide (a = b))) H) := by
  subst hK
  intro pins s σ H x y v u Q I rx ry ⟨a, b, h1, h2, q⟩
  exact op_neD hu pins s σ H x y v u Q I rx ry ⟨Dat.toD a, Dat.toD b, Dat.dp h1, Dat.dp h2, shapedD hd a, shapedD hd b, by rw [eqvD]; exact q⟩
/-- in, not in a list, a tuple of data -/
theorem op_inL (hK : X.K = K) (α : Type) [Dat α] [DecidableEq α] (hd : Dat.dmax α ≤ 50) (hu : X.A.units + 65 < cLine) : OpR X (compareOp .In) (fun x y H Q => ∃ (a : α) (b : List α), rep K H x a ∧ rep K H y b ∧ Q (.bl (decide (a ∈ b))) H) := by
  subst hK
  intro pins s σ H x y v u Q I rx ry ⟨a, b, h1, h2, q⟩
  exact op_inD hu pins s σ H x y v u Q I rx ry ⟨Dat.toD a, b.map Dat.toD, Dat.dp h1, Dat.dp h2, shapedD (by omega) a, shapedD (α := List α) (by show Dat.dmax α + 1 ≤ 60; omega) b, by rw [anyD]; exact q⟩
theorem op_notInL (hK : X.K = K) (α : Type) [Dat α] [DecidableEq α] (hd : Dat.dmax α ≤ 50) (hu : X.A.units + 65 < cLine) : OpR X (compareOp .NotIn) (fun x y H Q => ∃ (a : α) (b : List α), rep K H x a ∧ rep K H y b ∧ Q (.bl (!decide (a ∈ b))) H) := by
  subst hK
  intro pins s σ H x y v u Q I rx ry ⟨a, b, h1, h2, q⟩
  exact op_notInD hu pins s σ H x y v u Q I rx ry ⟨Dat.toD a, b.map Dat.toD, Dat.dp h1, Dat.dp h2, shapedD (by omega) a, shapedD (α := List α) (by show Dat.dmax α + 1 ≤ 60; omega) b, by rw [anyD]; exact q⟩
theorem op_notInT (hK : X.K = K) (α : Type) [Dat α] [DecidableEq α] (hd : Dat.dmax α ≤ 50) (hu : X.A.units + 65 < cLine) : OpR X (compareOp .NotIn) (fun x y H Q => ∃ (a : α) (b : Tup α), rep K H x a ∧ rep K H y b ∧ Q (.bl (!decide (a ∈ b.l))) H) := by
  subst hK
  intro pins s σ H x y v u Q I rx ry ⟨a, b, h1, h2, q⟩
  have sd := shapedD (by omega : Dat.dmax α ≤ 60) a
  have se : SeqAt.shaped (.tuple (b.l.map Dat.toD)) = true := shapedD (α := Tup α) (by show Dat.dmax α + 1 ≤ 60; omega) b
  obtain ⟨as, r1⟩ := Dp.reads I (Dat.toD a) x v (Dat.dp h1) rx
  obtain ⟨bs, r2⟩ := Dp.reads I (.tuple (b.l.map Dat.toD)) y u (Dat.dp h2) ry
  refine SeqAt.notIn_tuple_reads r2 r1 (SeqAt.canLay_of_shaped se) (SeqAt.canLay_of_shaped sd) (room_in_shaped sd hu) ?_
  rw [anyD]
  exact ⟨.bl _, H, I, rfl, q⟩
/-- == of texts -/
theorem decS (x y : Str) : decide (V.str x = V.str y) = decide (x = y) := by
  by_cases h : x = y
  · subst h; simp
  · rw [decide_eq_false h, decide_eq_false (fun e => h (V.str.inj e))]
theorem op_eqS : OpR X (compareOp .Eq) (fun x y H Q => ∃ a b : Str, x = .str a ∧ y = .str b ∧ Q (.bl (decide (a = b))) H) := by
  intro pins s σ H x y v u Q I rx ry ⟨a, b, h1, h2, q⟩
  subst h1 h2
  exact op_eq pins s σ H _ _ v u Q I rx ry ⟨rfl, by rw [decS]; exact q⟩
theorem op_neS : OpR X (compareOp .NotEq) (fun x y H Q => ∃ a b : Str, x = .str a ∧ y = .str b ∧ Q (.bl (!decide (a = b))) H) := by
  intro pins s σ H x y v u Q I rx ry ⟨a, b, h1, h2, q⟩
  subst h1 h2
  exact op_ne pins s σ H _ _ v u Q I rx ry ⟨rfl, by rw [decS]; exact q⟩
/-! ### built-ins -/
theorem call_lenN (hK : X.K = K) : CallR X (.builtin "len") (fun xs H Q => ∃ (p : Addr) (ys : List V) (n : Nat), xs = [.ref p] ∧ (SqL K H p ys ∨ SqT K H p ys) ∧ ys.length = n ∧ Q (.int (n : Int)) H) := by
  subst hK
  intro pins s σ H xs us Q I r ⟨p, ys, n, e, h, hn, q⟩
  subst hn
  exact call_len_seq pins s σ H xs us Q I r ⟨p, ys, e, h, q⟩
def max2 (i j : Int) : Int := if j > i then j else i
def min2 (i j : Int) : Int := if j < i then j else i
/-- the greatest, the least of a list -/
def maxL (xs : List Int) : R Int := ofO xs.max?
theorem pb_max {δ : Type} {xs : List Int} {f : Int → R δ} {P : δ → Prop} {E : Exn → Prop} (h : Post (maxL xs >>= f) P E) : ∃ m, xs.max? = some m ∧ Post (f m) P E := pb_ofO h
theorem cr_maxI (hK : X.K = K) (hc : X.calm = true) : CallR X (.builtin "max") (fun vs H Q => ∃ (a : Addr) (ns : List Int) (m : Int), vs = [V.ref a] ∧ SqL K H a (ns.map V.int) ∧ ns.max? = some m ∧ Q (.int m) H) := by
  subst hK
  intro pins s σ H xs us Q I r ⟨a, ns, m, e, h, hm, q⟩
  obtain ⟨h1, h2⟩ := List.max?_eq_some_iff.mp hm
  refine cr_max hc pins s σ H xs us Q I r ⟨a, ns, e, h, ?_, fun k h3 h4 => ?_⟩
  · exact List.length_pos_of_mem h1
  · have e1 : k = m := Int.le_antisymm (h2 k h3) (h4 m h1)
    subst e1
    exact q
/-- the ints in order -/
def sortI (xs : List Int) : List Int := xs.mergeSort fun a b => decide (a ≤ b)
theorem sortI_perm (xs : List Int) : (sortI xs).Perm xs := List.mergeSort_perm xs _
theorem sortI_sorted (xs : List Int) : (sortI xs).Pairwise (· ≤ ·) := by
  have h := List.pairwise_mergeSort (le := fun a b : Int => decide (a ≤ b)) (fun a b c h1 h2 => by simp only [decide_eq_true_eq] at *; omega) (fun a b => by simp only [Bool.or_eq_true, decide_eq_true_eq]; omega) xs
  exact h.imp fun h => by simpa using h
theorem sort_uniq {xs ys : List Int} (h : xs.Perm ys) (hx : xs.Pairwise (· ≤ ·)) (hy : ys.Pairwise (· ≤ ·)) : xs = ys := by
  induction xs generalizing ys with
  | nil => exact (List.nil_perm.mp h).symm
  | cons x xs ih =>
    cases ys with
    | nil => exact absurd h.symm (by simp)
    | cons y ys =>
      rw [List.pairwise_cons] at hx hy
      have e : x = y := by
        have h1 : x ∈ y :: ys := h.mem_iff.mp List.mem_cons_self
        have h2 : y ∈ x :: xs := h.mem_iff.mpr List.mem_cons_self
        rcases List.mem_cons.mp h1 with h1 | h1
        · exact h1
        · rcases List.mem_cons.mp h2 with h2 | h2
          · exact h2.symm
          · have := hx.1 y h2
            have := hy.1 x h1
            omega
      subst e
      rw [ih (List.perm_cons x |>.mp h) hx.2 hy.2]
theorem sortI_eq {xs ys : List Int} (h : ys.Perm xs) (hy : ys.Pairwise (· ≤ ·)) : ys = sortI xs := sort_uniq (h.trans (sortI_perm xs).symm) hy (sortI_sorted xs)
theorem cr_sortI (hK : X.K = K) : CallR X (.builtin "sorted") (fun vs H Q => ∃ (a : Addr) (ns : List Int), vs = [V.ref a] ∧ SqL K H a (ns.map V.int) ∧ ∀ p, H p = none → Q (.ref p) (upd H p (.lst ((sortI ns).map V.int)))) := by
  subst hK
  intro pins s σ H xs us Q I r ⟨a, ns, e, h, q⟩
  refine cr_sortedI pins s σ H xs us Q I r ⟨a, ns, e, h, fun ns' p h1 h2 hp => ?_⟩
  rw [sortI_eq h1 h2]
  exact q p hp
theorem ix_listK (hK : X.K = K) : IxR X (rIxL K) := hK ▸ ix_list
theorem ix_tupK (hK : X.K = K) : IxR X (rIxT K) := hK ▸ ix_tup
theorem sl_listK (hK : X.K = K) : SlR X (rSlL K) := hK ▸ sl_list
theorem call_list_ofK (hK : X.K = K) : CallR X (.type "list") (fun xs H Q => ∃ p ys, xs = [.ref p] ∧ (SqL K H p ys ∨ SqT K H p ys) ∧ ∀ l, H l = none → Q (.ref l) (upd H l (.lst ys))) := hK ▸ call_list_of
theorem call_tuple_ofK (hK : X.K = K) : CallR X (.type "tuple") (fun xs H Q => ∃ p ys, xs = [.ref p] ∧ ((SqL K H p ys ∧ ∀ l, H l = none → Q (.ref l) (upd H l (.tup ys))) ∨ (SqT K H p ys ∧ Q (.ref p) H))) := hK ▸ call_tuple_of
theorem pi_listK {tg l : Expr} {tl : TE} (hK : X.K = K) (hl : PE X l tl) : PI X tg l (iList K tl) := hK ▸ pi_list hl
theorem pi_tupK {tg l : Expr} {tl : TE} (hK : X.K = K) (hl : PE X l tl) : PI X tg l (iTup K tl) := hK ▸ pi_tup hl
theorem pi_k {tg l : Expr} {wi : Fg → TI} (hK : X.K = K) (h : PI X tg l (wi X.K)) : PI X tg l (wi K) := hK ▸ h
theorem pe_k {e : Expr} {t : Fg → TE} (hK : X.K = K) (h : PE X e (t X.K)) : PE X e (t K) := hK ▸ h
theorem pg_k {tg : Expr} {t : Fg → TG} (hK : X.K = K) (h : PG X tg (t X.K)) : PG X tg (t K) := hK ▸ h
end
end Z
/-! Z3: sets of tuples by their number, isinstance -/
namespace Z
open PySem L2 PySem.Spec PyProof.Rows
open Rep (rep)
section
variable {α : Type} [DecidableEq α]
theorem nodup_le : ∀ {xs ys : List α}, xs.Nodup → (∀ y ∈ xs, y ∈ ys) → xs.length ≤ ys.length
  | [], _, _, _ => Nat.zero_le _
  | x :: xs, ys, h, hs => by
    obtain ⟨h1, h2⟩ := List.nodup_cons.mp h
    have hx : x ∈ ys := hs x List.mem_cons_self
    have := nodup_le (xs := xs) (ys := ys.erase x) h2 fun y hy => (List.mem_erase_of_ne (show y ≠ x from fun e => by subst e; exact h1 hy)).mpr (hs y (List.mem_cons_of_mem _ hy))
    rw [List.length_erase_of_mem hx] at this
    have := List.length_pos_of_mem hx
    rw [List.length_cons]
    omega
end
section
variable {X : Cx} {K : Fg} {P : Program} {w : World} {F H : Hp}
/-- isinstance of a plain value and a built-in class -/
theorem call_isB (hK : X.K = K) : CallR X (.builtin "isinstance") (fun xs H Q => ∃ (x : V) (a b : String) (r : Bool), xs = [x, .ty b] ∧ TyOf K H x (.type a) ∧ kitB a b = some r ∧ Q (.bl r) H) := by
  subst hK
  intro pins s σ H xs us Q I r ⟨x, a, b, c, e, h1, h2, q⟩
  exact call_isi pins s σ H xs us Q I r ⟨x, .ty b, .type a, .type b, c, e, .ty b, .base h1, kit_ty h2, q⟩
end
end Z
namespace Z
open PySem L2 PySem.Spec PyProof.Rows
open Rep (rep)
section
variable {α : Type}
/-- the first place of an item -/
def fidx [DecidableEq α] (y : α) : List α → Option Nat
  | [] => none
  | x :: xs => if x = y then some 0 else (fidx y xs).map (· + 1)
variable {δ : Type} {P : δ → Prop} {E : Exn → Prop}
end
end Z
namespace Z
open PySem L2 PySem.Spec PyProof.Rows
open Rep (rep)
section
variable {X : Cx} {K : Fg} {F H : Hp}
/-- xs * k -/
def repL {α : Type} (xs : List α) (k : Int) : List α := (List.replicate k.toNat xs).flatten
@[irreducible] def repR {α : Type} (xs : List α) (k : Int) : R (List α) := if -(2 ^ 62) ≤ k ∧ k < 2 ^ 62 ∧ xs.length * k.toNat < 100000 then .ok (repL xs k) else .bad
theorem pb_rep {α δ : Type} {xs : List α} {k : Int} {f : List α → R δ} {P : δ → Prop} {E : Exn → Prop} (h : Post (repR xs k >>= f) P E) : ∃ ys, (-(2 ^ 63) ≤ k ∧ k < 2 ^ 63 ∧ xs.length * k.toNat ≤ sizeLine) ∧ ys = repL xs k ∧ Post (f ys) P E := by
  unfold repR at h
  obtain ⟨⟨a, b, c⟩, d⟩ := pb_if h
  exact ⟨_, ⟨by omega, by omega, Nat.le_of_lt (Nat.lt_of_lt_of_le c line5)⟩, rfl, d⟩
theorem A2.flat {α : Type} {r : V → α → Prop} {vs : List V} {xs : List α} (h : A2 r vs xs) (n : Nat) : A2 r (List.replicate n vs).flatten (List.replicate n xs).flatten := by
  induction n with
  | zero => exact .nil
  | succ n ih =>
    rw [List.replicate_succ, List.replicate_succ, List.flatten_cons, List.flatten_cons]
    exact h.append ih
/-! ### None -/
class NonN (α : Type) extends Rep α where
  no : ∀ {K : Fg} {H : Hp} {v : V} {x : α}, rep K H v x → v ≠ .non
instance : NonN Int := ⟨fun h e => by have h' : _ = V.int _ := h; rw [h'] at e; cases e⟩
instance : NonN Bool := ⟨fun h e => by have h' : _ = V.bl _ := h; rw [h'] at e; cases e⟩
instance {α β : Type} [Rep α] [Rep β] : NonN (α × β) := ⟨fun {K H v x} h q => by
  obtain ⟨a, u, w, e, _⟩ := h
  rw [e] at q
  cases q⟩
instance {α : Type} [Rep α] : NonN (List α) := ⟨fun {K H v x} h q => by
  obtain ⟨a, u, e, _⟩ := h
  rw [e] at q
  cases q⟩
instance {α : Type} [Rep α] : NonN (Tup α) := ⟨fun {K H v x} h q => by
  obtain ⟨a, u, e, _⟩ := h
  rw [e] at q
  cases q⟩
theorem isN_eq {α : Type} [NonN α] {v : V} {o : Option α} (h : rep K F v o) : decide (v = .non) = o.isNone := by
  cases o with
  | none =>
    have h' : v = V.non := h
    rw [h']
    rfl
  | some x => exact decide_eq_false (NonN.no (α := α) h)
theorem op_isN2 : OpR X (compareOp .Is) (fun x y H Q => y = V.non ∧ ∃ b, decide (x = .non) = b ∧ Q (.bl b) H) := by
  intro pins s σ H x y v u Q I rx ry ⟨e, b, hb, q⟩
  exact op_isN pins s σ H x y v u Q I rx ry ⟨e, by rw [hb]; exact q⟩
instance datOptBool : Dat (Option Bool) where
  toD := fun x => match x with
    | none => .none
    | some i => .bool i
  dmax := 0
  dp := fun {K H v x} h => by
    cases x with
    | none =>
      have h' : v = V.non := h
      subst h'
      exact .non
    | some i =>
      have h' : v = V.bl i := h
      subst h'
      exact .bl _
  lay := fun x => by cases x <;> simp only [PyData.canLay0]
  dep := fun x => by cases x <;> simp only [PyData.depth, Nat.le_refl]
  eqv := fun x y => by cases x <;> cases y <;> simp [PyData.eqv]
end
end Z
/-! Z4: statements never reached, tuples into the frozen part, pairs sorted, dicts of scalars, list(range), pop -/
namespace Z
open PySem L2
open Rep (rep)
section
variable {X : Cx}
theorem ps_absurd {st : Stmt} : PS X st (fun _ _ _ => False) := ⟨fun _ _ _ _ _ _ h => h.elim⟩
theorem stepOr {t u : TT} {σ : L2.St} {H : Hp} {Q : Bool → Hp → Prop} (h : t σ H fun c H1 => if c = true then Q true H1 else u σ H1 Q) : tOr t u σ H Q := h
theorem stepNot {t : TT} {σ : L2.St} {H : Hp} {Q : Bool → Hp → Prop} (h : t σ H fun c H1 => Q (!c) H1) : tNot t σ H Q := h
/-! ### sorted, of pairs -/
def leP (p q : Int × Int) : Bool := decide (p.1 < q.1 ∨ (p.1 = q.1 ∧ p.2 ≤ q.2))
def sortP (xs : List (Int × Int)) : List (Int × Int) := xs.mergeSort leP
theorem sortP_perm (xs : List (Int × Int)) : (sortP xs).Perm xs := List.mergeSort_perm xs _
theorem sortP_sorted (xs : List (Int × Int)) : (sortP xs).Pairwise fun p q => leP p q = true := by
  refine List.pairwise_mergeSort (le := leP) (fun a b c h1 h2 => ?_) (fun a b => ?_) xs
  · unfold leP at *
    simp only [decide_eq_true_eq] at *
    omega
  · unfold leP
    simp only [Bool.or_eq_true, decide_eq_true_eq]
    omega
theorem sortP_uniq {xs ys : List (Int × Int)} (h : xs.Perm ys) (hx : xs.Pairwise fun p q => leP p q = true) (hy : ys.Pairwise fun p q => leP p q = true) : xs = ys := by
  induction xs generalizing ys with
  | nil => exact (List.nil_perm.mp h).symm
  | cons x xs ih =>
    cases ys with
    | nil => exact absurd h.length_eq (by simp)
    | cons y ys =>
      rw [List.pairwise_cons] at hx hy
      have e : x = y := by
        have h1 : y ∈ x :: xs := h.mem_iff.mpr List.mem_cons_self
        have h2 : x ∈ y :: ys := h.mem_iff.mp List.mem_cons_self
        rcases List.mem_cons.mp h1 with e | h1
        · exact e.symm
        · rcases List.mem_cons.mp h2 with e | h2
          · exact e
          · have a := hx.1 y h1
            have b := hy.1 x h2
            unfold leP at a b
            simp only [decide_eq_true_eq] at a b
            exact Prod.ext (by omega) (by omega)
      subst e
      rw [ih h.cons_inv hx.2 hy.2]
theorem sortP_eq {xs ys : List (Int × Int)} (h : ys.Perm xs) (hy : ys.Pairwise fun p q => leP p q = true) : ys = sortP xs := sortP_uniq (h.trans (sortP_perm xs).symm) hy (sortP_sorted xs)
/-- which pair stands at a reference -/
def keyP (H : Hp) (v : V) : Int × Int := match v with
  | .ref t => match H t with
    | some (.tup [.int i, .int j]) => (i, j)
    | _ => (0, 0)
  | _ => (0, 0)
theorem keyP_of {K : Fg} {F H : Hp} {v : V} {x : Int × Int} (s : Same F H) (r : rep K F v x) : ∃ t, v = .ref t ∧ F t = some (.tup [.int x.1, .int x.2]) ∧ keyP H v = x := by
  obtain ⟨t, u, z, rfl, q, r1, r2⟩ := r
  obtain rfl : u = V.int x.1 := r1
  obtain rfl : z = V.int x.2 := r2
  refine ⟨t, rfl, q, ?_⟩
  have h := s _ _ q
  unfold keyP
  dsimp only
  rw [h]
theorem keyP_all {K : Fg} {F H : Hp} {vs : List V} {xs : List (Int × Int)} (s : Same F H) (h : A2 (rep K F) vs xs) : xs = vs.map (keyP H) ∧ ∀ v ∈ vs, ∃ t, v = .ref t ∧ F t = some (.tup [.int (keyP H v).1, .int (keyP H v).2]) := by
  induction h with
  | nil => exact ⟨rfl, fun _ z => nomatch z⟩
  | cons a b ih =>
    obtain ⟨t, e, q, k⟩ := keyP_of s a
    refine ⟨by rw [List.map_cons, k, ← ih.1], fun v hv => ?_⟩
    rcases List.mem_cons.mp hv with rfl | hv
    · exact ⟨t, e, by rw [k]; exact q⟩
    · exact ih.2 v hv
theorem rep_keys {K : Fg} {F H : Hp} : ∀ {ys : List V}, (∀ v ∈ ys, ∃ t, v = V.ref t ∧ F t = some (.tup [.int (keyP H v).1, .int (keyP H v).2])) → A2 (rep K F) ys (ys.map (keyP H))
  | [], _ => .nil
  | v :: ys, h => by
    obtain ⟨t, e, q⟩ := h v List.mem_cons_self
    refine .cons ?_ (rep_keys fun y hy => h y (List.mem_cons_of_mem _ hy))
    subst e
    exact ⟨t, _, _, rfl, q, rfl, rfl⟩
theorem cr_sortP {K : Fg} (hK : X.K = K) : CallR X (.builtin "sorted") (fun vs H Q => ∃ (a : Addr) (us : List V) (F : Hp) (xs : List (Int × Int)), vs = [V.ref a] ∧ SqL K H a us ∧ Same F H ∧ A2 (rep K F) us xs ∧
    ∀ p ys, H p = none → A2 (rep K F) ys (sortP xs) → Q (.ref p) (upd H p (.lst ys))) := by
  subst hK
  intro pins s σ H vs us Q I r h
  obtain ⟨a, us', F, xs, rfl, hs, sF, hA, q⟩ := h
  obtain ⟨e1, e2⟩ := keyP_all sF hA
  refine cr_sortedPO pins s σ H _ us Q I r ⟨a, us', keyP H, rfl, hs, fun x hx => ?_, fun ys p h1 h2 hp => q p ys hp ?_⟩
  · obtain ⟨t, e, k⟩ := e2 x hx
    exact ⟨t, e, sF _ _ k⟩
  · have e : ys.map (keyP H) = sortP xs := by
      refine sortP_eq ?_ ?_
      · rw [e1]
        exact h2.perm.map _
      · rw [List.pairwise_map]
        refine h1.imp fun {x y} h => ?_
        have h := SrtO.lexB_no.mp h
        unfold leP
        rw [decide_eq_true_eq]
        omega
    rw [← e]
    exact rep_keys fun v hv => e2 v (h2.perm.mem_iff.mp hv)
end
/-! ### dicts of scalars -/
section
variable {κ β γ δ : Type} [DecidableEq κ]
def mput (m : List (κ × β)) (k : κ) (v : β) : List (κ × β) := if (m.any fun p => decide (p.1 = k)) = true then m.map (fun p => if p.1 = k then (p.1, v) else p) else m ++ [(k, v)]
def mhas (m : List (κ × β)) (k : κ) : Bool := m.any fun p => decide (p.1 = k)
def mget (m : List (κ × β)) (k : κ) : Option β := (m.find? fun p => decide (p.1 = k)).map (·.2)
def mputR (m : List (κ × β)) (k : κ) (v : β) : R (List (κ × β)) := if m.length < 100000 then .ok (mput m k v) else .bad
def mgetR (m : List (κ × β)) (k : κ) : R β := ofO (mget m k)
/-- as the dict stands -/
def encM (e : κ → γ) (ev : β → V) (m : List (κ × β)) : List (γ × V) := m.map fun p => (e p.1, ev p.2)
variable [DecidableEq γ] {e : κ → γ} {ev : β → V}
end
abbrev kI : Int → Key := .inl
theorem pn_mput {κ β δ : Type} [DecidableEq κ] {m : List (κ × β)} {k : κ} {v : β} {f : List (κ × β) → R δ} {P : δ → Prop} {E : Exn → Prop} (h : Post (mputR m k v >>= f) P E) : ∃ m', m.length < sizeLine ∧ m' = mput m k v ∧ Post (f m') P E := by
  unfold mputR at h
  by_cases hl : m.length < 100000
  · rw [if_pos hl] at h
    exact ⟨_, Nat.lt_of_lt_of_le hl line5, rfl, h⟩
  · rw [if_neg hl] at h
    exact (show False from h).elim
/-! ### list(range(n)) -/
@[irreducible] def listRng (i j : Int) : R (List Int) := if -(2 ^ 62) ≤ i ∧ i < 2 ^ 62 ∧ -(2 ^ 62) ≤ j ∧ j < 2 ^ 62 ∧ (j - i).toNat ≤ 100000 then .ok (rng i j) else .bad
theorem rgV_eq (i j : Int) : rgV i j = (rng i j).map V.int := by
  unfold rgV rng
  rw [List.map_map]
  rfl
theorem pb_lrng {δ : Type} {i j : Int} {f : List Int → R δ} {P : δ → Prop} {E : Exn → Prop} (h : Post (listRng i j >>= f) P E) : ∃ l, RgOk i j ∧ l = rng i j ∧ Post (f l) P E := by
  unfold listRng at h
  by_cases hl : -(2 ^ 62) ≤ i ∧ i < 2 ^ 62 ∧ -(2 ^ 62) ≤ j ∧ j < 2 ^ 62 ∧ (j - i).toNat ≤ 100000
  · rw [if_pos hl] at h
    obtain ⟨a, b, c, d, e⟩ := hl
    exact ⟨_, ⟨a, b, c, d, by omega⟩, rfl, h⟩
  · rw [if_neg hl] at h
    exact (show False from h).elim
/-! ### a list of perhaps nothing, where nothing is nothing -/
def allS {α : Type} : List (Option α) → R (List α)
  | [] => .ok []
  | none :: _ => .bad
  | some x :: xs => allS xs >>= fun ys => .ok (x :: ys)
theorem allS_iff {α : Type} : ∀ {xs : List (Option α)} {ys : List α}, allS xs = R.ok ys ↔ xs = ys.map some
  | [], ys => by
    constructor
    · intro h; cases h; rfl
    · intro h
      cases ys with
      | nil => rfl
      | cons => cases h
  | none :: xs, ys => by
    constructor
    · intro h; cases h
    · intro h
      cases ys <;> cases h
  | some x :: xs, ys => by
    constructor
    · intro h
      obtain ⟨zs, e, h⟩ := bind_ok_iff.mp h
      cases h
      rw [allS_iff.mp e]
      rfl
    · intro h
      cases ys with
      | nil => cases h
      | cons y ys =>
        rw [List.map_cons] at h
        injection h with h1 h2
        cases h1
        show (allS xs >>= fun ys => R.ok (x :: ys)) = _
        rw [allS_iff.mpr h2]
        rfl
theorem pb_allS {α δ : Type} {xs : List (Option α)} {f : List α → R δ} {P : δ → Prop} {E : Exn → Prop} (h : Post (allS xs >>= f) P E) : ∃ ys, xs = ys.map some ∧ Post (f ys) P E := by
  cases e : allS xs with
  | ok ys =>
    rw [e] at h
    exact ⟨ys, allS_iff.mp e, h⟩
  | exc x =>
    rw [e] at h
    exfalso
    clear h
    induction xs with
    | nil => cases e
    | cons x xs ih =>
      cases x with
      | none => cases e
      | some x =>
        have e' : (allS xs >>= fun ys => R.ok (x :: ys)) = R.exc _ := e
        cases e2 : allS xs with
        | ok y => rw [e2] at e'; cases e'
        | exc y => rw [e2] at e'; cases e'; exact ih e2
        | bad => rw [e2] at e'; cases e'
  | bad =>
    rw [e] at h
    exact (show False from h).elim
theorem A2.unsome {α : Type} [Rep α] {K : Fg} {F : Hp} : ∀ {vs : List V} {ys : List α}, A2 (rep K F) vs (ys.map some) → A2 (rep K F) vs ys
  | [], [], _ => .nil
  | _ :: _, [], h => nomatch h
  | [], _ :: _, h => nomatch h
  | _ :: _, _ :: _, .cons a b => .cons a (A2.unsome b)
/-! ### pop -/
/-! ### in, of a dict of scalars -/
def tDNotInH (ty td : TE) : TE := fun σ H Q => ty σ H fun y H1 => td σ H1 fun x H2 => ∃ a o b, x = .ref a ∧ DGet H2 a y o ∧ o.isSome = b ∧ Q (.bl (!b)) H2
section
variable {X : Cx} {o i : Expr} {td ty : TE}
theorem pc_dnotinH (hu : X.A.units + 1 < cLine) (hi : PE X i ty) (ho : PE X o td) : PC X .NotIn i o (tDNotInH ty td) := by
  refine ⟨fun pins s σ H Q I h => ?_⟩
  refine thn (hi.run pins s σ H _ I h) fun iv s1 ⟨y, H1, I1, ry, q1⟩ => thn (ho.run pins s1 σ H1 _ I1 q1) fun u s2 ⟨x, H2, I2, rx, a, ov, b, ex, g, eb, q2⟩ => ?_
  subst ex
  subst eb
  obtain rfl : u = Value.ref a := rx
  exact d_notIn hu I2 g ry fun s3 I3 => ⟨.bl (!ov.isSome), H2, I3, rfl, q2⟩
end
theorem Room.units1 {k : Nat} {A : Around} (r : Room k A) : A.units + 1 < cLine := by
  have := r.un
  omega
end Z
/-! ZX: an exception caught by its class, held behind the suite as a thing of its own -/
namespace L2
open PySem PySem.Spec PyProof.Rows
/-- a caught exception of the class cls at a -/
def ExH (cls : Value) (a : Addr) : HO := .ext fun h => ∃ (oe : Obj), h.get? a = some oe ∧ Zc cls none oe ∧ ∃ vs, oe.data = .fields vs
end L2
namespace Z
open PySem L2
open Rep (rep)
/-- the class that a name of the text names -/
def Nm (K : Fg) (x : Str) (C : Addr) : Prop := PySem.W.nsIn K mainGlobals x = some (some (.ref C))
theorem Nm.uniq {K : Fg} {x : Str} {C D : Addr} (a : Nm K x C) (b : Nm K x D) : C = D := by
  have h := a.symm.trans b
  injection h with h
  injection h with h
  injection h
instance repExn : Rep Exn := ⟨fun K F v e => ∃ a C, v = .ref a ∧ Nm K e.cls C ∧ F a = some (ExH (.ref C) a), fun s ⟨a, C, h, n, q⟩ => ⟨a, C, h, n, s _ _ q⟩⟩
/-- a call that lets no error out -/
def nx {α : Type} (m : R α) : R α := match m with
  | .ok a => .ok a
  | .exc _ => .bad
  | .bad => .bad
theorem kit_ty {K : Fg} {x : Addr} {T : String} {b : Bool} (h1 : PySem.W.kitMeta T = true) (h3 : PySem.W.subIn K (.ref x) (.type T) = some b) : PySem.W.kitOne K (.ref x) (.type T) = some b := by
  have e : PySem.W.kitCls K (.ref x) (.type T) = some b := by
    show (if PySem.W.kitMeta T = true then PySem.W.subIn K (.ref x) (.type T) else none) = some b
    rw [if_pos h1]
    exact h3
  unfold PySem.W.kitOne
  have h4 : (Value.ref x == Value.type T) = false := rfl
  rw [h4, if_neg (by decide)]
  exact e
/-- what is known of an own error class -/
structure XC (K : Fg) (mg : Str → Option Value) (x : Str) (C : Addr) : Prop where
  ns : Nm K x C
  gm : mg x = some (.ref C)
  xc : PySem.W.excIn K C [.type "ValueError", .type "Exception", .type "BaseException", .type "object"] "ValueError.__new__" = true
  kp : PySem.W.keepIn K (.ref C) = true
  b : PySem.W.subIn K (.ref C) (.type "BaseException") = some true
  t : PySem.W.typeIn K (.ref C) = some (.type "type")
  ex : ExcC K C
end Z
/-! Z5: regions: lists of one's own by their number in a store -/
namespace Z
open PySem L2
open Rep (rep)
/-! ### two lists, item by item -/
inductive F2 {α β : Type} (r : α → β → Prop) : List α → List β → Prop
  | nil : F2 r [] []
  | cons {a : α} {b : β} {as : List α} {bs : List β} : r a b → F2 r as bs → F2 r (a :: as) (b :: bs)
section
variable {α β : Type} {r r' : α → β → Prop} {as : List α} {bs : List β}
theorem F2.length : ∀ {as : List α} {bs : List β}, F2 r as bs → as.length = bs.length
  | _, _, .nil => rfl
  | _, _, .cons _ t => by rw [List.length_cons, List.length_cons, F2.length t]
theorem F2.imp (f : ∀ a b, r a b → r' a b) : ∀ {as : List α} {bs : List β}, F2 r as bs → F2 r' as bs
  | _, _, .nil => .nil
  | _, _, .cons h t => .cons (f _ _ h) (F2.imp f t)
theorem F2.get : ∀ {as : List α} {bs : List β} {i : Nat} {b : β}, F2 r as bs → bs[i]? = some b → ∃ a, as[i]? = some a ∧ r a b
  | _, _, _, _, .nil, e => by simp at e
  | _, _, 0, _, .cons h _, e => by simp at e; subst e; exact ⟨_, rfl, h⟩
  | _, _, i + 1, b, .cons _ t, e => by
    obtain ⟨v, h1, h2⟩ := F2.get (i := i) (b := b) t (by simpa using e)
    exact ⟨v, by simpa using h1, h2⟩
theorem F2.set {a : α} {b : β} (h : r a b) : ∀ {as : List α} {bs : List β} (i : Nat), F2 r as bs → F2 r (as.set i a) (bs.set i b)
  | _, _, _, .nil => .nil
  | _, _, 0, .cons _ t => .cons h t
  | _, _, i + 1, .cons q t => .cons q (F2.set h i t)
theorem F2.append : ∀ {as as' : List α} {bs bs' : List β}, F2 r as bs → F2 r as' bs' → F2 r (as ++ as') (bs ++ bs')
  | _, _, _, _, .nil, h => h
  | _, _, _, _, .cons a t, h => .cons a (F2.append t h)
theorem F2.snoc {a : α} {b : β} (h : F2 r as bs) (q : r a b) : F2 r (as ++ [a]) (bs ++ [b]) := h.append (.cons q .nil)
end
/-! ### a store's lists: cells -/
def nz : List Addr → List (List V) → List (Addr × HO)
  | a :: as, vs :: vss => (a, .lst vs) :: nz as vss
  | _, _ => []
theorem nz_split : ∀ {as : List Addr} {vss : List (List V)} {j : Nat} {a : Addr} {vs : List V}, as[j]? = some a → vss[j]? = some vs →
    ∃ x y, nz as vss = x ++ (a, .lst vs) :: y ∧ ∀ us, nz as (vss.set j us) = x ++ (a, .lst us) :: y
  | [], _, j, _, _, h, _ => by simp at h
  | _ :: _, [], j, _, _, _, h => by simp at h
  | b :: as, ws :: vss, 0, a, vs, h1, h2 => by
    simp at h1 h2
    subst h1 h2
    exact ⟨[], nz as vss, rfl, fun _ => rfl⟩
  | b :: as, ws :: vss, j + 1, a, vs, h1, h2 => by
    obtain ⟨x, y, e1, e2⟩ := nz_split (as := as) (vss := vss) (j := j) (a := a) (vs := vs) (by simpa using h1) (by simpa using h2)
    exact ⟨(b, .lst ws) :: x, y, by show (b, HO.lst ws) :: nz as vss = _; rw [e1]; rfl, fun us => by show (b, HO.lst ws) :: nz as (vss.set j us) = _; rw [e2]; rfl⟩
theorem nz_snoc : ∀ {as : List Addr} {vss : List (List V)} {a : Addr} {vs : List V}, as.length = vss.length → nz (as ++ [a]) (vss ++ [vs]) = nz as vss ++ [(a, .lst vs)]
  | [], [], _, _, _ => rfl
  | [], _ :: _, _, _, h => by simp at h
  | _ :: _, [], _, _, h => by simp at h
  | b :: as, ws :: vss, a, vs, h => by
    show (b, HO.lst ws) :: nz (as ++ [a]) (vss ++ [vs]) = (b, HO.lst ws) :: (nz as vss ++ [(a, .lst vs)])
    rw [nz_snoc (by simpa using h)]
section
variable {F H : Hp} {os os' pre post : List (Addr × HO)} {a p : Addr} {o : HO} {as : List Addr} {vss : List (List V)} {j : Nat} {vs : List V}
theorem W.perm (h : os.Perm os') (w : W F H os) : W F H os' where
  same := w.same
  own := fun q hq => w.own q (h.mem_iff.mpr hq)
  nd := h.pairwise_iff (fun e q => e q.symm) |>.mp w.nd
  nt := fun q hq => w.nt q (h.mem_iff.mpr hq)
/-- the j-th list of a store -/
theorem W.nget (w : W F H (pre ++ (nz as vss ++ post))) (h1 : as[j]? = some a) (h2 : vss[j]? = some vs) : H a = some (.lst vs) := by
  obtain ⟨x, y, e, _⟩ := nz_split h1 h2
  rw [e] at w
  exact (w.own (a, .lst vs) (by simp)).1
theorem W.nset (w : W F H (pre ++ (nz as vss ++ post))) (us : List V) (h1 : as[j]? = some a) (h2 : vss[j]? = some vs) : W F (upd H a (.lst us)) (pre ++ (nz as (vss.set j us) ++ post)) := by
  obtain ⟨x, y, e, e2⟩ := nz_split h1 h2
  rw [e] at w
  rw [e2]
  have w' : W F H ((pre ++ x) ++ (a, .lst vs) :: (y ++ post)) := by
    have e3 : pre ++ (x ++ (a, HO.lst vs) :: y ++ post) = (pre ++ x) ++ (a, HO.lst vs) :: (y ++ post) := by simp
    rw [← e3]
    exact w
  have w2 := w'.set (o' := .lst us)
  have e3 : pre ++ (x ++ (a, HO.lst us) :: y ++ post) = (pre ++ x) ++ (a, HO.lst us) :: (y ++ post) := by simp
  rw [e3]
  exact w2
/-- a cell goes into a store -/
theorem W.nadd (w : W F H ((p, .lst vs) :: (pre ++ (nz as vss ++ post)))) (hl : as.length = vss.length) : W F H (pre ++ (nz (as ++ [p]) (vss ++ [vs]) ++ post)) := by
  rw [nz_snoc hl]
  refine w.perm ?_
  have e : pre ++ (nz as vss ++ [(p, HO.lst vs)] ++ post) = (pre ++ nz as vss) ++ (p, HO.lst vs) :: post := by simp
  have e2 : (p, HO.lst vs) :: (pre ++ (nz as vss ++ post)) = (p, HO.lst vs) :: ((pre ++ nz as vss) ++ post) := by simp
  rw [e, e2]
  exact List.perm_middle.symm
theorem W.dropL (w : W F H (pre ++ (os ++ post))) : W F H (pre ++ post) where
  same := w.same
  own := fun q hq => w.own q (by
    rcases List.mem_append.mp hq with h | h
    · exact List.mem_append_left _ h
    · exact List.mem_append_right _ (List.mem_append_right _ h))
  nd := by
    have nd := w.nd
    rw [List.pairwise_append] at nd ⊢
    obtain ⟨n1, n2, n3⟩ := nd
    rw [List.pairwise_append] at n2
    exact ⟨n1, n2.2.1, fun x hx y hy => n3 x hx y (List.mem_append_right _ hy)⟩
  nt := fun q hq => w.nt q (by
    rcases List.mem_append.mp hq with h | h
    · exact List.mem_append_left _ h
    · exact List.mem_append_right _ (List.mem_append_right _ h))
/-- a whole store is never written again -/
theorem W.nfreeze : ∀ {as : List Addr} {vss : List (List V)} {F : Hp}, W F H (pre ++ (nz as vss ++ post)) → ∃ F', Same F F' ∧ W F' H (pre ++ post) ∧ ∀ (j : Nat) (a : Addr) (vs : List V), as[j]? = some a → vss[j]? = some vs → F' a = some (.lst vs)
  | [], _, F, w => ⟨F, Same.refl _, w, fun j a vs h => by simp at h⟩
  | _ :: _, [], F, w => ⟨F, Same.refl _, w, fun j a vs _ h => by simp at h⟩
  | b :: as, ws :: vss, F, w => by
    have w' : W F H (pre ++ (b, .lst ws) :: (nz as vss ++ post)) := w
    obtain ⟨F1, s1, w1, q1⟩ := w'.freezeE
    obtain ⟨F2, s2, w2, q2⟩ := W.nfreeze (as := as) (vss := vss) w1
    refine ⟨F2, s1.trans s2, w2, fun j a vs h1 h2 => ?_⟩
    cases j with
    | zero =>
      simp at h1 h2
      subst h1 h2
      exact s2 _ _ q1
    | succ j => exact q2 j a vs (by simpa using h1) (by simpa using h2)
end
/-! ### what stands in a store -/
section
variable {α β δ : Type} [Rep α] [Rep β] {K : Fg} {F F' H : Hp} {as as' : List Addr} {vss : List (List V)} {st : List (List α)}
structure Sto (K : Fg) (F : Hp) (as : List Addr) (vss : List (List V)) (st : List (List α)) : Prop where
  len : as.length = vss.length
  all : F2 (A2 (rep K F)) vss st
theorem Sto.nil : Sto K F [] [] ([] : List (List α)) := ⟨rfl, .nil⟩
theorem Sto.mono (s : Same F F') (h : Sto K F as vss st) : Sto K F' as vss st := ⟨h.len, h.all.imp fun _ _ q => q.mono s⟩
theorem Sto.len2 (h : Sto K F as vss st) : as.length = st.length := h.len.trans h.all.length
theorem Sto.get {j : Nat} {xs : List α} (h : Sto K F as vss st) (e : st[j]? = some xs) : ∃ a vs, as[j]? = some a ∧ vss[j]? = some vs ∧ A2 (rep K F) vs xs := by
  obtain ⟨vs, h1, h2⟩ := h.all.get e
  have hj := (List.getElem?_eq_some_iff.mp e).1
  rw [← h.len2] at hj
  exact ⟨as[j], vs, List.getElem?_eq_getElem hj, h1, h2⟩
theorem Sto.set {j : Nat} {vs : List V} {xs : List α} (h : Sto K F as vss st) (q : A2 (rep K F) vs xs) : Sto K F as (vss.set j vs) (st.set j xs) := ⟨by rw [List.length_set]; exact h.len, h.all.set q j⟩
theorem Sto.snoc {p : Addr} {vs : List V} {xs : List α} (h : Sto K F as vss st) (q : A2 (rep K F) vs xs) : Sto K F (as ++ [p]) (vss ++ [vs]) (st ++ [xs]) := ⟨by simp [h.len], h.all.snoc q⟩
/-- a number in a store -/
abbrev Ix := Nat
def RX (as : List Addr) (v : V) (j : Ix) : Prop := ∃ a, v = .ref a ∧ as[j]? = some a
theorem RX.mono (h : as <+: as') {v : V} {j : Ix} (q : RX as v j) : RX as' v j := by
  obtain ⟨a, e, q⟩ := q
  obtain ⟨t, rfl⟩ := h
  refine ⟨a, e, ?_⟩
  rw [List.getElem?_append_left (List.getElem?_eq_some_iff.mp q).1]
  exact q
theorem RX.new (h : as.length = n) {p : Addr} : RX (as ++ [p]) (.ref p) n := ⟨p, rfl, by rw [List.getElem?_append_right (by omega), ← h]; simp⟩
theorem IQ.mono (h : as <+: as') {a : Addr} {j : Nat} (q : as[j]? = some a) : as'[j]? = some a := by
  obtain ⟨t, rfl⟩ := h
  rw [List.getElem?_append_left (List.getElem?_eq_some_iff.mp q).1]
  exact q
theorem IQ.new {n : Nat} (h : as.length = n) {p : Addr} : (as ++ [p])[n]? = some p := by
  rw [List.getElem?_append_right (by omega), ← h]
  simp
theorem pfx_trans {as2 : List Addr} (h : as <+: as') (h' : as' <+: as2) : as <+: as2 := h.trans h'
theorem Sto.getq {j : Nat} {xs : List α} {a : Addr} (h : Sto K F as vss st) (e : st[j]? = some xs) (q : as[j]? = some a) : ∃ vs, vss[j]? = some vs ∧ A2 (rep K F) vs xs := h.all.get e
theorem pfx_refl : as <+: as := List.prefix_refl _
theorem pfx_snoc {p : Addr} : as <+: as ++ [p] := List.prefix_append _ _
/-- the list of a number -/
def getS (st : List (List α)) (j : Ix) : R (List α) := ofO st[j]?
theorem pb_getS {st : List (List α)} {j : Ix} {f : List α → R δ} {P : δ → Prop} {E : Exn → Prop} (h : Post (getS st j >>= f) P E) : ∃ xs, st[j]? = some xs ∧ Post (f xs) P E := pb_ofO h
/-- .. another list in its place -/
def setS (st : List (List α)) (j : Ix) (ys : List α) : R (List (List α)) := .ok (st.set j ys)
theorem pn_setS {st : List (List α)} {j : Ix} {ys : List α} {f : List (List α) → R δ} {P : δ → Prop} {E : Exn → Prop} (h : Post (setS st j ys >>= f) P E) : ∃ st', st' = st.set j ys ∧ Post (f st') P E := ⟨_, rfl, h⟩
/-- .. a new one -/
def newS (st : List (List α)) (ys : List α) : R (Ix × List (List α)) := .ok (st.length, st ++ [ys])
theorem pn_newS {st : List (List α)} {ys : List α} {f : Ix × List (List α) → R δ} {P : δ → Prop} {E : Exn → Prop} (h : Post (newS st ys >>= f) P E) : ∃ j st', j = st.length ∧ st' = st ++ [ys] ∧ Post (f (j, st')) P E := ⟨_, _, rfl, rfl, h⟩
/-- lists by their numbers -/
def deref (st : List (List α)) (js : List Ix) : R (List (List α)) := mapR (getS st) js
theorem deref_rep {vs : List V} {js : List Ix} {xss : List (List α)} (h : Sto K F as vss st) (hf : ∀ (j : Nat) (a : Addr) (vs : List V), as[j]? = some a → vss[j]? = some vs → F' a = some (.lst vs)) (s : Same F F')
    (hv : A2 (RX as) vs js) (e : deref st js = R.ok xss) : A2 (rep K F') vs xss := by
  induction hv generalizing xss with
  | nil =>
    cases e
    exact .nil
  | cons a b ih =>
    obtain ⟨ad, rfl, h1⟩ := a
    obtain ⟨ys, e1, e⟩ := bind_ok_iff.mp e
    obtain ⟨yss, e2, e⟩ := bind_ok_iff.mp e
    cases e
    rename_i j js' _ _
    unfold getS at e1
    cases q : st[j]? with
    | none => rw [q] at e1; cases e1
    | some zs =>
      rw [q] at e1
      cases e1
      obtain ⟨a', ws, h2, h3, h4⟩ := h.get q
      rw [h1] at h2
      cases h2
      exact .cons ⟨ad, ws, rfl, hf _ _ _ h1 h3, h4.mono s⟩ (ih e2)
theorem pb_deref {js : List Ix} {f : List (List α) → R δ} {P : δ → Prop} {E : Exn → Prop} (h : Post (deref st js >>= f) P E) : ∃ xss, deref st js = R.ok xss ∧ Post (f xss) P E := by
  cases e : deref st js with
  | ok xss =>
    rw [e] at h
    exact ⟨xss, rfl, h⟩
  | exc x =>
    exfalso
    clear h
    unfold deref at e
    induction js with
    | nil => cases e
    | cons j js ih =>
      have e' : (getS st j >>= fun y => mapR (getS st) js >>= fun ys => R.ok (y :: ys)) = R.exc x := e
      unfold getS at e'
      cases q : st[j]? with
      | none => rw [q] at e'; cases e'
      | some z =>
        rw [q] at e'
        have e2 : (mapR (getS st) js >>= fun ys => R.ok (z :: ys)) = R.exc x := e'
        cases q2 : mapR (getS st) js with
        | ok y => rw [q2] at e2; cases e2
        | exc y => rw [q2] at e2; cases e2; exact ih q2
        | bad => rw [q2] at e2; cases e2
  | bad =>
    rw [e] at h
    exact (show False from h).elim
end
section
variable {K : Fg} {F : Hp} {a : Addr} {β : Type} {vs : List V} {xs : List β} {r : V → β → Prop}
theorem tw_listR (h : A2 r vs xs) : TW (Itl K a) xs (fun H => SqL K H a vs) (fun b H x H' => H' = H ∧ r x b) := ⟨by
  rw [← h.length]
  exact walk_list.mono (fun _ g => g) fun i H x H' _ _ y => by
    obtain ⟨y1, y2⟩ := y
    obtain ⟨b, h1, h2⟩ := h.getV y2
    exact ⟨b, h1, y1, h2⟩⟩
end
section
variable {F H : Hp} {os pre post x : List (Addr × HO)} {q : Addr × HO} {as : List Addr} {vss : List (List V)}
/-- a store behind the cells -/
theorem W.nback (w : W F H (q :: (nz as vss ++ (pre ++ post)))) : W F H (q :: (pre ++ (nz as vss ++ post))) := by
  refine w.perm (List.Perm.cons _ ?_)
  rw [← List.append_assoc, ← List.append_assoc]
  exact List.perm_append_comm.append_right _
variable {α : Type} [Rep α] {K : Fg} {a : Addr} {us : List V} {js : List Ix} {st xss : List (List α)}
end
/-! ### comprehensions, what is made told by the state -/
section
variable {J : It} {β γ δ ε : Type} {items : List β} {G : Hp → Prop} {Y : β → Hp → V → Hp → Prop} {g : TG} {tt : TT} {te : TE} {P : ε → Prop} {X : Exn → Prop} {K : Fg} {vs : List Nat} {σ : St} {F H1 : Hp} {os : List (Addr × HO)} {D : Addr} {Qd : Hp → Prop}
theorem lcG (tw : TW J items G Y) {f : γ → β → R (Option δ × γ)} {s0 : γ} {k : List δ × γ → R ε} (hm : Post (filStG f s0 items >>= k) P X) (O : γ → Hp → List (Addr × HO) → List V → List δ → Prop) (w : W F H1 os) (o0 : O s0 F os [] []) (nD : H1 D = none)
    (hl : ∀ c F' os' us ys, O c F' os' us ys → us.length = ys.length)
    (hG : ∀ c F' H' os' acc ys, Same F F' → W F' H' ((D, .lst acc) :: os') → O c F' os' acc ys → G H')
    (hs : ∀ (b : β) (c : γ) (x : V) (F' H' H'' : Hp) (os' : List (Addr × HO)) (acc : List V) (ys : List δ) (N : V → Hp → Prop) (N0 : Hp → Prop) (P' : Option δ × γ → Prop), Same F F' → W F' H' ((D, .lst acc) :: os') → O c F' os' acc ys → Y b H' x H'' →
      (∀ d c', P' (some d, c') → ∀ y F'' H'' os'', W F'' H'' ((D, .lst acc) :: os'') → Same F' F'' → O c' F'' os'' (acc ++ [y]) (ys ++ [d]) → N y H'') →
      (∀ c', P' (none, c') → ∀ F'' H'' os'', W F'' H'' ((D, .lst acc) :: os'') → Same F' F'' → O c' F'' os'' acc ys → N0 H'') → Post (f c b) P' X →
      g x (wipe σ vs) H'' fun σ2 H2 => wipe σ2 vs = wipe σ vs ∧ tt σ2 H2 fun b H3 => if b = true then te σ2 H3 N else N0 H3)
    (hd : ∀ c us F' H' os' ys, Same F F' → W F' H' ((D, .lst us) :: os') → O c F' os' us ys → Post (k (ys, c)) P X → Qd H') : LcAsk J g tt te vs σ H1 D Qd := by
  obtain ⟨hlen, hm⟩ := pb_grd (pb_assoc hm)
  have hlen : items.length < sizeLine := Nat.lt_of_lt_of_le (of_decide_eq_true hlen) line5
  refine lc_it tw.walk (fun i H => ∃ c F' os' us ys, i ≤ items.length ∧ Same F F' ∧ W F' H ((D, .lst us) :: os') ∧ O c F' os' us ys ∧ ys.length ≤ i ∧ Post (filSt f c (items.drop i) >>= fun q => k (ys ++ q.1, q.2)) P X) ?_ ?_ ?_ ?_
  · exact ⟨s0, F, os, [], [], Nat.zero_le _, Same.refl _, w.new nD, o0, Nat.le_refl _, hm⟩
  · rintro i H _ ⟨c, F', os', us, ys, _, s, w', o, _⟩
    exact hG c F' H os' us ys s w' o
  · rintro i x H H' hi ⟨c, F', os', us, ys, _, s, w', o, hl2, hm⟩ ⟨b, hb, y⟩
    rw [drop_cons hb] at hm
    have hm' : Post ((f c b >>= fun p => filSt f p.2 (items.drop (i + 1)) >>= fun q => match p.1 with
      | some y => (R.ok (y :: q.1, q.2) : R (List δ × γ))
      | none => R.ok q) >>= fun q => k (ys ++ q.1, q.2)) P X := hm
    rw [bind_bind] at hm'
    have hm2 := post_bind hm'
    have hul : us.length = ys.length := hl _ _ _ _ _ o
    refine hs b c x F' H H' os' us ys (fun y H4 => ∃ acc, H4 D = some (.lst acc) ∧ acc.length < sizeLine ∧ _) _ _ s w' o y ?_ ?_ hm2
    · intro d c' p2 y F'' H'' os'' w2 s2 o2
      refine ⟨us, w2.get (pre := []), by omega, c', F'', os'', us ++ [y], ys ++ [d], hi, s.trans s2, w2.set (pre := []), o2, by rw [List.length_append, List.length_singleton]; omega, ?_⟩
      have p3 : Post ((filSt f c' (items.drop (i + 1)) >>= fun q => (R.ok (d :: q.1, q.2) : R (List δ × γ))) >>= fun q => k (ys ++ q.1, q.2)) P X := p2
      rw [bind_bind] at p3
      have e : (fun q : List δ × γ => (R.ok (d :: q.1, q.2) : R (List δ × γ)) >>= fun q => k (ys ++ q.1, q.2)) = fun q => k (ys ++ [d] ++ q.1, q.2) := by
        funext q
        show k (ys ++ (d :: q.1), q.2) = k (ys ++ [d] ++ q.1, q.2)
        rw [List.append_assoc]
        rfl
      rw [e] at p3
      exact p3
    · intro c' p2 F'' H'' os'' w2 s2 o2
      refine ⟨c', F'', os'', us, ys, hi, s.trans s2, w2, o2, by omega, ?_⟩
      have p3 : Post ((filSt f c' (items.drop (i + 1)) >>= fun q => (R.ok q : R (List δ × γ))) >>= fun q => k (ys ++ q.1, q.2)) P X := p2
      rw [bind_bind] at p3
      exact p3
  · rintro H ⟨c, F', os', us, ys, _, s, w', o, _, hm⟩
    rw [List.drop_length] at hm
    have hm' : Post (k (ys ++ [], c)) P X := hm
    rw [List.append_nil] at hm'
    exact hd c us F' H os' ys s w' o hm'
theorem lcGM (tw : TW J items G Y) {f : γ → β → R (δ × γ)} {s0 : γ} {k : List δ × γ → R ε} (hm : Post (mapStG f s0 items >>= k) P X) (O : γ → Hp → List (Addr × HO) → List V → List δ → Prop) (w : W F H1 os) (o0 : O s0 F os [] []) (nD : H1 D = none)
    (hl : ∀ c F' os' us ys, O c F' os' us ys → us.length = ys.length)
    (hG : ∀ c F' H' os' acc ys, Same F F' → W F' H' ((D, .lst acc) :: os') → O c F' os' acc ys → G H')
    (hs : ∀ (b : β) (c : γ) (x : V) (F' H' H'' : Hp) (os' : List (Addr × HO)) (acc : List V) (ys : List δ) (N : V → Hp → Prop) (P' : δ × γ → Prop), Same F F' → W F' H' ((D, .lst acc) :: os') → O c F' os' acc ys → Y b H' x H'' →
      (∀ d c', P' (d, c') → ∀ y F'' H'' os'', W F'' H'' ((D, .lst acc) :: os'') → Same F' F'' → O c' F'' os'' (acc ++ [y]) (ys ++ [d]) → N y H'') → Post (f c b) P' X →
      g x (wipe σ vs) H'' fun σ2 H2 => wipe σ2 vs = wipe σ vs ∧ te σ2 H2 N)
    (hd : ∀ c us F' H' os' ys, Same F F' → W F' H' ((D, .lst us) :: os') → O c F' os' us ys → Post (k (ys, c)) P X → Qd H') : LcAsk J g tYes te vs σ H1 D Qd := by
  have e : ∀ (s : γ) (l : List β), filSt (fun c b => f c b >>= fun p => R.ok (some p.1, p.2)) s l = mapSt f s l := by
    intro s l
    induction l generalizing s with
    | nil => rfl
    | cons b l ih =>
      show ((f s b >>= fun p => R.ok (some p.1, p.2)) >>= fun p => filSt (fun c b => f c b >>= fun p => R.ok (some p.1, p.2)) p.2 l >>= fun q => match p.1 with
        | some y => (R.ok (y :: q.1, q.2) : R (List δ × γ))
        | none => R.ok q) = (f s b >>= fun p => mapSt f p.2 l >>= fun q => .ok (p.1 :: q.1, q.2))
      rw [bind_bind]
      refine congrArg (f s b >>= ·) ?_
      funext p
      show (filSt (fun c b => f c b >>= fun p => R.ok (some p.1, p.2)) p.2 l >>= fun q => (R.ok (p.1 :: q.1, q.2) : R (List δ × γ))) = _
      rw [ih]
  have hm' : Post (filStG (fun c b => f c b >>= fun p => R.ok (some p.1, p.2)) s0 items >>= k) P X := by
    unfold filStG
    simp only [e]
    exact hm
  refine lcG tw hm' O w o0 nD hl hG (fun b c x F' H' H'' os' acc ys N N0 P' s w' o y hN hN0 hp => ?_) hd
  exact hs b c x F' H' H'' os' acc ys N _ s w' o y (fun d c' p2 y F'' H'' os'' w2 s2 o2 => hN d c' p2 y F'' H'' os'' w2 s2 o2) (post_bind hp)
end
end Z
/-! Z6: constants of the module, things, dicts as written and asked -/
namespace Z
open PySem L2
open Rep (rep)
section
variable {X : Cx}
theorem pe_globI {x : Str} {n : Int} {pos : Pos} (hg : Gl X x) (h : ∃ t, X.mg x = some (.int n t)) (hd : (x == ("__debug__" : Str)) = false := by decide) : PE X (.Name x pos) (tC (.int n)) := by
  obtain ⟨t, e⟩ := h
  exact pe_glob hg e ⟨_, rfl⟩ hd
theorem call_intB : CallR X (.type "int") (fun xs H Q => ∃ k, xs = [.bl k] ∧ Q (.int (if k = true then 1 else 0)) H) := by
  intro pins s σ H xs us Q I r ⟨k, e, q⟩
  exact call_int1 pins s σ H xs us Q I r (.inr ⟨k, e, q⟩)
end
/-- a while's fuel, not to be reckoned with -/
@[irreducible] def fu (n : Nat) : Nat := n
theorem fu_eq (n : Nat) : fu n = n := by
  unfold fu
  rfl
/-- x in l -/
abbrev inB {α : Type} [DecidableEq α] (x : α) (l : List α) : Bool := decide (x ∈ l)
theorem inB_t {α : Type} [DecidableEq α] {x : α} {l : List α} : inB x l = true ↔ x ∈ l := decide_eq_true_iff
theorem inB_f {α : Type} [DecidableEq α] {x : α} {l : List α} : inB x l = false ↔ x ∉ l := decide_eq_false_iff_not
def b2i (b : Bool) : Int := if b = true then 1 else 0
/-! ### things -/
def Thing.isPl : Thing → Bool
  | .pl _ => true
  | .ti _ _ => false
def asPl : Thing → R Int
  | .pl i => .ok i
  | .ti _ _ => .bad
def asTi : Thing → R (Int × Int)
  | .pl _ => .bad
  | .ti a b => .ok (a, b)
def mkpl (xs : List Int) : List Thing := xs.map Thing.pl
def mkti (xs : List (Int × Int)) : List Thing := xs.map fun p => Thing.ti p.1 p.2
section
variable {δ : Type} {P : δ → Prop} {E : Exn → Prop} {K : Fg} {F H : Hp}
theorem pb_asPl {t : Thing} {f : Int → R δ} (h : Post (asPl t >>= f) P E) : ∃ i, t = .pl i ∧ Post (f i) P E := by
  cases t with
  | pl i => exact ⟨i, rfl, h⟩
  | ti a b => exact (show False from h).elim
theorem pb_asTi {t : Thing} {f : Int × Int → R δ} (h : Post (asTi t >>= f) P E) : ∃ q : Int × Int, t = .ti q.1 q.2 ∧ Post (f q) P E := by
  cases t with
  | pl i => exact (show False from h).elim
  | ti a b => exact ⟨(a, b), rfl, h⟩
theorem A2.pl : ∀ {vs : List V} {xs : List Int}, A2 (rep K F) vs xs → A2 (rep K F) vs (mkpl xs)
  | _, _, .nil => .nil
  | _, _, .cons h t => .cons h (A2.pl t)
theorem A2.ti : ∀ {vs : List V} {xs : List (Int × Int)}, A2 (rep K F) vs xs → A2 (rep K F) vs (mkti xs)
  | _, _, .nil => .nil
  | _, _, .cons h t => .cons h (A2.ti t)
theorem th_ty (s : Same F H) {v : V} {t : Thing} (r : rep K F v t) : ∃ a, TyOf K H v (.type a) ∧ (a = "int" ∧ t.isPl = true ∨ a = "tuple" ∧ t.isPl = false) := by
  cases t with
  | pl i =>
    have r' : v = V.int i := r
    subst r'
    exact ⟨_, .int i, .inl ⟨rfl, rfl⟩⟩
  | ti a b =>
    obtain ⟨c, u, w, rfl, q, _⟩ := (show rep K F v (a, b) from r)
    exact ⟨_, .tup (s _ _ q), .inr ⟨rfl, rfl⟩⟩
theorem th_int (s : Same F H) {v : V} {t : Thing} (r : rep K F v t) : ∃ a, TyOf K H v (.type a) ∧ kitB a "int" = some t.isPl := by
  obtain ⟨a, h, z⟩ := th_ty s r
  rcases z with ⟨rfl, e⟩ | ⟨rfl, e⟩
  · exact ⟨_, h, by rw [e]; decide +kernel⟩
  · exact ⟨_, h, by rw [e]; decide +kernel⟩
theorem th_tuple (s : Same F H) {v : V} {t : Thing} (r : rep K F v t) : ∃ a, TyOf K H v (.type a) ∧ kitB a "tuple" = some (!t.isPl) := by
  obtain ⟨a, h, z⟩ := th_ty s r
  rcases z with ⟨rfl, e⟩ | ⟨rfl, e⟩
  · exact ⟨_, h, by rw [e]; decide +kernel⟩
  · exact ⟨_, h, by rw [e]; decide +kernel⟩
end
/-! ### dicts of scalars: as written, asked -/
section
variable {β δ : Type} {ev : β → V} {H : Hp} {a b : Addr} {P : δ → Prop} {E : Exn → Prop}
theorem pb_mget {κ : Type} [DecidableEq κ] {m : List (κ × β)} {k : κ} {f : β → R δ} (h : Post (mgetR m k >>= f) P E) : ∃ t, mget m k = some t ∧ Post (f t) P E := pb_ofO h
theorem isD_k {kvs : List (Key × V)} (e : H a = some (.dK kvs)) : IsD H a := .inl ⟨kvs, .inl e⟩
end
/-! ### tuples cut and joined -/
end Z
/-! Z7: dicts of tuple keys whose values are lists of a store; their values walked -/
namespace L2
open PySem PySem.Spec PyProof.Rows
/-- the values of the locked dict at d, of tuple keys -/
def ItdT (d : Addr) (o : Obj) (kvs : List (List Key × V)) : It :=
  ⟨fun i H => H d = some (.frz o (.dT kvs)) ∧ i < kvs.length, fun i H x H' => H' = H ∧ ∃ k, kvs[i]? = some (k, x), fun i H => H d = some (.frz o (.dT kvs)) ∧ kvs.length ≤ i⟩
section
variable {X : Cx} {pins : List (Addr × Obj)} {σ : St} {H : Hp} {s : Shared} {d : Addr} {o : Obj}
theorem Inv.frzTV {kvs : List (List Key × V)} (I : Inv X pins σ H s) (h : H d = some (.frz o (.dT kvs))) :
    (d == sysModules) = false ∧ s.heap.get? d = some o ∧ o.ExactDict ∧ ∃ (es : Array DictEntry) (ep : Nat), o.data = .dict es ep ∧ es.size = kvs.length ∧
      ∀ (i : Nat) (k : List Key) (v : V), kvs[i]? = some (k, v) → ∃ en : DictEntry, es[i]? = some en ∧ RelV v en.val := by
  obtain ⟨hd, z, hs, xs, pr, o', es, ep, ho, hx, hdt, he, _⟩ := I.hok d _ h
  rw [hd] at ho
  cases ho
  refine ⟨hs, hd, hx, es, ep, hdt, ?_, fun i k v e => ?_⟩
  · have l1 : es.size = xs.length := size_of_entries he
    have l2 : kvs.length = xs.length := Paired.length pr
    omega
  · obtain ⟨b, hb, e1, e2, e3⟩ := paired_get pr e
    have q := entry_at he i
    rw [hb] at q
    exact ⟨_, q, e3⟩
end
section
variable {P : Program} {w : World} {K : PySem.W.Frag} {tg : Expr} {d : Addr} {o : Obj} {es : Array DictEntry} {ep : Nat}
theorem turn_valsT {kvs : List (List Key × V)} (it : Addr) (hod : o.data = .dict es ep) : Turn P w K tg (ItdT d o kvs) [it] it (fun i h => h.IsValIter it d i kvs.length ep) where
  mem := by simp
  obj := fun i h st b hb => by
    have e : b = it := by simpa using hb
    subst e
    obtain ⟨oi, e, c, dd⟩ := st
    exact ⟨oi, e, fun v z => by rw [dd] at z; cases z⟩
  keep := fun i h h' st k => st.at fun oi e => k it (by simp) oi e
  item := by
    intro X hP hw hK hc i pins s σ H E I hf st hg
    subst hP hw hK
    obtain ⟨hd, hi⟩ := hg
    obtain ⟨f0, f1, f2, f3, f4, f5⟩ := hf it (by simp)
    obtain ⟨hs, hgd, hx, es', ep', hdt, hsz, ent⟩ := I.frzTV hd
    obtain ⟨rfl, rfl⟩ := dict_ep hod hdt
    obtain ⟨⟨k, v⟩, hkv⟩ : ∃ p, kvs[i]? = some p := ⟨kvs[i], List.getElem?_eq_getElem hi⟩
    obtain ⟨en, hen, ru⟩ := ent i k v hkv
    have hil : i < es'.size := by omega
    have een : es'[i] = en := by
      rw [Array.getElem?_eq_getElem hil] at hen
      exact Option.some.inj hen
    rw [← hsz] at st
    refine wpAny_pyNext_values_item_raw st ⟨o, hgd, hx, hdt⟩ hil fun h' st' sb => ?_
    have I1 : Inv X pins σ H { s with heap := h' } := I.turned (t' := s.toks) (fun b ob hb e => (sb.2 b hb).trans e) f0 f1 f3 f4 f5
    obtain ⟨oi, e, c, dd⟩ := id st'
    refine ⟨_, rfl, go_of (s := { s with heap := h' }) e c dd (by decide) ⟨v, H, I1, by rw [een]; exact ru, ⟨rfl, k, hkv⟩, ?_, fun b hb => (hf b hb).1⟩⟩
    show h'.IsValIter it d (i + 1) kvs.length _
    rw [← hsz]
    exact st'
  done := by
    intro X hP hw hK hc i pins s σ H E I hf st hg
    subst hP hw hK
    obtain ⟨hd, hi⟩ := hg
    obtain ⟨f0, f1, f2, f3, f4, f5⟩ := hf it (by simp)
    obtain ⟨hs, hgd, hx, es', ep', hdt, hsz, ent⟩ := I.frzTV hd
    obtain ⟨rfl, rfl⟩ := dict_ep hod hdt
    rw [← hsz] at st
    exact wpAny_pyNext_values_end_raw (I.ok.hd hc) st ⟨o, hgd, hx, hdt⟩ (by omega) fun h' eb => ⟨rfl, I.turned (t' := s.toks) (fun b ob hb e => eb b ob hb e) f0 f1 f3 f4 f5⟩
  self := fun A i s Q E st h => wpAny_pyIter_valiter st h
end
/-- d.values() of a dict that is locked from there on -/
def iValsT (td : TE) : TI := fun σ H R => td σ H fun x H1 => ∃ d kvs, x = .ref d ∧ H1 d = some (.dT kvs) ∧ ∀ od, R (ItdT d od kvs) (upd H1 d (.frz od (.dT kvs)))
section
variable {X : Cx} {tg e : Expr} {td : TE} {apos cpos : Pos}
theorem pi_valuesT (he : PE X e td) (hbase : attributeBase e "values" X.env (eval e X.env) = eval e X.env := by rfl) (hline : (apos.endLine == cpos.line) = true := by rfl) : PI X tg (.Call (.Attribute e "values" apos) [] [] cpos) (iValsT td) := by
  refine ⟨fun pins s σ H R I h => ?_⟩
  refine wpAny_Call_method (T := "dict") (id := "dict.values") hbase rfl hline F.plainAttrs_dict F.slot_dict_values F.type_dict_values (thn (he.run pins s σ H _ I h) fun u s1 ⟨x, H0, I0, rx, d, kvs, ex, hd0, q0⟩ => ?_)
  subst ex
  obtain rfl : u = Value.ref d := rx
  obtain ⟨od, I1⟩ := I0.lock hd0 (by exact True.intro)
  have q := q0 od
  have hd : upd H0 d (.frz od (.dT kvs)) d = some (.frz od (.dT kvs)) := upd_same
  obtain ⟨hs, hgd, hx, es, ep, hdt, hsz, ent⟩ := I1.frzTV hd
  have hm : s1.heap.DictRaw d es ep := ⟨od, hgd, hx, hdt⟩
  refine ⟨hm.typeIs, fun b hb => ?_, ?_⟩
  · cases hb
    exact ⟨od, hgd, hx.2.1⟩
  have I2 : Inv X pins σ (upd H0 d (.frz od (.dT kvs))) { s1 with heap := s1.heap.push { cls := .type "dict_values", data := .fields #[.ref d] } } := I1.kept (t' := s1.toks) fun b ob q => Heap.get?_push_of_some _ q
  have fin : wpAny (model X.prog X.w) X.A (pyIter (.ref s1.heap.objs.size)) (PIE X pins σ tg R) X.xe { s1 with heap := s1.heap.push { cls := .type "dict_values", data := .fields #[.ref d] } } := by
    refine wpAny_pyIter_values_raw (d := d) (es := es) (ep := ep) ⟨_, Heap.get?_push_size _ rfl, rfl, rfl⟩ (hm.at fun o q => Heap.get?_push_of_some _ q) (pi_one (tk := s1.toks) I2 _ (turn_valsT _ hdt) ⟨_, Heap.get?_push_size _ rfl, rfl, ?_⟩ q)
    rw [hsz] <;> rfl
  show wpAny _ _ (callWith cpos (.builtin "dict.values") [.ref d] [] []) _ X.xe s1
  exact method_meetsIn F.slot_dict_values F.entry_dict_values rfl (PySem.evalArgs_none ⟨rfl, hm.typeIs, F.args_dict_values_1 _, _, meets_dict_values_raw d hs, ⟨es, ep, hm⟩, fin⟩)
end
end L2
namespace Z
open PySem L2
open Rep (rep)
/-! ### dicts by what their values stand for -/
section
variable {κ β γ : Type} [DecidableEq κ] [DecidableEq γ] {e : κ → γ} {r r' : V → β → Prop}
inductive AD (e : κ → γ) (r : V → β → Prop) : List (γ × V) → List (κ × β) → Prop
  | nil : AD e r [] []
  | cons {k : κ} {v : V} {x : β} {kvs : List (γ × V)} {m : List (κ × β)} : r v x → AD e r kvs m → AD e r ((e k, v) :: kvs) ((k, x) :: m)
theorem AD.length : ∀ {kvs : List (γ × V)} {m : List (κ × β)}, AD e r kvs m → kvs.length = m.length
  | _, _, .nil => rfl
  | _, _, .cons _ t => by rw [List.length_cons, List.length_cons, AD.length t]
theorem AD.imp (f : ∀ v x, r v x → r' v x) : ∀ {kvs : List (γ × V)} {m : List (κ × β)}, AD e r kvs m → AD e r' kvs m
  | _, _, .nil => .nil
  | _, _, .cons h t => .cons (f _ _ h) (AD.imp f t)
theorem AD.no (he : ∀ a b, e a = e b → a = b) {k : κ} : ∀ {kvs : List (γ × V)} {m : List (κ × β)}, AD e r kvs m → (valV kvs (e k)).isSome = mhas m k
  | _, _, .nil => rfl
  | _, _, .cons (k := j) (v := v) (x := x) (kvs := kvs) (m := m) h t => by
    show _ = (decide (j = k) || mhas m k)
    by_cases q : j = k
    · rw [valV_pos (congrArg e q), decide_eq_true q]; rfl
    · rw [valV_neg (fun z => q (he _ _ z)), decide_eq_false q, AD.no he t]; rfl
theorem AD.get (he : ∀ a b, e a = e b → a = b) {k : κ} {y : β} : ∀ {kvs : List (γ × V)} {m : List (κ × β)}, AD e r kvs m → mget m k = some y → ∃ v, valV kvs (e k) = some v ∧ r v y
  | _, _, .nil, h => by cases h
  | _, _, .cons (k := j) (v := v) (x := x) (kvs := kvs) (m := m) h t, g => by
    unfold mget at g
    by_cases q : j = k
    · rw [List.find?_cons_of_pos (by simpa using q)] at g
      cases g
      exact ⟨v, valV_pos (congrArg e q), h⟩
    · rw [List.find?_cons_of_neg (by simpa using q)] at g
      obtain ⟨u, h1, h2⟩ := AD.get he (k := k) t g
      exact ⟨u, by rw [valV_neg (fun z => q (he _ _ z))]; exact h1, h2⟩
theorem AD.snoc {k : κ} {v : V} {x : β} (h : r v x) : ∀ {kvs : List (γ × V)} {m : List (κ × β)}, AD e r kvs m → AD e r (kvs ++ [(e k, v)]) (m ++ [(k, x)])
  | _, _, .nil => .cons h .nil
  | _, _, .cons a t => .cons a (AD.snoc h t)
theorem AD.upd (he : ∀ a b, e a = e b → a = b) {k : κ} {v : V} {x : β} (h : r v x) : ∀ {kvs : List (γ × V)} {m : List (κ × β)}, AD e r kvs m → AD e r (kvs.map fun p => if p.1 = e k then (p.1, v) else p) (m.map fun p => if p.1 = k then (p.1, x) else p)
  | _, _, .nil => .nil
  | _, _, .cons (k := j) (v := u) (x := y) (kvs := kvs) (m := m) a t => by
    rw [List.map_cons, List.map_cons]
    by_cases q : j = k
    · subst q
      rw [if_pos rfl, if_pos rfl]
      exact .cons h (AD.upd he h t)
    · rw [if_neg q, if_neg (fun z => q (he _ _ z))]
      exact .cons a (AD.upd he h t)
theorem AD.any (he : ∀ a b, e a = e b → a = b) {k : κ} : ∀ {kvs : List (γ × V)} {m : List (κ × β)}, AD e r kvs m → (kvs.any fun p => decide (p.1 = e k)) = m.any fun p => decide (p.1 = k)
  | _, _, .nil => rfl
  | _, _, .cons (k := j) (kvs := kvs) (m := m) a t => by
    rw [List.any_cons, List.any_cons, AD.any he t]
    congr 1
    by_cases q : j = k
    · rw [q]; simp
    · rw [decide_eq_false q, decide_eq_false (fun z => q (he _ _ z))]
theorem AD.put (he : ∀ a b, e a = e b → a = b) {k : κ} {v : V} {x : β} {kvs : List (γ × V)} {m : List (κ × β)} (t : AD e r kvs m) (h : r v x) : AD e r (putK kvs (e k) v) (mput m k x) := by
  unfold putK mput
  rw [t.any he]
  by_cases q : (m.any fun p => decide (p.1 = k)) = true
  · rw [if_pos q, if_pos q]
    exact t.upd he h
  · rw [if_neg q, if_neg q]
    exact t.snoc h
theorem AD.vals : ∀ {kvs : List (γ × V)} {m : List (κ × β)}, AD e r kvs m → ∀ {i : Nat} {k : γ} {v : V}, kvs[i]? = some (k, v) → ∃ x, (m.map (·.2))[i]? = some x ∧ r v x
  | _, _, .nil, i, k, v, h => by simp at h
  | _, _, .cons (k := j) (v := u) (x := x) a t, 0, k, v, h => by
    simp at h
    obtain ⟨_, rfl⟩ := h
    exact ⟨x, rfl, a⟩
  | _, _, .cons a t, i + 1, k, v, h => by
    obtain ⟨x, h1, h2⟩ := AD.vals t (i := i) (k := k) (v := v) (by simpa using h)
    exact ⟨x, by simpa using h1, h2⟩
end
/-- a tuple of ints as a key -/
def kT (t : Tup Int) : List Key := t.l.map Sum.inl
theorem kT_inj : ∀ a b, kT a = kT b → a = b := fun a b h => by
  have g : ∀ xs ys : List Int, (xs.map Sum.inl : List Key) = ys.map Sum.inl → xs = ys := by
    intro xs
    induction xs with
    | nil => intro ys e; cases ys <;> first | rfl | cases e
    | cons x xs ih =>
      intro ys e
      cases ys with
      | nil => cases e
      | cons y ys =>
        rw [List.map_cons, List.map_cons] at e
        injection e with e1 e2
        rw [Sum.inl.inj e1, ih ys e2]
  have : a.l = b.l := g _ _ h
  cases a
  cases b
  simp at this
  rw [this]
section
variable {K : Fg} {F H : Hp} {a b : Addr} {kvs : List (List Key × V)} {vs : List V} {t : Tup Int} {β : Type} {r : V → β → Prop} {m : List (Tup Int × β)}
theorem key_tup (s : Same F H) (q : F b = some (.tup vs)) (h : A2 (rep K F) vs t.l) : H b = some (.tup ((kT t).map kV)) := by
  have e : vs = (kT t).map kV := by
    rw [h.ints]
    unfold kT
    rw [List.map_map]
    rfl
  rw [← e]
  exact s _ _ q
theorem dgetA (e : H a = some (.dT kvs)) (eb : H b = some (.tup ((kT t).map kV))) : DGet H a (.ref b) (valV kvs (kT t)) := DGet.t e eb
theorem dgetsA {v : V} (e : H a = some (.dT kvs)) (eb : H b = some (.tup ((kT t).map kV))) (q : valV kvs (kT t) = some v) : DGet H a (.ref b) (some v) := by
  have h := dgetA (t := t) e eb
  rw [q] at h
  exact h
theorem dputA {v : V} (e : H a = some (.dT kvs)) (eb : H b = some (.tup ((kT t).map kV))) (h : AD kT r kvs m) (hl : m.length < sizeLine) : DPut H a (.ref b) v (upd H a (.dT (putK kvs (kT t) v))) := DPut.t e eb (by rw [h.length]; exact hl)
theorem tw_valsT {d : Addr} {o : Obj} (h : AD kT r kvs m) : TW (ItdT d o kvs) (m.map (·.2)) (fun H => H d = some (.frz o (.dT kvs))) (fun b H x H' => H' = H ∧ r x b) := ⟨by
  rw [List.length_map, ← h.length]
  refine ⟨fun _ _ hi q => ⟨q, hi⟩, fun _ q => ⟨q, Nat.le_refl _⟩, fun i H x H' _ _ y => ?_⟩
  obtain ⟨e, k, hk⟩ := y
  obtain ⟨b, h1, h2⟩ := h.vals hk
  exact ⟨b, h1, e, h2⟩⟩
end
end Z
/-! YK: sorted(xs, key=a def), the def known by its promise alone; its keys whole numbers -/
namespace L2
open PySem PySem.Spec PyProof.Rows PySem.W
section
variable {X : Cx} {pins : List (Addr × Obj)} {σ : St} {H : Hp} {s : Shared} {h' : Heap}
/-- where sorted's call of list.sort calls -/
def XK2 (X : Cx) : Cx := { X with A := X.A.in1.in1, xe := fun _ _ => False }
theorem Inv.to2 (I : Inv X pins σ H s) : Inv (XK2 X) pins σ H s :=
  ⟨⟨I.ok.mod, I.ok.kind, I.ok.glob, I.ok.blt, I.ok.above, I.ok.inj, I.ok.has, I.ok.cab, I.ok.hd, I.ok.frames, I.ok.stk, I.ok.exf, I.ok.bs, I.ok.bsz, I.ok.noex, I.ok.exfs, I.ok.funs, I.ok.frf⟩, I.os, I.bare, I.base, I.loc, I.cell, I.free, I.freeC, I.pin, I.hok, I.len⟩
theorem Inv.of2 (I : Inv (XK2 X) pins σ H s) : Inv X pins σ H s :=
  ⟨⟨I.ok.mod, I.ok.kind, I.ok.glob, I.ok.blt, I.ok.above, I.ok.inj, I.ok.has, I.ok.cab, I.ok.hd, I.ok.frames, I.ok.stk, I.ok.exf, I.ok.bs, I.ok.bsz, I.ok.noex, I.ok.exfs, I.ok.funs, I.ok.frf⟩, I.os, I.bare, I.base, I.loc, I.cell, I.free, I.freeC, I.pin, I.hok, I.len⟩
theorem Room.in2 {k : Nat} {A : Around} (r : Room (k + 1) A) : Room k A.in1.in1 :=
  ⟨r.hd, by have := r.dp; show A.depth + 3 * k + 5 < _; omega, by have := r.un; show A.units + 1 + 1 + 16 * k + 200 < _; omega⟩
/-- records of ours have turned, and one of them is tracked from here on -/
theorem Inv.turnedTrack {t' : Nat} {ch : List Addr} {T : Addr} {ob : HO} (I : Inv X pins σ H s) (k : ∀ b o, b ∉ ch → s.heap.get? b = some o → h'.get? b = some o) (hf : ∀ b ∈ ch, FpOk X pins H b) (hT : T ∈ ch)
    (new : ObjOk X.prog X.w (upd H T ob) h' T ob) : Inv X pins σ (upd H T ob) { s with heap := h', toks := t' } := by
  have hn : H T = none := (hf T hT).1
  have nit : ∀ b u, H b = some u → b ∉ ch := fun b u e z => by
    have q := (hf b z).1
    rw [q] at e; cases e
  refine I.step (g' := s.gens) (d' := s.drawn) (ch := ch) (fun b hb => ⟨(hf b hb).2.2.2.1, (hf b hb).2.1, (hf b hb).2.2.2.2.1, (hf b hb).2.2.2.2.2⟩) (fun b o _ _ hc e _ => k b o hc e) (fun b o _ _ hc e _ => ⟨o.slots, k b o hc e⟩)
    (fun b o hc e n => ?_) (fun b o hc e => ⟨o, k b o hc e⟩) (fun b xs e => ?_) (fun b o u e => ?_) (fun b ps e => ⟨#[], ?_⟩) (fun m hm => ?_) (fun b u e => ?_) I.bare
  · rw [upd_ne (fun z => hc (by rw [z]; exact hT))]; exact n
  · rw [upd_ne (ne_of_none e hn)]; exact e
  · rw [upd_ne (ne_of_none e hn)]; exact e
  · rw [upd_ne (ne_of_none e hn), e]; simp
  · obtain ⟨o, es, ep, ho, r⟩ := hm
    exact ⟨o, es, ep, k _ o (fun z => (hf _ z).2.1 rfl) ho, r⟩
  · by_cases hb : b = T
    · subst hb
      rw [upd_same] at e
      cases e
      exact new
    · rw [upd_ne hb] at e
      refine (I.hok b u e).stay (fun c v hc q => k c v ?_ q) (fun c q => by rw [upd_ne (ne_of_none q hn)]; exact q) fun c xs q => by rw [upd_ne (ne_of_none q hn)]; exact q
      rcases hc with z | z
      · rw [z]; exact nit b u e
      · exact nit c _ z
end
/-! ### values and what they stand for -/
theorem each_vals {β : Type} {R : V → β → Prop} : ∀ {xs : List V} {its : List Value} {bs : List β}, Vals xs its → Z.A2 R xs bs → EachIs (fun u b => ∃ x, RelV x u ∧ R x b) its bs
  | _, _, _, .nil, .nil => .nil
  | _, _, _, .cons r t, .cons h t' => .cons ⟨_, r, h⟩ (each_vals t t')
theorem each_back {β : Type} {R : V → β → Prop} : ∀ {its : List Value} {bs : List β}, EachIs (fun u b => ∃ x, RelV x u ∧ R x b) its bs → ∃ ys, Vals ys its ∧ Z.A2 R ys bs
  | _, _, .nil => ⟨[], .nil, .nil⟩
  | _, _, .cons h t => by
    obtain ⟨x, r, q⟩ := h
    obtain ⟨ys, r', q'⟩ := each_back t
    exact ⟨x :: ys, .cons r r', .cons q q'⟩
theorem each_at {α β : Type} {R : α → β → Prop} : ∀ {as : List α} {bs : List β}, EachIs R as bs → ∀ (j : Nat) (a : α), as[j]? = some a → ∃ b, bs[j]? = some b ∧ R a b
  | _, _, .nil, j, a, h => by simp at h
  | _, _, .cons h t, 0, a, e => ⟨_, rfl, by simp at e; rw [← e]; exact h⟩
  | _, _, .cons h t, j + 1, a, e => by
    obtain ⟨b, e1, e2⟩ := each_at t j a (by simpa using e)
    exact ⟨b, by simpa using e1, e2⟩
theorem le_ints {β : Type} (key : β → Int) : dataLe false (fun b => PyData.int (key b)) = fun x y => decide (key x ≤ key y) := by
  funext x y
  show (!(dataLt (PyData.int (key y)) (PyData.int (key x)))) = _
  rw [dataLt_int]
  by_cases h : key y < key x
  · rw [decide_eq_true h, decide_eq_false (by omega)]
    rfl
  · rw [decide_eq_false h, decide_eq_true (by omega)]
    rfl
section
variable {X : Cx} {pins : List (Addr × Obj)} {σ : St} {H : Hp} {s : Shared}
theorem sorted_key_run {β : Type} {k : Nat} {f : Addr} {fd : FuncData} {p0 : Str} {sp : Sp} {R : V → β → Prop} {key : β → Int} {J : Hp → Prop} {a : Addr} {xs : List V} {bs : List β} {Q : VK} {E0 : XK}
    (F : FnOk X.prog X.w X.K X.mg X.base CX0 k f fd [p0] sp) (hr : Room (k + 1) X.A) (hb : Binds X.K fd [p0] []) (I : Inv X pins σ H s) (hs : SqL X.K H a xs) (e : Z.A2 R xs bs) (hJ : J H)
    (turn : ∀ x b, b ∈ bs → R x b → ∀ H', J H' → sp [x] H' (fun v H2 => v = .int (key b) ∧ J H2) E0)
    (q : ∀ p ys H', J H' → H' p = none → Z.A2 R ys (bs.mergeSort fun x y => decide (key x ≤ key y)) → Q (.ref p) (upd H' p (.lst ys))) :
    wpAny (model X.prog X.w) X.A (call (.builtin "sorted") [.ref a] [(Str.ofString "key", .ref f)]) (EP X pins σ Q) X.xe s := by
  obtain ⟨its, rv, hl, hz⟩ := I.list hs
  have hzi : its.length ≤ sizeLine := by rw [← rv.length]; exact hz
  have el : EachIs (fun u b => ∃ x, RelV x u ∧ R x b) its bs := each_vals rv e
  have hlen : its.length = bs.length := el.length
  refine sorted_of_sort hl.isList hzi (ksk_s1 _ _) (fun _ => ksk_l1 _ _) fun E' => ?_
  rw [ksk_t1]
  obtain ⟨h0, eh0⟩ : ∃ h0, h0 = copyHeap s.heap its := ⟨_, rfl⟩
  obtain ⟨a', ea'⟩ : ∃ a', a' = s.heap.objs.size + 1 := ⟨_, rfl⟩
  have ho : h0.get? a' = some (seqObj "list" its.toArray 0) := by rw [eh0, ea']; exact copyHeap_at s.heap its
  have hold : ∀ b o, s.heap.get? b = some o → h0.get? b = some o := fun b o q => by rw [eh0]; exact copyHeap_old q
  rw [← eh0, ← ea']
  obtain ⟨e1, ho1⟩ : ∃ e1, (h0.update a' (Obj.mapSeq fun _ => (#[] : Array Value))).get? a' = some (seqObj "list" #[] e1) := ⟨_, get?_update_seq ho fun _ => #[]⟩
  have hkS : ((h0.update a' (Obj.mapSeq fun _ => (#[] : Array Value))).push (seqObj "tuple" its.toArray 0)).objs.size = h0.objs.size + 1 := by rw [size_push', Heap.size_update]
  have ha0 : a' < h0.objs.size := Heap.lt_size ho
  have hs0 : s.heap.objs.size ≤ a' := by rw [ea']; exact Nat.le_succ _
  obtain ⟨kS, ekS⟩ : ∃ kS, kS = ((h0.update a' (Obj.mapSeq fun _ => (#[] : Array Value))).push (seqObj "tuple" its.toArray 0)).objs.size := ⟨_, rfl⟩
  have hka : kS ≠ a' := by rw [ekS, hkS]; exact Nat.ne_of_gt (Nat.lt_succ_of_lt ha0)
  have hsk : s.heap.objs.size ≤ kS := by rw [ekS, hkS]; omega
  unfold ksk_tree
  refine wpAny_bind (listItems_at ho rfl ?_)
  refine wpAny_bind (listUpdate_at ho rfl ?_ (by rw [List.size_toArray]; exact hzi) (Nat.zero_le _))
  refine wpAny_bind (seqEpoch_at ho1 rfl ?_)
  refine wpAny_bind (wpAny_newTuple ?_ (by show its.length ≤ _; exact hzi))
  refine wpAny_bind (wpAny_newList ?_ (Nat.zero_le _))
  refine wpAny_holding ?_
  have hold2 : ∀ b o, s.heap.get? b = some o → (((h0.update a' (Obj.mapSeq fun _ => (#[] : Array Value))).push (seqObj "tuple" its.toArray 0)).push (seqObj "list" #[] 0)).get? b = some o := fun b o q =>
    Heap.get?_push_of_some _ (Heap.get?_push_of_some _ ((Heap.get?_update_ne _ _ _ _ (Nat.ne_of_lt (Nat.lt_of_lt_of_le (Heap.lt_size q) hs0))).trans (hold b o q)))
  have I1 : Inv (XK2 X) pins σ H { s with heap := ((h0.update a' (Obj.mapSeq fun _ => (#[] : Array Value))).push (seqObj "tuple" its.toArray 0)).push (seqObj "list" #[] 0) } := (I.kept (t' := s.toks) hold2).to2
  have na : ∀ {H' : Hp}, H' a' = none → FpOk (XK2 X) pins H' a' := fun hn => I.to2.fpOk hs0 hn
  have nk : ∀ {H' : Hp}, H' kS = none → FpOk (XK2 X) pins H' kS := fun hn => I.to2.fpOk hsk hn
  have hHa : H a' = none := I.hok.fresh hs0
  have hHk : H kS = none := I.hok.fresh hsk
  have gk : (((h0.update a' (Obj.mapSeq fun _ => (#[] : Array Value))).push (seqObj "tuple" its.toArray 0)).push (seqObj "list" #[] 0)).get? kS = some (seqObj "list" #[] 0) := by rw [ekS]; exact Heap.get?_push_size _ rfl
  have ga : (((h0.update a' (Obj.mapSeq fun _ => (#[] : Array Value))).push (seqObj "tuple" its.toArray 0)).push (seqObj "list" #[] 0)).get? a' = some (seqObj "list" #[] e1) := Heap.get?_push_of_some _ (Heap.get?_push_of_some _ ho1)
  rw [← ekS]
  unfold ksk_rest
  refine wpAny_bind (wpAny_rule ?_)
  first
    | rw [List.forIn_toArray]
    | (rw [← Array.forIn_toList]; simp only [List.toList_toArray])
    | rw [← Array.forIn_toList]
  refine wpAny_bind (ksk_fold (fun i s' => ∃ H' kA ek, Inv (XK2 X) (pins ++ [(a', seqObj "list" #[] e1), (kS, seqObj "list" kA ek)]) σ H' s' ∧ J H' ∧ EachIs (fun (v : Value) (n : PyData) => ∃ m t, v = Value.int m t ∧ n = PyData.int m) kA.toList ((bs.map fun b => PyData.int (key b)).take i)) its 0 _
    ⟨H, #[], 0, I1.pins_of fun p hp => ?start, hJ, by rw [List.take_zero]; exact EachIs.nil⟩ ?step ?done)
  case start =>
    rcases List.mem_append.mp hp with hp | hp
    · exact I1.pin p (List.mem_append_right _ hp)
    · rcases List.mem_cons.mp hp with rfl | hp
      · exact ⟨ga, hHa, (na hHa).2.1, (na hHa).2.2.1, fun v h => by cases h⟩
      · rcases List.mem_cons.mp hp with rfl | hp
        · exact ⟨gk, hHk, (nk hHk).2.1, (nk hHk).2.2.1, fun v h => by cases h⟩
        · cases hp
  case step =>
    rintro j v s' hx ⟨H', kA, ek, I', j', hk⟩
    simp only [Nat.zero_add] at hk ⊢
    obtain ⟨b, ej, x, rx, rb⟩ := each_at el j v hx
    have hj : j < its.length := (List.getElem?_eq_some_iff.mp hx).1
    have hzk : kA.size ≤ its.length := by
      have h1 := hk.length
      rw [Array.length_toList, List.length_take, List.length_map] at h1
      omega
    have ht := turn x b (List.mem_of_getElem? ej) rb H' j'
    refine wpAny_bind (wpAny_attempt (wpAny_mono (run_fn (X := XK2 X) (dvs := []) (ds := []) (us := [v]) (vs := [x]) (E := E0) F hr.in2 hb .nil pass0 I' (.cons rx .nil) ht) (fun u s'' he => ?_) fun _ _ hF => hF.elim))
    obtain ⟨y, H2, I2, ry, ey, j2⟩ := he
    subst ey
    obtain ⟨t, rfl⟩ := ry
    try dsimp only
    have pk2 := I2.pin (kS, seqObj "list" kA ek) (List.mem_append_right _ (List.mem_append_right _ (.tail _ (.head _))))
    have pa2 := I2.pin (a', seqObj "list" #[] e1) (List.mem_append_right _ (List.mem_append_right _ (.head _)))
    obtain ⟨c2, hc2⟩ : ∃ c2, (s''.heap.update kS (Obj.mapSeq (·.push (Value.int (key b) t)))).get? kS = some (seqObj "list" (kA.push (Value.int (key b) t)) c2) := ⟨_, get?_update_seq pk2.1 (·.push _)⟩
    have ekk : (bs.map fun b => PyData.int (key b)).take (j + 1) = (bs.map fun b => PyData.int (key b)).take j ++ [PyData.int (key b)] := by
      rw [List.take_add_one, List.getElem?_map, ej]
      rfl
    have ea : (kA.push (Value.int (key b) t)).toList = kA.toList ++ [Value.int (key b) t] := by simp
    refine wpAny_bind (listUpdate_at pk2.1 rfl ?_ (Nat.le_trans hzk hzi) (Nat.le_trans (Nat.le_of_eq (Array.size_push ..)) (Nat.succ_le_succ (Nat.le_trans hzk hzi))))
    have I3 : Inv (XK2 X) (pins ++ [(a', seqObj "list" #[] e1)]) σ H2 s'' := I2.pins_of fun p hp => I2.pin p (List.mem_append_right _ (by
      rcases List.mem_append.mp hp with hp | hp
      · exact List.mem_append_left _ hp
      · rcases List.mem_cons.mp hp with rfl | hp
        · exact List.mem_append_right _ (.head _)
        · cases hp))
    obtain ⟨f0, f1, f2, f3, f4, f5⟩ := nk pk2.2.1
    have I4 := I3.turned (it := kS) (h' := s''.heap.update kS (Obj.mapSeq (·.push (Value.int (key b) t)))) (t' := s''.toks) (fun b o hb q => (Heap.get?_update_ne _ _ _ _ hb).trans q) f0 f1 f3 f4 (fun p hp => by
      rcases List.mem_append.mp hp with hp | hp
      · exact f5 p (List.mem_append_left _ hp)
      · rcases List.mem_append.mp hp with hp | hp
        · exact f5 p (List.mem_append_right _ hp)
        · rcases List.mem_cons.mp hp with rfl | hp
          · exact hka.symm
          · cases hp)
    refine wpAny_pure ⟨rfl, H2, kA.push (Value.int (key b) t), c2, I4.pins_of fun p hp => ?_, j2, ?_⟩
    · rcases List.mem_append.mp hp with hp | hp
      · exact I4.pin p (List.mem_append_right _ (List.mem_append_left _ hp))
      · rcases List.mem_cons.mp hp with rfl | hp
        · exact I4.pin _ (List.mem_append_right _ (List.mem_append_right _ (.head _)))
        · rcases List.mem_cons.mp hp with rfl | hp
          · exact ⟨hc2, f0, f1, f2, fun v h => by cases h⟩
          · cases hp
    · rw [ea, ekk]
      exact each_snoc ⟨key b, t, rfl, rfl⟩ hk
  case done =>
    rintro s' ⟨H', kA, ek, I', j', hk⟩
    have e3 : (bs.map fun b => PyData.int (key b)).take (0 + its.length) = bs.map fun b => PyData.int (key b) := List.take_of_length_le (by rw [List.length_map]; omega)
    rw [e3] at hk
    have hk' : EachIs (fun v d => ∃ as, Reads s'.heap v d as) kA.toList (bs.map fun b => PyData.int (key b)) := hk.mono fun v d ⟨m, t, e1, e2⟩ => by
      subst e1 e2
      exact ⟨[], .int m t⟩
    have hsz : kA.size = its.length := by
      have h1 := hk'.length
      rw [Array.length_toList, List.length_map] at h1
      omega
    have pk2 := I'.pin (kS, seqObj "list" kA ek) (List.mem_append_right _ (List.mem_append_right _ (.tail _ (.head _))))
    have pa2 := I'.pin (a', seqObj "list" #[] e1) (List.mem_append_right _ (List.mem_append_right _ (.head _)))
    have hal : AllAlike (bs.map fun b => PyData.int (key b)) := AllAlike.of fun _ _ => by simp only [alike]
    have hso : Sortable (bs.map fun b => PyData.int (key b)) := .inr fun d hd => by
      obtain ⟨b, _, rfl⟩ := List.mem_map.mp hd
      exact ⟨fun z => (by cases z), fun _ z => (by cases z)⟩
    have hu : ∀ d, d ∈ (bs.map fun b => PyData.int (key b)) → X.A.in1.in1.units + d.depth < cLine := fun d hd => by
      obtain ⟨b, _, rfl⟩ := List.mem_map.mp hd
      have := hr.un
      simp only [PyData.depth]
      show X.A.units + 1 + 1 + _ < _
      omega
    obtain ⟨G, g1, g2⟩ := restrict s'.heap fun b => decide (b ≠ kS)
    have gk : ∀ b o, G.get? b = some o → s'.heap.get? b = some o := fun b o q => by
      by_cases hb : b = kS
      · rw [hb, g2 kS (decide_eq_false fun z => z rfl)] at q
        cases q
      · rw [← g1 b (decide_eq_true hb)]
        exact q
    try dsimp only
    refine wpAny_bind (listItems_at pk2.1 rfl ?_)
    refine keyH_end (κ := dataKind s'.heap (bs.map fun b => PyData.int (key b))) (h₁ := G) (fun b o _ q => gk b o q) (g2 kS (decide_eq_false fun z => z rfl)) pk2.1 pa2.1 hka (SortsAt.data hk' hal hso hu) hsz hzi fun h3 tk3 c kb hn => ⟨rfl, ?_⟩
    have el2 := keyedOut_each (rev := false) (fun b => PyData.int (key b)) (⟨s'.heap, kA.toList, hal, rfl, hk'⟩ : KeyedOut false (bs.map fun b => PyData.int (key b)) its _) el
    rw [le_ints] at el2
    obtain ⟨ys, ry, ay⟩ := each_back el2
    have hyl : ys.length ≤ sizeLine := by
      rw [ry.length, el2.length, List.length_mergeSort, ← hlen]
      exact hzi
    have I5 : Inv X pins σ H' s' := I'.of2.unpinned
    refine ⟨.ref a', upd H' a' (.lst ys), I5.turnedTrack (ch := [a', kS]) (t' := tk3) (fun b o hb q => ?_) (fun b hb => ?_) (.head _) ⟨hyl, _, c, ry, hn⟩, rfl, q a' ys H' j' pa2.2.1 ay⟩
    · refine kb b o (fun z => hb (by simp [z])) ?_
      rw [g1 b (decide_eq_true fun z => hb (by simp [z]))]
      exact q
    · rcases List.mem_cons.mp hb with rfl | hb
      · exact na pa2.2.1
      · rcases List.mem_cons.mp hb with rfl | hb
        · exact nk pk2.2.1
        · cases hb
/-- sorted(xs, key=f) of a def f: what is wanted -/
def rSortedX (sp : Sp) (K : PySem.W.Frag) (vs : List V) (H : Hp) (Q : VK) : Prop := ∃ (β : Type) (R : V → β → Prop) (key : β → Int) (J : Hp → Prop) (a : Addr) (xs : List V) (bs : List β), vs = [V.ref a] ∧ SqL K H a xs ∧ Z.A2 R xs bs ∧ J H ∧
  (∀ x b, b ∈ bs → R x b → ∀ H', J H' → sp [x] H' (fun v H2 => v = .int (key b) ∧ J H2) (fun _ _ _ => False)) ∧
  ∀ p ys H', J H' → H' p = none → Z.A2 R ys (bs.mergeSort fun x y => decide (key x ≤ key y)) → Q (.ref p) (upd H' p (.lst ys))
def rSortedF (f : Addr) (sp : Sp) (K : PySem.W.Frag) : List V → List V → Hp → VK → Prop := fun vs zs H Q => zs = [V.ref f] ∧ rSortedX sp K vs H Q
theorem cr_sortedF {k : Nat} {f : Addr} {fd : FuncData} {p0 : Str} {sp : Sp} (F : FnOk X.prog X.w X.K X.mg X.base CX0 k f fd [p0] sp) (hr : Room (k + 1) X.A) (hb : Binds X.K fd [p0] []) :
    CallRK X (.builtin "sorted") [Str.ofString "key"] (rSortedF f sp X.K) := by
  intro pins s σ H vs zs us ws Q I r rz h
  obtain ⟨rfl, β, R, key, J, a, xs, bs, rfl, hs, e, hJ, turn, q⟩ := h
  obtain rfl := Vals.ref1 r
  obtain ⟨w1, rfl, e1⟩ := vals1 rz
  obtain rfl : w1 = Value.ref f := e1
  exact sorted_key_run F hr hb I hs e hJ turn q
theorem cr_sortedFK {K : PySem.W.Frag} (hK : X.K = K) {k : Nat} {f : Addr} {fd : FuncData} {p0 : Str} {sp : Sp} (F : FnOk X.prog X.w X.K X.mg X.base CX0 k f fd [p0] sp) (hr : Room (k + 1) X.A) (hb : Binds X.K fd [p0] []) :
    CallRK X (.builtin "sorted") [Str.ofString "key"] (rSortedF f sp K) := by
  subst hK
  exact cr_sortedF F hr hb
end
end L2
namespace Z
open PySem PySem.Spec PyProof.Rows L2
open Rep (rep)
section
variable {α β : Type}
def okI (r : R Int) : Int := match r with
  | .ok n => n
  | _ => 0
def isOk (r : R β) : Bool := match r with
  | .ok _ => true
  | _ => false
/-- sorted(xs, key=f) -/
def sortBy (f : α → R Int) (xs : List α) : List α := xs.mergeSort fun x y => decide (okI (f x) ≤ okI (f y))
def sortByR (f : α → R Int) (xs : List α) : R (List α) := if (xs.all fun x => isOk (f x)) = true then .ok (sortBy f xs) else .bad
theorem pb_sortBy {f : α → R Int} {xs : List α} {k : List α → R β} {Q : β → Prop} {E : Exn → Prop} (h : Post (sortByR f xs >>= k) Q E) : (∀ b ∈ xs, f b = .ok (okI (f b))) ∧ Post (k (sortBy f xs)) Q E := by
  unfold sortByR at h
  by_cases c : (xs.all fun x => isOk (f x)) = true
  · rw [if_pos c] at h
    refine ⟨fun b hb => ?_, h⟩
    have q := List.all_eq_true.mp c b hb
    cases e : f b with
    | ok n => rfl
    | exc z => rw [e] at q; cases q
    | bad => rw [e] at q; cases q
  · rw [if_neg c] at h
    exact (show False from h).elim
theorem sortByR_ok {f : α → R Int} {xs : List α} {g : α → Int} (h : ∀ b ∈ xs, f b = .ok (g b)) : sortByR f xs = .ok (xs.mergeSort fun x y => decide (okI (f x) ≤ okI (f y))) := by
  unfold sortByR
  rw [if_pos (List.all_eq_true.mpr fun b hb => by rw [h b hb]; rfl)]
  rfl
theorem key_ok {α : Type} [Rep α] {K : Fg} {sp : Sp} {F H : Hp} {os : List (Addr × HO)} {a : Addr} {us : List V} {xs : List α} {f : α → R Int} {Q : VK}
    (w : W F H os) (hs : SqL K H a us) (hA : A2 (rep K F) us xs) (hf : ∀ b ∈ xs, f b = .ok (okI (f b)))
    (hsp : ∀ (x : V) (b : α) (F' H' : Hp) (Q' : VK), W F' H' os → rep K F' x b → Post (f b) (Ret K F' os Q') noX → sp [x] H' Q' (fun _ _ _ => False))
    (q : ∀ p ys F' H', W F' H' os → Same F F' → H' p = none → A2 (rep K F') ys (sortBy f xs) → Q (.ref p) (upd H' p (.lst ys))) :
    rSortedX sp K [V.ref a] H Q := by
  refine ⟨α, rep K F, fun b => okI (f b), fun H' => ∃ F', W F' H' os ∧ Same F F', a, us, xs, rfl, hs, hA, ⟨F, w, Same.refl _⟩, ?_, ?_⟩
  · rintro x b hb r H' ⟨F', w', s'⟩
    refine hsp x b F' H' _ w' (Rep.mono s' r) ?_
    rw [hf b hb]
    show Ret K F' os _ _
    intro v F2 H2 w2 s2 r2
    exact ⟨r2, F2, w2, s'.trans s2⟩
  · rintro p ys H' ⟨F', w', s'⟩ n h
    exact q p ys F' H' w' s' n (A2.imp (fun _ _ r => Rep.mono s' r) h)
end
end Z
namespace Z
open PySem L2
open Rep (rep)
/-- a while by its fuel, whose turn may end the whole with a value (inl), or the loop alone (inr (false, ..)) -/
def whileXR {γ ρ : Type} (c : γ → R Bool) (b : γ → R (Sum ρ (Bool × γ))) : Nat → γ → R (Sum ρ γ)
  | 0, _ => .bad
  | n + 1, s => c s >>= fun t => if t = true then b s >>= fun r =>
    match r with
    | .inl z => .ok (.inl z)
    | .inr (true, s') => whileXR c b n s'
    | .inr (false, s') => .ok (.inr s')
    else .ok (.inr s)
section
variable {γ δ ρ : Type} {P : δ → Prop} {X : Exn → Prop} {tc : TT} {tb : TS} {D : Ends} {σ : St} {H : Hp}
theorem whileX {c : γ → R Bool} {b : γ → R (Sum ρ (Bool × γ))} {n : Nat} {s0 : γ} {k : Sum ρ γ → R δ} (hm : Post (whileXR c b n s0 >>= k) P X) (I : γ → St → Hp → Prop) (h0 : I s0 σ H)
    (hc : ∀ (g : γ) (σ : St) (H : Hp) (Q' : Bool → Hp → Prop) (P' : Bool → Prop), I g σ H → (∀ t, P' t → ∀ H', I g σ H' → Q' t H') → Post (c g) P' X → tc σ H Q')
    (hs : ∀ (g : γ) (σ : St) (H : Hp) (N B : St → Hp → Prop) (P' : Sum ρ (Bool × γ) → Prop), I g σ H → (∀ g', P' (.inr (true, g')) → ∀ σ' H', I g' σ' H' → N σ' H') → (∀ g', P' (.inr (false, g')) → ∀ σ' H', I g' σ' H' → B σ' H') →
      (∀ z, P' (.inl z) → Post (k (.inl z)) P X) → Post (b g) P' X → tb { D with nx := N, ct := N, bk := B } σ H)
    (hd : ∀ g σ H, I g σ H → Post (k (.inr g)) P X → D.nx σ H) : tWhile tc tb D σ H := by
  refine ⟨fun m σ H => ∃ g, I g σ H ∧ Post (whileXR c b m g >>= k) P X, ⟨n, s0, h0, hm⟩, ?_⟩
  rintro m σ H ⟨g, h, hm⟩
  cases m with
  | zero => exact (show False from hm).elim
  | succ m =>
    have hm' : Post ((c g >>= fun t => if t = true then b g >>= fun r => (match r with
      | .inl z => (R.ok (.inl z) : R (Sum ρ γ))
      | .inr (true, s') => whileXR c b m s'
      | .inr (false, s') => R.ok (.inr s')) else R.ok (.inr g)) >>= k) P X := hm
    rw [bind_bind] at hm'
    refine hc g σ H _ _ h (fun t p H' h' => ?_) (post_bind hm')
    cases t with
    | false => exact iteF (hd g σ H' h' p)
    | true =>
      refine iteT ?_
      have p' : Post ((b g >>= fun r => (match r with
        | .inl z => (R.ok (.inl z) : R (Sum ρ γ))
        | .inr (true, s') => whileXR c b m s'
        | .inr (false, s') => R.ok (.inr s'))) >>= k) P X := p
      rw [bind_bind] at p'
      exact ⟨fun σ' H' => ∃ g', I g' σ' H' ∧ Post (whileXR c b m g' >>= k) P X, fun σ' H' ⟨g', h1, h2⟩ => ⟨m, Nat.lt_succ_self m, g', h1, h2⟩, hs g σ H' _ _ _ h' (fun g' p2 σ' H' h2 => ⟨g', h2, p2⟩) (fun g' p2 σ' H' h2 => hd g' σ' H' h2 p2) (fun z p2 => p2) (post_bind p')⟩
/-- a while that never leaves: an invariant, a measure -/
theorem po_whileX {X : Exn → Prop} {c : γ → R Bool} {b : γ → R (Sum ρ (Bool × γ))} {T : γ → Prop} (I : γ → Prop) (μ : γ → Nat)
    (hs : ∀ s, I s → Post (c s) (fun t => (t = true → Post (b s) (fun r => ∃ s', r = .inr (true, s') ∧ I s' ∧ μ s' < μ s) X) ∧ (t = false → T s)) X) : ∀ {n : Nat} {s : γ}, I s → μ s < n → Post (whileXR c b n s) (fun r => ∃ s', r = .inr s' ∧ T s') X
  | 0, s, _, h => absurd h (Nat.not_lt_zero _)
  | n + 1, s, hi, h => by
    show Post (c s >>= fun t => if t = true then b s >>= fun r => (match r with
      | .inl z => (R.ok (.inl z) : R (Sum ρ γ))
      | .inr (true, s') => whileXR c b n s'
      | .inr (false, s') => R.ok (.inr s')) else R.ok (.inr s)) _ X
    have h0 := hs s hi
    cases e : c s with
    | bad => rw [e] at h0; exact h0.elim
    | exc z => rw [e] at h0; exact h0
    | ok t =>
      rw [e] at h0
      obtain ⟨h1, h2⟩ := h0
      cases t with
      | false => exact ⟨s, rfl, h2 rfl⟩
      | true =>
        show Post (b s >>= fun r => (match r with
          | .inl z => (R.ok (.inl z) : R (Sum ρ γ))
          | .inr (true, s') => whileXR c b n s'
          | .inr (false, s') => R.ok (.inr s'))) _ X
        have h3 := h1 rfl
        cases e2 : b s with
        | bad => rw [e2] at h3; exact h3.elim
        | exc z => rw [e2] at h3; exact h3
        | ok r =>
          rw [e2] at h3
          obtain ⟨s', rfl, a, d⟩ := h3
          exact po_whileX I μ hs a (by omega)
end
end Z
/-! ZB: dicts of whole numbers whose values are lists of a store; their values walked -/
namespace L2
open PySem PySem.Spec PyProof.Rows
end L2
namespace Z
open PySem L2
open Rep (rep)
def kK (n : Int) : Key := Sum.inl n
theorem kK_inj : ∀ a b, kK a = kK b → a = b := fun _ _ h => Sum.inl.inj h
section
variable {H : Hp} {a : Addr} {kvs : List (Key × V)} {n : Int} {β : Type} {r : V → β → Prop} {m : List (Int × β)}
theorem dgetI (e : H a = some (.dK kvs)) : DGet H a (.int n) (valV kvs (kK n)) := DGet.k (k := kK n) e
theorem dgetsI {v : V} (e : H a = some (.dK kvs)) (q : valV kvs (kK n) = some v) : DGet H a (.int n) (some v) := by
  have h := dgetI (n := n) e
  rw [q] at h
  exact h
end
end Z
/-! ZF: dicts of tuple keys: setdefault, what is walked of them (keys, pairs), values of any kind -/
namespace L2
open PySem PySem.Spec PyProof.Rows
theorem upd_id {H : Hp} {a : Addr} {o : HO} (h : H a = some o) : upd H a o = H := by
  funext b
  by_cases e : b = a
  · rw [e, upd_same, h]
  · rw [upd_ne e]
/-! ### the pairs of a locked dict -/
end L2
namespace Z
open PySem L2
open Rep (rep)
section
variable {κ β : Type} [DecidableEq κ]
def msetd (m : List (κ × β)) (k : κ) (v : β) : List (κ × β) := if mhas m k = true then m else mput m k v
def msetdR (m : List (κ × β)) (k : κ) (v : β) : R (List (κ × β)) := if m.length < 100000 then .ok (msetd m k v) else .bad
theorem pn_msetd {δ : Type} {m : List (κ × β)} {k : κ} {v : β} {f : List (κ × β) → R δ} {P : δ → Prop} {E : Exn → Prop} (h : Post (msetdR m k v >>= f) P E) : ∃ m', m.length < sizeLine ∧ m' = msetd m k v ∧ Post (f m') P E := by
  unfold msetdR at h
  by_cases hl : m.length < 100000
  · rw [if_pos hl] at h
    exact ⟨_, by rw [sizeLine_eq]; omega, rfl, h⟩
  · rw [if_neg hl] at h
    exact (show False from h).elim
theorem po_msetd {δ : Type} {m : List (κ × β)} {k : κ} {v : β} {f : List (κ × β) → R δ} {S : δ → Prop} {X : Exn → Prop} (h : m.length < 100000) (hk : Post (f (msetd m k v)) S X) : Post (msetdR m k v >>= f) S X := by
  unfold msetdR
  rw [if_pos h]
  exact hk
end
end Z
/-! YF: d.setdefault(k, x), the key a tuple, its answer kept -/
namespace L2
open PySem PySem.Spec PyProof.Rows
end L2
namespace Z
open PySem L2 PySem.Spec PyProof.Rows
open Rep (rep)
end Z
/-! ZE: tuples item by item (Nt), objects of an own class (Oj), trees of tuples (Tr) -/
namespace Z
open PySem L2 PySem.Spec PyProof.Rows
open Rep (rep)
class RepL (α : Type) where
  repTs : Fg → Hp → List V → α → Prop
  mono : ∀ {K : Fg} {H H' : Hp} {vs : List V} {x : α}, Same H H' → repTs K H vs x → repTs K H' vs x
open RepL (repTs)
instance repLU : RepL Unit := ⟨fun _ _ vs _ => vs = [], fun _ h => h⟩
instance repLP {α β : Type} [Rep α] [RepL β] : RepL (α × β) := ⟨fun K H vs x => ∃ v us, vs = v :: us ∧ rep K H v x.1 ∧ repTs K H us x.2, fun s ⟨v, us, e, h1, h2⟩ => ⟨v, us, e, Rep.mono s h1, RepL.mono s h2⟩⟩
/-- a tuple, item by item -/
structure Nt (α : Type) where
  v : α
  deriving DecidableEq
instance decNtL {α : Type} [DecidableEq α] : DecidableEq (List (Nt α)) := inferInstance
instance repNt {α : Type} [RepL α] : Rep (Nt α) := ⟨fun K H v x => ∃ a vs, v = .ref a ∧ H a = some (.tup vs) ∧ repTs K H vs x.v, fun s ⟨a, vs, e, q, h⟩ => ⟨a, vs, e, s _ _ q, RepL.mono s h⟩⟩
section
variable {α β γ δ : Type} [Rep α] [Rep β] [Rep γ] [Rep δ] {K : Fg} {H H' : Hp} {v u1 u2 u3 u4 : V} {a : Addr}
theorem nt3 {x : Nt (α × β × γ × Unit)} (h : rep K H v x) : ∃ a u1 u2 u3, v = .ref a ∧ H a = some (.tup [u1, u2, u3]) ∧ rep K H u1 x.v.1 ∧ rep K H u2 x.v.2.1 ∧ rep K H u3 x.v.2.2.1 := by
  obtain ⟨a, vs, e, q, u1, _, rfl, h1, u2, _, rfl, h2, u3, _, rfl, h3, rfl⟩ := h
  exact ⟨a, u1, u2, u3, e, q, h1, h2, h3⟩
theorem nt2 {x : Nt (α × β × Unit)} (h : rep K H v x) : ∃ a u1 u2, v = .ref a ∧ H a = some (.tup [u1, u2]) ∧ rep K H u1 x.v.1 ∧ rep K H u2 x.v.2.1 := by
  obtain ⟨a, vs, e, q, u1, _, rfl, h1, u2, _, rfl, h2, rfl⟩ := h
  exact ⟨a, u1, u2, e, q, h1, h2⟩
theorem rep_nt2 {x1 : α} {x2 : β} (q : H a = some (.tup [u1, u2])) (h1 : rep K H u1 x1) (h2 : rep K H u2 x2) : rep K H (.ref a) (⟨(x1, x2, ())⟩ : Nt (α × β × Unit)) := ⟨a, _, rfl, q, u1, _, rfl, h1, u2, _, rfl, h2, rfl⟩
theorem rep_nt3 {x1 : α} {x2 : β} {x3 : γ} (q : H a = some (.tup [u1, u2, u3])) (h1 : rep K H u1 x1) (h2 : rep K H u2 x2) (h3 : rep K H u3 x3) : rep K H (.ref a) (⟨(x1, x2, x3, ())⟩ : Nt (α × β × γ × Unit)) := ⟨a, _, rfl, q, u1, _, rfl, h1, u2, _, rfl, h2, u3, _, rfl, h3, rfl⟩
end
/-! ### as data -/
class DatL (α : Type) extends RepL α where
  toDs : α → List PyData
  dmaxL : Nat
  dpL : ∀ {K : Fg} {H : Hp} {vs : List V} {x : α}, repTs K H vs x → DpAll K H vs (toDs x)
  layL : ∀ x : α, PyData.canLayAll0 (toDs x) = true
  depL : ∀ x : α, PyData.depthAll (toDs x) ≤ dmaxL
  eqvL : ∀ x y : α, PyData.eqvAll (toDs x) (toDs y) = true ↔ x = y
instance datLU : DatL Unit where
  toDs := fun _ => []
  dmaxL := 0
  dpL := fun h => by
    have h' : _ = [] := h
    subst h'
    exact .nil
  layL := fun _ => by simp only [PyData.canLayAll0]
  depL := fun _ => by simp only [PyData.depthAll, Nat.le_refl]
  eqvL := fun _ _ => by simp [PyData.eqvAll]
instance datLP {α β : Type} [Dat α] [DatL β] : DatL (α × β) where
  toDs := fun x => Dat.toD x.1 :: DatL.toDs x.2
  dmaxL := max (Dat.dmax α) (DatL.dmaxL β)
  dpL := fun {K H vs x} h => by
    obtain ⟨v, us, rfl, h1, h2⟩ := h
    exact .cons (Dat.dp h1) (DatL.dpL h2)
  layL := fun x => by simp only [PyData.canLayAll0, Dat.lay, DatL.layL, Bool.and_true]
  depL := fun x => by
    have h1 := Dat.dep x.1
    have h2 := DatL.depL x.2
    simp only [PyData.depthAll]
    omega
  eqvL := fun x y => by
    obtain ⟨x1, x2⟩ := x
    obtain ⟨y1, y2⟩ := y
    simp only [PyData.eqvAll, Bool.and_eq_true, Dat.eqv, DatL.eqvL, Prod.mk.injEq]
instance datNt {α : Type} [DatL α] : Dat (Nt α) where
  toD := fun x => .tuple (DatL.toDs x.v)
  dmax := DatL.dmaxL α + 1
  dp := fun {K H v x} h => by
    obtain ⟨a, vs, rfl, q, h⟩ := h
    exact .tup (SqT.of q) (DatL.dpL h)
  lay := fun x => by
    simp only [PyData.canLay0]
    exact DatL.layL x.v
  dep := fun x => by
    have h := DatL.depL x.v
    simp only [PyData.depth]
    omega
  eqv := fun x y => by
    obtain ⟨x⟩ := x
    obtain ⟨y⟩ := y
    simp only [PyData.eqv, Nt.mk.injEq]
    exact DatL.eqvL x y
/-! ### objects of an own class -/
def mkfs (fs : List Str) (us : List V) : List (Str × V) := (fs.zip us).foldl (fun l p => putF p.1 p.2 l) []
structure Oj (nm : Str) (fs : List Str) (α : Type) where
  v : α
instance repOj {nm : Str} {fs : List Str} {α : Type} [RepL α] : Rep (Oj nm fs α) := ⟨fun K H v x => ∃ a C dx us, v = .ref a ∧ Nm K nm C ∧ H a = some (.ins C dx (mkfs fs us)) ∧ repTs K H us x.v, fun s ⟨a, C, dx, us, e, n, q, h⟩ => ⟨a, C, dx, us, e, n, s _ _ q, RepL.mono s h⟩⟩
/-! ### trees: (a thing, a thing, a tuple of trees) -/
inductive Tr where
  | n (a b : Thing) (ts : List Tr)
def Tr.a : Tr → Thing
  | .n a _ _ => a
def Tr.b : Tr → Thing
  | .n _ b _ => b
def Tr.ts : Tr → List Tr
  | .n _ _ ts => ts
mutual
def trRep (K : Fg) (H : Hp) : Tr → V → Prop
  | .n a b ts, v => ∃ p u w q vs, v = .ref p ∧ H p = some (.tup [u, w, .ref q]) ∧ rep K H u a ∧ rep K H w b ∧ H q = some (.tup vs) ∧ trsRep K H ts vs
def trsRep (K : Fg) (H : Hp) : List Tr → List V → Prop
  | [], vs => vs = []
  | t :: ts, vs => ∃ v us, vs = v :: us ∧ trRep K H t v ∧ trsRep K H ts us
end
mutual
theorem trRep_mono {K : Fg} {H H' : Hp} (s : Same H H') : ∀ (t : Tr) (v : V), trRep K H t v → trRep K H' t v
  | .n a b ts, v, h => by
    rw [trRep] at h ⊢
    obtain ⟨p, u, w, q, vs, e, h1, h2, h3, h4, h5⟩ := h
    exact ⟨p, u, w, q, vs, e, s _ _ h1, Rep.mono s h2, Rep.mono s h3, s _ _ h4, trsRep_mono s ts vs h5⟩
theorem trsRep_mono {K : Fg} {H H' : Hp} (s : Same H H') : ∀ (ts : List Tr) (vs : List V), trsRep K H ts vs → trsRep K H' ts vs
  | [], vs, h => by
    rw [trsRep] at h ⊢
    exact h
  | t :: ts, vs, h => by
    rw [trsRep] at h ⊢
    obtain ⟨v, us, e, h1, h2⟩ := h
    exact ⟨v, us, e, trRep_mono s t v h1, trsRep_mono s ts us h2⟩
end
instance repTr : Rep Tr := ⟨fun K H v t => trRep K H t v, fun {_ _ _ v t} s h => trRep_mono s t v h⟩
abbrev TrN := Nt (Thing × Thing × Tup Tr × Unit)
def Tr.nt (t : Tr) : TrN := ⟨(t.a, t.b, ⟨t.ts⟩, ())⟩
def Tr.of (x : TrN) : Tr := .n x.v.1 x.v.2.1 x.v.2.2.1.l
/-! ### a tuple and the empty one -/
/-! ### great powers and products -/
/-! ### min, max of a tuple of two ints -/
/-! ### a list grows by a tuple's items -/
end Z
/-! YO: sorted(d), d a dict whose keys are whole numbers -/
namespace L2
open PySem PySem.Spec PyProof.Rows Srt
def rSortedDK : List V → Hp → VK → Prop := fun vs H Q => ∃ (d : Addr) (kvs : List (L2.Key × V)) (ns : List Int), vs = [V.ref d] ∧ Rd H d (.dK kvs) ∧ kvs.map (·.1) = ns.map Sum.inl ∧
  ∀ (ns' : List Int) (p : Addr), ns'.Perm ns → ns'.Pairwise (· ≤ ·) → H p = none → Q (.ref p) (upd H p (.lst (ns'.map V.int)))
theorem items_ints {P : Program} {w : World} {kvs : List (L2.Key × V)} {vs : List (L2.Key × Value)} {ns : List Int} (kv : KV kvs vs) (e : kvs.map (·.1) = ns.map Sum.inl) {acc : Array Value}
    (h : ItemsOf (fun i v => ∃ k x, vs[i]? = some (k, x) ∧ (mixKind P w).is k v = true) acc vs.length) : IntsAre acc.toList ns := by
  have e2 : vs.map (·.1) = kvs.map (·.1) := by
    clear h e
    induction kv with
    | nil => rfl
    | cons a _ ih => rw [List.map_cons, List.map_cons, ih, a.1]
  have key : ∀ (ns : List Int) (l : List Value) (vs : List (L2.Key × Value)), l.length = vs.length → vs.map (·.1) = ns.map Sum.inl → (∀ (j : Nat) (v : Value), l[j]? = some v → ∃ k x, vs[j]? = some (k, x) ∧ (mixKind P w).is k v = true) → IntsAre l ns := by
    intro ns
    induction ns with
    | nil =>
      intro l vs h1 h2 _
      have : vs = [] := by
        cases vs with
        | nil => rfl
        | cons _ _ => cases h2
      subst this
      have : l = [] := List.length_eq_zero_iff.mp h1
      subst this
      exact .nil
    | cons n ns ih =>
      intro l vs h1 h2 h3
      cases vs with
      | nil => cases h2
      | cons y vs =>
        cases l with
        | nil => cases h1
        | cons v l =>
          rw [List.map_cons, List.map_cons] at h2
          injection h2 with a b
          obtain ⟨k, x, hk, his⟩ := h3 0 v rfl
          have hk : y = (k, x) := by simpa using hk
          subst hk
          have a : k = Sum.inl n := a
          subst a
          obtain ⟨t, rfl⟩ : ∃ t, v = Value.int n t := by
            rcases keyIs_shape (k := Sum.inl n) (v := v) his with ⟨i, t, e1, e2⟩ | ⟨x, t, e1, e2⟩
            · cases e1
              exact ⟨t, e2⟩
            · cases e1
          exact .cons n t (ih l vs (by simpa using h1) b fun j u hu => by
            obtain ⟨k, x, q1, q2⟩ := h3 (j + 1) u (by simpa using hu)
            exact ⟨k, x, by simpa using q1, q2⟩)
  refine key ns acc.toList vs (by rw [Array.length_toList]; exact h.1) (e2.trans e) fun j v hj => h.2 j v (by rw [← Array.getElem?_toList]; exact hj)
theorem cr_sortedDK {X : Cx} (hc : X.calm = true) : CallR X (.builtin "sorted") rSortedDK := by
  intro pins s σ H vs us Q I r h
  obtain ⟨d, kvs, ns, rfl, hd, e, q⟩ := h
  rw [Vals.ref1 r]
  obtain ⟨z, hds, ws, kv, dd⟩ := dk_rd I.hok hd
  obtain ⟨ep, da⟩ := dd.dictAt
  have hwl : ws.length ≤ sizeLine := by rw [← Paired.length kv]; exact z
  refine Calls.call_function_entry kind_sorted plain_sorted entry_sorted (args_sorted1 _) ?_
  unfold Builtin.«sorted»
  refine wpAny_bind (m := checkCount "sorted" 1 1 _) (wpAny_pure ?_)
  refine wpAny_bind (PySem.W.kdu_collect (PySem.W.kdl_dict (knd := mixKind X.prog X.w) (kvs := ws) (ep := ep) hds) (I.ok.hd hc) da hwl fun h' tk acc hk hacc => ?_)
  have hi := items_ints kv e hacc
  have hal : acc.toList.length ≤ sizeLine := by
    rw [Array.length_toList, hacc.1]
    exact hwl
  refine wpAny_bind (wpAny_newList ?_ hal)
  have hoL : (h'.push (seqObj "list" acc.toList.toArray 0)).get? h'.objs.size = some (seqObj "list" acc.toList.toArray 0) := Heap.get?_push_size _ rfl
  have I1 : Inv X pins σ H { s with heap := h', toks := tk } := I.kept (t' := tk) hk
  show wpAny _ _ _ _ _ { s with heap := h'.push (seqObj "list" acc.toList.toArray 0), toks := tk }
  refine wpAny_bind (wpAny_holding (wpAny_call_entry slot_list_sort ⟨_, hoL, rfl⟩ entry_list_sort (SrtO.list_sort_ord SrtO.swo_int hoL hal (fun h2 => SrtO.ints_sortable hi h2) fun out h1 h2 => ⟨_, rfl, ?_⟩) (args_list_sort _)))
  refine wpAny_pure ⟨_, rfl, ?_⟩
  obtain ⟨k1, k2, k3⟩ := SrtO.ints_out hi h1 h2
  obtain ⟨ep', he'⟩ := PyProof.Rows.sortedHeap_at (vs := acc.toList) (out := out.toArray) hoL
  have hlen : ((out.map SrtO.iv).map V.int).length ≤ sizeLine := by
    rw [List.length_map, k2.length_eq, ← hi.length]
    exact hal
  refine ⟨.ref _, upd H h'.objs.size (.lst ((out.map SrtO.iv).map V.int)), I1.laid (t' := tk) (fun b u hu => ?_) (Nat.le_refl _) ⟨hlen, out, ep', vals_of_ints k1, he'⟩, rfl, q _ _ k2 k3 (I1.hok.fresh (Nat.le_refl _))⟩
  have hb : b < h'.objs.size := Heap.lt_size hu
  have hu2 := Heap.get?_push_of_some (h := h') (seqObj "list" acc.toList.toArray 0) hu
  rw [PyProof.Rows.sortedHeap_old (Nat.ne_of_lt hb) (Heap.lt_size hu2)]
  exact hu2
end L2
namespace Z
open PySem L2
open Rep (rep)
theorem keysI_of {β : Type} {r : V → β → Prop} {kvs : List (L2.Key × V)} {m : List (Int × β)} (h : AD kK r kvs m) : kvs.map (·.1) = (m.map (·.1)).map Sum.inl := by
  induction h with
  | nil => rfl
  | cons _ _ ih => rw [List.map_cons, List.map_cons, List.map_cons, ih]; rfl
end Z
namespace L2
open PySem PySem.Spec PyProof.Rows
theorem valV_putKK {kvs : List (L2.Key × V)} {k : L2.Key} {v : V} : valV (putK kvs k v) k = some v := by
  unfold putK
  split
  · rename_i h
    unfold valV
    induction kvs with
    | nil => simp at h
    | cons p r ih =>
      by_cases e : p.1 = k
      · simp [e]
      · have h' : (r.any fun p => decide (p.1 = k)) = true := by
          simpa [e] using h
        have := ih h'
        simpa [e] using this
  · rename_i h
    unfold valV
    rw [List.find?_append]
    have : kvs.find? (fun kv => decide (kv.1 = k)) = none := by
      rw [List.find?_eq_none]
      intro x hx hk
      exact h (List.any_eq_true.mpr ⟨x, hx, hk⟩)
    rw [this]
    simp
def setdKK (kvs : List (L2.Key × V)) (k : L2.Key) (v : V) : List (L2.Key × V) := if (valV kvs k).isSome = true then kvs else putK kvs k v
def tDSetdVK (to tk tx : TE) : TE := fun σ H Q => to σ H fun o H1 => ∃ a, o = .ref a ∧ IsD H1 a ∧ tk σ H1 fun y H2 => tx σ H2 fun z H3 => ∃ (kvs : List (L2.Key × V)) (k : L2.Key) (u : V), H3 a = some (.dK kvs) ∧ y = kV k ∧ kvs.length < sizeLine ∧
  valV (setdKK kvs k z) k = some u ∧ Q u (upd H3 a (.dK (setdKK kvs k z)))
section
variable {X : Cx} {o e f : Expr} {td ty tx : TE} {apos cpos : Pos}
theorem pe_dsetdVK (ho : PE X o td) (he : PE X e ty) (hf : PE X f tx) (m : M2 X o "setdefault" apos e f cpos) : PE X (.Call (.Attribute o "setdefault" apos) [e, f] [] cpos) (tDSetdVK td ty tx) := by
  refine ⟨fun pins s σ H Q I h => ?_⟩
  refine wpAny_Call_method m.base m.few m.line PySem.F.plainAttrs_dict PySem.F.slot_dict_setdefault PySem.F.type_dict_setdefault (thn (ho.run pins s σ H _ I h) fun u s1 ⟨x, H1, I1, rx, a, ex, d, q1⟩ => ?_)
  subst ex
  obtain rfl : u = Value.ref a := rx
  obtain ⟨t1, t2, _⟩ := isD_at I1 d
  refine ⟨t1, t2, ?_⟩
  rw [m.trees]
  refine Calls.callWith_builtin rfl (Calls.evalArgs_plain (Calls.spliced_cons (thn (he.run pins s1 σ H1 _ I1 q1) fun iv s2 ⟨y, H2, I2, ry, q2⟩ =>
    Calls.spliced_cons (thn (hf.run pins s2 σ H2 _ I2 q2) fun fv s3 ⟨z, H3, I3, rz, kvs, k, w, ea, ey, hl, q3, q4⟩ => Calls.spliced_nil ?_))))
  subst ey
  refine d_setd I3 ea ry rz hl (fun v hv w' s4 I4 rw' => ⟨v, H3, I4, rw', ?_⟩) fun hn w' s4 I4 rw' => ⟨z, _, I4, rw', ?_⟩
  · unfold setdKK at q3 q4
    rw [hv, if_pos (show (some v).isSome = true from rfl)] at q3 q4
    rw [hv] at q3
    cases q3
    rw [upd_id ea] at q4
    exact q4
  · unfold setdKK at q3 q4
    rw [hn, if_neg (by simp)] at q3 q4
    rw [valV_putKK] at q3
    cases q3
    exact q4
end
end L2
namespace Z
open PySem L2
open Rep (rep)
theorem AD.setdK {β : Type} {r : V → β → Prop} {kvs : List (L2.Key × V)} {m : List (Int × β)} {k : Int} {v : V} {x : β} (h : AD kK r kvs m) (hv : r v x) : AD kK r (setdKK kvs (kK k) v) (msetd m k x) := by
  unfold setdKK msetd
  rw [h.no kK_inj]
  split
  · exact h
  · exact h.put kK_inj hv
end Z
/-! YN: plans of asks: ("is", a thing), ("ask", a place, a tuple of pairs of an answer and a plan) -/
namespace Z
open PySem PySem.Spec PyProof.Rows L2
open Rep (rep)
inductive Pl where
  | is (x : Thing)
  | ask (p : Int) (l : List (Int × Pl))
def Pl.w : Pl → Str
  | .is _ => "is"
  | .ask _ _ => "ask"
def Pl.len : Pl → Int
  | .is _ => 2
  | .ask _ _ => 3
/-- what stands at 1 -/
def Pl.one : Pl → Thing
  | .is x => x
  | .ask p _ => .pl p
mutual
def plRep (K : Fg) (H : Hp) : Pl → V → Prop
  | .is x, v => ∃ p u, v = .ref p ∧ H p = some (.tup [.str ("is" : Str), u]) ∧ rep K H u x
  | .ask i l, v => ∃ p q vs, v = .ref p ∧ H p = some (.tup [.str ("ask" : Str), .int i, .ref q]) ∧ H q = some (.tup vs) ∧ plsRep K H l vs
def plsRep (K : Fg) (H : Hp) : List (Int × Pl) → List V → Prop
  | [], vs => vs = []
  | t :: ts, vs => ∃ v us, vs = v :: us ∧ plpRep K H t v ∧ plsRep K H ts us
def plpRep (K : Fg) (H : Hp) : Int × Pl → V → Prop
  | (j, t), v => ∃ a w, v = .ref a ∧ H a = some (.tup [.int j, w]) ∧ plRep K H t w
end
mutual
theorem plRep_mono {K : Fg} {H H' : Hp} (s : Same H H') : ∀ (t : Pl) (v : V), plRep K H t v → plRep K H' t v
  | .is x, v, h => by
    rw [plRep] at h ⊢
    obtain ⟨p, u, e, h1, h2⟩ := h
    exact ⟨p, u, e, s _ _ h1, Rep.mono s h2⟩
  | .ask i l, v, h => by
    rw [plRep] at h ⊢
    obtain ⟨p, q, vs, e, h1, h2, h3⟩ := h
    exact ⟨p, q, vs, e, s _ _ h1, s _ _ h2, plsRep_mono s l vs h3⟩
theorem plsRep_mono {K : Fg} {H H' : Hp} (s : Same H H') : ∀ (ts : List (Int × Pl)) (vs : List V), plsRep K H ts vs → plsRep K H' ts vs
  | [], vs, h => by
    rw [plsRep] at h ⊢
    exact h
  | t :: ts, vs, h => by
    rw [plsRep] at h ⊢
    obtain ⟨v, us, e, h1, h2⟩ := h
    exact ⟨v, us, e, plpRep_mono s t v h1, plsRep_mono s ts us h2⟩
theorem plpRep_mono {K : Fg} {H H' : Hp} (s : Same H H') : ∀ (t : Int × Pl) (v : V), plpRep K H t v → plpRep K H' t v
  | (j, t), v, h => by
    rw [plpRep] at h ⊢
    obtain ⟨a, w, e, h1, h2⟩ := h
    exact ⟨a, w, e, s _ _ h1, plRep_mono s t w h2⟩
end
instance repPl : Rep Pl := ⟨fun K H v t => plRep K H t v, fun {_ _ _ v t} s h => plRep_mono s t v h⟩
theorem plp_rep {K : Fg} {H : Hp} (t : Int × Pl) (v : V) : plpRep K H t v ↔ rep K H v t := by
  obtain ⟨j, t⟩ := t
  rw [plpRep]
  constructor
  · rintro ⟨a, w, rfl, q, h⟩
    exact ⟨a, .int j, w, rfl, q, rfl, h⟩
  · rintro ⟨a, u, w, rfl, q, h1, h⟩
    have h1 : u = V.int j := h1
    subst h1
    exact ⟨a, w, rfl, q, h⟩
theorem pls_a2 {K : Fg} {H : Hp} : ∀ (ts : List (Int × Pl)) (vs : List V), plsRep K H ts vs ↔ A2 (rep K H) vs ts
  | [], vs => by
    rw [plsRep]
    exact ⟨fun e => by rw [e]; exact .nil, fun h => by cases h; rfl⟩
  | t :: ts, vs => by
    rw [plsRep]
    constructor
    · rintro ⟨v, us, rfl, h1, h2⟩
      exact .cons ((plp_rep t v).mp h1) ((pls_a2 ts us).mp h2)
    · intro h
      cases h with
      | cons h1 h2 => exact ⟨_, _, rfl, (plp_rep t _).mpr h1, (pls_a2 ts _).mpr h2⟩
section
variable {K : Fg} {F : Hp} {v u : V} {x : Thing} {i : Int} {l : List (Int × Pl)} {p q : Addr} {vs : List V} {t : Pl}
theorem rep_is (hp : F p = some (.tup [.str ("is" : Str), u])) (h : rep K F u x) : rep K F (.ref p) (Pl.is x) := by
  show plRep K F (Pl.is x) (.ref p)
  rw [plRep]
  exact ⟨p, u, rfl, hp, h⟩
theorem rep_ask (hp : F p = some (.tup [.str ("ask" : Str), .int i, .ref q])) (hq : F q = some (.tup vs)) (h : A2 (rep K F) vs l) : rep K F (.ref p) (Pl.ask i l) := by
  show plRep K F (Pl.ask i l) (.ref p)
  rw [plRep]
  exact ⟨p, q, vs, rfl, hp, hq, (pls_a2 l vs).mpr h⟩
theorem is_open (h : rep K F v (Pl.is x)) : ∃ p u, v = .ref p ∧ F p = some (.tup [.str ("is" : Str), u]) ∧ rep K F u x := by
  have h' : plRep K F (Pl.is x) v := h
  rw [plRep] at h'
  exact h'
theorem ask_open (h : rep K F v (Pl.ask i l)) : ∃ p q vs, v = .ref p ∧ F p = some (.tup [.str ("ask" : Str), .int i, .ref q]) ∧ F q = some (.tup vs) ∧ A2 (rep K F) vs l := by
  have h' : plRep K F (Pl.ask i l) v := h
  rw [plRep] at h'
  obtain ⟨p, q, vs, e, h1, h2, h3⟩ := h'
  exact ⟨p, q, vs, e, h1, h2, (pls_a2 l vs).mp h3⟩
end
def asIs : Pl → R Thing
  | .is x => .ok x
  | _ => .bad
def asAsk : Pl → R (Int × List (Int × Pl))
  | .ask p l => .ok (p, l)
  | _ => .bad
theorem pb_asIs {δ : Type} {t : Pl} {f : Thing → R δ} {P : δ → Prop} {E : Exn → Prop} (h : Post (asIs t >>= f) P E) : ∃ x, t = .is x ∧ Post (f x) P E := by
  cases t with
  | is x => exact ⟨x, rfl, h⟩
  | ask p l => exact (show False from h).elim
theorem pb_asAsk {δ : Type} {t : Pl} {f : Int × List (Int × Pl) → R δ} {P : δ → Prop} {E : Exn → Prop} (h : Post (asAsk t >>= f) P E) : ∃ p l, t = .ask p l ∧ Post (f (p, l)) P E := by
  cases t with
  | is x => exact (show False from h).elim
  | ask p l => exact ⟨p, l, rfl, h⟩
end Z
namespace Z
open PySem L2
theorem at_0 {α : Type} {x : α} {r : List α} : atI (x :: r) 0 = some x := by
  unfold atI ixN
  rw [if_pos (Int.le_refl 0), if_pos (by rw [List.length_cons]; omega)]
  rfl
theorem at_1 {α : Type} {x y : α} {r : List α} : atI (x :: y :: r) 1 = some y := by
  unfold atI ixN
  rw [if_pos (by decide), if_pos (by rw [List.length_cons, List.length_cons]; omega)]
  rfl
def Pl.lenN : Pl → Nat
  | .is _ => 2
  | .ask _ _ => 3
open Rep (rep) in
theorem pl_openN {K : Fg} {F : Hp} {v : V} {t : Pl} (h : rep K F v t) : ∃ p u r, v = .ref p ∧ F p = some (.tup (.str t.w :: u :: r)) ∧ rep K F u t.one ∧ (V.str t.w :: u :: r).length = t.lenN := by
  cases t with
  | is x =>
    obtain ⟨p, u, e, h1, h2⟩ := is_open h
    exact ⟨p, u, [], e, h1, h2, rfl⟩
  | ask i l =>
    obtain ⟨p, q, vs, e, h1, h2, h3⟩ := ask_open h
    exact ⟨p, .int i, [.ref q], e, h1, rfl, rfl⟩
end Z
namespace Z
open PySem PySem.Spec PyProof.Rows L2
open Rep (rep)
instance datOptThing : Dat (Option Thing) where
  toD := fun x => match x with
    | none => .none
    | some i => Dat.toD i
  dmax := 1
  dp := fun {K H v x} h => by
    cases x with
    | none =>
      have h' : v = V.non := h
      subst h'
      exact .non
    | some i => exact Dat.dp (show rep K H v i from h)
  lay := fun x => by
    cases x with
    | none => simp only [PyData.canLay0]
    | some i => exact Dat.lay i
  dep := fun x => by
    cases x with
    | none => simp only [PyData.depth]; omega
    | some i => exact Dat.dep i
  eqv := fun x y => by
    cases x with
    | none =>
      cases y with
      | none => simp [PyData.eqv]
      | some j => cases j <;> simp [PyData.eqv, Dat.toD]
    | some i =>
      cases y with
      | none => cases i <;> simp [PyData.eqv, Dat.toD]
      | some j =>
        have := Dat.eqv i j
        show PyData.eqv (Dat.toD i) (Dat.toD j) = true ↔ _
        rw [this, Option.some.injEq]
end Z
/-! YM: dicts whose keys are tuples of things (places and ties) -/
namespace Z
open PySem PySem.Spec PyProof.Rows L2
open Rep (rep)
/-- a thing, a tuple of things as a key -/
def thK : Thing → NestedKey
  | .pl i => .num i
  | .ti a b => .tup [.num a, .num b]
def tsK (t : Tup Thing) : NestedKey := .tup (t.l.map thK)
theorem thK_inj : ∀ {x y : Thing}, thK x = thK y → x = y
  | .pl i, .pl j, h => by
    injection h with h
    rw [h]
  | .pl i, .ti a b, h => by cases h
  | .ti a b, .pl i, h => by cases h
  | .ti a b, .ti c d, h => by
    injection h with h
    injection h with h1 h2
    injection h2 with h2 _
    injection h1 with h1
    injection h2 with h2
    rw [h1, h2]
theorem map_inj' {α β : Type} {f : α → β} (hf : ∀ x y, f x = f y → x = y) : ∀ {xs ys : List α}, xs.map f = ys.map f → xs = ys
  | [], [], _ => rfl
  | [], _ :: _, h => by cases h
  | _ :: _, [], h => by cases h
  | x :: xs, y :: ys, h => by
    rw [List.map_cons, List.map_cons] at h
    injection h with h1 h2
    rw [hf x y h1, map_inj' hf h2]
theorem tsK_inj {s t : Tup Thing} (h : tsK s = tsK t) : s = t := by
  unfold tsK at h
  injection h with h
  obtain ⟨s⟩ := s
  obtain ⟨t⟩ := t
  exact congrArg Tup.mk (map_inj' (fun _ _ => thK_inj) h)
theorem thK_depth : ∀ l : List Thing, NestedKey.depthAll (l.map thK) ≤ 1
  | [] => by simp [NestedKey.depthAll]
  | x :: l => by
    have := thK_depth l
    rw [List.map_cons, NestedKey.depthAll]
    cases x with
    | pl i => simp only [thK, NestedKey.depth]; omega
    | ti a b => simp only [thK, NestedKey.depth, NestedKey.depthAll]; omega
theorem tsK_depth (t : Tup Thing) : (tsK t).depth ≤ 8 := by
  unfold tsK
  rw [NestedKey.depth]
  have := thK_depth t.l
  omega
section
variable {X : Cx} {pins : List (Addr × Obj)} {σ : L2.St} {F H : Hp} {s : Shared} {K : Fg}
theorem thing_is (I : Inv X pins σ H s) (sF : Same F H) {v : V} {u : Value} {x : Thing} (r : rep K F v x) (q : RelV v u) : NestedIs s.heap (thK x) u := by
  cases x with
  | pl i =>
    have e : v = .int i := r
    subst e
    obtain ⟨t, rfl⟩ := q
    exact .int i t
  | ti a b =>
    obtain ⟨p, u1, u2, rfl, e, ra, rb⟩ := (show rep K F v (a, b) from r)
    have ra : u1 = V.int a := ra
    have rb : u2 = V.int b := rb
    subst ra rb
    obtain rfl : u = Value.ref p := q
    obtain ⟨_, its, rv, o, ho, hc, n, hd⟩ := I.hok _ _ (sF _ _ e)
    obtain ⟨u1, u2, rfl, r1, r2⟩ := vals2 rv
    obtain ⟨t1, rfl⟩ := r1
    obtain ⟨t2, rfl⟩ := r2
    exact .tup ho hc hd (.cons (.int _ _) (.cons (.int _ _) .nil))
theorem things_is (I : Inv X pins σ H s) (sF : Same F H) : ∀ {vs : List V} {us : List Value} {xs : List Thing}, A2 (rep K F) vs xs → Vals vs us → NestedAll s.heap (xs.map thK) us
  | _, _, _, .nil, .nil => .nil
  | _, _, _, .cons r t, .cons q t' => .cons (thing_is I sF r q) (things_is I sF t t')
theorem key_is (I : Inv X pins σ H s) (sF : Same F H) {b : Addr} {t : Tup Thing} (r : rep K F (.ref b) t) : (nestedKind X.prog X.w).is s.heap (tsK t) b := by
  obtain ⟨a, us, e, q, h⟩ := r
  cases e
  obtain ⟨_, its, rv, o, ho, hc, n, hd⟩ := I.hok _ _ (sF _ _ q)
  exact ⟨.tup ho hc hd (things_is I sF h rv), tsK_depth t⟩
end
theorem mgc {κ β : Type} [DecidableEq κ] {m : List (κ × β)} {k j : κ} {v : β} : mget ((j, v) :: m) k = if j = k then some v else mget m k := by
  unfold mget
  rw [List.find?_cons]
  by_cases e : j = k
  · rw [if_pos e, decide_eq_true e]
    rfl
  · rw [if_neg e, decide_eq_false e]
theorem mhm {κ β : Type} [DecidableEq κ] {k : κ} : ∀ {m : List (κ × β)}, mhas m k = (mget m k).isSome
  | [] => rfl
  | (j, v) :: m => by
    rw [mgc, show mhas ((j, v) :: m) k = (decide (j = k) || mhas m k) from rfl, mhm]
    by_cases e : j = k
    · rw [if_pos e, decide_eq_true e]
      rfl
    · rw [if_neg e, decide_eq_false e, Bool.false_or]
/-- the hash of a tuple of things: no world asked -/
def hash1 : NestedKey → Int
  | .num i => hashInt i
  | .tup [.num a, .num b] => reduceHash (Builtin.Tuple.tupleHashOf [hashInt a, hashInt b])
  | _ => 0
def hashN : NestedKey → Int
  | .tup ks => reduceHash (Builtin.Tuple.tupleHashOf (ks.map hash1))
  | _ => 0
theorem hash_is {w : World} (t : Tup Thing) : NestedKey.hash w (tsK t) = hashN (tsK t) := by
  unfold tsK hashN
  rw [NestedKey.hash]
  have e : ∀ l : List Thing, NestedKey.hashes w (l.map thK) = (l.map thK).map hash1 := fun l => by
    induction l with
    | nil => rfl
    | cons x l ih =>
      rw [List.map_cons, NestedKey.hashes, ih, List.map_cons]
      congr 1
      cases x with
      | pl i => simp only [thK, NestedKey.hash, hash1]
      | ti a b => simp only [thK, NestedKey.hash, NestedKey.hashes, hash1]
  rw [e]
/-! ### the dict -/
def entN (x : NestedKey × Addr × Value) : DictEntry := ⟨hashN x.1, .ref x.2.1, x.2.2⟩
abbrev Ent : Type := Addr × Tup Thing × V
abbrev PE3 (p : Ent) (q : NestedKey × Addr × Value) : Prop := q.1 = tsK p.2.1 ∧ q.2.1 = p.1 ∧ RelV p.2.2 q.2.2
def DnO (d : Addr) (ents : List Ent) : HO := .ext fun h => ents.length ≤ sizeLine ∧ (d == sysModules) = false ∧ ∃ (xs : List (NestedKey × Addr × Value)) (o : Obj) (es : Array DictEntry) (ep : Nat),
  Paired PE3 ents xs ∧ h.get? d = some o ∧ o.ExactDict ∧ o.data = .dict es ep ∧ es.toList = xs.map entN ∧ (xs.map (·.1)).Nodup
/-- to be read: one's own, or locked -/
def DnRd (H : Hp) (d : Addr) (ents : List Ent) : Prop := H d = some (DnO d ents) ∨ ∃ o, H d = some (.frz o (DnO d ents))
def getN (ents : List Ent) (t : Tup Thing) : Option V := (ents.find? fun e => decide (e.2.1 = t)).map (·.2.2)
def putN (ents : List Ent) (b : Addr) (t : Tup Thing) (v : V) : List Ent := if (getN ents t).isSome = true then ents.map fun e => if e.2.1 = t then (e.1, e.2.1, v) else e else ents ++ [(b, t, v)]
inductive ADN {β : Type} (K : Fg) (F : Hp) (r : V → β → Prop) : List Ent → List (Tup Thing × β) → Prop
  | nil : ADN K F r [] []
  | cons {b : Addr} {t : Tup Thing} {v : V} {x : β} {ents : List Ent} {m : List (Tup Thing × β)} : rep K F (.ref b) t → r v x → ADN K F r ents m → ADN K F r ((b, t, v) :: ents) ((t, x) :: m)
section
variable {β : Type} {K : Fg} {F F' : Hp} {r r' : V → β → Prop} {ents : List Ent} {m : List (Tup Thing × β)} {t : Tup Thing} {b : Addr} {v : V} {x : β}
theorem ADN.length : ∀ {ents : List Ent} {m : List (Tup Thing × β)}, ADN K F r ents m → ents.length = m.length
  | _, _, .nil => rfl
  | _, _, .cons _ _ h => by rw [List.length_cons, List.length_cons, h.length]
theorem ADN.imp (s : Same F F') (f : ∀ v x, r v x → r' v x) : ∀ {ents : List Ent} {m : List (Tup Thing × β)}, ADN K F r ents m → ADN K F' r' ents m
  | _, _, .nil => .nil
  | _, _, .cons h1 h2 h => .cons (Rep.mono s h1) (f _ _ h2) (h.imp s f)
theorem ADN.get : ∀ {ents : List Ent} {m : List (Tup Thing × β)}, ADN K F r ents m → ∀ t, (∀ x, mget m t = some x → ∃ v, getN ents t = some v ∧ r v x) ∧ (mget m t = none → getN ents t = none)
  | _, _, .nil, t => ⟨fun x h => (by cases h), fun _ => rfl⟩
  | _, _, .cons (b := b) (t := t0) (v := v0) (x := x0) (ents := ents) (m := m) h1 h2 h, t => by
    have ih := h.get t
    rw [mgc]
    unfold getN at ih ⊢
    rw [List.find?_cons]
    by_cases e : t0 = t
    · rw [if_pos e, decide_eq_true e]
      exact ⟨fun x hx => (by cases hx; exact ⟨v0, rfl, h2⟩), fun z => (by cases z)⟩
    · rw [if_neg e, decide_eq_false e]
      exact ih
theorem ADN.has (h : ADN K F r ents m) (t : Tup Thing) : (getN ents t).isSome = mhas m t := by
  rw [mhm]
  obtain ⟨h1, h2⟩ := h.get t
  cases e : mget m t with
  | none => rw [h2 e]; rfl
  | some x =>
    obtain ⟨v, hv, _⟩ := h1 x e
    rw [hv]
    rfl
theorem ADN.snoc : ∀ {ents : List Ent} {m : List (Tup Thing × β)}, ADN K F r ents m → rep K F (.ref b) t → r v x → ADN K F r (ents ++ [(b, t, v)]) (m ++ [(t, x)])
  | _, _, .nil, h1, h2 => .cons h1 h2 .nil
  | _, _, .cons a1 a2 h, h1, h2 => .cons a1 a2 (h.snoc h1 h2)
theorem ADN.over (h2 : r v x) : ∀ {ents : List Ent} {m : List (Tup Thing × β)}, ADN K F r ents m → ADN K F r (ents.map fun e => if e.2.1 = t then (e.1, e.2.1, v) else e) (m.map fun p => if p.1 = t then (p.1, x) else p)
  | _, _, .nil => .nil
  | _, _, .cons (t := t0) a1 a2 h => by
    rw [List.map_cons, List.map_cons]
    by_cases e : t0 = t
    · rw [if_pos e, if_pos e]
      exact .cons a1 h2 (h.over h2)
    · rw [if_neg e, if_neg e]
      exact .cons a1 a2 (h.over h2)
theorem ADN.put (h : ADN K F r ents m) (h1 : rep K F (.ref b) t) (h2 : r v x) : ADN K F r (putN ents b t v) (mput m t x) := by
  unfold putN
  rw [h.has]
  unfold mput mhas
  by_cases e : (m.any fun p => decide (p.1 = t)) = true
  · rw [if_pos e, if_pos e]
    exact h.over h2
  · rw [if_neg e, if_neg e]
    exact h.snoc h1 h2
theorem pair3_get : ∀ {ents : List Ent} {xs : List (NestedKey × Addr × Value)}, Paired PE3 ents xs → ∀ t, (∀ v, getN ents t = some v → ∃ p, atKey xs (tsK t) = some p ∧ RelV v p.2) ∧ (getN ents t = none → atKey xs (tsK t) = none)
  | _, _, .nil, t => ⟨fun v h => (by cases h), fun _ => rfl⟩
  | _, _, .cons (a := e0) (b := y0) a h, t => by
    obtain ⟨b0, t0, v0⟩ := e0
    obtain ⟨k0, c0, u0⟩ := y0
    obtain ⟨e1, e2, e3⟩ := a
    have e1 : k0 = tsK t0 := e1
    subst e1
    have ih := pair3_get h t
    unfold getN atKey at ih ⊢
    rw [List.find?_cons, List.find?_cons]
    by_cases e : t0 = t
    · subst e
      rw [decide_eq_true rfl, decide_eq_true rfl]
      exact ⟨fun v hv => (by cases hv; exact ⟨_, rfl, e3⟩), fun z => (by cases z)⟩
    · rw [decide_eq_false e, decide_eq_false (show ¬ tsK t0 = tsK t from fun z => e (tsK_inj z))]
      exact ih
end
end Z
namespace L2
open PySem PySem.Spec PyProof.Rows Z
open Rep (rep)
section
variable {X : Cx} {pins : List (Addr × Obj)} {σ : L2.St} {H : Hp} {s : Shared} {d : Addr} {ents : List Ent} {A : Around} {E : Value → Shared → Prop} {y v : V} {u r : Value} {o : Option V}
def KeysN (H : Hp) (ents : List Ent) : Prop := ∃ (K : Fg) (F : Hp), Same F H ∧ ∀ e ∈ ents, rep K F (.ref e.1) e.2.1
def KeyN (H : Hp) (b : Addr) (t : Tup Thing) : Prop := ∃ (K : Fg) (F : Hp), Same F H ∧ rep K F (.ref b) t
/-- d at y holds o -/
def DGetN (H : Hp) (d : Addr) (y : V) (o : Option V) : Prop := ∃ (ents : List Ent) (b : Addr) (t : Tup Thing), y = .ref b ∧ DnRd H d ents ∧ KeysN H ents ∧ KeyN H b t ∧ o = getN ents t
def DPutN (H : Hp) (d : Addr) (y v : V) (H' : Hp) : Prop := ∃ (ents : List Ent) (b : Addr) (t : Tup Thing), y = .ref b ∧ H d = some (DnO d ents) ∧ KeysN H ents ∧ KeyN H b t ∧ ents.length < sizeLine ∧ H' = upd H d (DnO d (putN ents b t v))
theorem keyN_is {b : Addr} {t : Tup Thing} (I : Inv X pins σ H s) (k : KeyN H b t) : (nestedKind X.prog X.w).is s.heap (tsK t) b := let ⟨_, _, sF, r⟩ := k; key_is I sF r
/-- what is known of the object -/
theorem dn_raw (I : Inv X pins σ H s) (e : DnRd H d ents) : ents.length ≤ sizeLine ∧ (d == sysModules) = false ∧ ∃ (xs : List (NestedKey × Addr × Value)) (o : Obj) (es : Array DictEntry) (ep : Nat),
    Paired PE3 ents xs ∧ s.heap.get? d = some o ∧ o.ExactDict ∧ o.data = .dict es ep ∧ es.toList = xs.map entN ∧ (xs.map (·.1)).Nodup := by
  rcases e with e | ⟨o, e⟩
  · exact (I.hok _ _ e).1
  · exact (I.hok _ _ e).2.1
theorem paired_mem : ∀ {ents : List Ent} {xs : List (NestedKey × Addr × Value)}, Paired PE3 ents xs → ∀ y ∈ xs, ∃ e ∈ ents, PE3 e y
  | _, _, .nil, y, h => by cases h
  | _, _, .cons a t, y, h => by
    rcases List.mem_cons.mp h with rfl | h
    · exact ⟨_, List.mem_cons_self, a⟩
    · obtain ⟨e, he, q⟩ := paired_mem t y h
      exact ⟨e, List.mem_cons_of_mem _ he, q⟩
theorem ents_eq {P : Program} {w : World} : ∀ {ents : List Ent} {xs : List (NestedKey × Addr × Value)}, Paired PE3 ents xs → xs.map entN = xs.map (entryOfKey (nestedKind P w))
  | _, _, .nil => rfl
  | _, _, .cons (b := y) a t => by
    rw [List.map_cons, List.map_cons, ents_eq t]
    congr 1
    obtain ⟨k, b, u⟩ := y
    have e : k = tsK _ := a.1
    subst e
    show (⟨hashN _, .ref b, u⟩ : DictEntry) = ⟨NestedKey.hash w _, .ref b, u⟩
    rw [hash_is]
theorem dn_of (I : Inv X pins σ H s) (e : DnRd H d ents) (k : KeysN H ents) : ents.length ≤ sizeLine ∧ (d == sysModules) = false ∧ ∃ xs, Paired PE3 ents xs ∧ s.heap.DictOfH (nestedKind X.prog X.w) d xs := by
  obtain ⟨z, hd, xs, o, es, ep, rel, ho, hx, hdat, he, hn⟩ := dn_raw I e
  obtain ⟨K, F, sF, hk⟩ := k
  refine ⟨z, hd, xs, rel, o, es, ep, ho, hx, hdat, he.trans (ents_eq rel), fun y hy => ?_, hn⟩
  obtain ⟨en, hen, e1, e2, _⟩ := paired_mem rel y hy
  rw [e1, e2]
  exact key_is I sF (hk en hen)
theorem paired_put {b : Addr} {t : Tup Thing} (rv : RelV v r) : ∀ {ents : List Ent} {xs : List (NestedKey × Addr × Value)}, Paired PE3 ents xs → Paired PE3 (putN ents b t v) (storedH xs (tsK t) b r) := by
  intro ents xs rel
  have snoc : ∀ {ents : List Ent} {xs : List (NestedKey × Addr × Value)}, Paired PE3 ents xs → Paired PE3 (ents ++ [(b, t, v)]) (xs ++ [(tsK t, b, r)]) := by
    intro ents xs rel
    induction rel with
    | nil => exact .cons ⟨rfl, rfl, rv⟩ .nil
    | cons a _ ih => exact .cons a ih
  have over : ∀ {ents : List Ent} {xs : List (NestedKey × Addr × Value)}, Paired PE3 ents xs → Paired PE3 (ents.map fun e => if e.2.1 = t then (e.1, e.2.1, v) else e) (xs.map (putAt (tsK t) r)) := by
    intro ents xs rel
    induction rel with
    | nil => exact .nil
    | @cons e0 y0 _ _ a _ ih =>
      obtain ⟨b0, t0, v0⟩ := e0
      obtain ⟨k0, c0, u0⟩ := y0
      obtain ⟨e1, e2, e3⟩ := a
      have e1 : k0 = tsK t0 := e1
      subst e1
      rw [List.map_cons, List.map_cons]
      refine .cons ?_ ih
      unfold putAt
      by_cases q : t0 = t
      · subst q
        rw [if_pos rfl, if_pos rfl]
        exact ⟨rfl, e2, rv⟩
      · rw [if_neg q, if_neg (show ¬ tsK t0 = tsK t from fun z => q (tsK_inj z))]
        exact ⟨rfl, e2, e3⟩
  obtain ⟨h1, h2⟩ := pair3_get rel t
  unfold putN storedH
  cases e : getN ents t with
  | none =>
    rw [h2 e]
    exact snoc rel
  | some x =>
    obtain ⟨p, hp, _⟩ := h1 x e
    rw [hp]
    exact over rel
theorem putN_len {b : Addr} {t : Tup Thing} : (putN ents b t v).length ≤ ents.length + 1 := by
  unfold putN
  split
  · rw [List.length_map]; omega
  · rw [List.length_append]; exact Nat.le_refl _
theorem dn_new {d : Addr} {h' : Heap} {P : Program} {w : World} {H' : Hp} {ents : List Ent} {xs : List (NestedKey × Addr × Value)} (z : ents.length ≤ sizeLine) (hd : (d == sysModules) = false) (rel : Paired PE3 ents xs) (dd : h'.DictOfH (nestedKind P w) d xs) : ObjOk P w H' h' d (DnO d ents) := by
  obtain ⟨o, es, ep, ho, hx, hdat, he, _, hn⟩ := dd
  refine ⟨⟨z, hd, xs, o, es, ep, rel, ho, hx, hdat, he.trans (ents_eq rel).symm, hn⟩, ⟨o, ho⟩, fun h1 h2 q k => ?_⟩
  obtain ⟨z', hd', xs', o', es', ep', rel', ho', hx', hdat', he', hn'⟩ := q
  exact ⟨z', hd', xs', o', es', ep', rel', k _ ho', hx', hdat', he', hn'⟩
theorem dn_val (I : Inv X pins σ H s) (g : DGetN H d y o) (ry : RelV y u) : s.TypeIs (.ref d) "dict" ∧ (d == sysModules) = false ∧ ∃ (b : Addr) (k : NestedKey) (xs : List (NestedKey × Addr × Value)), u = .ref b ∧ (nestedKind X.prog X.w).is s.heap k b ∧ s.heap.DictOfH (nestedKind X.prog X.w) d xs ∧
    (∀ v, o = some v → ∃ p, atKey xs k = some p ∧ RelV v p.2) ∧ (o = none → atKey xs k = none) := by
  obtain ⟨ents, b, t, rfl, e, kk, kb, rfl⟩ := g
  obtain ⟨z, hd, xs, rel, dd⟩ := dn_of I e kk
  obtain ⟨h1, h2⟩ := pair3_get rel t
  exact ⟨dd.typeIs, hd, b, tsK t, xs, ry, keyN_is I kb, dd, h1, h2⟩
theorem roomN {A : Around} (hu : A.units + 64 < cLine) : (nestedKind X.prog X.w).room A.in1 := by
  show A.units + 1 + 8 < cLine
  omega
theorem dn_getItem {Q : Value → Shared → Prop} (hu : A.units + 64 < cLine) (I : Inv X pins σ H s) (g : DGetN H d y (some v)) (ry : RelV y u) (h : ∀ w' s', Inv X pins σ H s' → RelV v w' → Q w' s') :
    wpAny (model X.prog X.w) A (getItem (.ref d) u) Q E s := by
  obtain ⟨_, _, b, k, xs, rfl, hk, dd, h1, _⟩ := dn_val I g ry
  obtain ⟨p, hp, rp⟩ := h1 v rfl
  exact wpAny_getItem_heap (roomN hu) hk dd hp (h _ _ (I.tok _) rp)
theorem dn_in {Q : Value → Shared → Prop} (hu : A.units + 64 < cLine) (I : Inv X pins σ H s) (g : DGetN H d y o) (ry : RelV y u) (h : ∀ s', Inv X pins σ H s' → Q (.bool o.isSome) s') :
    wpAny (model X.prog X.w) A (compareOp .In u (.ref d)) Q E s := by
  obtain ⟨_, hd, b, k, xs, rfl, hk, dd, h1, h2⟩ := dn_val I g ry
  refine wpAny_in_heap (roomN hu) hk hd dd ?_
  have e : (atKey xs k).isSome = o.isSome := by
    cases o with
    | none => rw [h2 rfl]; rfl
    | some v =>
      obtain ⟨p, hp, _⟩ := h1 v rfl
      rw [hp]
      rfl
  rw [e]
  exact h _ (I.tok _)
theorem dn_notIn {Q : Value → Shared → Prop} (hu : A.units + 64 < cLine) (I : Inv X pins σ H s) (g : DGetN H d y o) (ry : RelV y u) (h : ∀ s', Inv X pins σ H s' → Q (.bool (!o.isSome)) s') :
    wpAny (model X.prog X.w) A (compareOp .NotIn u (.ref d)) Q E s := by
  obtain ⟨_, hd, b, k, xs, rfl, hk, dd, h1, h2⟩ := dn_val I g ry
  refine wpAny_notIn_heap (roomN hu) hk hd dd ?_
  have e : (atKey xs k).isSome = o.isSome := by
    cases o with
    | none => rw [h2 rfl]; rfl
    | some v =>
      obtain ⟨p, hp, _⟩ := h1 v rfl
      rw [hp]
      rfl
  rw [e]
  exact h _ (I.tok _)
theorem dn_setItem {H' : Hp} {Q : Unit → Shared → Prop} (hu : A.units + 64 < cLine) (I : Inv X pins σ H s) (g : DPutN H d y v H') (ry : RelV y u) (rv : RelV v r) (h : ∀ s', Inv X pins σ H' s' → Q () s') :
    wpAny (model X.prog X.w) A (setItem (.ref d) u r) Q E s := by
  obtain ⟨ents, b, t, rfl, e, kk, kb, hl, rfl⟩ := g
  obtain rfl : u = Value.ref b := ry
  obtain ⟨z, hd, xs, rel, dd⟩ := dn_of I (.inl e) kk
  have hz : xs.length ≤ sizeLine := by rw [← Paired.length rel]; exact z
  refine wpAny_setItem_heap (hsz := hz) (roomN hu) (keyN_is I kb) dd fun h' dd' hs => h _ ?_
  obtain ⟨q, es, ep, hq, _⟩ := id dd'
  exact d_write I (by rw [e]; exact True.intro) hs ⟨q, hq⟩ (dn_new (Nat.le_trans putN_len hl) hd (paired_put rv rel) dd')
end
/-! ### the rules -/
def tDGetN (td ty : TE) : TE := fun σ H Q => td σ H fun x H1 => ty σ H1 fun y H2 => ∃ a v, x = .ref a ∧ DGetN H2 a y (some v) ∧ Q v H2
def tDInM (ty td : TE) : TE := fun σ H Q => ty σ H fun y H1 => td σ H1 fun x H2 => ∃ a o k, x = .ref a ∧ DGetN H2 a y o ∧ o.isSome = k ∧ Q (.bl k) H2
def tDNotInM (ty td : TE) : TE := fun σ H Q => ty σ H fun y H1 => td σ H1 fun x H2 => ∃ a o k, x = .ref a ∧ DGetN H2 a y o ∧ o.isSome = k ∧ Q (.bl (!k)) H2
def sDPutN (td ty tv : TE) : TS := fun D σ H => tv σ H fun v H1 => td σ H1 fun x H2 => ty σ H2 fun y H3 => ∃ a H4, x = .ref a ∧ DPutN H3 a y v H4 ∧ D.nx σ H4
def tDNewN : TE := fun _ H Q => ∀ p, H p = none → Q (.ref p) (upd H p (DnO p []))
section
variable {X : Cx} {o i e f value : Expr} {pos pos' tpos apos cpos : Pos} {td ty tv tx : TE}
theorem pe_dnewN : PE X (.Dict [] [] pos) (tDNewN) := by
  refine ⟨fun pins s σ H Q I h => ?_⟩
  refine wpAny_Dict_empty ⟨.ref s.heap.objs.size, _, I.laid (a := s.heap.objs.size) (o := DnO s.heap.objs.size []) (t' := s.toks) (fun _ _ q => Heap.get?_push_of_some _ q) (Nat.le_refl _) ?_, rfl, h _ (I.hok.fresh (Nat.le_refl _))⟩
  exact dn_new (xs := []) (Nat.zero_le _) (beq_eq_false_iff_ne.mpr (Ne.symm (Nat.ne_of_lt I.big))) .nil ⟨_, #[], 0, Heap.get?_push_size _ rfl, ⟨rfl, rfl, rfl⟩, rfl, rfl, (fun _ z => nomatch z), List.nodup_nil⟩
theorem pe_dgetN (hu : X.A.units + 64 < cLine) (ho : PE X o td) (hi : PE X i ty) (hs : NoSl i) : PE X (.Subscript o i pos) (tDGetN td ty) := by
  refine ⟨fun pins s σ H Q I h => ?_⟩
  refine subD_of PySem.F.slot_dict_getitem.lookup hs (thn (ho.run pins s σ H _ I h) fun u s1 ⟨x, H1, I1, rx, q1⟩ => thn (hi.run pins s1 σ H1 _ I1 q1) fun iv s2 ⟨y, H2, I2, ry, a, v, ex, g, q2⟩ => ?_)
  subst ex
  obtain rfl : u = Value.ref a := rx
  exact ⟨(dn_val I2 g ry).1, dn_getItem hu I2 g ry fun w' s3 I3 rw' => ⟨v, H2, I3, rw', q2⟩⟩
theorem pc_dinM (hu : X.A.units + 64 < cLine) (hi : PE X i ty) (ho : PE X o td) : PC X .In i o (tDInM ty td) := by
  refine ⟨fun pins s σ H Q I h => ?_⟩
  refine thn (hi.run pins s σ H _ I h) fun iv s1 ⟨y, H1, I1, ry, q1⟩ => thn (ho.run pins s1 σ H1 _ I1 q1) fun u s2 ⟨x, H2, I2, rx, a, ov, kk, ex, g, ek, q2⟩ => ?_
  subst ex ek
  obtain rfl : u = Value.ref a := rx
  exact dn_in hu I2 g ry fun s3 I3 => ⟨.bl ov.isSome, H2, I3, rfl, q2⟩
theorem pc_dnotinM (hu : X.A.units + 64 < cLine) (hi : PE X i ty) (ho : PE X o td) : PC X .NotIn i o (tDNotInM ty td) := by
  refine ⟨fun pins s σ H Q I h => ?_⟩
  refine thn (hi.run pins s σ H _ I h) fun iv s1 ⟨y, H1, I1, ry, q1⟩ => thn (ho.run pins s1 σ H1 _ I1 q1) fun u s2 ⟨x, H2, I2, rx, a, ov, kk, ex, g, ek, q2⟩ => ?_
  subst ex ek
  obtain rfl : u = Value.ref a := rx
  exact dn_notIn hu I2 g ry fun s3 I3 => ⟨.bl (!ov.isSome), H2, I3, rfl, q2⟩
theorem ps_dputN (hu : X.A.units + 64 < cLine) (ho : PE X o td) (hi : PE X i ty) (hv : PE X value tv) (hs : swapsWith value (some (.Subscript o i pos')) pos.line X.env = pure false) :
    PS X (.Assign [.Subscript o i pos'] value pos) (sDPutN td ty tv) := by
  refine ⟨fun pins s σ H D I h => ?_⟩
  refine wpAny_Assign_Subscript (thn (hv.run pins s σ H _ I h) fun r s1 ⟨v, H1, I1, rv, q1⟩ => thn (ho.run pins s1 σ H1 _ I1 q1) fun u s2 ⟨x, H2, I2, rx, q2⟩ => thn (hi.run pins s2 σ H2 _ I2 q2) fun iv s3 ⟨y, H3, I3, ry, a, H4, ex, g, q3⟩ => ?_) hs
  subst ex
  obtain rfl : u = Value.ref a := rx
  exact dn_setItem hu I3 g ry rv fun s4 I4 => ⟨σ, H4, I4, q3⟩
end
end L2
namespace L2
open PySem PySem.Spec PyProof.Rows Z
open Rep (rep)
section
variable {X : Cx} {pins : List (Addr × Obj)} {σ : L2.St} {H : Hp} {s : Shared} {d : Addr} {ents : List Ent} {o : Obj} {es : Array DictEntry} {ep : Nat} {P : Program} {w : World} {K : PySem.W.Frag} {tg e : Expr} {td : TE}
theorem Inv.frzN (I : Inv X pins σ H s) (h : H d = some (.frz o (DnO d ents))) :
    (d == sysModules) = false ∧ s.heap.get? d = some o ∧ o.ExactDict ∧ ∃ (es : Array DictEntry) (ep : Nat), o.data = .dict es ep ∧ es.size = ents.length ∧
      ∀ (i : Nat) (en : Ent), ents[i]? = some en → ∃ x : DictEntry, es[i]? = some x ∧ x.key = .ref en.1 ∧ RelV en.2.2 x.val := by
  obtain ⟨look, z, hd, xs, o2, es, ep, rel, look2, hx, hdat, he, hn⟩ := I.hok d _ h |>.imp id (fun q => q.1)
  obtain rfl : o2 = o := by
    rw [look] at look2
    exact (Option.some.inj look2).symm
  refine ⟨hd, look, hx, es, ep, hdat, ?_, fun i en hi => ?_⟩
  · have h1 : es.toList.length = (xs.map entN).length := congrArg List.length he
    rw [Array.length_toList, List.length_map] at h1
    have := Paired.length rel
    omega
  · obtain ⟨row, hrow, e1, e2, e3⟩ := paired_get rel hi
    have q : es[i]? = (xs[i]?).map entN := by rw [← Array.getElem?_toList, he, List.getElem?_map]
    rw [hrow] at q
    refine ⟨_, q, ?_, e3⟩
    show Value.ref row.2.1 = Value.ref en.1
    rw [e2]
def ItN (d : Addr) (o : Obj) (ents : List Ent) : It :=
  ⟨fun i H => H d = some (.frz o (DnO d ents)) ∧ i < ents.length, fun i H x H' => H' = H ∧ ∃ en : Ent, ents[i]? = some en ∧ x = .ref en.1, fun i H => H d = some (.frz o (DnO d ents)) ∧ ents.length ≤ i⟩
theorem turn_keysN (it : Addr) (hod : o.data = .dict es ep) : Turn P w K tg (ItN d o ents) [it] it (fun i h => h.IsKeyIter it d i ents.length ep) where
  mem := by simp
  obj := fun i h st b hb => by
    have e : b = it := by simpa using hb
    subst e
    obtain ⟨oi, e, c, dd⟩ := st
    exact ⟨oi, e, fun v z => by rw [dd] at z; cases z⟩
  keep := fun i h h' st k => st.at fun oi e => k it (by simp) oi e
  item := by
    intro X hP hw hK hc i pins s σ H E I hf st hg
    subst hP hw hK
    obtain ⟨hd, hi⟩ := hg
    obtain ⟨f0, f1, f2, f3, f4, f5⟩ := hf it (by simp)
    obtain ⟨hs, hgd, hx, es', ep', hdt, hsz, ent⟩ := I.frzN hd
    obtain ⟨rfl, rfl⟩ := dict_ep hod hdt
    obtain ⟨en, hen⟩ : ∃ p, ents[i]? = some p := ⟨ents[i], List.getElem?_eq_getElem hi⟩
    obtain ⟨x, hx1, hkey, _⟩ := ent i en hen
    refine next_key_item st hgd hdt hsz hx1 fun h' st' sb => ?_
    have I1 : Inv X pins σ H { s with heap := h' } := I.turned (t' := s.toks) (fun b ob hb e => (sb.2 b hb).trans e) f0 f1 f3 f4 f5
    obtain ⟨oi, e, c, dd⟩ := id st'
    exact ⟨x.key, rfl, go_of (s := { s with heap := h' }) e c dd (by decide) ⟨.ref en.1, H, I1, hkey, ⟨rfl, en, hen, rfl⟩, st', fun b hb => (hf b hb).1⟩⟩
  done := by
    intro X hP hw hK hc i pins s σ H E I hf st hg
    subst hP hw hK
    obtain ⟨hd, hi⟩ := hg
    obtain ⟨f0, f1, f2, f3, f4, f5⟩ := hf it (by simp)
    obtain ⟨hs, hgd, hx, es', ep', hdt, hsz, ent⟩ := I.frzN hd
    obtain ⟨rfl, rfl⟩ := dict_ep hod hdt
    exact next_key_end (I.ok.hd hc) st hgd hdt hsz hi fun h' eb => ⟨rfl, I.turned (t' := s.toks) (fun b ob hb e => eb b ob hb e) f0 f1 f3 f4 f5⟩
  self := fun A i s Q E st h => by
    refine wpAny_pyIter_slot st.typeIs F.slot_dict_keyiterator_iter (wpAny_call_entry F.slot_dict_keyiterator_iter st.typeIs F.entry_dict_keyiterator_iter ?_ (F.args_dict_keyiterator_iter_1 _))
    show wpAny _ _ (ret (.ref it)) _ _ s
    exact wpAny_pure ⟨_, rfl, "dict_keyiterator", _, st.typeIs, F.slot_dict_keyiterator_next.lookup, h⟩
def iKeysN (td : TE) : TI := fun σ H R => td σ H fun x H1 => ∃ (d : Addr) (o : Obj) (ents : List Ent), x = .ref d ∧ H1 d = some (.frz o (DnO d ents)) ∧ R (ItN d o ents) H1
theorem pi_keysN (he : PE X e td) : PI X tg e (iKeysN td) := by
  refine ⟨fun pins s σ H R I h => ?_⟩
  refine thn (he.run pins s σ H _ I h) fun u s1 ⟨x, H1, I1, rx, d, o, ents, ex, hd, q⟩ => ?_
  subst ex
  obtain rfl : u = Value.ref d := rx
  obtain ⟨hs, hgd, hx, es, ep, hdt, hsz, ent⟩ := I1.frzN hd
  refine iter_keys hs hgd hx hdt (pi_one (tk := s1.toks) I1 _ (turn_keysN _ hdt) ⟨_, Heap.get?_push_size _ rfl, rfl, ?_⟩ q)
  rw [hsz] <;> rfl
end
end L2
namespace Z
open PySem L2
open Rep (rep)
section
variable {K : Fg} {F : Hp} {d : Addr} {o : Obj} {β : Type} {r : V → β → Prop} {ents : List Ent} {m : List (Tup Thing × β)}
theorem ADN.at : ∀ {ents : List Ent} {m : List (Tup Thing × β)}, ADN K F r ents m → ∀ {i : Nat} {en : Ent}, ents[i]? = some en → ∃ p, m[i]? = some p ∧ rep K F (.ref en.1) p.1 ∧ en.2.1 = p.1 ∧ r en.2.2 p.2
  | _, _, .nil, i, en, h => by simp at h
  | _, _, .cons h1 h2 _, 0, en, h => by
    simp at h
    subst h
    exact ⟨_, rfl, h1, rfl, h2⟩
  | _, _, .cons _ _ t, i + 1, en, h => by
    obtain ⟨p, e1, e2⟩ := t.at (i := i) (by simpa using h)
    exact ⟨p, by simpa using e1, e2⟩
theorem ADN.keys : ∀ {ents : List Ent} {m : List (Tup Thing × β)}, ADN K F r ents m → ∀ e ∈ ents, rep K F (.ref e.1) e.2.1
  | _, _, .nil, e, h => by cases h
  | _, _, .cons h1 _ t, e, h => by
    rcases List.mem_cons.mp h with rfl | h
    · exact h1
    · exact t.keys e h
theorem ADN.kN {H : Hp} (h : ADN K F r ents m) (s : Same F H) : KeysN H ents := ⟨K, F, s, h.keys⟩
theorem tw_keysN (h : ADN K F r ents m) : TW (ItN d o ents) (m.map (·.1)) (fun H => H d = some (.frz o (DnO d ents))) (fun b H x H' => H' = H ∧ rep K F x b) := ⟨by
  rw [List.length_map, ← h.length]
  refine ⟨fun _ _ hi q => ⟨q, hi⟩, fun _ q => ⟨q, Nat.le_refl _⟩, fun i H x H' _ _ y => ?_⟩
  obtain ⟨e, en, hen, e1⟩ := y
  obtain ⟨p, h1, h2, h3, _⟩ := h.at hen
  subst e1
  exact ⟨p.1, by rw [List.getElem?_map, h1]; rfl, e, h2⟩⟩
/-- reading the dict at a key -/
theorem dgetN {H : Hp} {b : Addr} {t : Tup Thing} (at_ : DnRd H d ents) (s : Same F H) (h : ADN K F r ents m) (k : rep K F (.ref b) t) : DGetN H d (.ref b) (getN ents t) := ⟨ents, b, t, rfl, at_, h.kN s, ⟨K, F, s, k⟩, rfl⟩
theorem dgetsN {H : Hp} {b : Addr} {t : Tup Thing} {v : V} (at_ : DnRd H d ents) (s : Same F H) (h : ADN K F r ents m) (k : rep K F (.ref b) t) (q : getN ents t = some v) : DGetN H d (.ref b) (some v) := ⟨ents, b, t, rfl, at_, h.kN s, ⟨K, F, s, k⟩, q.symm⟩
theorem ADN.some {t : Tup Thing} {x : β} (h : ADN K F r ents m) (e : mget m t = some x) : ∃ u, getN ents t = some u ∧ r u x := (h.get t).1 x e
theorem ADN.getD {t : Tup Thing} {x : β} {v : V} (h : ADN K F r ents m) (hv : r v x) : ∃ u, (getN ents t).getD v = u ∧ r u ((mget m t).getD x) := by
  obtain ⟨h1, h2⟩ := h.get t
  cases e : mget m t with
  | none => rw [h2 e]; exact ⟨v, rfl, hv⟩
  | some y =>
    obtain ⟨u, hu, ru⟩ := h1 y e
    rw [hu]
    exact ⟨u, rfl, ru⟩
theorem dputN {H : Hp} {b : Addr} {t : Tup Thing} {v : V} (at_ : H d = some (DnO d ents)) (s : Same F H) (h : ADN K F r ents m) (k : rep K F (.ref b) t) (hl : m.length < sizeLine) : DPutN H d (.ref b) v (upd H d (DnO d (putN ents b t v))) := ⟨ents, b, t, rfl, at_, h.kN s, ⟨K, F, s, k⟩, by rw [h.length]; exact hl, rfl⟩
end
/-- a dict of such keys that stays -/
structure FzN (β : Type) where
  m : List (Tup Thing × β)
instance repFzN {β : Type} [Rep β] : Rep (FzN β) := ⟨fun K H v x => ∃ (a : Addr) (o : Obj) (ents : List Ent), v = .ref a ∧ H a = some (.frz o (DnO a ents)) ∧ ADN K H (rep K H) ents x.m, fun s ⟨a, o, ents, e, q, h⟩ => ⟨a, o, ents, e, s _ _ q, h.imp s fun _ _ r => Rep.mono s r⟩⟩
end Z
namespace L2
open PySem PySem.Spec PyProof.Rows Z
def rSetN : TSet := fun o i v H Q => ∃ (d : Addr) (H' : Hp), o = .ref d ∧ DPutN H d i v H' ∧ Q H'
theorem set_dn {X : Cx} (hu : X.A.units + 64 < cLine) : PSet X rSetN := by
  intro pins s σ H o i v ov iv u Q I ro ri rv h
  obtain ⟨d, H', rfl, g, q⟩ := h
  obtain rfl : ov = Value.ref d := ro
  exact dn_setItem hu I g ri rv fun s' I' => ⟨H', I', q⟩
end L2
/-! ZR: zip of two sequences, each a list or a tuple -/
namespace MZ
open PySem PySem.Spec PyProof.Rows L2
/-- a kind of sequence: what it is, its iterator, what next does -/
structure Sq where
  T : String
  src : Heap → Addr → Array Value → Prop
  it : Heap → Addr → Addr → Nat → Prop
  ob : Addr → Obj
  srcE : ∀ {h h' : Heap} {l b : Addr} {xs : Array Value}, src h l xs → Heap.ExtBut b h h' → l ≠ b → src h' l xs
  srcP : ∀ {h : Heap} {l : Addr} {xs : Array Value} (o : Obj), src h l xs → src (h.push o) l xs
  itE : ∀ {h h' : Heap} {i l b : Addr} {k : Nat}, it h i l k → Heap.ExtBut b h h' → i ≠ b → it h' i l k
  itA : ∀ {h h' : Heap} {i l : Addr} {k : Nat}, it h i l k → (∀ o, h.get? i = some o → h'.get? i = some o) → it h' i l k
  itO : ∀ {h : Heap} {i l : Addr} {k : Nat}, it h i l k → ∃ o vs, h.get? i = some o ∧ o.data = .fields vs
  freed : ∀ l : Addr, (ob l).isFreed = false
  new : ∀ {h : Heap} {i l : Addr}, h.get? i = some (ob l) → it h i l 0
  lt : ∀ {h : Heap} {l : Addr} {xs : Array Value}, src h l xs → l < h.objs.size
  iter : ∀ {prog : Program} {w : World} {A : Around} {E : Value → Shared → Prop} {s : Shared} {l : Addr} {xs : Array Value} {Q : Value → Shared → Prop}, src s.heap l xs →
    Q (.ref s.heap.objs.size) { s with heap := s.heap.push (ob l) } → wpAny (model prog w) A (pyIter (.ref l)) Q E s
  item : ∀ {prog : Program} {w : World} {A : Around} {E : Value → Shared → Prop} {s : Shared} {i l : Addr} {k : Nat} {xs : Array Value} {x : Value} {Q : Value → Shared → Prop}, it s.heap i l k → src s.heap l xs → xs[k]? = some x →
    (∀ h', it h' i l (k + 1) → Heap.SameBut i s.heap h' → Q x { s with heap := h' }) → wpAny (model prog w) A (Builtin.SmallTypes.nextOf (.ref i)) Q E s
  fin : ∀ {prog : Program} {w : World} {A : Around} {E : Value → Shared → Prop} {s : Shared} {i l : Addr} {k : Nat} {xs : Array Value} {Q : Value → Shared → Prop}, A.handled = none → it s.heap i l k → src s.heap l xs → xs[k]? = none →
    (∀ h' e, Heap.ExtBut i s.heap h' → (∃ o, h'.get? e = some o ∧ o.cls = .type "StopIteration") → E (.ref e) { s with heap := h' }) → wpAny (model prog w) A (Builtin.SmallTypes.nextOf (.ref i)) Q E s
/-- lists -/
def sqL : Sq where
  T := "list"
  src := fun h l xs => h.IsList l xs
  it := fun h i l k => h.IsListIter i l k
  ob := fun l => { cls := .type "list_iterator", data := .fields #[.ref l, .int 0 0] }
  srcE := fun x y z => x.extBut y z
  srcP := fun o x => Heap.IsList.push x o
  itE := fun x y z => x.extBut y z
  itA := fun x y => x.at y
  itO := fun ⟨o, a, _, b⟩ => ⟨o, _, a, b⟩
  freed := fun _ => rfl
  new := fun a => ⟨_, a, rfl, rfl⟩
  lt := fun ⟨_, a, _⟩ => Heap.lt_size a
  iter := fun a q => wpAny_pyIter_list a q
  item := fun a b c q => wpAny_nextOf_list_item a b c q
  fin := fun a b c d q => wpAny_nextOf_list_end a b c d q
/-- tuples -/
def sqT : Sq where
  T := "tuple"
  src := fun h l xs => h.IsTuple l xs
  it := fun h i l k => h.IsTupleIter i l k
  ob := fun l => { cls := .type "tuple_iterator", data := .fields #[.ref l, .int 0 0] }
  srcE := fun x y z => x.extBut y z
  srcP := fun o x => Heap.IsTuple.push x o
  itE := fun x y z => x.extBut y z
  itA := fun x y => x.at y
  itO := fun ⟨o, a, _, b⟩ => ⟨o, _, a, b⟩
  freed := fun _ => rfl
  new := fun a => ⟨_, a, rfl, rfl⟩
  lt := fun ⟨_, a, _⟩ => Heap.lt_size a
  iter := fun a q => wpAny_pyIter_tuple a q
  item := fun a b c q => RZ.nextOf_tuple_item a b c q
  fin := fun a b c d q => RZ.nextOf_tuple_end a b c d q
section
variable {prog : Program} {w : World} {A : Around} {E : Value → Shared → Prop} {s : Shared} {S1 S2 : Sq} {z TI TO i1 i2 l1 l2 : Addr} {k1 k2 : Nat} {xs ys : Array Value} {x y a b : Value}
/-- what stays but the zip's own four -/
def Kp (z TO i1 i2 : Addr) (h h' : Heap) : Prop := ∀ c o, c ≠ z → c ≠ TO → c ≠ i1 → c ≠ i2 → h.get? c = some o → h'.get? c = some o
theorem nxt_item {Q : Value → Shared → Prop} (D : ZipApart z TI TO i1 i2 l1 l2)
    (gz : IsZip s.heap z TI TO .none) (gI : IsPair s.heap TI (.ref i1) (.ref i2)) (gO : IsPair s.heap TO a b)
    (t1 : S1.it s.heap i1 l1 k1) (t2 : S2.it s.heap i2 l2 k2) (u1 : S1.src s.heap l1 xs) (u2 : S2.src s.heap l2 ys) (ex : xs[k1]? = some x) (ey : ys[k2]? = some y)
    (q : ∀ h', IsZip h' z TI TO (rawInt s.heap.objs.size) → IsPair h' TO x y → S1.it h' i1 l1 (k1 + 1) → S2.it h' i2 l2 (k2 + 1) → IsPair h' s.heap.objs.size x y → h'.objs.size = s.heap.objs.size + 1 →
      Kp z TO i1 i2 s.heap h' → Q (.ref s.heap.objs.size) { s with heap := h' }) :
    wpAny (model prog w) A (Builtin.«zip.__next__» ⟨[.ref z], []⟩) (fun f s' => ∃ v, f = .done (.ret v) ∧ Q v s') E s := by
  show wpAny _ _ (field (.ref z) 2 >>= fun t => _) _ _ _
  refine wpAny_bind (wpAny_field gz rfl (x := .bool false) rfl ?_)
  show wpAny _ _ (field (.ref z) 3 >>= fun t => _) _ _ _
  refine wpAny_bind (wpAny_field gz rfl (x := .ref TI) rfl (wpAny_bind (wpAny_seqItems gI rfl ?_)))
  show wpAny _ _ (Builtin.SmallTypes.ownedTupleIsFree (.ref z) >>= fun t => _) _ _ _
  refine wpAny_bind ?_
  unfold Builtin.SmallTypes.ownedTupleIsFree
  refine wpAny_bind (wpAny_field gz rfl (x := .none) rfl (wpAny_pure ?_)); simp only [if_true]
  refine wpAny_bind (wpAny_rule (wpAny_bind (wpAny_field gz rfl (x := .ref TO) rfl ?_)))
  refine wpAny_bind (wpAny_setField_rec gz (by simp) fun h1 gz1 e1 => ?_)
  replace gz1 : IsZip h1 z TI TO .ellipsis := gz1
  refine wpAny_bind ?_; simp only [List.zipIdx_cons, List.zipIdx_nil, List.forIn_cons, List.forIn_nil]
  refine wpAny_bind (wpAny_bind (wpAny_onRaise ?_)); show wpAny _ _ (Builtin.SmallTypes.nextOf (.ref i1) >>= fun t => _) _ _ _
  refine wpAny_bind (S1.item (S1.itE t1 e1.extBut D.i1z) (S1.srcE u1 e1.extBut D.l1z) ex fun h2 t12 e2 => wpAny_pure ?_)
  have gO2 : IsPair h2 TO a b := e2.extBut _ _ D.TOi1 (e1.extBut _ _ D.TOz gO)
  refine wpAny_bind (wpAny_seqItems gO2 rfl (wpAny_bind (wpAny_updateSeq_pair gO2 fun h3 gO3 e3 => ?_)))
  replace gO3 : IsPair h3 TO x b := gO3
  refine wpAny_bind (wpAny_letGo (wpAny_pure (wpAny_bind (wpAny_bind (wpAny_onRaise ?_)))))
  show wpAny _ _ (Builtin.SmallTypes.nextOf (.ref i2) >>= fun t => _) _ _ _
  refine wpAny_bind (S2.item (S2.itE (S2.itE (S2.itE t2 e1.extBut D.i2z) e2.extBut D.i12.symm) e3.extBut D.TOi2.symm)
    (S2.srcE (S2.srcE (S2.srcE u2 e1.extBut D.l2z) e2.extBut D.l2i1) e3.extBut D.l2TO) ey fun h4 t24 e4 => wpAny_pure ?_)
  have gO4 : IsPair h4 TO x b := e4.extBut _ _ D.TOi2 gO3
  refine wpAny_bind (wpAny_seqItems gO4 rfl (wpAny_bind (wpAny_updateSeq_pair gO4 fun h5 gO5 e5 => ?_)))
  replace gO5 : IsPair h5 TO x y := gO5
  refine wpAny_bind (wpAny_letGo (wpAny_pure (wpAny_pure (wpAny_bind (wpAny_seqItems gO5 rfl (wpAny_bind (wpAny_newTuple ?_)))))))
  have sz : h5.objs.size = s.heap.objs.size := by rw [e5.1, e4.1, e3.1, e2.1, e1.1]
  have gz5 : IsZip h5 z TI TO .ellipsis := e5.extBut _ _ D.TOz.symm (e4.extBut _ _ D.i2z.symm (e3.extBut _ _ D.TOz.symm (e2.extBut _ _ D.i1z.symm gz1)))
  have kp5 : Kp z TO i1 i2 s.heap h5 := fun c o c1 c2 c3 c4 e =>
    e5.extBut _ _ c2 (e4.extBut _ _ c4 (e3.extBut _ _ c2 (e2.extBut _ _ c3 (e1.extBut _ _ c1 e))))
  have t15 : S1.it h5 i1 l1 (k1 + 1) := S1.itE (S1.itE (S1.itE t12 e3.extBut D.TOi1.symm) e4.extBut D.i12) e5.extBut D.TOi1.symm
  have t25 : S2.it h5 i2 l2 (k2 + 1) := S2.itE t24 e5.extBut D.TOi2.symm
  have lz : z < h5.objs.size := Heap.lt_size gz5
  show wpAny _ _ (Builtin.SmallTypes.ownedTupleHandOut (.ref z) (.ref h5.objs.size) >>= fun t => _) _ _ _
  refine wpAny_bind ?_
  unfold Builtin.SmallTypes.ownedTupleHandOut
  have gz6 : IsZip (h5.push { cls := .type "tuple", data := .seq #[x, y] }) z TI TO .ellipsis := Heap.get?_push_of_some _ gz5
  refine wpAny_bind (wpAny_setField_rec gz6 (by simp) fun h7 gz7 e7 => ?_)
  replace gz7 : IsZip h7 z TI TO (rawInt h5.objs.size) := gz7
  refine wpAny_setField_rec gz7 (by simp) fun h8 gz8 e8 => ?_
  replace gz8 : IsZip h8 z TI TO (rawInt h5.objs.size) := gz8
  have up : ∀ c o, c ≠ z → h5.get? c = some o → h8.get? c = some o := fun c o c1 e => e8.extBut _ _ c1 (e7.extBut _ _ c1 (Heap.get?_push_of_some _ e))
  have gT : IsPair h8 h5.objs.size x y := e8.extBut _ _ (Nat.ne_of_gt lz) (e7.extBut _ _ (Nat.ne_of_gt lz) (Heap.get?_push_size _ rfl))
  have sz8 : h8.objs.size = h5.objs.size + 1 := by rw [e8.1, e7.1, Heap.size_push]
  rw [sz] at gz8 gT sz8
  refine wpAny_pure ⟨_, rfl, ?_⟩
  show Q (.ref h5.objs.size) _; rw [sz]
  exact q h8 gz8 (up _ _ D.TOz gO5) (S1.itA t15 fun o e => up _ o D.i1z e) (S2.itA t25 fun o e => up _ o D.i2z e) gT sz8 fun c o c1 c2 c3 c4 e => up c o c1 (kp5 c o c1 c2 c3 c4 e)
theorem nxt_end {Q : Fin → Shared → Prop} (hh : A.handled = none) (D : ZipApart z TI TO i1 i2 l1 l2)
    (gz : IsZip s.heap z TI TO .none) (gI : IsPair s.heap TI (.ref i1) (.ref i2)) (gO : IsPair s.heap TO a b)
    (t1 : S1.it s.heap i1 l1 k1) (t2 : S2.it s.heap i2 l2 k2) (u1 : S1.src s.heap l1 xs) (u2 : S2.src s.heap l2 ys) (over : xs[k1]? = none ∨ ys[k2]? = none)
    (q : ∀ h' e, Kp z TO i1 i2 s.heap h' → (∃ o, h'.get? e = some o ∧ o.cls = .type "StopIteration") → E (.ref e) { s with heap := h' }) :
    wpAny (model prog w) A (Builtin.«zip.__next__» ⟨[.ref z], []⟩) Q E s := by
  show wpAny _ _ (field (.ref z) 2 >>= fun t => _) _ _ _
  refine wpAny_bind (wpAny_field gz rfl (x := .bool false) rfl ?_)
  show wpAny _ _ (field (.ref z) 3 >>= fun t => _) _ _ _
  refine wpAny_bind (wpAny_field gz rfl (x := .ref TI) rfl (wpAny_bind (wpAny_seqItems gI rfl ?_)))
  show wpAny _ _ (Builtin.SmallTypes.ownedTupleIsFree (.ref z) >>= fun t => _) _ _ _
  refine wpAny_bind ?_
  unfold Builtin.SmallTypes.ownedTupleIsFree
  refine wpAny_bind (wpAny_field gz rfl (x := .none) rfl (wpAny_pure ?_)); simp only [if_true]
  refine wpAny_bind (wpAny_rule (wpAny_bind (wpAny_field gz rfl (x := .ref TO) rfl ?_)))
  refine wpAny_bind (wpAny_setField_rec gz (by simp) fun h1 gz1 e1 => ?_)
  replace gz1 : IsZip h1 z TI TO .ellipsis := gz1
  refine wpAny_bind ?_; simp only [List.zipIdx_cons, List.zipIdx_nil, List.forIn_cons, List.forIn_nil]
  refine wpAny_bind (wpAny_bind (wpAny_onRaise ?_)); show wpAny _ _ (Builtin.SmallTypes.nextOf (.ref i1) >>= fun t => _) _ _ _
  cases ex : xs[k1]? with
  | none =>
    refine wpAny_bind (S1.fin hh (S1.itE t1 e1.extBut D.i1z) (S1.srcE u1 e1.extBut D.l1z) ex fun h2 e e2 he => ?_)
    obtain ⟨oe, he1, he2⟩ := he
    have gz2 : IsZip h2 z TI TO .ellipsis := e2 _ _ D.i1z.symm gz1
    have ne : e ≠ z := fun t => by subst t; rw [gz2] at he1; cases he1; simp at he2
    refine wpAny_setField_rec gz2 (by simp) fun h3 _ e3 => q h3 e (fun c o c1 _ c3 _ t => e3.extBut _ _ c1 (e2 _ _ c3 (e1.extBut _ _ c1 t))) ⟨oe, e3.extBut _ _ ne he1, he2⟩
  | some x =>
    have ey : ys[k2]? = none := over.resolve_left fun t => by rw [ex] at t; cases t
    refine wpAny_bind (S1.item (S1.itE t1 e1.extBut D.i1z) (S1.srcE u1 e1.extBut D.l1z) ex fun h2 t12 e2 => wpAny_pure ?_)
    have gO2 : IsPair h2 TO a b := e2.extBut _ _ D.TOi1 (e1.extBut _ _ D.TOz gO)
    refine wpAny_bind (wpAny_seqItems gO2 rfl (wpAny_bind (wpAny_updateSeq_pair gO2 fun h3 gO3 e3 => ?_)))
    refine wpAny_bind (wpAny_letGo (wpAny_pure (wpAny_bind (wpAny_bind (wpAny_onRaise ?_)))))
    show wpAny _ _ (Builtin.SmallTypes.nextOf (.ref i2) >>= fun t => _) _ _ _
    refine wpAny_bind (S2.fin hh (S2.itE (S2.itE (S2.itE t2 e1.extBut D.i2z) e2.extBut D.i12.symm) e3.extBut D.TOi2.symm)
      (S2.srcE (S2.srcE (S2.srcE u2 e1.extBut D.l2z) e2.extBut D.l2i1) e3.extBut D.l2TO) ey fun h4 e e4 he => ?_)
    obtain ⟨oe, he1, he2⟩ := he
    have gz4 : IsZip h4 z TI TO .ellipsis := e4 _ _ D.i2z.symm (e3.extBut _ _ D.TOz.symm (e2.extBut _ _ D.i1z.symm gz1))
    have ne : e ≠ z := fun t => by subst t; rw [gz4] at he1; cases he1; simp at he2
    refine wpAny_setField_rec gz4 (by simp) fun h5 _ e5 => q h5 e (fun c o c1 c2 c3 c4 t => e5.extBut _ _ c1 (e4 _ _ c4 (e3.extBut _ _ c2 (e2.extBut _ _ c3 (e1.extBut _ _ c1 t))))) ⟨oe, e5.extBut _ _ ne he1, he2⟩
theorem pn_item {Q : Option Value → Shared → Prop} (D : ZipApart z TI TO i1 i2 l1 l2)
    (gz : IsZip s.heap z TI TO .none) (gI : IsPair s.heap TI (.ref i1) (.ref i2)) (gO : IsPair s.heap TO a b)
    (t1 : S1.it s.heap i1 l1 k1) (t2 : S2.it s.heap i2 l2 k2) (u1 : S1.src s.heap l1 xs) (u2 : S2.src s.heap l2 ys) (ex : xs[k1]? = some x) (ey : ys[k2]? = some y)
    (q : ∀ h', IsZip h' z TI TO (rawInt s.heap.objs.size) → IsPair h' TO x y → S1.it h' i1 l1 (k1 + 1) → S2.it h' i2 l2 (k2 + 1) → IsPair h' s.heap.objs.size x y → h'.objs.size = s.heap.objs.size + 1 →
      Kp z TO i1 i2 s.heap h' → Q (some (.ref s.heap.objs.size)) { s with heap := h' }) : wpAny (model prog w) A (pyNext (.ref z)) Q E s := by
  have ty : s.TypeIs (.ref z) "zip" := ⟨_, gz, rfl⟩
  unfold pyNext
  exact wpAny_bind (wpAny_attempt (wpAny_callSpecial?_slot (name := Str.ofString "__next__") ty F.slot_zip_next (wpAny_call_entry F.slot_zip_next ty F.entry_zip_next
    (nxt_item D gz gI gO t1 t2 u1 u2 ex ey fun h' b1 b2 b3 b4 b5 b6 b7 => wpAny_pure (q h' b1 b2 b3 b4 b5 b6 b7)) (F.args_zip_next_1 _))))
theorem pn_end {Q : Option Value → Shared → Prop} (hh : A.handled = none) (D : ZipApart z TI TO i1 i2 l1 l2)
    (gz : IsZip s.heap z TI TO .none) (gI : IsPair s.heap TI (.ref i1) (.ref i2)) (gO : IsPair s.heap TO a b)
    (t1 : S1.it s.heap i1 l1 k1) (t2 : S2.it s.heap i2 l2 k2) (u1 : S1.src s.heap l1 xs) (u2 : S2.src s.heap l2 ys) (over : xs[k1]? = none ∨ ys[k2]? = none)
    (q : ∀ h', Kp z TO i1 i2 s.heap h' → Q none { s with heap := h' }) : wpAny (model prog w) A (pyNext (.ref z)) Q E s := by
  have ty : s.TypeIs (.ref z) "zip" := ⟨_, gz, rfl⟩
  unfold pyNext
  refine wpAny_bind (wpAny_attempt (wpAny_callSpecial?_slot (name := Str.ofString "__next__") ty F.slot_zip_next (wpAny_call_entry F.slot_zip_next ty F.entry_zip_next
    (nxt_end hh D gz gI gO t1 t2 u1 u2 over fun h' e hk he => ?_) (F.args_zip_next_1 _))))
  obtain ⟨o, ho, hc⟩ := he
  exact wpAny_bind (wpAny_isInstance (T := "StopIteration") (b := true) ⟨o, ho, hc⟩ isSubtype_stop (wpAny_pure (q _ hk)))
end
abbrev H1 (S1 : Sq) (h : Heap) (l1 : Addr) : Heap := h.push (S1.ob l1)
abbrev H2 (S1 S2 : Sq) (h : Heap) (l1 l2 : Addr) : Heap := (H1 S1 h l1).push (S2.ob l2)
abbrev H3 (S1 S2 : Sq) (h : Heap) (l1 l2 : Addr) : Heap := (H2 S1 S2 h l1 l2).push { cls := .type "tuple", data := .seq #[.ref h.objs.size, .ref (H1 S1 h l1).objs.size] }
abbrev H4 (S1 S2 : Sq) (h : Heap) (l1 l2 : Addr) : Heap := (H3 S1 S2 h l1 l2).push { cls := .type "tuple", data := .seq #[.none, .none] }
abbrev H5 (S1 S2 : Sq) (h : Heap) (l1 l2 : Addr) : Heap := (H4 S1 S2 h l1 l2).push { cls := .type "zip", data := .fields #[.none, .bool false, .bool false, .ref (H2 S1 S2 h l1 l2).objs.size, .ref (H3 S1 S2 h l1 l2).objs.size] }
theorem meets_new (S1 S2 : Sq) (l1 l2 : Addr) (xs ys : Array Value) :
    Meets (Builtin.«zip.__new__» ⟨[.type "zip", .ref l1, .ref l2], []⟩) (fun _ R s => S1.src s.heap l1 xs ∧ S2.src s.heap l2 ys ∧ R (.ok (.ret (.ref (H4 S1 S2 s.heap l1 l2).objs.size))) { s with heap := H5 S1 S2 s.heap l1 l2 }) :=
  .of_wp fun prog w A R s h => by
    obtain ⟨hp, g, d, tk, os⟩ := s
    obtain ⟨u1, u2, h⟩ := h
    have hsub := sub_zip
    have v1 : S1.src (Shared.heap ⟨hp, g, d, tk, os⟩) l1 xs := u1
    have v2 : S2.src (Shared.heap ⟨hp.push (S1.ob l1), g, d, tk, os⟩) l2 ys := S2.srcP _ u2
    wp_walk using S1.iter v1, S2.iter v2
    exact ⟨_, rfl, h⟩
theorem call_zip {prog : Program} {w : World} {A : Around} {E : Value → Shared → Prop} {s : Shared} {S1 S2 : Sq} {l1 l2 : Addr} {xs ys : Array Value} {Q : Value → Shared → Prop} (u1 : S1.src s.heap l1 xs) (u2 : S2.src s.heap l2 ys)
    (q : ∀ h', IsZip h' (s.heap.objs.size + 4) (s.heap.objs.size + 2) (s.heap.objs.size + 3) .none → IsPair h' (s.heap.objs.size + 2) (.ref s.heap.objs.size) (.ref (s.heap.objs.size + 1)) →
      IsPair h' (s.heap.objs.size + 3) .none .none → S1.it h' s.heap.objs.size l1 0 → S2.it h' (s.heap.objs.size + 1) l2 0 → h'.objs.size = s.heap.objs.size + 5 →
      (∀ c o, s.heap.get? c = some o → h'.get? c = some o) → Q (.ref (s.heap.objs.size + 4)) { s with heap := h' }) :
    wpAny (model prog w) A (call (.type "zip") [.ref l1, .ref l2]) Q E s := by
  refine callType_new F.called_zip (by decide) (F.typeCall_zip_2 _ _) (F.newCall_zip_2 _ _) (fun obj => F.args_object_init_3 obj _ _) F.entry_zip_new (meets_new S1 S2 l1 l2 xs ys) ⟨u1, u2, ?_⟩
  have z1 : (H1 S1 s.heap l1).objs.size = s.heap.objs.size + 1 := Heap.size_push ..
  have z2 : (H2 S1 S2 s.heap l1 l2).objs.size = s.heap.objs.size + 2 := by rw [Heap.size_push, z1]
  have z3 : (H3 S1 S2 s.heap l1 l2).objs.size = s.heap.objs.size + 3 := by rw [Heap.size_push, z2]
  have z4 : (H4 S1 S2 s.heap l1 l2).objs.size = s.heap.objs.size + 4 := by rw [Heap.size_push, z3]
  have z5 : (H5 S1 S2 s.heap l1 l2).objs.size = s.heap.objs.size + 5 := by rw [Heap.size_push, z4]
  have p : ∀ {h : Heap} {c : Addr} {o o' : Obj}, h.get? c = some o → (h.push o').get? c = some o := fun e => Heap.get?_push_of_some _ e
  have g5 : (H5 S1 S2 s.heap l1 l2).get? (H4 S1 S2 s.heap l1 l2).objs.size = some _ := Heap.get?_push_size _ rfl
  have g4 : (H5 S1 S2 s.heap l1 l2).get? (H3 S1 S2 s.heap l1 l2).objs.size = some _ := p (Heap.get?_push_size _ rfl)
  have g3 : (H5 S1 S2 s.heap l1 l2).get? (H2 S1 S2 s.heap l1 l2).objs.size = some _ := p (p (Heap.get?_push_size _ rfl))
  have g2 : (H5 S1 S2 s.heap l1 l2).get? (H1 S1 s.heap l1).objs.size = some (S2.ob l2) := p (p (p (Heap.get?_push_size _ (S2.freed l2))))
  have g1 : (H5 S1 S2 s.heap l1 l2).get? s.heap.objs.size = some (S1.ob l1) := p (p (p (p (Heap.get?_push_size _ (S1.freed l1)))))
  show _ ∧ _
  rw [z2, z3, z4] at g5
  rw [z1, z2] at g3
  rw [z3] at g4
  rw [z1] at g2
  rw [z4]
  exact ⟨⟨_, g5, rfl⟩, q _ g5 g3 g4 (S1.new g1) (S2.new g2) z5 fun c o e => p (p (p (p (p e))))⟩
end MZ
namespace MZ
open PySem PySem.Spec PyProof.Rows L2
/-- a sequence as the heap's own tale has it -/
structure SqK (S : Sq) where
  q : PySem.W.Frag → Hp → Addr → List V → Prop
  get : ∀ {X : Cx} {pins : List (Addr × Obj)} {σ : L2.St} {H : Hp} {s : Shared} {a : Addr} {xs : List V}, Inv X pins σ H s → q X.K H a xs → ∃ its, Vals xs its ∧ S.src s.heap a its.toArray
  inj : ∀ {X : Cx} {pins : List (Addr × Obj)} {σ : L2.St} {H : Hp} {s : Shared} {a : Addr} {xs ys : List V}, Inv X pins σ H s → q X.K H a xs → q X.K H a ys → xs = ys
def qL : SqK sqL where
  q := SqL
  get := fun I h => let ⟨its, r, p, _⟩ := I.list h; ⟨its, r, p.isList⟩
  inj := fun I a b => I.list_inj a b
def qT : SqK sqT where
  q := SqT
  get := fun I h => let ⟨its, r, p, _⟩ := I.tuple h; ⟨its, r, p⟩
  inj := fun I a b => I.tuple_inj a b
def It2 {S1 S2 : Sq} (Q1 : SqK S1) (Q2 : SqK S2) (K : PySem.W.Frag) (a b : Addr) : It :=
  ⟨fun i H => ∃ (xs ys : List V) (x y : V), Q1.q K H a xs ∧ Q2.q K H b ys ∧ xs[i]? = some x ∧ ys[i]? = some y,
    fun i H v H' => ∃ T x y, v = .ref T ∧ H T = none ∧ H' = upd H T (.tup [x, y]) ∧ (∀ xs, Q1.q K H a xs → xs[i]? = some x) ∧ ∀ ys, Q2.q K H b ys → ys[i]? = some y,
    fun i H => ∃ xs ys : List V, Q1.q K H a xs ∧ Q2.q K H b ys ∧ (xs.length ≤ i ∨ ys.length ≤ i)⟩
theorem five {c z TI TO i1 i2 : Addr} (h : c ∈ [z, TI, TO, i1, i2]) : c = z ∨ c = TI ∨ c = TO ∨ c = i1 ∨ c = i2 := by simpa using h
theorem turn2 {S1 S2 : Sq} {Q1 : SqK S1} {Q2 : SqK S2} {P : Program} {w : World} {K : PySem.W.Frag} {elts : List Expr} {kk : Nat} {tpos : Pos} {a b z TI TO i1 i2 : Addr} (D : ZipApart z TI TO i1 i2 a b) :
    Turn P w K (.Tuple elts kk tpos) (It2 Q1 Q2 K a b) [z, TI, TO, i1, i2] z (fun i h => IsZip h z TI TO .none ∧ IsPair h TI (.ref i1) (.ref i2) ∧ (∃ x y, IsPair h TO x y) ∧ S1.it h i1 a i ∧ S2.it h i2 b i) where
  mem := by simp
  obj := fun i h st c hc => by
    obtain ⟨gz, gI, ⟨x, y, gO⟩, t1, t2⟩ := st
    obtain ⟨o1, v1, e1, d1⟩ := S1.itO t1
    obtain ⟨o2, v2, e2, d2⟩ := S2.itO t2
    rcases five hc with q | q | q | q | q
    · subst q; exact ⟨_, gz, fun v q => nomatch q⟩
    · subst q; exact ⟨_, gI, fun v q => nomatch q⟩
    · subst q; exact ⟨_, gO, fun v q => nomatch q⟩
    · subst q; exact ⟨o1, e1, fun v q => by rw [d1] at q; cases q⟩
    · subst q; exact ⟨o2, e2, fun v q => by rw [d2] at q; cases q⟩
  keep := fun i h h' st k => by
    obtain ⟨gz, gI, ⟨x, y, gO⟩, t1, t2⟩ := st
    exact ⟨k z (by simp) _ gz, k TI (by simp) _ gI, ⟨x, y, k TO (by simp) _ gO⟩, S1.itA t1 fun o q => k i1 (by simp) o q, S2.itA t2 fun o q => k i2 (by simp) o q⟩
  item := by
    intro X hP hw hK hc i pins s σ H E I hf st hg
    subst hP hw hK
    obtain ⟨gz, gI, ⟨x0, y0, gO⟩, t1, t2⟩ := st
    obtain ⟨xs, ys, x, y, qx, qy, ex, ey⟩ := hg
    obtain ⟨its1, r1, u1⟩ := Q1.get I qx
    obtain ⟨its2, r2, u2⟩ := Q2.get I qy
    obtain ⟨v1, ev1, rv1⟩ := r1.get ex
    obtain ⟨v2, ev2, rv2⟩ := r2.get ey
    have lz : z < s.heap.objs.size := Heap.lt_size gz
    refine pn_item D gz gI gO t1 t2 u1 u2 (x := v1) (y := v2) (by simpa using ev1) (by simpa using ev2) fun h' z' gO' t1' t2' gT sz kp => ?_
    refine ⟨_, rfl, wpAny_letOwnedTupleGo_zip (s := { s with heap := h' }) z' fun h'' z'' sb => ?_⟩
    have gT2 : h''.get? s.heap.objs.size = some { cls := .type "tuple", data := .seq #[v1, v2] } := (sb.2 _ (Nat.ne_of_gt lz)).trans gT
    have ok : ObjOk X.prog X.w (upd H s.heap.objs.size (.tup [x, y])) h'' s.heap.objs.size (.tup [x, y]) := ⟨by show 2 ≤ sizeLine; decide, [v1, v2], .cons rv1 (.cons rv2 .nil), ⟨_, gT2, rfl, _, rfl⟩⟩
    have nin : ∀ {c}, c ∉ [z, TI, TO, i1, i2] → c ≠ z ∧ c ≠ TO ∧ c ≠ i1 ∧ c ≠ i2 := fun hb => ⟨fun q => hb (by simp [q]), fun q => hb (by simp [q]), fun q => hb (by simp [q]), fun q => hb (by simp [q])⟩
    have I1 : Inv X pins σ (upd H s.heap.objs.size (.tup [x, y])) { s with heap := h'' } :=
      I.turnedNew (t' := s.toks) (ch := [z, TI, TO, i1, i2]) (fun c o hb q => let n := nin hb; (sb.2 c n.1).trans (kp c o n.1 n.2.1 n.2.2.1 n.2.2.2 q)) hf (Nat.le_refl _) ok
    refine ⟨.ref s.heap.objs.size, _, I1, rfl, ⟨_, x, y, rfl, I.hok.fresh (Nat.le_refl _), rfl, fun l hl => by rw [Q1.inj I hl qx]; exact ex, fun l hl => by rw [Q2.inj I hl qy]; exact ey⟩,
      ⟨z'', (sb.2 _ D.TIz).trans (kp _ _ D.TIz D.TITO D.TIi1 D.TIi2 gI), ⟨v1, v2, (sb.2 _ D.TOz).trans gO'⟩, S1.itA t1' fun o q => (sb.2 _ D.i1z).trans q, S2.itA t2' fun o q => (sb.2 _ D.i2z).trans q⟩, fun c hcm => ?_⟩
    obtain ⟨o1, w1, e1, _⟩ := S1.itO t1
    obtain ⟨o2, w2, e2, _⟩ := S2.itO t2
    have lc : c < s.heap.objs.size := by
      rcases five hcm with q | q | q | q | q
      · exact q ▸ lz
      · exact q ▸ Heap.lt_size gI
      · exact q ▸ Heap.lt_size gO
      · exact q ▸ Heap.lt_size e1
      · exact q ▸ Heap.lt_size e2
    rw [upd_ne (Nat.ne_of_lt lc)]
    exact (hf c hcm).1
  done := by
    intro X hP hw hK hc i pins s σ H E I hf st hg
    subst hP hw hK
    obtain ⟨gz, gI, ⟨x0, y0, gO⟩, t1, t2⟩ := st
    obtain ⟨xs, ys, qx, qy, over⟩ := hg
    obtain ⟨its1, r1, u1⟩ := Q1.get I qx
    obtain ⟨its2, r2, u2⟩ := Q2.get I qy
    have n1 := r1.length
    have n2 := r2.length
    have he : its1.toArray[i]? = none ∨ its2.toArray[i]? = none := by
      rcases over with q | q
      · exact .inl (by simp; omega)
      · exact .inr (by simp; omega)
    exact pn_end (I.ok.hd hc) D gz gI gO t1 t2 u1 u2 he fun h' kp => ⟨rfl, I.turnedL (t' := s.toks) (ch := [z, TI, TO, i1, i2]) (fun c o hb q =>
      kp c o (fun t => hb (by simp [t])) (fun t => hb (by simp [t])) (fun t => hb (by simp [t])) (fun t => hb (by simp [t])) q) hf⟩
  self := fun A i s Q E st h => wpAny_pyIter_zip st.1 h
def iZip2 {S1 S2 : Sq} (Q1 : SqK S1) (Q2 : SqK S2) (K : PySem.W.Frag) (ta : TA) : TI := fun σ H R => ta σ H fun vs H1 => ∃ a b xs ys, vs = [.ref a, .ref b] ∧ Q1.q K H1 a xs ∧ Q2.q K H1 b ys ∧ R (It2 Q1 Q2 K a b) H1
theorem pi_zip2 {S1 S2 : Sq} {Q1 : SqK S1} {Q2 : SqK S2} {X : Cx} {e e2 : Expr} {ta : TA} {p pos tpos : Pos} {elts : List Expr} {kk : Nat} (hg : Gl X "zip") (hm : X.mg "zip" = none) (ha : PA X [e, e2] ta)
    (hs : starEach [e, e2] X.env = (false, eval e X.env) :: starEach [e2] X.env := by rfl) (hpl : (backTo pos (starEach [e2] X.env)).any (·.1) = false := by rfl) :
    PI X (.Tuple elts kk tpos) (.Call (.Name "zip" p) [e, e2] [] pos) (iZip2 Q1 Q2 X.K ta) := by
  refine ⟨fun pins s σ H R I h => ?_⟩
  refine Call_ (ld_blt I hg hm PyProof.Rows.boot_zip (PyProof.Rows.callWith_type1 (thn (ha.run pos pins s σ H _ I h) fun us s1 ⟨vs, G1, I1, r1, a, b, xs, ys, ex, qx, qy, q⟩ => ?_) hs hpl))
  subst ex
  cases r1 with
  | cons r rr =>
    cases rr with
    | cons r' rr =>
      cases rr; cases r; cases r'
      obtain ⟨its1, v1, u1⟩ := Q1.get I1 qx
      obtain ⟨its2, v2, u2⟩ := Q2.get I1 qy
      refine call_zip (S1 := S1) (S2 := S2) u1 u2 fun h' gz gI gO t1 t2 sz kp => wpAny_pyIter_zip gz ?_
      have I2 : Inv X pins σ G1 { s1 with heap := h' } := I1.kept (t' := s1.toks) kp
      refine ⟨s1.heap.objs.size + 4, [s1.heap.objs.size + 4, s1.heap.objs.size + 2, s1.heap.objs.size + 3, s1.heap.objs.size, s1.heap.objs.size + 1], _, _, G1, rfl, I2, turn2 (PySem.W.ktu_apart s1.heap.objs.size a b (S1.lt u1) (S2.lt u2)), ⟨gz, gI, ⟨_, _, gO⟩, t1, t2⟩, fun c hcm => ?_, q⟩
      have hle : s1.heap.objs.size ≤ c := by rcases five hcm with t | t | t | t | t <;> (rw [t]; first | exact Nat.le_add_right _ _ | exact Nat.le_refl _)
      exact I1.fpOk hle (I1.hok.fresh hle)
end MZ
namespace Z
open PySem L2
open Rep (rep)
theorem tw_zip2 {S1 S2 : MZ.Sq} {Q1 : MZ.SqK S1} {Q2 : MZ.SqK S2} {α β : Type} {r1 : V → α → Prop} {r2 : V → β → Prop} {K : Fg} {a b : Addr} {vs us : List V} {xs : List α} {ys : List β} (h : A2 r1 vs xs) (h' : A2 r2 us ys) :
    TW (MZ.It2 Q1 Q2 K a b) (xs.zip ys) (fun H => Q1.q K H a vs ∧ Q2.q K H b us) (fun p H v H' => ∃ T x y, v = .ref T ∧ H T = none ∧ H' = upd H T (.tup [x, y]) ∧ r1 x p.1 ∧ r2 y p.2) := ⟨by
  rw [List.length_zip, ← h.length, ← h'.length]
  refine ⟨fun i H hi q => ?_, fun H q => ⟨vs, us, q.1, q.2, by omega⟩, fun i H v H' hi q y => ?_⟩
  · have n1 : i < vs.length := by omega
    have n2 : i < us.length := by omega
    exact ⟨vs, us, vs[i], us[i], q.1, q.2, by simp [n1], by simp [n2]⟩
  · obtain ⟨T, u, w, e1, e2, e3, e4, e5⟩ := y
    obtain ⟨c, h1, h2⟩ := h.getV (e4 _ q.1)
    obtain ⟨d, h3, h4⟩ := h'.getV (e5 _ q.2)
    refine ⟨(c, d), ?_, T, u, w, e1, e2, e3, h2, h4⟩
    rw [List.getElem?_zip_eq_some]
    exact ⟨h1, h3⟩⟩
end Z
/-! Z8: set(list of ints), sorted of it; list.count of data; list.insert -/
namespace L2
open PySem PySem.Spec PyProof.Rows
end L2
namespace Z
open PySem L2
open Rep (rep)
/-- xs.insert(i, y), i not below nought -/
def insR {α : Type} (xs : List α) (i : Int) (y : α) : R (List α) := if xs.length < 100000 ∧ 0 ≤ i ∧ i < 9223372036854775808 then .ok (xs.take i.toNat ++ [y] ++ xs.drop i.toNat) else .bad
theorem pn_ins {α δ : Type} {xs : List α} {i : Int} {y : α} {f : List α → R δ} {P : δ → Prop} {E : Exn → Prop} (h : Post (insR xs i y >>= f) P E) : ∃ l, (xs.length < 100000 ∧ 0 ≤ i ∧ i < 9223372036854775808) ∧ l = xs.take i.toNat ++ [y] ++ xs.drop i.toNat ∧ Post (f l) P E := by
  unfold insR at h
  by_cases q : xs.length < 100000 ∧ 0 ≤ i ∧ i < 9223372036854775808
  · rw [if_pos q] at h
    exact ⟨_, q, rfl, h⟩
  · rw [if_neg q] at h
    exact (show False from h).elim
theorem A2.ins {α : Type} {r : V → α → Prop} {v : V} {y : α} (n : Nat) {vs : List V} {xs : List α} (h : A2 r vs xs) (g : r v y) : A2 r (vs.take n ++ [v] ++ vs.drop n) (xs.take n ++ [y] ++ xs.drop n) := A2.append (A2.append (A2.take n h) (.cons g .nil)) (A2.drop n h)
theorem line_ins {α : Type} {r : V → α → Prop} {vs : List V} {xs : List α} (h : A2 r vs xs) (g : xs.length < 100000) : vs.length < sizeLine := by
  rw [h.length]
  exact Nat.lt_of_lt_of_le g line5
end Z
namespace Z
open PySem L2
open Rep (rep)
/-- a dict that stays as it is -/
structure FzD (κ β : Type) where
  m : List (κ × β)
  deriving DecidableEq
instance repFD : Rep (FzD Int Int) := ⟨fun K H v d => ∃ a, v = .ref a ∧ H a = some (.dK (encM kI V.int d.m)), fun s ⟨a, e, q⟩ => ⟨a, e, s _ _ q⟩⟩
end Z
namespace Z
open PySem L2
open Rep (rep)
/-- a text as a key -/
def kS (s : Str) : Key := Sum.inr s
end Z
namespace Z
open PySem L2
open Rep (rep)
section
variable {X : Cx} {K : Fg} {F H : Hp}
theorem A2.some {α : Type} [Rep α] {vs : List V} {xs : List α} (h : A2 (rep K F) vs xs) : A2 (rep K F) vs (xs.map Option.some) := by
  induction h with
  | nil => exact .nil
  | cons a _ ih => exact .cons (rep_some a) ih
end
end Z
/-! ZM: lemmas about mirrors -/
namespace Z
open PySem L2
section
variable {α β γ : Type}
theorem mapR_ok {f : α → R β} {g : α → β} : ∀ {xs : List α}, (∀ x ∈ xs, f x = R.ok (g x)) → mapR f xs = R.ok (xs.map g)
  | [], _ => rfl
  | x :: xs, h => by
    show (f x >>= fun y => mapR f xs >>= fun ys => R.ok (y :: ys)) = _
    rw [h x List.mem_cons_self, mapR_ok fun y hy => h y (List.mem_cons_of_mem _ hy)]
    rfl
theorem mapG_ok {f : α → R β} {g : α → β} {xs : List α} (hl : xs.length < 100000) (h : ∀ x ∈ xs, f x = R.ok (g x)) : mapG f xs = R.ok (xs.map g) := by
  unfold mapG
  rw [grd_t (decide_eq_true hl)]
  exact mapR_ok h
theorem filR_ok {f : α → R (Option β)} {g : α → Option β} : ∀ {xs : List α}, (∀ x ∈ xs, f x = R.ok (g x)) → filR f xs = R.ok (xs.filterMap g)
  | [], _ => rfl
  | x :: xs, h => by
    show (f x >>= fun o => filR f xs >>= fun ys => match o with
      | some y => R.ok (y :: ys)
      | none => R.ok ys) = _
    rw [h x List.mem_cons_self, filR_ok fun y hy => h y (List.mem_cons_of_mem _ hy)]
    show (match g x with
      | some y => R.ok (y :: xs.filterMap g)
      | none => R.ok (xs.filterMap g)) = R.ok ((x :: xs).filterMap g)
    rw [List.filterMap_cons]
    cases g x <;> rfl
theorem filG_ok {f : α → R (Option β)} {g : α → Option β} {xs : List α} (hl : xs.length < 100000) (h : ∀ x ∈ xs, f x = R.ok (g x)) : filG f xs = R.ok (xs.filterMap g) := by
  unfold filG
  rw [grd_t (decide_eq_true hl)]
  exact filR_ok h
theorem getI_nat {xs : List α} {i : Int} (h0 : 0 ≤ i) (h1 : i < xs.length) : ∃ x, getI xs i = R.ok x ∧ x ∈ xs ∧ xs[i.toNat]? = some x := by
  have hj : i.toNat < xs.length := by omega
  refine ⟨xs[i.toNat], ?_, List.getElem_mem hj, List.getElem?_eq_getElem hj⟩
  unfold getI
  have e : atI xs i = some xs[i.toNat] := by
    have := atI_nat (xs := xs) (j := i.toNat) (v := xs[i.toNat]) (List.getElem?_eq_getElem hj)
    rw [Int.toNat_of_nonneg h0] at this
    exact this
  rw [e]
  rfl
theorem getI_eq {xs : List α} {i : Int} {x : α} (h0 : 0 ≤ i) (h : xs[i.toNat]? = some x) : getI xs i = R.ok x := by
  have h1 := (List.getElem?_eq_some_iff.mp h).1
  obtain ⟨y, e, _, e2⟩ := getI_nat (xs := xs) (i := i) h0 (by omega)
  rw [h] at e2
  cases e2
  exact e
theorem setI_nat {xs : List α} {i : Int} {x : α} (h0 : 0 ≤ i) (h1 : i < xs.length) : setI xs i x = R.ok (xs.set i.toNat x) := by
  have e : ixN xs.length i = some i.toNat := by
    unfold ixN
    rw [if_pos h0, if_pos h1]
  unfold setI
  rw [e]
theorem app_ok {xs : List α} {x : α} (h : xs.length < 100000) : app xs x = R.ok (xs ++ [x]) := by
  unfold app
  rw [if_pos h]
theorem extend_ok {xs ys : List α} (h : xs.length + ys.length < 100000) : extend xs ys = R.ok (xs ++ ys) := by
  unfold extend
  rw [if_pos h]
theorem modI_ok {i j : Int} (h : 0 < j) : modI i j = R.ok (i % j) := by
  unfold modI
  rw [if_pos h]
theorem divI_okW {i j : Int} (h : 0 < j) (h2 : j.natAbs.log2 < 9000) : divI i j = R.ok (i / j) := by
  unfold divI
  rw [if_pos ⟨h, h2⟩]
theorem divI_ok {i j : Int} (h : 0 < j) (h2 : j < 1073741824) : divI i j = R.ok (i / j) := by
  refine divI_okW h (Nat.lt_of_lt_of_le ((Nat.log2_lt (by omega)).mpr (show j.natAbs < 2 ^ 30 by omega)) (by decide))
theorem mulI_ok {i j : Int} (h : (-(2 ^ 64) < i ∧ i < 2 ^ 64) ∨ (-(2 ^ 64) < j ∧ j < 2 ^ 64)) : mulI i j = R.ok (i * j) := by
  unfold mulI
  rw [if_pos h]
theorem rngI_ok {i j : Int} (h1 : -(2 ^ 62) ≤ i) (h2 : i < 2 ^ 62) (h3 : -(2 ^ 62) ≤ j) (h4 : j < 2 ^ 62) : rngI i j = R.ok (rng i j) := by
  unfold rngI
  rw [if_pos ⟨h1, h2, h3, h4⟩]
theorem rng_mem {i j k : Int} : k ∈ rng i j ↔ i ≤ k ∧ k < j := by
  unfold rng
  rw [List.mem_map]
  constructor
  · rintro ⟨n, hn, rfl⟩
    have := List.mem_range.mp hn
    omega
  · intro h
    exact ⟨(k - i).toNat, List.mem_range.mpr (by omega), by omega⟩
/-! ### what holds of a result, step by step -/
section
variable {P Q : α → Prop} {S : β → Prop} {X : Exn → Prop}
theorem po_bind {m : R α} {k : α → R β} (h : Post m Q X) (hk : ∀ a, Q a → Post (k a) S X) : Post (m >>= k) S X := by
  cases m with
  | ok a => exact hk a h
  | exc e => exact h
  | bad => exact h
theorem po_ok {a : α} (h : P a) : Post (R.ok a) P X := h
theorem po_eq {m : R α} {a : α} (h : m = R.ok a) (hp : P a) : Post m P X := by
  rw [h]
  exact hp
theorem po_if {c : Prop} [Decidable c] {m n : R α} (h1 : c → Post m P X) (h2 : ¬ c → Post n P X) : Post (if c then m else n) P X := by
  by_cases h : c
  · rw [if_pos h]
    exact h1 h
  · rw [if_neg h]
    exact h2 h
theorem po_ex {m : R α} (h : Post m P noX) : ∃ a, m = R.ok a ∧ P a := by
  cases m with
  | ok a => exact ⟨a, rfl, h⟩
  | exc e => exact (show False from h).elim
  | bad => exact (show False from h).elim
theorem po_iff {m : R α} {a : α} (h : Post m (· = a) noX) : m = R.ok a := by
  obtain ⟨b, e, rfl⟩ := po_ex h
  exact e
theorem po_get {xs : List α} {i : Int} {k : α → R β} (h0 : 0 ≤ i) (h1 : i < xs.length) (hk : ∀ x, x ∈ xs → xs[i.toNat]? = some x → Post (k x) S X) : Post (getI xs i >>= k) S X := by
  obtain ⟨x, e, h2, h3⟩ := getI_nat h0 h1
  rw [e]
  exact hk x h2 h3
theorem po_getE {xs : List α} {i : Int} {x : α} {k : α → R β} (h : getI xs i = R.ok x) (hk : Post (k x) S X) : Post (getI xs i >>= k) S X := by
  rw [h]
  exact hk
theorem po_set {xs : List α} {i : Int} {x : α} {k : List α → R β} (h0 : 0 ≤ i) (h1 : i < xs.length) (hk : Post (k (xs.set i.toNat x)) S X) : Post (setI xs i x >>= k) S X := by
  rw [setI_nat h0 h1]
  exact hk
theorem po_app {xs : List α} {x : α} {k : List α → R β} (h : xs.length < 100000) (hk : Post (k (xs ++ [x])) S X) : Post (app xs x >>= k) S X := by
  rw [app_ok h]
  exact hk
theorem po_extend {xs ys : List α} {k : List α → R β} (h : xs.length + ys.length < 100000) (hk : Post (k (xs ++ ys)) S X) : Post (extend xs ys >>= k) S X := by
  rw [extend_ok h]
  exact hk
theorem po_mod {i j : Int} {k : Int → R β} (h : 0 < j) (hk : 0 ≤ i % j → i % j < j → Post (k (i % j)) S X) : Post (modI i j >>= k) S X := by
  rw [modI_ok h]
  exact hk (Int.emod_nonneg _ (by omega)) (Int.emod_lt_of_pos _ h)
theorem po_div {i j : Int} {k : Int → R β} (h : 0 < j) (h2 : j < 1073741824) (hk : Post (k (i / j)) S X) : Post (divI i j >>= k) S X := by
  rw [divI_ok h h2]
  exact hk
theorem po_mul {i j : Int} {k : Int → R β} (h : (-(2 ^ 64) < i ∧ i < 2 ^ 64) ∨ (-(2 ^ 64) < j ∧ j < 2 ^ 64)) (hk : Post (k (i * j)) S X) : Post (mulI i j >>= k) S X := by
  rw [mulI_ok h]
  exact hk
theorem po_rng {i j : Int} {k : List Int → R β} (h1 : -(2 ^ 62) ≤ i) (h2 : i < 2 ^ 62) (h3 : -(2 ^ 62) ≤ j) (h4 : j < 2 ^ 62) (hk : Post (k (rng i j)) S X) : Post (rngI i j >>= k) S X := by
  rw [rngI_ok h1 h2 h3 h4]
  exact hk
theorem po_fold {f : β → α → R β} {s : β} {xs : List α} (I : β → Prop) (h0 : I s) (hf : ∀ s x, I s → x ∈ xs → Post (f s x) I X) : Post (foldR f s xs) I X := by
  induction xs generalizing s with
  | nil => exact h0
  | cons x xs ih =>
    show Post (f s x >>= fun s' => foldR f s' xs) I X
    exact po_bind (hf s x h0 List.mem_cons_self) fun s' h' => ih h' fun s y hs hy => hf s y hs (List.mem_cons_of_mem _ hy)
theorem po_foldX {ρ : Type} {f : β → α → R (Sum ρ (Bool × β))} {s : β} {xs : List α} (I : β → Prop) (h0 : I s) (hf : ∀ s x, I s → x ∈ xs → Post (f s x) (fun r => ∃ s', r = .inr (true, s') ∧ I s') X) : Post (foldX f s xs) (fun r => ∃ s', r = .inr s' ∧ I s') X := by
  induction xs generalizing s with
  | nil => exact ⟨s, rfl, h0⟩
  | cons x xs ih =>
    refine po_bind (S := fun r => ∃ s', r = Sum.inr s' ∧ I s') (k := fun r => match r with
      | .inl z => (R.ok (.inl z) : R (Sum ρ β))
      | .inr (true, s') => foldX f s' xs
      | .inr (false, s') => R.ok (.inr s')) (hf s x h0 List.mem_cons_self) fun r hr => ?_
    obtain ⟨s', rfl, h'⟩ := hr
    exact ih h' fun s y hs hy => hf s y hs (List.mem_cons_of_mem _ hy)
theorem po_mapG {f : α → R β} {xs : List α} (p : β → Prop) (hl : xs.length < 100000) (hf : ∀ x ∈ xs, Post (f x) p X) : Post (mapG f xs) (fun ys => ys.length = xs.length ∧ ∀ y ∈ ys, p y) X := by
  unfold mapG
  rw [grd_t (decide_eq_true hl)]
  show Post (mapR f xs) _ X
  clear hl
  induction xs with
  | nil => exact ⟨rfl, fun _ h => nomatch h⟩
  | cons x xs ih =>
    show Post (f x >>= fun y => mapR f xs >>= fun ys => R.ok (y :: ys)) _ X
    refine po_bind (hf x List.mem_cons_self) fun y hy => po_bind (ih fun z hz => hf z (List.mem_cons_of_mem _ hz)) fun ys ⟨h1, h2⟩ => ?_
    refine ⟨by rw [List.length_cons, List.length_cons, h1], fun z hz => ?_⟩
    rcases List.mem_cons.mp hz with rfl | hz
    · exact hy
    · exact h2 z hz
end
end
section
variable {α : Type}
theorem cut_take (xs : List α) (n : Nat) : cutL xs none (some (n : Int)) = xs.take n := by
  unfold cutL
  have e : HT.sIx xs.length xs.length (some (n : Int)) = min n xs.length := HT.sIx_nat xs.length xs.length n
  have e0 : HT.sIx xs.length 0 none = 0 := rfl
  rw [e, e0, List.drop_zero, Nat.sub_zero]
  by_cases h : n ≤ xs.length
  · rw [Nat.min_eq_left h]
  · rw [Nat.min_eq_right (by omega), List.take_of_length_le (Nat.le_refl _), List.take_of_length_le (by omega)]
end
/-! ### dicts -/
section
variable {κ β : Type} [DecidableEq κ]
theorem mhas_iff {m : List (κ × β)} {k : κ} : mhas m k = true ↔ ∃ p ∈ m, p.1 = k := by
  unfold mhas
  rw [List.any_eq_true]
  constructor
  · rintro ⟨p, h, e⟩
    exact ⟨p, h, of_decide_eq_true e⟩
  · rintro ⟨p, h, e⟩
    exact ⟨p, h, decide_eq_true e⟩
theorem mput_new {m : List (κ × β)} {k : κ} {v : β} (h : mhas m k = false) : mput m k v = m ++ [(k, v)] := by
  unfold mput
  have h' : (m.any fun p => decide (p.1 = k)) = false := h
  rw [h', if_neg (by decide)]
theorem mput_old {m : List (κ × β)} {k : κ} {v : β} (h : mhas m k = true) : mput m k v = m.map (fun p => if p.1 = k then (p.1, v) else p) := by
  unfold mput
  have h' : (m.any fun p => decide (p.1 = k)) = true := h
  rw [h', if_pos rfl]
theorem po_mput {δ : Type} {m : List (κ × β)} {k : κ} {v : β} {f : List (κ × β) → R δ} {S : δ → Prop} {X : Exn → Prop} (h : m.length < 100000) (hk : Post (f (mput m k v)) S X) : Post (mputR m k v >>= f) S X := by
  unfold mputR
  rw [if_pos h]
  exact hk
end
end Z
/-! ZG: webs: joined, how far; no program in sight -/
namespace Z
open PySem L2
/-! ### more steps -/
section
variable {α β γ δ : Type} {P Q : α → Prop} {S : β → Prop} {X : Exn → Prop}
/-- a fold, by what is gone through -/
theorem po_foldP {f : β → α → R β} {s : β} {xs : List α} (I : List α → β → Prop) (h0 : I [] s) (hf : ∀ pre s x post, xs = pre ++ x :: post → I pre s → Post (f s x) (I (pre ++ [x])) X) : Post (foldR f s xs) (I xs) X := by
  have key : ∀ (l pre : List α) (s : β), xs = pre ++ l → I pre s → Post (foldR f s l) (I xs) X := by
    intro l
    induction l with
    | nil =>
      intro pre s e h
      rw [List.append_nil] at e
      rw [e]
      exact h
    | cons x l ih =>
      intro pre s e h
      show Post (f s x >>= fun s' => foldR f s' l) _ X
      exact po_bind (hf pre s x l e h) fun s' h' => ih (pre ++ [x]) s' (by rw [e, List.append_assoc]; rfl) h'
  exact key xs [] s rfl h0
/-- items for items with a state, by what is made -/
theorem po_mapStA {f : γ → α → R (β × γ)} {s : γ} {xs : List α} (I : List α → List β → γ → Prop) (hl : xs.length < 100000) (h0 : I [] [] s)
    (hf : ∀ pre acc s x post, xs = pre ++ x :: post → I pre acc s → Post (f s x) (fun r => I (pre ++ [x]) (acc ++ [r.1]) r.2) X) : Post (mapStG f s xs) (fun r => I xs r.1 r.2) X := by
  unfold mapStG
  rw [grd_t (decide_eq_true hl), ok_bind]
  have key : ∀ (l pre : List α) (acc : List β) (s : γ), xs = pre ++ l → I pre acc s → Post (mapSt f s l) (fun r => I xs (acc ++ r.1) r.2) X := by
    intro l
    induction l with
    | nil =>
      intro pre acc s e h
      rw [List.append_nil] at e
      show I xs (acc ++ []) s
      rw [List.append_nil, e]
      exact h
    | cons x l ih =>
      intro pre acc s e h
      refine po_bind (hf pre acc s x l e h) fun r hr => po_bind (ih (pre ++ [x]) (acc ++ [r.1]) r.2 (by rw [e, List.append_assoc]; rfl) hr) fun q hq => ?_
      show I xs (acc ++ (r.1 :: q.1)) q.2
      rw [List.append_assoc] at hq
      exact hq
  exact key xs [] [] s rfl h0
theorem po_mapGE {f : α → R β} {g : α → β} {xs : List α} {k : List β → R γ} {T : γ → Prop} (hl : xs.length < 100000) (h : ∀ x ∈ xs, f x = R.ok (g x)) (hk : Post (k (xs.map g)) T X) : Post (mapG f xs >>= k) T X := by
  rw [mapG_ok hl h]
  exact hk
theorem po_filGE {f : α → R (Option β)} {g : α → Option β} {xs : List α} {k : List β → R γ} {T : γ → Prop} (hl : xs.length < 100000) (h : ∀ x ∈ xs, f x = R.ok (g x)) (hk : Post (k (xs.filterMap g)) T X) : Post (filG f xs >>= k) T X := by
  rw [filG_ok hl h]
  exact hk
/-- a while: an invariant, a measure -/
theorem po_while {c : γ → R Bool} {b : γ → R γ} {T : γ → Prop} (I : γ → Prop) (μ : γ → Nat)
    (hs : ∀ s, I s → Post (c s) (fun t => (t = true → Post (b s) (fun s' => I s' ∧ μ s' < μ s) X) ∧ (t = false → T s)) X) : ∀ {n : Nat} {s : γ}, I s → μ s < n → Post (whileR c b n s) T X
  | 0, s, _, h => absurd h (Nat.not_lt_zero _)
  | n + 1, s, hi, h => by
    refine po_bind (hs s hi) fun t ⟨h1, h2⟩ => ?_
    cases t with
    | false => exact h2 rfl
    | true => exact po_bind (h1 rfl) fun s' ⟨a, d⟩ => po_while I μ hs a (by omega)
theorem po_getS {st : List (List α)} {j : Nat} {xs : List α} {k : List α → R γ} {T : γ → Prop} (h : st[j]? = some xs) (hk : Post (k xs) T X) : Post (getS st j >>= k) T X := by
  unfold getS
  rw [h]
  exact hk
theorem po_setS {st : List (List α)} {j : Nat} {xs : List α} {k : List (List α) → R γ} {T : γ → Prop} (hk : Post (k (st.set j xs)) T X) : Post (setS st j xs >>= k) T X := hk
theorem po_newS {st : List (List α)} {xs : List α} {k : Nat × List (List α) → R γ} {T : γ → Prop} (hk : Post (k (st.length, st ++ [xs])) T X) : Post (newS st xs >>= k) T X := hk
theorem po_listRng {i j : Int} {k : List Int → R γ} {T : γ → Prop} (h1 : -(2 ^ 62) ≤ i) (h2 : i < 2 ^ 62) (h3 : -(2 ^ 62) ≤ j) (h4 : j < 2 ^ 62) (h5 : (j - i).toNat ≤ 100000) (hk : Post (k (rng i j)) T X) : Post (listRng i j >>= k) T X := by
  unfold listRng
  rw [if_pos ⟨h1, h2, h3, h4, h5⟩]
  exact hk
theorem po_rep {xs : List α} {i : Int} {k : List α → R γ} {T : γ → Prop} (h1 : 0 ≤ i) (h2 : i < 1000) (h3 : xs.length < 100) (hk : Post (k (repL xs i)) T X) : Post (repR xs i >>= k) T X := by
  unfold repR
  have h4 : xs.length * i.toNat ≤ 100 * 1000 := Nat.mul_le_mul (by omega) (by omega)
  have h5 : xs.length * i.toNat < 100000 := by
    have h6 : xs.length * i.toNat ≤ 99 * 999 := Nat.mul_le_mul (by omega) (by omega)
    omega
  rw [if_pos ⟨by omega, by omega, h5⟩]
  exact hk
theorem po_ofO {o : Option α} {x : α} {k : α → R γ} {T : γ → Prop} (h : o = some x) (hk : Post (k x) T X) : Post (ofO o >>= k) T X := by
  rw [h]
  exact hk
theorem po_mgetE {κ : Type} [DecidableEq κ] {m : List (κ × α)} {j : κ} {x : α} {k : α → R γ} {T : γ → Prop} (h : mget m j = some x) (hk : Post (k x) T X) : Post (mgetR m j >>= k) T X := po_ofO h hk
end
theorem rng_atE {i j : Int} {k : Nat} (h : k < (j - i).toNat) : (rng i j)[k]? = some (i + k) := rng_get h
theorem rng_nodup (i j : Int) : (rng i j).Nodup := by
  unfold rng
  refine List.Pairwise.map _ (fun a b h => ?_) List.nodup_range
  intro e
  exact h (by omega)
theorem rng_pre {i j x : Int} {pre post : List Int} (h : rng i j = pre ++ x :: post) : x = i + pre.length := by
  have h1 : (rng i j)[pre.length]? = some x := by rw [h]; simp
  have hl : pre.length < (rng i j).length := by rw [h]; simp
  rw [rng_length] at hl
  rw [rng_atE hl] at h1
  cases h1
  rfl
theorem rng_split {i j x : Int} {pre post : List Int} (h : rng i j = pre ++ x :: post) : pre = rng i x ∧ i ≤ x ∧ x < j := by
  have e := rng_pre h
  have hl : (rng i j).length = pre.length + (post.length + 1) := by rw [h]; simp
  rw [rng_length] at hl
  refine ⟨?_, by omega, by omega⟩
  apply List.ext_getElem?
  intro k
  by_cases hk : k < pre.length
  · have h1 : (rng i j)[k]? = pre[k]? := by rw [h, List.getElem?_append_left hk]
    rw [← h1, rng_atE (by omega), rng_atE (by omega)]
  · rw [List.getElem?_eq_none (by omega), List.getElem?_eq_none (by rw [rng_length]; omega)]
/-! ### joined -/
def Adj (ts : List (Int × Int)) (a b : Int) : Prop := (a, b) ∈ ts ∨ (b, a) ∈ ts
theorem Adj.symm {ts : List (Int × Int)} {a b : Int} (h : Adj ts a b) : Adj ts b a := h.elim .inr .inl
/-- what holds of a place and goes along all ties holds of all places -/
def Conn (n : Int) (ts : List (Int × Int)) : Prop := ∀ S : Int → Prop, S 0 → (∀ p ∈ ts, S p.1 ↔ S p.2) → ∀ k, 0 ≤ k → k < n → S k
theorem Conn.any {n : Int} {ts : List (Int × Int)} (h : Conn n ts) {S : Int → Prop} {r : Int} (r0 : 0 ≤ r) (r1 : r < n) (hr : S r) (hc : ∀ p ∈ ts, S p.1 ↔ S p.2) : ∀ k, 0 ≤ k → k < n → S k := by
  by_cases h0 : S 0
  · exact h S h0 hc
  · exact absurd hr (h (fun k => ¬ S k) h0 (fun p hp => not_congr (hc p hp)) r r0 r1)
theorem Conn.mono {n : Int} {ts us : List (Int × Int)} (h : Conn n ts) (hs : ∀ p ∈ ts, p ∈ us) : Conn n us := fun S h0 hc => h S h0 fun p hp => hc p (hs p hp)
theorem conn_tree {n : Int} {ts : List (Int × Int)} (h : ∀ k, 1 ≤ k → k < n → ∃ j, 0 ≤ j ∧ j < k ∧ Adj ts j k) : Conn n ts := by
  intro S h0 hc
  have key : ∀ (m : Nat) (k : Int), k.toNat ≤ m → 0 ≤ k → k < n → S k := by
    intro m
    induction m with
    | zero =>
      intro k hk k0 _
      rw [show k = 0 by omega]
      exact h0
    | succ m ih =>
      intro k hk k0 k1
      by_cases hz : k = 0
      · rw [hz]; exact h0
      · obtain ⟨j, j0, jk, hj⟩ := h k (by omega) k1
        have hj' := ih j (by omega) j0 (by omega)
        rcases hj with hj | hj
        · exact (hc _ hj).mp hj'
        · exact (hc _ hj).mpr hj'
  exact fun k k0 k1 => key k.toNat k (Nat.le_refl _) k0 k1
/-! ### how far -/
structure IsDist (n : Int) (ts : List (Int × Int)) (p : Int) (f : Int → Int) : Prop where
  zero : f p = 0
  nn : ∀ v, 0 ≤ v → v < n → 0 ≤ f v
  lip : ∀ a b, Adj ts a b → f b ≤ f a + 1
  desc : ∀ v, 0 ≤ v → v < n → v ≠ p → ∃ w, 0 ≤ w ∧ w < n ∧ Adj ts w v ∧ f w + 1 = f v
theorem IsDist.le {n : Int} {ts : List (Int × Int)} {p : Int} {f g : Int → Int} (hf : IsDist n ts p f) (hg : IsDist n ts p g) : ∀ v, 0 ≤ v → v < n → f v ≤ g v := by
  have key : ∀ (m : Nat) (v : Int), (g v).toNat ≤ m → 0 ≤ v → v < n → f v ≤ g v := by
    intro m
    induction m with
    | zero =>
      intro v hm v0 v1
      by_cases hv : v = p
      · rw [hv, hf.zero, hg.zero]; exact Int.le_refl _
      · obtain ⟨w, w0, w1, _, e⟩ := hg.desc v v0 v1 hv
        have := hg.nn w w0 w1
        omega
    | succ m ih =>
      intro v hm v0 v1
      by_cases hv : v = p
      · rw [hv, hf.zero, hg.zero]; exact Int.le_refl _
      · obtain ⟨w, w0, w1, ha, e⟩ := hg.desc v v0 v1 hv
        have h1 := hg.nn w w0 w1
        have h2 := ih w (by omega) w0 w1
        have h3 := hf.lip w v ha
        omega
  exact fun v v0 v1 => key _ v (Nat.le_refl _) v0 v1
theorem IsDist.uniq {n : Int} {ts : List (Int × Int)} {p : Int} {f g : Int → Int} (hf : IsDist n ts p f) (hg : IsDist n ts p g) (v : Int) (v0 : 0 ≤ v) (v1 : v < n) : f v = g v :=
  Int.le_antisymm (hf.le hg v v0 v1) (hg.le hf v v0 v1)
theorem IsDist.level {n : Int} {ts : List (Int × Int)} {p : Int} {f : Int → Int} (hf : IsDist n ts p f) : ∀ (m : Nat) (v : Int), 0 ≤ v → v < n → (f v).toNat = m → ∀ k : Nat, k ≤ m → ∃ w, 0 ≤ w ∧ w < n ∧ f w = k := by
  intro m
  induction m with
  | zero =>
    intro v v0 v1 e k hk
    have := hf.nn v v0 v1
    exact ⟨v, v0, v1, by omega⟩
  | succ m ih =>
    intro v v0 v1 e k hk
    have hv := hf.nn v v0 v1
    by_cases hk2 : k = m + 1
    · exact ⟨v, v0, v1, by omega⟩
    · have hne : v ≠ p := by
        intro e2
        rw [e2, hf.zero] at e
        simp at e
      obtain ⟨w, w0, w1, _, e2⟩ := hf.desc v v0 v1 hne
      exact ih w w0 w1 (by omega) k (by omega)
/-- no place is as far as there are places -/
theorem IsDist.lt {n : Int} {ts : List (Int × Int)} {p : Int} {f : Int → Int} (hf : IsDist n ts p f) (v : Int) (v0 : 0 ≤ v) (v1 : v < n) : f v < n := by
  have hv := hf.nn v v0 v1
  have hl := hf.level _ v v0 v1 rfl
  have key : ∀ m : Nat, m ≤ (f v).toNat + 1 → ∃ ws : List Int, ws.length = m ∧ ws.Nodup ∧ (∀ w ∈ ws, w ∈ rng 0 n ∧ f w < m) := by
    intro m
    induction m with
    | zero => exact fun _ => ⟨[], rfl, List.nodup_nil, fun _ h => nomatch h⟩
    | succ m ih =>
      intro hm
      obtain ⟨ws, h1, h2, h3⟩ := ih (by omega)
      obtain ⟨w, w0, w1, e⟩ := hl m (by omega)
      refine ⟨w :: ws, by rw [List.length_cons, h1], List.nodup_cons.mpr ⟨fun h => ?_, h2⟩, fun u hu => ?_⟩
      · have := (h3 w h).2
        omega
      · rcases List.mem_cons.mp hu with rfl | hu
        · exact ⟨rng_mem.mpr ⟨w0, w1⟩, by omega⟩
        · have := h3 u hu
          exact ⟨this.1, by omega⟩
  obtain ⟨ws, h1, h2, h3⟩ := key _ (Nat.le_refl _)
  have := nodup_le h2 fun w hw => (h3 w hw).1
  rw [h1, rng_length] at this
  omega
/-- how far places are from one, in a web that hangs together -/
noncomputable def dst (n : Int) (ts : List (Int × Int)) (p : Int) : Int → Int := by
  classical
  exact if h : ∃ f, IsDist n ts p f then Classical.choose h else fun _ => 0
theorem dst_is {n : Int} {ts : List (Int × Int)} {p : Int} {f : Int → Int} (h : IsDist n ts p f) : IsDist n ts p (dst n ts p) := by
  have e : ∃ f, IsDist n ts p f := ⟨f, h⟩
  unfold dst
  rw [dif_pos e]
  exact Classical.choose_spec e
theorem dst_eq {n : Int} {ts : List (Int × Int)} {p : Int} {f : Int → Int} (h : IsDist n ts p f) (v : Int) (v0 : 0 ≤ v) (v1 : v < n) : f v = dst n ts p v := h.uniq (dst_is h) v v0 v1
/-! ### there is a distance -/
inductive Rch (ts : List (Int × Int)) (p : Int) : Nat → Int → Prop
  | here : Rch ts p 0 p
  | step {k : Nat} {a b : Int} : Rch ts p k a → Adj ts a b → Rch ts p (k + 1) b
theorem least {P : Nat → Prop} (h : ∃ k, P k) : ∃ k, P k ∧ ∀ j, j < k → ¬ P j := by
  obtain ⟨k, hk⟩ := h
  induction k using Nat.strongRecOn with
  | _ k ih =>
    by_cases q : ∃ j, j < k ∧ P j
    · obtain ⟨j, h1, h2⟩ := q
      exact ih j h1 h2
    · exact ⟨k, hk, fun j hj hp => q ⟨j, hj, hp⟩⟩
theorem conn_ex {n : Int} {ts : List (Int × Int)} {p : Int} (hr : ∀ q ∈ ts, 0 ≤ q.1 ∧ q.1 < n ∧ 0 ≤ q.2 ∧ q.2 < n) (hc : Conn n ts) (p0 : 0 ≤ p) (p1 : p < n) : IsDist n ts p (dst n ts p) := by
  classical
  have all : ∀ v, 0 ≤ v → v < n → ∃ k, Rch ts p k v := hc.any (S := fun v => ∃ k, Rch ts p k v) p0 p1 ⟨0, .here⟩ fun q hq => ⟨fun ⟨k, h⟩ => ⟨k + 1, h.step (.inl hq)⟩, fun ⟨k, h⟩ => ⟨k + 1, h.step (.inr hq)⟩⟩
  have adj : ∀ a b, Adj ts a b → (0 ≤ a ∧ a < n) ∧ (0 ≤ b ∧ b < n) := fun a b h => by
    rcases h with h | h
    · have := hr _ h
      exact ⟨⟨this.1, this.2.1⟩, ⟨this.2.2.1, this.2.2.2⟩⟩
    · have := hr _ h
      exact ⟨⟨this.2.2.1, this.2.2.2⟩, ⟨this.1, this.2.1⟩⟩
  have key : ∀ v, ∃ d : Int, 0 ≤ d ∧ (0 ≤ v → v < n → ∃ k : Nat, d = k ∧ Rch ts p k v ∧ ∀ j, j < k → ¬ Rch ts p j v) := fun v => by
    by_cases hv : 0 ≤ v ∧ v < n
    · obtain ⟨k, h1, h2⟩ := least (all v hv.1 hv.2)
      exact ⟨k, by omega, fun _ _ => ⟨k, rfl, h1, h2⟩⟩
    · exact ⟨0, Int.le_refl 0, fun a b => absurd ⟨a, b⟩ hv⟩
  have hf : ∃ f : Int → Int, ∀ v, 0 ≤ f v ∧ (0 ≤ v → v < n → ∃ k : Nat, f v = k ∧ Rch ts p k v ∧ ∀ j, j < k → ¬ Rch ts p j v) := ⟨fun v => Classical.choose (key v), fun v => Classical.choose_spec (key v)⟩
  obtain ⟨f, hf⟩ := hf
  have lip : ∀ a b, Adj ts a b → f b ≤ f a + 1 := fun a b h => by
    obtain ⟨⟨a0, a1⟩, ⟨b0, b1⟩⟩ := adj a b h
    obtain ⟨k, e1, h1, _⟩ := (hf a).2 a0 a1
    obtain ⟨j, e2, _, h2⟩ := (hf b).2 b0 b1
    have : ¬ k + 1 < j := fun q => h2 (k + 1) q (h1.step h)
    omega
  refine dst_is (f := f) ⟨?_, fun v _ _ => (hf v).1, lip, fun v v0 v1 hne => ?_⟩
  · obtain ⟨k, e, _, h2⟩ := (hf p).2 p0 p1
    have : ¬ 0 < k := fun q => h2 0 q .here
    omega
  · obtain ⟨k, e, h1, h2⟩ := (hf v).2 v0 v1
    cases h1 with
    | here => exact absurd rfl hne
    | step h3 h4 =>
      rename_i j w
      obtain ⟨⟨w0, w1⟩, _⟩ := adj _ _ h4
      refine ⟨w, w0, w1, h4, ?_⟩
      obtain ⟨i, e2, _, h5⟩ := (hf w).2 w0 w1
      have h6 : ¬ j < i := fun q => h5 j q h3
      have := lip w v h4
      omega
end Z
/-! ZN: dicts as lists of pairs -/
namespace Z
open PySem L2
section
variable {κ β γ : Type} [DecidableEq κ]
def mkeys (m : List (κ × β)) : List κ := m.map (·.1)
theorem mget_nil (j : κ) : mget ([] : List (κ × β)) j = none := rfl
theorem mget_cons (p : κ × β) (m : List (κ × β)) (j : κ) : mget (p :: m) j = if p.1 = j then some p.2 else mget m j := by
  unfold mget
  by_cases h : p.1 = j
  · rw [List.find?_cons_of_pos (by simpa using h), if_pos h]
    rfl
  · rw [List.find?_cons_of_neg (by simpa using h), if_neg h]
theorem mget_append (m m' : List (κ × β)) (j : κ) : mget (m ++ m') j = (mget m j).or (mget m' j) := by
  induction m with
  | nil => rfl
  | cons p m ih =>
    rw [List.cons_append, mget_cons, mget_cons, ih]
    by_cases h : p.1 = j
    · rw [if_pos h, if_pos h]; rfl
    · rw [if_neg h, if_neg h]
theorem mhas_mget (m : List (κ × β)) (j : κ) : mhas m j = (mget m j).isSome := by
  unfold mhas mget
  rw [Option.isSome_map, List.isSome_find?]
theorem mhas_keys {m : List (κ × β)} {j : κ} : mhas m j = true ↔ j ∈ mkeys m := by
  rw [mhas_iff]
  unfold mkeys
  rw [List.mem_map]
theorem mget_mput (m : List (κ × β)) (k : κ) (v : β) (j : κ) : mget (mput m k v) j = if j = k then some v else mget m j := by
  cases h : mhas m k with
  | false =>
    rw [mput_new h, mget_append, mget_cons, mget_nil]
    by_cases e : j = k
    · subst e
      rw [if_pos rfl, if_pos rfl]
      rw [mhas_mget] at h
      cases q : mget m j with
      | none => rfl
      | some x => rw [q] at h; cases h
    · rw [if_neg (fun q => e q.symm), if_neg e]
      cases mget m j <;> rfl
  | true =>
    rw [mput_old h]
    by_cases e : j = k
    · subst e
      rw [if_pos rfl]
      induction m with
      | nil => cases h
      | cons p m ih =>
        rw [List.map_cons, mget_cons]
        by_cases q : p.1 = j
        · rw [if_pos q, if_pos q]
        · rw [if_neg q, if_neg q]
          refine ih ?_
          rw [mhas_mget, mget_cons, if_neg q, ← mhas_mget] at h
          exact h
    · rw [if_neg e]
      clear h
      induction m with
      | nil => rfl
      | cons p m ih =>
        rw [List.map_cons, mget_cons, mget_cons, ih]
        by_cases q : p.1 = k
        · rw [if_pos q, if_neg (by rw [q]; exact fun z => e z.symm), if_neg (by rw [q]; exact fun z => e z.symm)]
        · rw [if_neg q]
theorem mkeys_mput (m : List (κ × β)) (k : κ) (v : β) : mkeys (mput m k v) = if k ∈ mkeys m then mkeys m else mkeys m ++ [k] := by
  cases h : mhas m k with
  | false =>
    rw [mput_new h, if_neg (fun q => by rw [mhas_keys.mpr q] at h; cases h)]
    unfold mkeys
    rw [List.map_append]
    rfl
  | true =>
    rw [mput_old h, if_pos (mhas_keys.mp h)]
    unfold mkeys
    rw [List.map_map]
    refine List.map_congr_left fun p _ => ?_
    show (if p.1 = k then (p.1, v) else p).1 = p.1
    split <;> rfl
theorem mkeys_nodup {m : List (κ × β)} {k : κ} {v : β} (h : (mkeys m).Nodup) : (mkeys (mput m k v)).Nodup := by
  rw [mkeys_mput]
  split
  · exact h
  · rename_i q
    rw [List.nodup_append]
    refine ⟨h, by simp, fun a ha c hc e => ?_⟩
    rw [List.mem_singleton] at hc
    rw [e, hc] at ha
    exact q ha
theorem mkeys_length (m : List (κ × β)) : (mkeys m).length = m.length := List.length_map _
theorem mget_keys {m : List (κ × β)} {j : κ} : j ∈ mkeys m ↔ ∃ v, mget m j = some v := by
  rw [← mhas_keys, mhas_mget, Option.isSome_iff_exists]
end
end Z
namespace G
open PySem L2 Z
open Rep (rep)
open RepL (repTs)
def top (i : Nat) : Stmt := PySem.Challenge.pw_farhail_k56_whole_plans_played.main.body.getD i (.Pass ⟨0, 0, 0, 0⟩)
abbrev s_near_lists : Stmt := top 10
abbrev s_fars_by : Stmt := top 11
abbrev s_sorted_ties : Stmt := top 12
abbrev s_made_web : Stmt := top 13
abbrev s_place_asked : Stmt := top 14
abbrev s_fars_from : Stmt := top 15
abbrev s_far_between : Stmt := top 16
abbrev s_table_of : Stmt := top 18
abbrev s_things_of : Stmt := top 19
abbrev s_looks_asked : Stmt := top 20
abbrev s_thing_asked : Stmt := top 21
abbrev s_far_by : Stmt := top 22
abbrev s_code_of : Stmt := top 23
abbrev s_by_code : Stmt := top 24
abbrev s_likes_by : Stmt := top 25
abbrev s_is_known : Stmt := top 26
abbrev s_few_things : Stmt := top 30
abbrev s_all_fars : Stmt := top 31
abbrev s_far_thing : Stmt := top 32
abbrev s_parts_by : Stmt := top 33
abbrev s_fewest_asks : Stmt := top 35
abbrev s_len_first : Stmt := top 36
abbrev s_plan_of_parts : Stmt := top 37
abbrev s_asks_of : Stmt := top 38
abbrev s_plan_asks : Stmt := top 39
abbrev s_law_cell_at : Stmt := top 41
abbrev s_law_folded : Stmt := top 42
abbrev s_law_state : Stmt := top 43
abbrev s_law_next : Stmt := top 44
abbrev s_law_web : Stmt := top 45
abbrev s_law_things : Stmt := top 46
abbrev s_law_few : Stmt := top 47
abbrev s_law_gone : Stmt := top 48
abbrev s_law_looks : Stmt := top 49
abbrev s_law_broadest : Stmt := top 50
abbrev s_law : Stmt := top 51
abbrev s_Asking_init : Stmt := inClass (top 34) 0
abbrev s_Asking_need : Stmt := inClass (top 34) 1
abbrev s_Asking_plan : Stmt := inClass (top 34) 2
abbrev AskingF : Type := (List (List Int)) × (List ((Tup Thing) × Int)) × (List ((Tup Thing) × Int)) × Unit
theorem fl_Asking_fars (u0 u1 u2 : V) : (mkfs [("fars" : Str), ("least" : Str), ("best" : Str)] [u0, u1, u2]).lookup ("fars" : Str) = some u0 := by kernel_rfl
theorem fl_Asking_least (u0 u1 u2 : V) : (mkfs [("fars" : Str), ("least" : Str), ("best" : Str)] [u0, u1, u2]).lookup ("least" : Str) = some u1 := by kernel_rfl
theorem fl_Asking_best (u0 u1 u2 : V) : (mkfs [("fars" : Str), ("least" : Str), ("best" : Str)] [u0, u1, u2]).lookup ("best" : Str) = some u2 := by kernel_rfl
theorem fm0_Asking_need (u0 u1 u2 : V) : (mkfs [("fars" : Str), ("least" : Str), ("best" : Str)] [u0, u1, u2]).lookup ("need" : Str) = none := by kernel_rfl
theorem fm0_Asking_plan (u0 u1 u2 : V) : (mkfs [("fars" : Str), ("least" : Str), ("best" : Str)] [u0, u1, u2]).lookup ("plan" : Str) = none := by kernel_rfl
abbrev names : List Str := ["TooMany", "NoPlace"]
/-! ### the mirrors -/
/-! near_lists -/
def near_lists (x_web : (Int × (Tup (Int × Int)))) : R (List (List Int)) := do
  let l4 ← rngI 0 x_web.1
  let l5 ← mapStG (fun (g5 : (List (List Int))) (b5 : Int) => do
      let r9 ← newS g5 ([] : (List Int))
      R.ok (r9.1, r9.2)) ([] : List (List Int)) l4
  let g11 ← foldR (fun (g11 : (List (List Int))) (b11 : (Int × Int)) => do
      let t14 ← getI l5.1 b11.1
      let x16 ← getS g11 t14
      let l17 ← app x16 b11.2
      let r17 ← setS g11 t14 l17
      let t18 ← getI l5.1 b11.2
      let x20 ← getS r17 t18
      let l21 ← app x20 b11.1
      let r21 ← setS r17 t18 l21
      R.ok r21) l5.2 x_web.2.l
  let l22 ← mapG (fun (b22 : Ix) => do
      let x26 ← getS g11 b22
      R.ok (sortI x26)) l5.1
  R.ok l22
/-! fars_by -/
def fars_by (x_near : (List (List Int))) (x_place : Int) : R (List (Option Int)) := do
  let l4 ← repR ([none] : (List (Option Int))) (x_near.length : Int)
  let l7 ← setI l4 x_place (some (0 : Int))
  let g11 ← whileR (fun (g11 : Int × (List Int) × (List (Option Int))) => do
      R.ok (decide (g11.1 < (g11.2.1.length : Int)))) (fun (g11 : Int × (List Int) × (List (Option Int))) => do
      let t13 ← getI g11.2.1 g11.1
      let t14 ← getI x_near t13
      let g12 ← foldR (fun (g12 : (List Int) × (List (Option Int))) (b12 : Int) => do
          let t17 ← getI g12.2 b12
          if t17.isNone = true then do
            let t20 ← getI g12.1 g11.1
            let t21 ← getI g12.2 t20
            let t23 ← ofO t21
            let l24 ← setI g12.2 b12 (some (t23 + (1 : Int)))
            let l26 ← app g12.1 b12
            R.ok (l26, l24)
          else do
            R.ok (g12.1, g12.2)) (g11.2.1, g11.2.2) t14
      R.ok ((g11.1 + (1 : Int)), g12.1, g12.2)) (fu 1000) ((0 : Int), ([x_place] : (List Int)), l7)
  R.ok g11.2.2
/-! sorted_ties -/
def sorted_ties (x_many : Int) (x_ties : (List (Int × Int))) : R (Tup (Int × Int)) := do
  let g4 ← foldR (fun (g4 : (List (Int × Int))) (b4 : (Int × Int)) => do
      if ((decide ((min2 b4.1 b4.2) < (0 : Int))) || ((decide (x_many ≤ (max2 b4.1 b4.2))) || ((decide (b4.1 = b4.2)) || (inB ((min2 b4.1 b4.2), (max2 b4.1 b4.2)) g4)))) = true then do
        R.bad
      else do
        let l17 ← app g4 ((min2 b4.1 b4.2), (max2 b4.1 b4.2))
        R.ok l17) ([] : (List (Int × Int))) x_ties
  R.ok (Tup.mk (sortP g4))
/-! made_web -/
def made_web (x_many : Int) (x_ties : (List (Int × Int))) : R (Int × (Tup (Int × Int))) := do
  if (!((decide ((1 : Int) ≤ x_many)) && (decide (x_many ≤ (60 : Int))))) = true then do
    R.bad
  else do
    let y7 ← sorted_ties x_many x_ties
    let y10 ← near_lists (x_many, y7)
    let y12 ← fars_by y10 (0 : Int)
    let l16 ← rngI 0 x_many
    let g15 ← foldR (fun (g15 : Unit) (b15 : Int) => do
        let t17 ← getI y12 b15
        if t17.isNone = true then do
          R.bad
        else do
          R.ok ()) () l16
    R.ok (x_many, y7)
/-! place_asked -/
def place_asked (x_web : (Int × (Tup (Int × Int)))) (x_place : Int) : R Unit := do
  if (!((decide ((0 : Int) ≤ x_place)) && (decide (x_place < x_web.1)))) = true then do
    R.bad
  else do
    R.ok ()
/-! fars_from -/
def fars_from (x_web : (Int × (Tup (Int × Int)))) (x_place : Int) : R (List Int) := do
  let y3 ← place_asked x_web x_place
  let y4 ← near_lists x_web
  let y6 ← fars_by y4 x_place
  let l8 ← allS y6
  R.ok l8
/-! far_between -/
def far_between (x_web : (Int × (Tup (Int × Int)))) (x_one : Int) (x_other : Int) : R Int := do
  let y3 ← place_asked x_web x_one
  let y4 ← place_asked x_web x_other
  let y5 ← near_lists x_web
  let y7 ← fars_by y5 x_one
  let t9 ← getI y7 x_other
  let t11 ← ofO t9
  R.ok t11
/-! table_of -/
def table_of (x_web : (Int × (Tup (Int × Int)))) : R (List (List Int)) := do
  let l3 ← rngI 0 x_web.1
  let l4 ← mapG (fun (b4 : Int) => do
      let y6 ← fars_from x_web b4
      R.ok y6) l3
  R.ok l4
/-! things_of -/
def things_of (x_web : (Int × (Tup (Int × Int)))) (x_kind : Str) : R (List Thing) := do
  let l3 ← listRng 0 x_web.1
  if (decide (x_kind = ("places" : Str))) = true then do
    R.ok (mkpl l3)
  else do
    if (decide (x_kind = ("ties" : Str))) = true then do
      R.ok (mkti x_web.2.l)
    else do
      let l16 ← extend (mkpl l3) (mkti x_web.2.l)
      R.ok l16
/-! looks_asked -/
def looks_asked (x_web : (Int × (Tup (Int × Int)))) (x_looks : (List Int)) : R Unit := do
  let g4 ← foldR (fun (g4 : Unit) (b4 : (Int × Int)) => do
      let j6 ← (do
        if (!((decide ((0 : Int) ≤ b4.2)) && (decide (b4.2 < x_web.1)))) = true then do
          R.ok true
        else do
          let j13 ← (do
            if (decide ((0 : Int) < b4.1)) = true then do
              let t15 ← getI x_looks (b4.1 - (1 : Int))
              R.ok (decide (b4.2 ≤ t15))
            else do
              R.ok false : R (Bool))
          R.ok j13 : R (Bool))
      if j6 = true then do
        R.bad
      else do
        R.ok ()) () (enum x_looks)
  R.ok ()
/-! thing_asked -/
def thing_asked (x_web : (Int × (Tup (Int × Int)))) (x_thing : Thing) : R Unit := do
  if x_thing.isPl = true then do
    let t6 ← asPl x_thing
    if (!((decide ((0 : Int) ≤ t6)) && (decide (t6 < x_web.1)))) = true then do
      R.bad
    else do
      R.ok ()
  else do
    let t12 ← asTi x_thing
    if (!inB t12 x_web.2.l) = true then do
      R.bad
    else do
      R.ok ()
/-! far_by -/
def far_by (x_table : (List (List Int))) (x_look : Int) (x_thing : Thing) : R Int := do
  if x_thing.isPl = true then do
    let t5 ← asPl x_thing
    let t6 ← getI x_table x_look
    let t8 ← getI t6 t5
    R.ok t8
  else do
    let t9 ← asTi x_thing
    let t11 ← getI x_table x_look
    let t13 ← getI t11 t9.1
    let t14 ← getI x_table x_look
    let t16 ← getI t14 t9.2
    R.ok (min2 t13 t16)
/-! code_of -/
def code_of (x_web : (Int × (Tup (Int × Int)))) (x_looks : (List Int)) (x_thing : Thing) : R (List Int) := do
  let y5 ← looks_asked x_web x_looks
  let y6 ← thing_asked x_web x_thing
  let y7 ← table_of x_web
  let l9 ← mapG (fun (b9 : Int) => do
      let y12 ← far_by y7 b9 x_thing
      R.ok y12) x_looks
  R.ok l9
/-! by_code -/
def by_code (x_web : (Int × (Tup (Int × Int)))) (x_looks : (List Int)) (x_kind : Str) : R ((List ((Tup Int) × Ix)) × (List (List Thing))) := do
  let y5 ← table_of x_web
  let y9 ← things_of x_web x_kind
  let g8 ← foldR (fun (g8 : (List ((Tup Int) × Ix)) × (List (List Thing))) (b8 : Thing) => do
      let l14 ← mapG (fun (b14 : Int) => do
          let y17 ← far_by y5 b14 b8
          R.ok y17) x_looks
      let g22 ← (do
        if (!mhas g8.1 (Tup.mk l14)) = true then do
          let r26 ← newS g8.2 ([] : (List Thing))
          let l27 ← mputR g8.1 (Tup.mk l14) r26.1
          R.ok (l27, r26.2)
        else do
          R.ok (g8.1, g8.2) : R ((List ((Tup Int) × Ix)) × (List (List Thing))))
      let t29 ← mgetR g22.1 (Tup.mk l14)
      let x31 ← getS g22.2 t29
      let l32 ← app x31 b8
      let r32 ← setS g22.2 t29 l32
      R.ok (g22.1, r32)) (([] : (List ((Tup Int) × Ix))), ([] : List (List Thing))) y9
  R.ok (g8.1, g8.2)
/-! likes_by -/
def likes_by (x_web : (Int × (Tup (Int × Int)))) (x_looks : (List Int)) (x_kind : Str) : R (List (List Thing)) := do
  let y4 ← looks_asked x_web x_looks
  let y5 ← by_code x_web x_looks x_kind
  let l10 ← filStG (fun (g10 : (List (List Thing))) (b10 : Ix) => do
      let x14 ← getS g10 b10
      if (decide ((1 : Int) < (x14.length : Int))) = true then do
        R.ok ((some b10), g10)
      else
        R.ok (none, g10)) y5.2 (y5.1.map (·.2))
  let l17 ← deref l10.2 l10.1
  R.ok l17
/-! is_known -/
def is_known (x_web : (Int × (Tup (Int × Int)))) (x_looks : (List Int)) (x_kind : Str) : R Bool := do
  let y4 ← likes_by x_web x_looks x_kind
  R.ok (decide (y4 = ([] : (List (List Thing)))))
/-! few_things -/
def few_things (x_web : (Int × (Tup (Int × Int)))) (x_kind : Str) : R (List Thing) := do
  let y3 ← things_of x_web x_kind
  if ((decide ((7 : Int) < x_web.1)) || (!((decide ((1 : Int) ≤ (y3.length : Int))) && (decide ((y3.length : Int) ≤ (8 : Int)))))) = true then do
    R.bad
  else do
    R.ok y3
/-! all_fars -/
def all_fars (x_web : (Int × (Tup (Int × Int)))) : R (List (List Int)) := do
  let l3 ← rngI 0 x_web.1
  let l4 ← mapG (fun (b4 : Int) => do
      let y6 ← fars_from x_web b4
      R.ok y6) l3
  R.ok l4
/-! far_thing -/
def far_thing (x_fars : (List (List Int))) (x_place : Int) (x_thing : Thing) : R Int := do
  if (!x_thing.isPl) = true then do
    let t5 ← asTi x_thing
    let t7 ← getI x_fars x_place
    let t9 ← getI t7 t5.1
    let t10 ← getI x_fars x_place
    let t12 ← getI t10 t5.2
    R.ok (min2 t9 t12)
  else do
    let t13 ← asPl x_thing
    let t14 ← getI x_fars x_place
    let t16 ← getI t14 t13
    R.ok t16
/-! parts_by -/
def parts_by (x_fars : (List (List Int))) (x_things : (Tup Thing)) (x_place : Int) : R (List (Int × (Tup Thing))) := do
  let g5 ← foldR (fun (g5 : (List (Int × Ix)) × (List (List Thing))) (b5 : Thing) => do
      let y8 ← far_thing x_fars x_place b5
      let r11 ← newS g5.2 ([] : (List Thing))
      let l12 ← msetdR g5.1 y8 r11.1
      let t12 ← mgetR l12 y8
      let x15 ← getS r11.2 t12
      let l16 ← app x15 b5
      let r16 ← setS r11.2 t12 l16
      R.ok (l12, r16)) (([] : (List (Int × Ix))), ([] : List (List Thing))) x_things.l
  let l20 ← mapG (fun (b20 : Int) => do
      let t23 ← mgetR g5.1 b20
      let x25 ← getS g5.2 t23
      R.ok (b20, (Tup.mk x25))) (sortI (g5.1.map (·.1)))
  R.ok l20
/-! Asking.__init__ -/
def Asking_init (x_web : (Int × (Tup (Int × Int)))) : R AskingF := do
  let y5 ← all_fars x_web
  R.ok (y5, ([] : (List ((Tup Thing) × Int))), ([] : (List ((Tup Thing) × Int))), ())
/-! Asking.need -/
def Asking_need_b (rc : AskingF → (Tup Thing) → R (Int × (List ((Tup Thing) × Int)) × (List ((Tup Thing) × Int)))) (x_self : AskingF) (x_things : (Tup Thing)) : R (Int × (List ((Tup Thing) × Int)) × (List ((Tup Thing) × Int))) := do
  if (mhas x_self.2.1 x_things) = true then do
    let t8 ← mgetR x_self.2.1 x_things
    R.ok (t8, x_self.2.1, x_self.2.2.1)
  else do
    let g9 ← (do
      if (decide ((1 : Int) < (x_things.l.length : Int))) = true then do
        let l12 ← rngI 0 (x_self.1.length : Int)
        let g11 ← foldR (fun (g11 : Int × (List ((Tup Thing) × Int)) × (List ((Tup Thing) × Int))) (b11 : Int) => do
            let y13 ← parts_by x_self.1 x_things b11
            if (decide ((1 : Int) < (y13.length : Int))) = true then do
              let l16 ← mapStG (fun (g16 : (List ((Tup Thing) × Int)) × (List ((Tup Thing) × Int))) (b16 : (Int × (Tup Thing))) => do
                  let y25 ← rc (x_self.1, g16.1, g16.2, ()) b16.2
                  R.ok (y25.1, (y25.2.1, y25.2.2))) (g11.2.1, g11.2.2) y13
              let t32 ← maxL l16.1
              if ((decide (((1 : Int) + t32) < g11.1)) || (!mhas l16.2.2 x_things)) = true then do
                let l40 ← mputR l16.2.2 x_things b11
                R.ok (((1 : Int) + t32), l16.2.1, l40)
              else do
                R.ok (g11.1, l16.2.1, l16.2.2)
            else do
              R.ok (g11.1, g11.2.1, g11.2.2)) ((x_things.l.length : Int), x_self.2.1, x_self.2.2.1) l12
        R.ok (g11.1, g11.2.1, g11.2.2)
      else do
        R.ok ((0 : Int), x_self.2.1, x_self.2.2.1) : R (Int × (List ((Tup Thing) × Int)) × (List ((Tup Thing) × Int))))
    let l42 ← mputR g9.2.1 x_things g9.1
    R.ok (g9.1, l42, g9.2.2)
def Asking_need : Nat → AskingF → (Tup Thing) → R (Int × (List ((Tup Thing) × Int)) × (List ((Tup Thing) × Int)))
  | 0, _, _ => R.bad
  | d + 1, x_self, x_things => Asking_need_b (Asking_need d) x_self x_things
/-! Asking.plan -/
def Asking_plan_b (rc : AskingF → (Tup Thing) → R Pl) (x_self : AskingF) (x_things : (Tup Thing)) : R Pl := do
  if (decide ((x_things.l.length : Int) = (1 : Int))) = true then do
    let t8 ← getI x_things.l (0 : Int)
    R.ok (Pl.is t8)
  else do
    let t11 ← mgetR x_self.2.2.1 x_things
    let y12 ← parts_by x_self.1 x_things t11
    let l14 ← mapG (fun (b14 : (Int × (Tup Thing))) => do
        let y23 ← rc (x_self.1, x_self.2.1, x_self.2.2.1, ()) b14.2
        R.ok (b14.1, y23)) y12
    R.ok (Pl.ask t11 l14)
def Asking_plan : Nat → AskingF → (Tup Thing) → R Pl
  | 0, _, _ => R.bad
  | d + 1, x_self, x_things => Asking_plan_b (Asking_plan d) x_self x_things
/-! len_first -/
def len_first (x_row : ((Tup Thing) × Int)) : R Int := do
  R.ok (x_row.1.l.length : Int)
/-! fewest_asks -/
def fewest_asks (x_web : (Int × (Tup (Int × Int)))) (x_kind : Str) : R (Nt (Int × Pl × (List ((Tup Thing) × Int)) × Unit)) := do
  let y3 ← few_things x_web x_kind
  let y7 ← Asking_init x_web
  let y19 ← Asking_need 20 (y7.1, y7.2.1, y7.2.2.1, ()) (Tup.mk y3)
  let l21 ← mapG (fun (b21 : (Tup Thing)) => do
      let t25 ← mgetR y19.2.1 b21
      R.ok (b21, t25)) (y19.2.1.map (·.1))
  let y34 ← Asking_plan 20 (y7.1, y19.2.1, y19.2.2, ()) (Tup.mk y3)
  let l36 ← sortByR len_first l21
  R.ok (Nt.mk (y19.1, y34, l36, ()) : (Nt (Int × Pl × (List ((Tup Thing) × Int)) × Unit)))
/-! plan_of_parts -/
def plan_of_parts (rc : (List (List Int)) → (Tup Thing) → Pl → R (Option Int)) (x_fars : (List (List Int))) (x_things : (Tup Thing)) (x_plan : Pl) : R (Option Int) := do
  let t4 ← asAsk x_plan
  let l5 ← listRng 0 (x_fars.length : Int)
  if (!inB t4.1 l5) = true then do
    R.ok none
  else do
    let y9 ← parts_by x_fars x_things t4.1
    let j11 ← (do
      if (decide ((y9.length : Int) < (2 : Int))) = true then do
        R.ok true
      else do
        let l14 ← mapG (fun (b14 : (Int × (Tup Thing))) => do
            R.ok b14.1) y9
        let l20 ← mapG (fun (b20 : (Int × Pl)) => do
            R.ok b20.1) t4.2
        R.ok (!decide (l14 = l20)) : R (Bool))
    if j11 = true then do
      R.ok none
    else do
      let l30 ← mapG (fun (b30 : ((Int × (Tup Thing)) × (Int × Pl))) => do
          let y37 ← rc x_fars b30.1.2 b30.2.2
          R.ok y37) (y9.zip t4.2)
      if (inB none l30) = true then do
        R.ok none
      else do
        let l42 ← allS l30
        let t43 ← maxL l42
        R.ok (some ((1 : Int) + t43))
/-! asks_of -/
def asks_of_b (rc : (List (List Int)) → (Tup Thing) → Pl → R (Option Int)) (x_fars : (List (List Int))) (x_things : (Tup Thing)) (x_plan : Pl) : R (Option Int) := do
  let j4 ← (do
    if (decide (((x_plan).lenN : Int) = (2 : Int))) = true then do
      R.ok (decide ((x_plan).w = ("is" : Str)))
    else do
      R.ok false : R (Bool))
  if j4 = true then do
    let t9 ← asIs x_plan
    let t14 ← getI ([none, (some (0 : Int))] : (List (Option Int))) (b2i (decide ((Tup.mk [t9] : (Tup Thing)) = x_things)))
    R.ok t14
  else do
    let j17 ← (do
      if (decide (((x_plan).lenN : Int) = (3 : Int))) = true then do
        R.ok (decide ((x_plan).w = ("ask" : Str)))
      else do
        R.ok false : R (Bool))
    if j17 = true then do
      let t22 ← asAsk x_plan
      let y23 ← plan_of_parts rc x_fars x_things (Pl.ask t22.1 t22.2)
      R.ok y23
    else do
      R.ok none
def asks_of : Nat → (List (List Int)) → (Tup Thing) → Pl → R (Option Int)
  | 0, _, _, _ => R.bad
  | d + 1, x_fars, x_things, x_plan => asks_of_b (asks_of d) x_fars x_things x_plan
/-! plan_asks -/
def plan_asks (x_web : (Int × (Tup (Int × Int)))) (x_kind : Str) (x_plan : Pl) : R (Option Int) := do
  let y4 ← few_things x_web x_kind
  let y8 ← all_fars x_web
  let y10 ← asks_of 20 y8 (Tup.mk y4) x_plan
  R.ok y10
/-! _law_cell_at -/
def law_cell_at (x_script : Scr) (x_k : Int) : R Int := do
  if (decide (x_k < (x_script.l.length : Int))) = true then do
    let t3 ← getI x_script.l x_k
    R.ok t3
  else do
    let g4 ← (do
      if (!decide (x_script = (⟨([] : (List Int))⟩ : Scr))) = true then do
        let t9 ← modI x_k (x_script.l.length : Int)
        let t10 ← getI x_script.l t9
        R.ok (t10 % (1000003 : Int))
      else do
        R.ok (0 : Int) : R (Int))
    R.ok ((g4 + ((104729 : Int) * x_k)) + (13 : Int))
/-! _law_folded -/
def law_folded (x_script : Scr) (x_many : Int) : R (List Int) := do
  let l2 ← rngI 0 x_many
  let l3 ← mapG (fun (b3 : Int) => do
      let y5 ← law_cell_at x_script b3
      R.ok y5) l2
  let l8 ← rngI x_many (x_script.l.length : Int)
  let g7 ← foldR (fun (g7 : (List Int)) (b7 : Int) => do
      let t9 ← modI b7 x_many
      let t10 ← getI g7 t9
      let t14 ← getI x_script.l b7
      let l17 ← setI g7 t9 ((((t10 % ((10 : Int) ^ ((60 : Int) : Int).toNat)) * (48271 : Int)) + t14) % (((10 : Int) ^ ((60 : Int) : Int).toNat) + (7 : Int)))
      R.ok l17) l3 l8
  R.ok g7
/-! _law_state -/
def law_state (x_cell : Int) : R (List Int) := do
  let g1 ← (do
    if (decide (((10 : Int) ^ ((18 : Int) : Int).toNat) ≤ x_cell)) = true then do
      R.ok x_cell
    else do
      R.ok (0 : Int) : R (Int))
  R.ok ([g1, ((((x_cell % (2147483629 : Int)) + (11 : Int)) * (48271 : Int)) % (2147483647 : Int))] : (List Int))
/-! _law_next -/
def law_next (x_state : (List Int)) (x_many : Int) : R (Int × (List Int)) := do
  let t2 ← getI x_state (0 : Int)
  if (decide ((0 : Int) < t2)) = true then do
    let t4 ← getI x_state (0 : Int)
    let t5 ← modI t4 x_many
    let t6 ← getI x_state (0 : Int)
    let t7 ← divI t6 x_many
    let l8 ← setI x_state (0 : Int) t7
    R.ok (t5, l8)
  else do
    let t10 ← getI x_state (1 : Int)
    let l13 ← setI x_state (1 : Int) (((t10 * (69621 : Int)) + (40692 : Int)) % (2147483647 : Int))
    let t15 ← getI l13 (1 : Int)
    let t16 ← getI l13 (1 : Int)
    let t17 ← mulI t15 t16
    let t20 ← modI ((t17 % (2147483629 : Int)) / (8 : Int)) x_many
    R.ok (t20, l13)
/-! _law_web -/
def law_web (x_state : (List Int)) (x_least : Int) (x_most : Int) : R ((Int × (Tup (Int × Int))) × (List Int)) := do
  let y2 ← law_next x_state ((x_most + (1 : Int)) - x_least)
  let y3 ← law_next y2.2 (9 : Int)
  let l4 ← rngI 0 ((x_least + y2.1) - (1 : Int))
  let l5 ← mapG (fun (b5 : Int) => do
      R.ok (b5, (b5 + (1 : Int)))) l4
  let g9 ← (do
    if ((decide (y3.1 = (1 : Int))) && (decide ((2 : Int) < (x_least + y2.1)))) = true then do
      let l16 ← app l5 ((0 : Int), ((x_least + y2.1) - (1 : Int)))
      R.ok l16
    else do
      R.ok l5 : R ((List (Int × Int))))
  let g18 ← (do
    if (decide (y3.1 = (2 : Int))) = true then do
      let l20 ← rngI (1 : Int) (x_least + y2.1)
      let l21 ← mapG (fun (b21 : Int) => do
          R.ok ((0 : Int), b21)) l20
      R.ok l21
    else do
      R.ok g9 : R ((List (Int × Int))))
  let g27 ← (do
    if (decide (y3.1 = (3 : Int))) = true then do
      let l31 ← rngI (1 : Int) (x_least + y2.1)
      let l32 ← mapG (fun (b32 : Int) => do
          R.ok ((0 : Int), b32)) l31
      let l36 ← extend (cutL g18 (some (1 : Int)) none) l32
      R.ok l36
    else do
      R.ok g18 : R ((List (Int × Int))))
  let g42 ← (do
    if (decide (y3.1 = (4 : Int))) = true then do
      let l48 ← rngI 0 (x_least + y2.1)
      let g47 ← foldR (fun (g47 : (List (Int × Int))) (b47 : Int) => do
          let l49 ← rngI 0 b47
          let l50 ← mapG (fun (b50 : Int) => do
              R.ok (b50, b47)) l49
          let l54 ← extend g47 l50
          R.ok l54) ([] : (List (Int × Int))) l48
      R.ok g47
    else do
      R.ok g27 : R ((List (Int × Int))))
  let g58 ← (do
    if (decide ((4 : Int) < y3.1)) = true then do
      let l60 ← rngI (1 : Int) (x_least + y2.1)
      let l61 ← mapStG (fun (g61 : (List Int)) (b61 : Int) => do
          let y64 ← law_next g61 b61
          R.ok ((y64.1, b61), y64.2)) y3.2 l60
      let y72 ← law_next l61.2 (7 : Int)
      let l73 ← rngI 0 y72.1
      let g70 ← foldR (fun (g70 : (List Int) × (List (Int × Int))) (b70 : Int) => do
          let y74 ← law_next g70.1 (x_least + y2.1)
          let y75 ← law_next y74.2 (x_least + y2.1)
          if ((decide (y74.1 < y75.1)) && (!inB (y74.1, y75.1) g70.2)) = true then do
            let l83 ← app g70.2 (y74.1, y75.1)
            R.ok (y75.2, l83)
          else do
            R.ok (y75.2, g70.2)) (y72.2, l61.1) l73
      R.ok (g70.2, g70.1)
    else do
      R.ok (g42, y3.2) : R ((List (Int × Int)) × (List Int)))
  let l90 ← rngI 0 (x_least + y2.1)
  let g89 ← foldR (fun (g89 : (List Int) × (List Int)) (b89 : Int) => do
      let y92 ← law_next g89.2 (b89 + (1 : Int))
      let l93 ← insR g89.1 y92.1 b89
      R.ok (l93, y92.2)) (([] : (List Int)), g58.2) l90
  let l97 ← mapG (fun (b97 : (Int × Int)) => do
      let t101 ← getI g89.1 b97.1
      let t102 ← getI g89.1 b97.2
      R.ok (t101, t102)) g58.1
  let y105 ← made_web (x_least + y2.1) l97
  R.ok (y105, g89.2)
/-! _law_things -/
def law_things (x_web : (Int × (Tup (Int × Int)))) (x_kind : Str) : R (List Thing) := do
  let l3 ← listRng 0 x_web.1
  let l6 ← repR l3 (b2i (!decide (x_kind = ("ties" : Str))))
  let l10 ← repR x_web.2.l (b2i (!decide (x_kind = ("places" : Str))))
  let l14 ← extend (mkpl l6) (mkti l10)
  R.ok l14
/-! _law_few -/
def law_few (x_state : (List Int)) (x_least : Int) : R ((Nt ((Int × (Tup (Int × Int))) × Str × (List Thing) × Unit)) × (List Int)) := do
  let y2 ← law_web x_state x_least (7 : Int)
  let y8 ← law_next y2.2 (3 : Int)
  let t9 ← getI ([("places" : Str), ("ties" : Str), ("all" : Str)] : (List Str)) y8.1
  let g11 ← (do
    let j12 ← (do
      let y13 ← law_things y2.1 t9
      if (decide ((1 : Int) ≤ (y13.length : Int))) = true then do
        R.ok (decide ((y13.length : Int) ≤ (8 : Int)))
      else do
        R.ok false : R (Bool))
    if (!j12) = true then do
      R.ok ("places" : Str)
    else do
      R.ok t9 : R (Str))
  let y19 ← law_things y2.1 g11
  R.ok ((Nt.mk (y2.1, g11, y19, ()) : (Nt ((Int × (Tup (Int × Int))) × Str × (List Thing) × Unit))), y8.2)
/-! _law_gone -/
def law_gone (x_web : (Int × (Tup (Int × Int)))) (x_plan : Pl) (x_thing : Thing) : R (Nt ((Option Thing) × Int × Unit)) := do
  let r5 ← whileXR (fun (g5 : Int × Pl) => do
      let j7 ← (do
        if (decide ((g5.2).w = ("ask" : Str))) = true then do
          R.ok (decide (g5.1 < (9 : Int)))
        else do
          R.ok false : R (Bool))
      R.ok j7) (fun (g5 : Int × Pl) => do
      let t12 ← asAsk g5.2
      let y16 ← code_of x_web ([t12.1] : (List Int)) x_thing
      let t18 ← getI y16 (0 : Int)
      let l20 ← filG (fun (b20 : (Int × Pl)) => do
          if (decide (b20.1 = t18)) = true then do
            R.ok (some b20.2)
          else
            R.ok none) t12.2
      if (!decide ((l20.length : Int) = (1 : Int))) = true then do
        R.ok (.inl (Nt.mk (none, (g5.1 + (1 : Int)), ()) : (Nt ((Option Thing) × Int × Unit))))
      else do
        let t31 ← getI l20 (0 : Int)
        R.ok (.inr (true, ((g5.1 + (1 : Int)), t31)))) (fu 100) ((0 : Int), x_plan)
  match r5 with
  | .inl z => R.ok z
  | .inr g5 => do
    R.ok (Nt.mk ((some (g5.2).one), g5.1, ()) : (Nt ((Option Thing) × Int × Unit)))
/-! _law_looks -/
def law_looks (x_state : (List Int)) (x_web : (Int × (Tup (Int × Int)))) (x_kind : Str) : R (Int × (List Int)) := do
  let l7 ← rngI 0 x_web.1
  let g6 ← foldR (fun (g6 : (List Int) × (List Int)) (b6 : Int) => do
      let y9 ← law_next g6.2 (b6 + (1 : Int))
      let l10 ← insR g6.1 y9.1 b6
      R.ok (l10, y9.2)) (([] : (List Int)), x_state) l7
  let l14 ← rngI 0 (x_web.1 + (1 : Int))
  let r13 ← foldX (fun (g13 : Unit) (b13 : Int) => do
      let y20 ← is_known x_web (sortI (cutL g6.1 none (some b13))) x_kind
      if y20 = true then do
        R.ok (.inl (b13, g6.2))
      else do
        R.ok (.inr (true, ()))) () l14
  match r13 with
  | .inl z => R.ok z
  | .inr g13 => do
    R.ok ((99 : Int), g6.2)
/-! _law_broadest -/
def law_broadest (x_web : (Int × (Tup (Int × Int)))) : R Int := do
  let l4 ← rngI 0 x_web.1
  let g3 ← foldR (fun (g3 : Int) (b3 : Int) => do
      let l5 ← rngI 0 x_web.1
      let l6 ← mapG (fun (b6 : Int) => do
          let y8 ← far_between x_web b3 b6
          R.ok y8) l5
      let t10 ← maxL l6
      R.ok (max2 g3 t10)) (0 : Int) l4
  R.ok g3
/-! law -/
def law (x_script : Scr) : R Bool := do
  let y3 ← law_folded x_script (4 : Int)
  let r2 ← foldX (fun (g2 : Unit) (b2 : Int) => do
      let y7 ← law_state b2
      let y9 ← law_few y7 (1 : Int)
      let y14 ← fewest_asks y9.1.v.1 y9.1.v.2.1
      let r18 ← foldX (fun (g18 : Int) (b18 : Thing) => do
          let y21 ← law_gone y9.1.v.1 y14.v.2.1 b18
          if ((!decide (y21.v.1 = (some b18))) || (decide (y14.v.1 < y21.v.2.1))) = true then do
            R.ok (.inl false)
          else do
            R.ok (.inr (true, (max2 g18 y21.v.2.1)))) (0 : Int) y9.1.v.2.2.1
      match r18 with
      | .inl z => R.ok (.inl z)
      | .inr g18 => do
        let j30 ← (do
          if (!decide (g18 = y14.v.1)) = true then do
            R.ok (true, y9.2)
          else do
            let y33 ← plan_asks y9.1.v.1 y9.1.v.2.1 y14.v.2.1
            if (!decide (y33 = (some y14.v.1))) = true then do
              R.ok (true, y9.2)
            else do
              let y37 ← law_looks y9.2 y9.1.v.1 y9.1.v.2.1
              R.ok ((decide (y37.1 < y14.v.1)), y37.2) : R (Bool × (List Int)))
        if j30.1 = true then do
          R.ok (.inl false)
        else do
          let l42 ← rngI 0 y14.v.1
          let g41 ← foldR (fun (g41 : Int) (b41 : Int) => do
              let y43 ← law_broadest y9.1.v.1
              let t44 ← mulI g41 ((1 : Int) + y43)
              R.ok t44) (1 : Int) l42
          if (decide (g41 < (y9.1.v.2.2.1.length : Int))) = true then do
            R.ok (.inl false)
          else do
            R.ok (.inr (true, ()))) () y3
  match r2 with
  | .inl z => R.ok z
  | .inr g2 => do
    R.ok true
/-! ### what the top has written -/
structure Dn (K : Fg) (mg : Str → Option Value) (x y : Str) (st : Stmt) (ps : List Str) (f : Addr) (fd : FuncData) : Prop where
  fn : Fun K y y st f fd
  mg : mg x = some (.ref f)
  b : Binds K fd ps []
structure Dm (K : Fg) (C : Addr) (x y : Str) (st : Stmt) (ps : List Str) (f : Addr) (fd : FuncData) : Prop where
  fn : Fun K x y st f fd
  mt : Meth K C x f
  b : Binds K fd ps []
structure Tx (K : Fg) (mg : Str → Option Value) (A : Nat → Addr) (FD : Nat → FuncData) : Prop where
  d10 : Dn K mg "near_lists" "near_lists" s_near_lists ["web"] (A 10) (FD 10)
  d11 : Dn K mg "fars_by" "fars_by" s_fars_by ["near", "place"] (A 11) (FD 11)
  d12 : Dn K mg "sorted_ties" "sorted_ties" s_sorted_ties ["many", "ties"] (A 12) (FD 12)
  d13 : Dn K mg "made_web" "made_web" s_made_web ["many", "ties"] (A 13) (FD 13)
  d14 : Dn K mg "place_asked" "place_asked" s_place_asked ["web", "place"] (A 14) (FD 14)
  d15 : Dn K mg "fars_from" "fars_from" s_fars_from ["web", "place"] (A 15) (FD 15)
  d16 : Dn K mg "far_between" "far_between" s_far_between ["web", "one", "other"] (A 16) (FD 16)
  d18 : Dn K mg "table_of" "table_of" s_table_of ["web"] (A 18) (FD 18)
  d19 : Dn K mg "things_of" "things_of" s_things_of ["web", "kind"] (A 19) (FD 19)
  d20 : Dn K mg "looks_asked" "looks_asked" s_looks_asked ["web", "looks"] (A 20) (FD 20)
  d21 : Dn K mg "thing_asked" "thing_asked" s_thing_asked ["web", "thing"] (A 21) (FD 21)
  d22 : Dn K mg "far_by" "far_by" s_far_by ["table", "look", "thing"] (A 22) (FD 22)
  d23 : Dn K mg "code_of" "code_of" s_code_of ["web", "looks", "thing"] (A 23) (FD 23)
  d24 : Dn K mg "by_code" "by_code" s_by_code ["web", "looks", "kind"] (A 24) (FD 24)
  d25 : Dn K mg "likes_by" "likes_by" s_likes_by ["web", "looks", "kind"] (A 25) (FD 25)
  d26 : Dn K mg "is_known" "is_known" s_is_known ["web", "looks", "kind"] (A 26) (FD 26)
  d30 : Dn K mg "few_things" "few_things" s_few_things ["web", "kind"] (A 30) (FD 30)
  d31 : Dn K mg "all_fars" "all_fars" s_all_fars ["web"] (A 31) (FD 31)
  d32 : Dn K mg "far_thing" "far_thing" s_far_thing ["fars", "place", "thing"] (A 32) (FD 32)
  d33 : Dn K mg "parts_by" "parts_by" s_parts_by ["fars", "things", "place"] (A 33) (FD 33)
  d35 : Dn K mg "fewest_asks" "fewest_asks" s_fewest_asks ["web", "kind"] (A 35) (FD 35)
  d36 : Dn K mg "len_first" "len_first" s_len_first ["row"] (A 36) (FD 36)
  d37 : Dn K mg "plan_of_parts" "plan_of_parts" s_plan_of_parts ["fars", "things", "plan"] (A 37) (FD 37)
  d38 : Dn K mg "asks_of" "asks_of" s_asks_of ["fars", "things", "plan"] (A 38) (FD 38)
  d39 : Dn K mg "plan_asks" "plan_asks" s_plan_asks ["web", "kind", "plan"] (A 39) (FD 39)
  d41 : Dn K mg "_law_cell_at" "_law_cell_at" s_law_cell_at ["script", "k"] (A 41) (FD 41)
  d42 : Dn K mg "_law_folded" "_law_folded" s_law_folded ["script", "many"] (A 42) (FD 42)
  d43 : Dn K mg "_law_state" "_law_state" s_law_state ["cell"] (A 43) (FD 43)
  d44 : Dn K mg "_law_next" "_law_next" s_law_next ["state", "many"] (A 44) (FD 44)
  d45 : Dn K mg "_law_web" "_law_web" s_law_web ["state", "least", "most"] (A 45) (FD 45)
  d46 : Dn K mg "_law_things" "_law_things" s_law_things ["web", "kind"] (A 46) (FD 46)
  d47 : Dn K mg "_law_few" "_law_few" s_law_few ["state", "least"] (A 47) (FD 47)
  d48 : Dn K mg "_law_gone" "_law_gone" s_law_gone ["web", "plan", "thing"] (A 48) (FD 48)
  d49 : Dn K mg "_law_looks" "_law_looks" s_law_looks ["state", "web", "kind"] (A 49) (FD 49)
  d50 : Dn K mg "_law_broadest" "_law_broadest" s_law_broadest ["web"] (A 50) (FD 50)
  d51 : Dn K mg "law" "law" s_law ["script"] (A 51) (FD 51)
  d35000 : Dm K (A 34) "__init__" "Asking.__init__" s_Asking_init ["self", "web"] (A 35000) (FD 35000)
  d35001 : Dm K (A 34) "need" "Asking.need" s_Asking_need ["self", "things"] (A 35001) (FD 35001)
  d35002 : Dm K (A 34) "plan" "Asking.plan" s_Asking_plan ["self", "things"] (A 35002) (FD 35002)
  n_enumerate : mg "enumerate" = none
  n_int : mg "int" = none
  n_isinstance : mg "isinstance" = none
  n_len : mg "len" = none
  n_list : mg "list" = none
  n_max : mg "max" = none
  n_min : mg "min" = none
  n_range : mg "range" = none
  n_sorted : mg "sorted" = none
  n_tuple : mg "tuple" = none
  n_zip : mg "zip" = none
  c_MOST_PLACES_asks : ∃ t, mg "MOST_PLACES_asks" = some (.int 7 t)
  c_MOST_PLACES_webs : ∃ t, mg "MOST_PLACES_webs" = some (.int 60 t)
  c_MOST_THINGS : ∃ t, mg "MOST_THINGS" = some (.int 8 t)
  cl_Asking : Cls K (A 34)
  nm_Asking : Nm K "Asking" (A 34)
  mg_Asking : mg "Asking" = some (.ref (A 34))
  mk_Asking : Mk K (A 34) (A 35000)
  na_Asking_fars : NoAttr K (A 34) "fars"
  na_Asking_least : NoAttr K (A 34) "least"
  na_Asking_best : NoAttr K (A 34) "best"
  x_TooMany : XC K mg "TooMany" (A 6)
  x_NoPlace : XC K mg "NoPlace" (A 3)
theorem Tx.exc {K : Fg} {mg : Str → Option Value} {A : Nat → Addr} {FD : Nat → FuncData} (T : Tx K mg A FD) {x : Str} {C : Addr} (h : x ∈ names) (n : Nm K x C) : ExcC K C := by
  simp only [names, List.mem_cons, List.mem_nil_iff, or_false] at h
  rcases h with rfl | rfl
  · obtain rfl := n.uniq T.x_TooMany.ns; exact T.x_TooMany.ex
  · obtain rfl := n.uniq T.x_NoPlace.ns; exact T.x_NoPlace.ex
section
variable {P : Program} {w : World} {K : PySem.W.Frag} {mg : Str → Option Value} {base : Heap} {A : Nat → Addr} {FD : Nat → FuncData}
def sp_near_lists (K : Fg) : Sp := fun vs H Q E => ∃ (F : Hp) (os : List (Addr × HO)) (v_web : V) (x_web : (Int × (Tup (Int × Int)))), vs = [v_web] ∧ W F H (os) ∧ rep K F v_web x_web ∧ Post (near_lists x_web) (Ret K F os Q) noX
theorem sc_near_lists : FnScope ["web", "found", "one", "other", "place", "row"] ["web"] (defScope s_near_lists) := ⟨rfl, rfl, rfl, by decide +kernel, rfl, by decide +kernel, by decide +kernel⟩
theorem ok_near_lists (T : Tx K mg A FD) : FnOk P w K mg base CX0 1 (A 10) (FD 10) ["web"] (sp_near_lists K) := by
  refine T.d10.fn.ok sc_near_lists (fun vs H Q E h => ?_) (fun cdv Ar outer s H vs Q E hr h => ?_)
  · obtain ⟨F, os, v_web, x_web, rfl, _⟩ := h
    rfl
  · obtain ⟨F0, os, v_web, x_web, rfl, w0, r_web, hm⟩ := h
    have sF : Same F0 F0 := Same.refl _
    obtain ⟨a1, u1, z1, rfl, q1, r1a, r1b⟩ := r_web
    obtain rfl : u1 = V.int x_web.1 := r1a
    obtain ⟨a2, vs2, rfl, q2, h2⟩ := r1b
    have hr_g : Sto K F0 [] [] ([] : List (List Int)) := Sto.nil
    replace w0 : W F0 _ ((nz [] [] ++ os)) := w0
    refine ⟨_, (pss_cons (ps_setLc (i := 1) (own := [("place", 4)]) (g := gName 4) (by rfl) sc_near_lists.nd rfl rfl (sw_true rfl rfl rfl (by decide +kernel)) (pi_range1 (by rfl) T.n_range (pa_cons (pe_ix (ix_tupK (K := K) rfl) (pv 0) pe_int (fun _ _ => rfl)) pa_nil)) (blkOk_by (own := [("place", 4)]) (N := ["web", "found", "one", "other", "place", "row"]) (sc := defScope s_near_lists) (by decide +kernel)) (fun _ _ _ _ _ => (pg_name (i := 4) sc_near_lists.nd rfl (Or.inl rfl))) (fun _ _ _ _ _ => pts_nil) (fun _ _ _ _ _ => (pe_lst pa_nil))) (pss_cons (ps_for PassesOwn.never rfl (pi_tupK (K := K) rfl (pe_ix (ix_tupK (K := K) rfl) (pv 0) pe_int (fun _ _ => rfl))) (pg_k (K := K) (t := fun K => gTup K 2 _) rfl (pg_tup (n := 2) rfl (pgs_cons (pg_name (i := 2) sc_near_lists.nd rfl (Or.inl rfl)) (pgs_cons (pg_name (i := 3) sc_near_lists.nd rfl (Or.inl rfl)) pgs_nil)))) (pss_cons (ps_expr (pe_bm PySem.F.plainAttrs_list PySem.F.slot_list_append PySem.F.type_list_append mt_append (pe_ix (ix_listK (K := K) rfl) (pv 1) (pv 2) (fun _ _ => rfl)) (pa_cons (pv 3) pa_nil))) (pss_one (ps_expr (pe_bm PySem.F.plainAttrs_list PySem.F.slot_list_append PySem.F.type_list_append mt_append (pe_ix (ix_listK (K := K) rfl) (pv 1) (pv 3) (fun _ _ => rfl)) (pa_cons (pv 2) pa_nil)))))) (pss_one (ps_ret (pe_lc (own := [("row", 5)]) (g := gName 5) (by rfl) sc_near_lists.nd (pi_listK (K := K) rfl (pv 1)) (blkOk_by (own := [("row", 5)]) (N := ["web", "found", "one", "other", "place", "row"]) (sc := defScope s_near_lists) (by decide +kernel)) (fun _ _ _ _ _ => (pg_name (i := 5) sc_near_lists.nd rfl (Or.inl rfl))) (fun _ _ _ _ _ => pts_nil) (fun _ _ _ _ _ => (pe_callB (cr_sortI (K := K) rfl) (by rfl) T.n_sorted (by decide +kernel) (pa_cons (pv 5) pa_nil)))))))), ?_⟩
    obtain ⟨c4, hm⟩ := pb_rng hm
    refine ⟨_, rfl, _, _, _, _, rfl, rfl, SqT.of (w0.same _ _ q1), rfl, _, rfl, c4.2.2.1, c4.2.2.2, fun D5 nD5 => ?_⟩
    refine lcGM (tw_rng0 (j := x_web.1)) hm (fun (g5 : (List (List Int))) F' os' us ys => ∃ (as5_0 : List Addr) (vs5_0 : List (List V)), os' = (nz as5_0 vs5_0 ++ os) ∧ [] <+: as5_0 ∧ Sto K F' as5_0 vs5_0 g5 ∧ A2 (RX as5_0) us ys) w0 ⟨_, _, rfl, pfx_refl, hr_g, .nil⟩ nD5 (fun _ _ _ _ _ o => by obtain ⟨_, _, rfl, _, _, h⟩ := o; exact h.length) (fun g F' H' os' acc ys s w o => by obtain ⟨_, _, rfl, _, _, _⟩ := o; exact trivial) ?_ ?_
    · -- one turn
      intro b5 g5 x5 F5 H5 H5' os5 acc5 ya5 N5 P5 s5 w5 o5 y5 hN5 hm
      obtain ⟨as5_0, vs5_0, rfl, p5_0, h5_0, ha5⟩ := o5
      replace q1 := s5 _ _ q1
      replace q2 := s5 _ _ q2
      replace h2 := A2.mono s5 h2
      replace sF := sF.trans s5
      obtain ⟨rfl, rfl⟩ := y5
      have h7 : A2 (rep K F5) [] ([] : (List Int)) := .nil
      refine ⟨rfl, (by show 0 ≤ sizeLine; decide), fun p8 n8 => ?_⟩
      have w8 : W F5 _ ((p8, .lst []) :: (D5, .lst acc5) :: (nz as5_0 vs5_0 ++ os)) := w5.new n8
      obtain ⟨j9, st9, ej9, es9, hm⟩ := pn_newS hm
      have w9 : W F5 _ ((D5, .lst acc5) :: (nz (as5_0 ++ [p8]) (vs5_0 ++ [[]]) ++ os)) := w8.nadd (pre := [_]) h5_0.len
      have q9 : (as5_0 ++ [p8])[j9]? = some p8 := IQ.new (h5_0.len2.trans ej9.symm)
      have h9 : Sto K F5 (as5_0 ++ [p8]) (vs5_0 ++ [[]]) st9 := es9 ▸ Sto.snoc (p := p8) h5_0 h7
      replace ha5 := A2.imp (fun _ _ => RX.mono (pfx_snoc (p := p8))) ha5
      exact hN5 _ _ (post_ok hm) _ _ _ _ w9 (Same.refl _) ⟨_, _, rfl, (pfx_trans p5_0 (pfx_snoc (p := p8))), h9, A2.snoc ha5 ⟨_, rfl, q9⟩⟩
    intro g5 us5 F5 H5 os5 ys5 s5 w5 o5 hm
    obtain ⟨as5_0, vs5_0, rfl, p5_0, h5_0, gg5⟩ := o5
    replace q1 := s5 _ _ q1
    replace q2 := s5 _ _ q2
    replace h2 := A2.mono s5 h2
    replace sF := sF.trans s5
    refine ⟨_, rfl, _, _, _, _, rfl, rfl, SqT.of (w5.same _ _ q1), rfl, _, rfl, ⟨_, SqT.of (w5.same _ _ q2)⟩, ?_⟩
    refine forS (tw_tup (a := a2) h2) hm (fun (g11 : (List (List Int))) σ H' => ∃ (F' : Hp) (as11_0 : List Addr) (vs11_0 : List (List V)) (o11_2 : Option V) (o11_3 : Option V), σ = [some (.ref a1), some (.ref D5), o11_2, o11_3, none, none] ∧ Same F5 F' ∧ W F' H' ((D5, .lst us5) :: (nz as11_0 vs11_0 ++ os)) ∧ as5_0 <+: as11_0 ∧ Sto K F' as11_0 vs11_0 g11) ⟨_, _, _, _, _, rfl, Same.refl _, w5, pfx_refl, h5_0⟩ (fun g σ H' hI => by obtain ⟨F', _, _, _, _, _, s, w, _⟩ := hI; exact SqT.of (w.same _ _ (s _ _ q2))) ?_ ?_
    · -- a turn
      intro b11 g11 x11 σ11 H11 H11' N11 P11 hI hy hN11 hm
      obtain ⟨F11, as11_0, vs11_0, o11_2, o11_3, rfl, s11, w11, p11_0, h11_0⟩ := hI
      replace q1 := s11 _ _ q1
      replace h2 := A2.mono s11 h2
      replace q2 := s11 _ _ q2
      replace sF := sF.trans s11
      replace gg5 := A2.imp (fun _ _ => RX.mono p11_0) gg5
      obtain ⟨rfl, r12⟩ := hy
      replace r12 := Rep.mono s11 r12
      obtain ⟨a13, u13, z13, rfl, q13, r13a, r13b⟩ := r12
      obtain rfl : u13 = V.int b11.1 := r13a
      obtain rfl : z13 = V.int b11.2 := r13b
      obtain ⟨t14, e14, hm⟩ := pb_get hm
      obtain ⟨u14, f14, r14⟩ := A2.at gg5 e14
      obtain ⟨a15, rfl, q15⟩ := r14
      obtain ⟨x16, e16, hm⟩ := pb_getS hm
      obtain ⟨vs16, i16, h16⟩ := Sto.getq h11_0 e16 q15
      obtain ⟨l17, z17, e17, hm⟩ := pn_app hm
      obtain ⟨st17, es17, hm⟩ := pn_setS hm
      refine ⟨_, _, rfl, SqT.of (w11.same _ _ q13), rfl, _, _, rfl, _, _, rfl, rfl, _, rfl, _, rfl, _, _, _, _, rfl, rfl, SqL.of (w11.get (pre := [])), f14, .inl ⟨rfl, _, SqL.of (W.nget (pre := [_]) w11 q15 i16)⟩, _, rfl, _, _, _, rfl, rfl, (W.nget (pre := [_]) w11 q15 i16), (A2.lt h16 z17), ?_⟩
      have h17 : Sto K F11 as11_0 (vs11_0.set t14 (vs16 ++ [(V.int b11.2)])) st17 := es17 ▸ Sto.set h11_0 (e17 ▸ A2.snoc h16 rep_i)
      have w17 : W F11 _ ((D5, .lst us5) :: (nz as11_0 (vs11_0.set t14 (vs16 ++ [(V.int b11.2)])) ++ os)) := w11.nset (pre := [_]) (vs16 ++ [(V.int b11.2)]) q15 i16
      obtain ⟨t18, e18, hm⟩ := pb_get hm
      obtain ⟨u18, f18, r18⟩ := A2.at gg5 e18
      obtain ⟨a19, rfl, q19⟩ := r18
      obtain ⟨x20, e20, hm⟩ := pb_getS hm
      obtain ⟨vs20, i20, h20⟩ := Sto.getq h17 e20 q19
      obtain ⟨l21, z21, e21, hm⟩ := pn_app hm
      obtain ⟨st21, es21, hm⟩ := pn_setS hm
      refine ⟨_, rfl, _, rfl, _, _, _, _, rfl, rfl, SqL.of (w17.get (pre := [])), f18, .inl ⟨rfl, _, SqL.of (W.nget (pre := [_]) w17 q19 i20)⟩, _, rfl, _, _, _, rfl, rfl, (W.nget (pre := [_]) w17 q19 i20), (A2.lt h20 z21), ?_⟩
      have h21 : Sto K F11 as11_0 ((vs11_0.set t14 (vs16 ++ [(V.int b11.2)])).set t18 (vs20 ++ [(V.int b11.1)])) st21 := es21 ▸ Sto.set h17 (e21 ▸ A2.snoc h20 rep_i)
      have w21 : W F11 _ ((D5, .lst us5) :: (nz as11_0 ((vs11_0.set t14 (vs16 ++ [(V.int b11.2)])).set t18 (vs20 ++ [(V.int b11.1)])) ++ os)) := w17.nset (pre := [_]) (vs20 ++ [(V.int b11.1)]) q19 i20
      exact hN11 _ (post_ok hm) _ _ ⟨_, _, _, _, _, rfl, s11, w21, p11_0, h21⟩
    intro g11 σ11 H11 hI hm
    obtain ⟨F11, as11_0, vs11_0, o11_2, o11_3, rfl, s11, w11, p11_0, h11_0⟩ := hI
    replace q1 := s11 _ _ q1
    replace h2 := A2.mono s11 h2
    replace q2 := s11 _ _ q2
    replace sF := sF.trans s11
    replace gg5 := A2.imp (fun _ _ => RX.mono p11_0) gg5
    refine ⟨_, rfl, _, rfl, ⟨_, SqL.of (w11.get (pre := []))⟩, fun D22 nD22 => ?_⟩
    refine lcM (K := K) (tw_listR (a := D5) gg5) hm w11 nD22 (fun F' H' acc s w => SqL.of (w.get (pre := [_]))) ?_ ?_
    · -- one turn
      intro b22 x22 F22 H22 H22' acc22 N22 P22 s22 w22 y22 hN22 hm
      replace q1 := s22 _ _ q1
      replace h2 := A2.mono s22 h2
      replace q2 := s22 _ _ q2
      replace h11_0 := Sto.mono s22 h11_0
      replace sF := sF.trans s22
      obtain ⟨rfl, r24⟩ := y22
      obtain ⟨a25, rfl, q25⟩ := r24
      obtain ⟨x26, e26, hm⟩ := pb_getS hm
      obtain ⟨vs26, i26, h26⟩ := Sto.getq h11_0 e26 q25
      have h27 : A2 (rep K F22) ((sortI x26).map V.int) (sortI x26) := A2.of_ints
      refine ⟨rfl, _, rfl, _, _, rfl, ints_q (SqL.of (W.nget (pre := [_, _]) w22 q25 i26)) h26, fun p28 n28 => ?_⟩
      have w28 : W F22 _ ((p28, .lst ((sortI x26).map V.int)) :: (D22, .lst acc22) :: (D5, .lst us5) :: (nz as11_0 vs11_0 ++ os)) := w22.new n28
      obtain ⟨F29, s29, w29, q29⟩ : ∃ F', Same F22 F' ∧ W F' _ ((D22, .lst acc22) :: (D5, .lst us5) :: (nz as11_0 vs11_0 ++ os)) ∧ F' p28 = some (.lst ((sortI x26).map V.int)) := w28.freezeE (pre := [])
      replace q1 := s29 _ _ q1
      replace h2 := A2.mono s29 h2
      replace q2 := s29 _ _ q2
      replace h11_0 := Sto.mono s29 h11_0
      replace h26 := A2.mono s29 h26
      replace h27 := A2.mono s29 h27
      replace sF := sF.trans s29
      exact hN22 _ (post_ok hm) _ _ _ w29 s29 (rep_lst q29 h27)
    intro us22 F22 H22 ys22 s22 w22 gg22 hm
    replace q1 := s22 _ _ q1
    replace h2 := A2.mono s22 h2
    replace q2 := s22 _ _ q2
    replace h11_0 := Sto.mono s22 h11_0
    replace sF := sF.trans s22
    obtain ⟨F31, s31, w31, q31⟩ : ∃ F', Same F22 F' ∧ W F' _ ((D5, .lst us5) :: (nz as11_0 vs11_0 ++ os)) ∧ F' D22 = some (.lst us22) := w22.freezeE (pre := [])
    replace q1 := s31 _ _ q1
    replace h2 := A2.mono s31 h2
    replace q2 := s31 _ _ q2
    replace h11_0 := Sto.mono s31 h11_0
    replace gg22 := A2.mono s31 gg22
    replace sF := sF.trans s31
    have w32 : W F31 _ ((nz as11_0 vs11_0 ++ os)) := w31.drop (pre := [])
    have w33 : W F31 _ (os) := w32.dropL (pre := [])
    exact (post_ok hm) _ _ _ w33 sF (rep_lst q31 gg22)
def sp_fars_by (K : Fg) : Sp := fun vs H Q E => ∃ (F : Hp) (os : List (Addr × HO)) (v_near : V) (x_near : (List (List Int))) (x_place : Int), vs = [v_near, .int x_place] ∧ W F H (os) ∧ rep K F v_near x_near ∧ Post (fars_by x_near x_place) (RetL K F os Q) noX
theorem sc_fars_by : FnScope ["near", "place", "found", "line", "at", "other"] ["near", "place"] (defScope s_fars_by) := ⟨rfl, rfl, rfl, by decide +kernel, rfl, by decide +kernel, by decide +kernel⟩
theorem ok_fars_by (T : Tx K mg A FD) : FnOk P w K mg base CX0 1 (A 11) (FD 11) ["near", "place"] (sp_fars_by K) := by
  refine T.d11.fn.ok sc_fars_by (fun vs H Q E h => ?_) (fun cdv Ar outer s H vs Q E hr h => ?_)
  · obtain ⟨F, os, v_near, x_near, x_place, rfl, _⟩ := h
    rfl
  · obtain ⟨F0, os, v_near, x_near, x_place, rfl, w0, r_near, hm⟩ := h
    have sF : Same F0 F0 := Same.refl _
    obtain ⟨a1, vs1, rfl, q1, h1⟩ := r_near
    refine ⟨_, (pss_cons (ps_set (i := 2) sc_fars_by.nd rfl (Or.inl rfl) (pe_op op_rep (pe_lst (pa_cons pe_non pa_nil)) (pe_callB (call_lenN (K := K) rfl) (by rfl) T.n_len (by decide +kernel) (pa_cons (pv 0) pa_nil)))) (pss_cons (ps_asg pe_int (pg_sub (pv 2) (pv 1) set_list)) (pss_cons (ps_set (i := 3) sc_fars_by.nd rfl (Or.inl rfl) (pe_lst (pa_cons (pv 1) pa_nil))) (pss_cons (ps_set (i := 4) sc_fars_by.nd rfl (Or.inl rfl) pe_int1) (pss_cons (ps_while PassesOwn.never (pt_cmp (pc_lt (pv 4) (pe_callB (call_lenN (K := K) rfl) (by rfl) T.n_len (by decide +kernel) (pa_cons (pv 3) pa_nil)))) (pss_cons (ps_for PassesOwn.never rfl (pi_listK (K := K) rfl (pe_ix (ix_listK (K := K) rfl) (pv 0) (pe_ix (ix_listK (K := K) rfl) (pv 3) (pv 4) (fun _ _ => rfl)) (fun _ _ => rfl))) (pg_name (i := 5) sc_fars_by.nd rfl (Or.inl rfl)) (pss_one (ps_if (pt_cmpR op_isN2 (pe_ix (ix_listK (K := K) rfl) (pv 2) (pv 5) (fun _ _ => rfl)) pe_non (nomark _)) (pss_cons (ps_asg (pe_op op_add (pe_ix (ix_listK (K := K) rfl) (pv 2) (pe_ix (ix_listK (K := K) rfl) (pv 3) (pv 4) (fun _ _ => rfl)) (fun _ _ => rfl)) pe_int) (pg_sub (pv 2) (pv 5) set_list)) (pss_one (ps_expr (pe_bm PySem.F.plainAttrs_list PySem.F.slot_list_append PySem.F.type_list_append mt_append (pv 3) (pa_cons (pv 5) pa_nil))))) pss_nil))) (pss_one (ps_set (i := 4) sc_fars_by.nd rfl (Or.inl rfl) (pe_op op_add (pv 4) pe_int))))) (pss_one (ps_ret (pv 2)))))))), ?_⟩
    have h2 : A2 (rep K F0) [.non] ([none] : (List (Option Int))) := .cons rep_none (.nil)
    refine ⟨(by show 1 ≤ sizeLine; decide), fun p3 n3 => ?_⟩
    have w3 : W F0 _ ((p3, .lst [.non]) :: os) := w0.new n3
    obtain ⟨l4, z4, e4, hm⟩ := pb_rep hm
    have h4 : A2 (rep K F0) (List.replicate (x_near.length : Int).toNat [.non]).flatten l4 := e4 ▸ A2.flat h2 _
    refine ⟨_, rfl, _, _, _, rfl, .inl (SqL.of (w3.same _ _ q1)), h1.length, _, _, _, rfl, rfl, (w3.get (pre := [])), z4.1, z4.2.1, (by rw [h2.length]; exact z4.2.2), fun p5 n5 => ?_⟩
    have w5 : W F0 _ ((p5, .lst (List.replicate (x_near.length : Int).toNat [.non]).flatten) :: (p3, .lst [.non]) :: os) := w3.new n5
    have w6 : W F0 _ ((p5, .lst (List.replicate (x_near.length : Int).toNat [.non]).flatten) :: os) := w5.drop (pre := [_])
    obtain ⟨j7, l7, z7, e7, hm⟩ := pn_set hm
    refine ⟨_, rfl, _, rfl, _, _, _, _, rfl, rfl, (w6.get (pre := [])), (A2.ix h4 z7), ?_⟩
    have h7 : A2 (rep K F0) ((List.replicate (x_near.length : Int).toNat [.non]).flatten.set j7 (V.int 0)) l7 := e7 ▸ A2.set (rep_some rep_i) j7 h4
    have w8 : W F0 _ ((p5, .lst ((List.replicate (x_near.length : Int).toNat [.non]).flatten.set j7 (V.int 0))) :: os) := w6.set (pre := [])
    have h9 : A2 (rep K F0) [(.int x_place)] ([x_place] : (List Int)) := .cons rep_i (.nil)
    refine ⟨_, rfl, (by show 1 ≤ sizeLine; decide), fun p10 n10 => ?_⟩
    have w10 : W F0 _ ((p10, .lst [(.int x_place)]) :: (p5, .lst ((List.replicate (x_near.length : Int).toNat [.non]).flatten.set j7 (V.int 0))) :: os) := w8.new n10
    refine ⟨trivial, ?_⟩
    refine stepN ?_
    try dsimp only
    refine stepSeq (whileS hm (fun (g11 : Int × (List Int) × (List (Option Int))) σ H' => ∃ (F' : Hp) (vs11_0 : List V) (vs11_1 : List V) (o11_5 : Option V), σ = [some (.ref a1), some (.int x_place), some (.ref p5), some (.ref p10), some (.int g11.1), o11_5] ∧ Same F0 F' ∧ W F' H' ((p10, .lst vs11_0) :: (p5, .lst vs11_1) :: os) ∧ A2 (rep K F') vs11_0 g11.2.1 ∧ A2 (rep K F') vs11_1 g11.2.2) ⟨_, _, _, _, rfl, Same.refl _, w10, h9, h7⟩ ?_ ?_ ?_)
    · intro g11 σ11 H11 N11 P11 hI hN11 hm
      obtain ⟨F11, vs11_0, vs11_1, o11_5, rfl, s11, w11, h11_0, h11_1⟩ := hI
      replace h1 := A2.mono s11 h1
      replace q1 := s11 _ _ q1
      replace sF := sF.trans s11
      exact ⟨_, rfl, _, rfl, _, _, _, rfl, .inl (SqL.of (w11.get (pre := []))), h11_0.length, _, _, rfl, rfl, _, rfl, hN11 _ (post_ok hm) _ ⟨_, _, _, _, rfl, s11, w11, h11_0, h11_1⟩⟩
    · intro g11 σ11 H11 N11 P11 hI hN11 hm
      obtain ⟨F11, vs11_0, vs11_1, o11_5, rfl, s11, w11, h11_0, h11_1⟩ := hI
      replace h1 := A2.mono s11 h1
      replace q1 := s11 _ _ q1
      replace sF := sF.trans s11
      obtain ⟨t13, e13, hm⟩ := pb_get hm
      obtain ⟨u13, f13, r13⟩ := A2.at h11_0 e13
      obtain rfl : u13 = V.int t13 := r13
      obtain ⟨t14, e14, hm⟩ := pb_get hm
      obtain ⟨u14, f14, r14⟩ := A2.at h1 e14
      obtain ⟨a15, vs15, rfl, q15, h15⟩ := r14
      refine ⟨_, rfl, _, rfl, _, rfl, _, _, _, _, rfl, rfl, SqL.of (w11.get (pre := [])), f13, _, _, _, _, rfl, rfl, SqL.of (w11.same _ _ q1), f14, _, rfl, ⟨_, SqL.of (w11.same _ _ q15)⟩, ?_⟩
      refine forS (tw_list (a := a15) h15) hm (fun (g12 : (List Int) × (List (Option Int))) σ H' => ∃ (F' : Hp) (vs12_0 : List V) (vs12_1 : List V) (o12_5 : Option V), σ = [some (.ref a1), some (.int x_place), some (.ref p5), some (.ref p10), some (.int g11.1), o12_5] ∧ Same F11 F' ∧ W F' H' ((p10, .lst vs12_0) :: (p5, .lst vs12_1) :: os) ∧ A2 (rep K F') vs12_0 g12.1 ∧ A2 (rep K F') vs12_1 g12.2) ⟨_, _, _, _, rfl, Same.refl _, w11, h11_0, h11_1⟩ (fun g σ H' hI => by obtain ⟨F', _, _, _, _, s, w, _⟩ := hI; exact SqL.of (w.same _ _ (s _ _ q15))) ?_ ?_
      · -- a turn
        intro b12 g12 x12 σ12 H12 H12' N12 P12 hI hy hN12 hm
        obtain ⟨F12, vs12_0, vs12_1, o12_5, rfl, s12, w12, h12_0, h12_1⟩ := hI
        replace h1 := A2.mono s12 h1
        replace q1 := s12 _ _ q1
        replace q15 := s12 _ _ q15
        replace h15 := A2.mono s12 h15
        replace sF := sF.trans s12
        obtain ⟨rfl, r16⟩ := hy
        obtain rfl : x12 = V.int b12 := r16
        obtain ⟨t17, e17, hm⟩ := pb_get hm
        obtain ⟨u17, f17, r17⟩ := A2.at h12_1 e17
        refine ⟨_, rfl, _, rfl, _, _, _, _, rfl, rfl, SqL.of (w12.get (pre := [_])), f17, rfl, _, isN_eq r17, _, rfl, ?_⟩
        refine post_ite hm (fun k19 hm => ?_) (fun k19 hm => ?_)
        · skip
          obtain ⟨t20, e20, hm⟩ := pb_get hm
          obtain ⟨u20, f20, r20⟩ := A2.at h12_0 e20
          obtain rfl : u20 = V.int t20 := r20
          obtain ⟨t21, e21, hm⟩ := pb_get hm
          obtain ⟨u21, f21, r21⟩ := A2.at h12_1 e21
          obtain ⟨t23, e23, hm⟩ := pb_ofO hm
          have r23 : rep K F12 u21 (some t23) := e23 ▸ r21
          replace r23 : u21 = V.int t23 := r23
          subst r23
          obtain ⟨j24, l24, z24, e24, hm⟩ := pn_set hm
          refine ⟨_, rfl, _, rfl, _, rfl, _, _, _, _, rfl, rfl, SqL.of (w12.get (pre := [])), f20, _, _, _, _, rfl, rfl, SqL.of (w12.get (pre := [_])), f21, _, _, rfl, rfl, _, rfl, _, rfl, _, _, _, _, rfl, rfl, (w12.get (pre := [_])), (A2.ix h12_1 z24), ?_⟩
          have h24 : A2 (rep K F12) (vs12_1.set j24 (V.int (t23 + (1 : Int)))) l24 := e24 ▸ A2.set (rep_some rep_i) j24 h12_1
          have w25 : W F12 _ ((p10, .lst vs12_0) :: (p5, .lst (vs12_1.set j24 (V.int (t23 + (1 : Int))))) :: os) := w12.set (pre := [_])
          obtain ⟨l26, z26, e26, hm⟩ := pn_app hm
          refine ⟨_, rfl, .inl ⟨rfl, _, SqL.of (w25.get (pre := []))⟩, _, rfl, _, _, _, rfl, rfl, (w25.get (pre := [])), (A2.lt h12_0 z26), ?_⟩
          have h26 : A2 (rep K F12) (vs12_0 ++ [(V.int b12)]) l26 := e26 ▸ A2.snoc h12_0 rep_i
          have w27 : W F12 _ ((p10, .lst (vs12_0 ++ [(V.int b12)])) :: (p5, .lst (vs12_1.set j24 (V.int (t23 + (1 : Int))))) :: os) := w25.set (pre := [])
          exact hN12 _ (post_ok hm) _ _ ⟨_, _, _, _, rfl, s12, w27, h26, h24⟩
        · skip
          exact hN12 _ (post_ok hm) _ _ ⟨_, _, _, _, rfl, s12, w12, h12_0, h12_1⟩
      intro g12 σ12 H12 hI hm
      obtain ⟨F12, vs12_0, vs12_1, o12_5, rfl, s12, w12, h12_0, h12_1⟩ := hI
      replace h1 := A2.mono s12 h1
      replace q1 := s12 _ _ q1
      replace q15 := s12 _ _ q15
      replace h15 := A2.mono s12 h15
      replace sF := sF.trans s12
      exact ⟨_, rfl, _, _, rfl, rfl, hN11 _ (post_ok hm) _ _ ⟨_, _, _, _, rfl, (s11.trans s12), w12, h12_0, h12_1⟩⟩
    intro g11 σ11 H11 hI hm
    obtain ⟨F11, vs11_0, vs11_1, o11_5, rfl, s11, w11, h11_0, h11_1⟩ := hI
    replace h1 := A2.mono s11 h1
    replace q1 := s11 _ _ q1
    replace sF := sF.trans s11
    have w28 : W F11 _ ((p5, .lst vs11_1) :: os) := w11.drop (pre := [])
    exact ⟨_, rfl, (post_ok hm) _ _ _ _ w28 sF h11_1⟩
def sp_sorted_ties (K : Fg) : Sp := fun vs H Q E => ∃ (F : Hp) (os : List (Addr × HO)) (x_many : Int) (a_ties : Addr) (vs_ties : List V) (x_ties : (List (Int × Int))), vs = [.int x_many, .ref a_ties] ∧ W F H ((a_ties, .lst vs_ties) :: os) ∧ A2 (rep K F) vs_ties x_ties ∧ Post (sorted_ties x_many x_ties) (fun (y : (Tup (Int × Int))) => ∀ (v : V) (F' H' : Hp), W F' H' ((a_ties, .lst vs_ties) :: os) → Same F F' → rep K F' v (y : (Tup (Int × Int))) → Q v H') noX
theorem sc_sorted_ties : FnScope ["many", "ties", "found", "one", "other", "tie"] ["many", "ties"] (defScope s_sorted_ties) := ⟨rfl, rfl, rfl, by decide +kernel, rfl, by decide +kernel, by decide +kernel⟩
theorem ok_sorted_ties (T : Tx K mg A FD) : FnOk P w K mg base CX0 1 (A 12) (FD 12) ["many", "ties"] (sp_sorted_ties K) := by
  refine T.d12.fn.ok sc_sorted_ties (fun vs H Q E h => ?_) (fun cdv Ar outer s H vs Q E hr h => ?_)
  · obtain ⟨F, os, x_many, a_ties, vs_ties, x_ties, rfl, _⟩ := h
    rfl
  · obtain ⟨F0, os, x_many, a_ties, vs_ties, x_ties, rfl, w0, h_ties, hm⟩ := h
    have sF : Same F0 F0 := Same.refl _
    refine ⟨_, (pss_cons (ps_set (i := 2) sc_sorted_ties.nd rfl (Or.inl rfl) (pe_lst pa_nil)) (pss_cons (ps_for PassesOwn.never rfl (pi_listK (K := K) rfl (pv 1)) (pg_k (K := K) (t := fun K => gTup K 2 _) rfl (pg_tup (n := 2) rfl (pgs_cons (pg_name (i := 3) sc_sorted_ties.nd rfl (Or.inl rfl)) (pgs_cons (pg_name (i := 4) sc_sorted_ties.nd rfl (Or.inl rfl)) pgs_nil)))) (pss_cons (ps_set (i := 5) sc_sorted_ties.nd rfl (Or.inl rfl) (pe_tup (pa_cons (pe_callB (call_min2 rfl) (by rfl) T.n_min (by decide +kernel) (pa_cons (pv 3) (pa_cons (pv 4) pa_nil))) (pa_cons (pe_callB (call_max2 rfl) (by rfl) T.n_max (by decide +kernel) (pa_cons (pv 3) (pa_cons (pv 4) pa_nil))) pa_nil)))) (pss_cons (ps_if (PW.pt (pw_or (pt_cmp (pc_lt (pe_ix (ix_tupK (K := K) rfl) (pv 5) pe_int (fun _ _ => rfl)) pe_int)) (pw_or (pt_cmp (pc_ge (pe_ix (ix_tupK (K := K) rfl) (pv 5) pe_int (fun _ _ => rfl)) (pv 0))) (pw_or (pt_cmp (pc_eqI (pv 3) (pv 4))) (pw_or1 (pt_cmpR (op_inL (K := K) rfl (Int × Int) (by decide) (Room.units65 hr)) (pv 5) (pv 2) (by rfl))))))) (pss_one ps_absurd) pss_nil) (pss_one (ps_expr (pe_bm PySem.F.plainAttrs_list PySem.F.slot_list_append PySem.F.type_list_append mt_append (pv 2) (pa_cons (pv 5) pa_nil))))))) (pss_one (ps_ret (pe_callTy (call_tuple_ofK (K := K) rfl) (by rfl) T.n_tuple (by decide +kernel) (pa_cons (pe_callB (cr_sortP (K := K) rfl) (by rfl) T.n_sorted (by decide +kernel) (pa_cons (pv 2) pa_nil)) pa_nil)))))), ?_⟩
    have h2 : A2 (rep K F0) [] ([] : (List (Int × Int))) := .nil
    refine ⟨(by show 0 ≤ sizeLine; decide), fun p3 n3 => ?_⟩
    have w3 : W F0 _ ((p3, .lst []) :: (a_ties, .lst vs_ties) :: os) := w0.new n3
    refine ⟨_, rfl, _, rfl, ⟨_, SqL.of (w3.get (pre := [_]))⟩, ?_⟩
    refine forS (tw_list (a := a_ties) h_ties) hm (fun (g4 : (List (Int × Int))) σ H' => ∃ (F' : Hp) (vs4_0 : List V) (o4_5 : Option V) (o4_3 : Option V) (o4_4 : Option V), σ = [some (.int x_many), some (.ref a_ties), some (.ref p3), o4_3, o4_4, o4_5] ∧ Same F0 F' ∧ W F' H' ((p3, .lst vs4_0) :: (a_ties, .lst vs_ties) :: os) ∧ A2 (rep K F') vs4_0 g4) ⟨_, _, _, _, _, rfl, Same.refl _, w3, h2⟩ (fun g σ H' hI => by obtain ⟨F', _, _, _, _, _, s, w, _⟩ := hI; exact SqL.of (w.get (pre := [_]))) ?_ ?_
    · -- a turn
      intro b4 g4 x4 σ4 H4 H4' N4 P4 hI hy hN4 hm
      obtain ⟨F4, vs4_0, o4_5, o4_3, o4_4, rfl, s4, w4, h4_0⟩ := hI
      replace h_ties := A2.mono s4 h_ties
      replace sF := sF.trans s4
      obtain ⟨rfl, r5⟩ := hy
      replace r5 := Rep.mono s4 r5
      obtain ⟨a6, u6, z6, rfl, q6, r6a, r6b⟩ := r5
      obtain rfl : u6 = V.int b4.1 := r6a
      obtain rfl : z6 = V.int b4.2 := r6b
      refine ⟨_, _, rfl, SqT.of (w4.same _ _ q6), rfl, _, _, rfl, _, _, rfl, rfl, _, rfl, _, rfl, _, _, rfl, _, rfl, _, rfl, _, _, rfl, (by show 2 ≤ sizeLine; decide), fun p7 n7 => ?_⟩
      obtain ⟨F7, s7, w7, q7⟩ := w4.frzE (o := .tup [(.int (min2 b4.1 b4.2)), (.int (max2 b4.1 b4.2))]) n7
      replace h4_0 := A2.mono s7 h4_0
      replace h_ties := A2.mono s7 h_ties
      replace sF := sF.trans s7
      refine stepN ?_
      try dsimp only
      refine stepSeq (stepIf ?_)
      refine cutT (fun c H' => c = (((decide ((min2 b4.1 b4.2) < (0 : Int))) || ((decide (x_many ≤ (max2 b4.1 b4.2))) || ((decide (b4.1 = b4.2)) || (inB ((min2 b4.1 b4.2), (max2 b4.1 b4.2)) g4))))) ∧ ∃ F', Same F7 F' ∧ W F' H' ((p3, .lst vs4_0) :: (a_ties, .lst vs_ties) :: os)) (fun Q8 q8 => ?_) (fun c8 H8 hc8 => ?_)
      · -- the ways
        refine ⟨_, rfl, _, _, _, _, rfl, rfl, SqT.of (w7.same _ _ q7), rfl, _, _, rfl, rfl, _, rfl, ?_⟩
        refine ifB (fun k9 => ?_) (fun k9 => ?_)
        · skip
          exact q8 _ _ ⟨(by first | rfl | exact absurd k9 (by decide) | (simp [k9]; done) | ((try simp only [Bool.not_eq_true] at k9); simp only [k9, Bool.true_or, Bool.false_or, Bool.or_false, Bool.or_true, Bool.true_and, Bool.false_and, Bool.and_true, Bool.and_false])), _, Same.refl _, w7⟩
        · skip
          refine ⟨_, rfl, _, _, _, _, rfl, rfl, SqT.of (w7.same _ _ q7), rfl, _, rfl, _, _, rfl, rfl, _, rfl, ?_⟩
          refine ifB (fun k11 => ?_) (fun k11 => ?_)
          · skip
            exact q8 _ _ ⟨(by first | rfl | exact absurd k9 (by decide) | exact absurd k11 (by decide) | (simp [k9, k11]; done) | ((try simp only [Bool.not_eq_true] at k9); (try simp only [Bool.not_eq_true] at k11); simp only [k9, k11, Bool.true_or, Bool.false_or, Bool.or_false, Bool.or_true, Bool.true_and, Bool.false_and, Bool.and_true, Bool.and_false])), _, Same.refl _, w7⟩
          · skip
            refine ⟨_, rfl, _, rfl, _, _, rfl, rfl, _, rfl, ?_⟩
            refine ifB (fun k13 => ?_) (fun k13 => ?_)
            · skip
              exact q8 _ _ ⟨(by first | rfl | exact absurd k9 (by decide) | exact absurd k11 (by decide) | exact absurd k13 (by decide) | (simp [k9, k11, k13]; done) | ((try simp only [Bool.not_eq_true] at k9); (try simp only [Bool.not_eq_true] at k11); (try simp only [Bool.not_eq_true] at k13); simp only [k9, k11, k13, Bool.true_or, Bool.false_or, Bool.or_false, Bool.or_true, Bool.true_and, Bool.false_and, Bool.and_true, Bool.and_false])), _, Same.refl _, w7⟩
            · skip
              exact ⟨_, rfl, _, rfl, (((min2 b4.1 b4.2), (max2 b4.1 b4.2)) : (Int × Int)), _, (Rep.mono w7.same (rep_pair q7 rep_i rep_i)), (rep_own (pre := []) w7 h4_0), _, rfl, q8 _ _ ⟨(by first | rfl | exact absurd k9 (by decide) | exact absurd k11 (by decide) | exact absurd k13 (by decide) | (simp [k9, k11, k13]; done) | ((try simp only [Bool.not_eq_true] at k9); (try simp only [Bool.not_eq_true] at k11); (try simp only [Bool.not_eq_true] at k13); simp only [k9, k11, k13, Bool.true_or, Bool.false_or, Bool.or_false, Bool.or_true, Bool.true_and, Bool.false_and, Bool.and_true, Bool.and_false])), _, Same.refl _, w7⟩⟩
      obtain ⟨rfl, F8, s8, w8⟩ := hc8
      replace q7 := s8 _ _ q7
      replace h4_0 := A2.mono s8 h4_0
      replace h_ties := A2.mono s8 h_ties
      replace sF := sF.trans s8
      refine post_ite hm (fun k16 hm => ?_) (fun k16 hm => ?_)
      · skip
        try dsimp only
        exact hm
      · skip
        obtain ⟨l17, z17, e17, hm⟩ := pn_app hm
        refine ⟨_, rfl, .inl ⟨rfl, _, SqL.of (w8.get (pre := []))⟩, _, rfl, _, _, _, rfl, rfl, (w8.get (pre := [])), (A2.lt h4_0 z17), ?_⟩
        have h17 : A2 (rep K F8) (vs4_0 ++ [(V.ref p7)]) l17 := e17 ▸ A2.snoc h4_0 (rep_pair q7 rep_i rep_i)
        have w18 : W F8 _ ((p3, .lst (vs4_0 ++ [(V.ref p7)])) :: (a_ties, .lst vs_ties) :: os) := w8.set (pre := [])
        exact hN4 _ (post_ok hm) _ _ ⟨_, _, _, _, _, rfl, (s4.trans (s7.trans s8)), w18, h17⟩
    intro g4 σ4 H4 hI hm
    obtain ⟨F4, vs4_0, o4_5, o4_3, o4_4, rfl, s4, w4, h4_0⟩ := hI
    replace h_ties := A2.mono s4 h_ties
    replace sF := sF.trans s4
    refine ⟨_, rfl, _, _, F4, g4, rfl, SqL.of (w4.get (pre := [])), w4.same, h4_0, fun p19 us19 n19 h19 => ?_⟩
    have w19 : W F4 _ ((p19, .lst us19) :: (p3, .lst vs4_0) :: (a_ties, .lst vs_ties) :: os) := w4.new n19
    have h21 : A2 (rep K F4) us19 (sortP g4) := h19
    refine ⟨_, _, rfl, .inl ⟨SqL.of (w19.get (pre := [])), fun p22 n22 => ?_⟩⟩
    obtain ⟨F22, s22, w22, q22⟩ := w19.frzE (o := .tup us19) n22
    replace h4_0 := A2.mono s22 h4_0
    replace h_ties := A2.mono s22 h_ties
    replace h19 := A2.mono s22 h19
    replace h21 := A2.mono s22 h21
    replace sF := sF.trans s22
    have w23 : W F22 _ ((p3, .lst vs4_0) :: (a_ties, .lst vs_ties) :: os) := w22.drop (pre := [])
    have w24 : W F22 _ ((a_ties, .lst vs_ties) :: os) := w23.drop (pre := [])
    exact (post_ok hm) _ _ _ w24 sF (rep_tup q22 h21)
def sp_made_web (K : Fg) : Sp := fun vs H Q E => ∃ (F : Hp) (os : List (Addr × HO)) (x_many : Int) (a_ties : Addr) (vs_ties : List V) (x_ties : (List (Int × Int))), vs = [.int x_many, .ref a_ties] ∧ W F H ((a_ties, .lst vs_ties) :: os) ∧ A2 (rep K F) vs_ties x_ties ∧ Post (made_web x_many x_ties) (fun (y : (Int × (Tup (Int × Int)))) => ∀ (v : V) (F' H' : Hp), W F' H' ((a_ties, .lst vs_ties) :: os) → Same F F' → rep K F' v (y : (Int × (Tup (Int × Int)))) → Q v H') noX
theorem sc_made_web : FnScope ["many", "ties", "web", "fars", "place"] ["many", "ties"] (defScope s_made_web) := ⟨rfl, rfl, rfl, by decide +kernel, rfl, by decide +kernel, by decide +kernel⟩
theorem ok_made_web (T : Tx K mg A FD) : FnOk P w K mg base CX0 2 (A 13) (FD 13) ["many", "ties"] (sp_made_web K) := by
  refine T.d13.fn.ok sc_made_web (fun vs H Q E h => ?_) (fun cdv Ar outer s H vs Q E hr h => ?_)
  · obtain ⟨F, os, x_many, a_ties, vs_ties, x_ties, rfl, _⟩ := h
    rfl
  · obtain ⟨F0, os, x_many, a_ties, vs_ties, x_ties, rfl, w0, h_ties, hm⟩ := h
    have sF : Same F0 F0 := Same.refl _
    refine ⟨_, (pss_cons (ps_if (pt_not (pt_chain op_le op_le pe_int (pv 0) (pe_globI (by rfl) T.c_MOST_PLACES_webs))) (pss_one ps_absurd) pss_nil) (pss_cons (ps_set (i := 2) sc_made_web.nd rfl (Or.inl rfl) (pe_tup (pa_cons (pv 0) (pa_cons (pe_call (ok_sorted_ties T) (hr.mono (by decide)) (by rfl) T.d12.mg T.d12.fn.kp T.d12.b .nil pass0 (pa_cons (pv 0) (pa_cons (pv 1) pa_nil))) pa_nil)))) (pss_cons (ps_set (i := 3) sc_made_web.nd rfl (Or.inl rfl) (pe_call (ok_fars_by T) (hr.mono (by decide)) (by rfl) T.d11.mg T.d11.fn.kp T.d11.b .nil pass0 (pa_cons (pe_call (ok_near_lists T) (hr.mono (by decide)) (by rfl) T.d10.mg T.d10.fn.kp T.d10.b .nil pass0 (pa_cons (pv 2) pa_nil)) (pa_cons pe_int pa_nil)))) (pss_cons (ps_for PassesOwn.never rfl (pi_range1 (by rfl) T.n_range (pa_cons (pv 0) pa_nil)) (pg_name (i := 4) sc_made_web.nd rfl (Or.inl rfl)) (pss_one (ps_if (pt_cmpR op_isN2 (pe_ix (ix_listK (K := K) rfl) (pv 3) (pv 4) (fun _ _ => rfl)) pe_non (nomark _)) (pss_one ps_absurd) pss_nil))) (pss_one (ps_ret (pv 2))))))), ?_⟩
    try dsimp only
    refine stepSeq (stepIf ?_)
    refine stepNot ?_
    refine cutT (fun c H' => c = ((decide ((1 : Int) ≤ x_many)) && (decide (x_many ≤ (60 : Int)))) ∧ ∃ F', Same F0 F' ∧ W F' H' ((a_ties, .lst vs_ties) :: os)) (fun Q2 q2 => ?_) (fun c2 H2 hc2 => ?_)
    · -- the ways
      refine ⟨_, rfl, _, _, rfl, rfl, _, rfl, ?_⟩
      refine ifB (fun k3 => ?_) (fun k3 => ?_)
      · skip
        exact ⟨_, _, rfl, rfl, _, rfl, q2 _ _ ⟨(by first | rfl | exact absurd k3 (by decide) | (simp [k3]; done) | ((try simp only [Bool.not_eq_true] at k3); simp only [k3, Bool.true_or, Bool.false_or, Bool.or_false, Bool.or_true, Bool.true_and, Bool.false_and, Bool.and_true, Bool.and_false])), _, Same.refl _, w0⟩⟩
      · skip
        exact ⟨_, rfl, q2 _ _ ⟨(by first | rfl | exact absurd k3 (by decide) | (simp [k3]; done) | ((try simp only [Bool.not_eq_true] at k3); simp only [k3, Bool.true_or, Bool.false_or, Bool.or_false, Bool.or_true, Bool.true_and, Bool.false_and, Bool.and_true, Bool.and_false])), _, Same.refl _, w0⟩⟩
    obtain ⟨rfl, F2, s2, w2⟩ := hc2
    replace h_ties := A2.mono s2 h_ties
    replace sF := sF.trans s2
    refine post_ite hm (fun k6 hm => ?_) (fun k6 hm => ?_)
    · skip
      try dsimp only
      exact hm
    · skip
      refine ⟨_, rfl, _, rfl, _, rfl, _, _, _, _, _, _, rfl, w2, h_ties, ?_⟩
      refine (post_bind hm).mono (fun y7 hm v7 F7 H7 w7 s7 r7 => ?_) (fun _ z => z)
      replace h_ties := A2.mono s7 h_ties
      replace sF := sF.trans s7
      obtain ⟨a8, vs8, rfl, q8, h8⟩ := r7
      refine ⟨(by show 2 ≤ sizeLine; decide), fun p9 n9 => ?_⟩
      obtain ⟨F9, s9, w9, q9⟩ := w7.frzE (o := .tup [(.int x_many), (.ref a8)]) n9
      replace h_ties := A2.mono s9 h_ties
      replace q8 := s9 _ _ q8
      replace h8 := A2.mono s9 h8
      replace sF := sF.trans s9
      refine ⟨_, rfl, _, _, _, ((x_many, y7) : (Int × (Tup (Int × Int)))), rfl, w9, (rep_pair q9 rep_i (rep_tup q8 h8)), ?_⟩
      refine (post_bind hm).mono (fun y10 hm v10 F10 H10 w10 s10 r10 => ?_) (fun _ z => z)
      replace q9 := s10 _ _ q9
      replace h8 := A2.mono s10 h8
      replace q8 := s10 _ _ q8
      replace h_ties := A2.mono s10 h_ties
      replace sF := sF.trans s10
      obtain ⟨a11, vs11, rfl, q11, h11⟩ := r10
      refine ⟨_, _, _, (y10 : (List (List Int))), _, rfl, w10, (rep_lst q11 h11), ?_⟩
      refine (post_bind hm).mono (fun y12 hm p12 us12 F12 H12 w12 s12 g12 => ?_) (fun _ z => z)
      replace q9 := s12 _ _ q9
      replace h8 := A2.mono s12 h8
      replace q8 := s12 _ _ q8
      replace h_ties := A2.mono s12 h_ties
      replace q11 := s12 _ _ q11
      replace h11 := A2.mono s12 h11
      replace sF := sF.trans s12
      obtain ⟨F14, s14, w14, q14⟩ : ∃ F', Same F12 F' ∧ W F' _ ((a_ties, .lst vs_ties) :: os) ∧ F' p12 = some (.lst us12) := w12.freezeE (pre := [])
      replace q9 := s14 _ _ q9
      replace h8 := A2.mono s14 h8
      replace q8 := s14 _ _ q8
      replace h_ties := A2.mono s14 h_ties
      replace q11 := s14 _ _ q11
      replace h11 := A2.mono s14 h11
      replace g12 := A2.mono s14 g12
      replace sF := sF.trans s14
      obtain ⟨c16, hm⟩ := pb_rng hm
      refine ⟨_, rfl, _, rfl, c16.2.2.1, c16.2.2.2, ?_⟩
      refine forS (tw_rng0 (j := x_many)) hm (fun (g15 : Unit) σ H' => ∃ (F' : Hp) (o15_4 : Option V), σ = [some (.int x_many), some (.ref a_ties), some (.ref p9), some (.ref p12), o15_4] ∧ Same F14 F' ∧ W F' H' ((a_ties, .lst vs_ties) :: os)) ⟨_, _, rfl, Same.refl _, w14⟩ (fun _ _ _ _ => trivial) ?_ ?_
      · -- a turn
        intro b15 g15 x15 σ15 H15 H15' N15 P15 hI hy hN15 hm
        obtain ⟨F15, o15_4, rfl, s15, w15⟩ := hI
        replace q9 := s15 _ _ q9
        replace h8 := A2.mono s15 h8
        replace q8 := s15 _ _ q8
        replace g12 := A2.mono s15 g12
        replace q14 := s15 _ _ q14
        replace h_ties := A2.mono s15 h_ties
        replace sF := sF.trans s15
        obtain ⟨rfl, rfl⟩ := hy
        obtain ⟨t17, e17, hm⟩ := pb_get hm
        obtain ⟨u17, f17, r17⟩ := A2.at g12 e17
        refine ⟨_, rfl, _, rfl, _, _, _, _, rfl, rfl, SqL.of (w15.same _ _ q14), f17, rfl, _, isN_eq r17, _, rfl, ?_⟩
        refine post_ite hm (fun k19 hm => ?_) (fun k19 hm => ?_)
        · skip
          try dsimp only
          exact hm
        · skip
          exact hN15 _ (post_ok hm) _ _ ⟨_, _, rfl, s15, w15⟩
      intro g15 σ15 H15 hI hm
      obtain ⟨F15, o15_4, rfl, s15, w15⟩ := hI
      replace q9 := s15 _ _ q9
      replace h8 := A2.mono s15 h8
      replace q8 := s15 _ _ q8
      replace g12 := A2.mono s15 g12
      replace q14 := s15 _ _ q14
      replace h_ties := A2.mono s15 h_ties
      replace sF := sF.trans s15
      exact ⟨_, rfl, (post_ok hm) _ _ _ w15 sF (rep_pair q9 rep_i (rep_tup q8 h8))⟩
def sp_place_asked (K : Fg) : Sp := fun vs H Q E => ∃ (F : Hp) (os : List (Addr × HO)) (v_web : V) (x_web : (Int × (Tup (Int × Int)))) (x_place : Int), vs = [v_web, .int x_place] ∧ W F H (os) ∧ rep K F v_web x_web ∧ Post (place_asked x_web x_place) (Ret K F os Q) noX
theorem sc_place_asked : FnScope ["web", "place"] ["web", "place"] (defScope s_place_asked) := ⟨rfl, rfl, rfl, by decide +kernel, rfl, by decide +kernel, by decide +kernel⟩
theorem ok_place_asked (T : Tx K mg A FD) : FnOk P w K mg base CX0 1 (A 14) (FD 14) ["web", "place"] (sp_place_asked K) := by
  refine T.d14.fn.ok sc_place_asked (fun vs H Q E h => ?_) (fun cdv Ar outer s H vs Q E hr h => ?_)
  · obtain ⟨F, os, v_web, x_web, x_place, rfl, _⟩ := h
    rfl
  · obtain ⟨F0, os, v_web, x_web, x_place, rfl, w0, r_web, hm⟩ := h
    have sF : Same F0 F0 := Same.refl _
    obtain ⟨a1, u1, z1, rfl, q1, r1a, r1b⟩ := r_web
    obtain rfl : u1 = V.int x_web.1 := r1a
    obtain ⟨a2, vs2, rfl, q2, h2⟩ := r1b
    refine ⟨_, (pss_one (ps_if (pt_not (pt_chain op_le op_lt pe_int (pv 1) (pe_ix (ix_tupK (K := K) rfl) (pv 0) pe_int (fun _ _ => rfl)))) (pss_one ps_absurd) pss_nil)), ?_⟩
    try dsimp only
    refine stepIf ?_
    refine stepNot ?_
    refine cutT (fun c H' => c = ((decide ((0 : Int) ≤ x_place)) && (decide (x_place < x_web.1))) ∧ ∃ F', Same F0 F' ∧ W F' H' (os)) (fun Q3 q3 => ?_) (fun c3 H3 hc3 => ?_)
    · -- the ways
      refine ⟨_, rfl, _, _, rfl, rfl, _, rfl, ?_⟩
      refine ifB (fun k4 => ?_) (fun k4 => ?_)
      · skip
        exact ⟨_, rfl, _, _, _, _, rfl, rfl, SqT.of (w0.same _ _ q1), rfl, _, _, rfl, rfl, _, rfl, q3 _ _ ⟨(by first | rfl | exact absurd k4 (by decide) | (simp [k4]; done) | ((try simp only [Bool.not_eq_true] at k4); simp only [k4, Bool.true_or, Bool.false_or, Bool.or_false, Bool.or_true, Bool.true_and, Bool.false_and, Bool.and_true, Bool.and_false])), _, Same.refl _, w0⟩⟩
      · skip
        exact ⟨_, rfl, q3 _ _ ⟨(by first | rfl | exact absurd k4 (by decide) | (simp [k4]; done) | ((try simp only [Bool.not_eq_true] at k4); simp only [k4, Bool.true_or, Bool.false_or, Bool.or_false, Bool.or_true, Bool.true_and, Bool.false_and, Bool.and_true, Bool.and_false])), _, Same.refl _, w0⟩⟩
    obtain ⟨rfl, F3, s3, w3⟩ := hc3
    replace q1 := s3 _ _ q1
    replace q2 := s3 _ _ q2
    replace h2 := A2.mono s3 h2
    replace sF := sF.trans s3
    refine post_ite hm (fun k7 hm => ?_) (fun k7 hm => ?_)
    · skip
      try dsimp only
      exact hm
    · skip
      exact (post_ok hm) _ _ _ w3 sF rep_n
def sp_fars_from (K : Fg) : Sp := fun vs H Q E => ∃ (F : Hp) (os : List (Addr × HO)) (v_web : V) (x_web : (Int × (Tup (Int × Int)))) (x_place : Int), vs = [v_web, .int x_place] ∧ W F H (os) ∧ rep K F v_web x_web ∧ Post (fars_from x_web x_place) (RetL K F os Q) noX
theorem sc_fars_from : FnScope ["web", "place"] ["web", "place"] (defScope s_fars_from) := ⟨rfl, rfl, rfl, by decide +kernel, rfl, by decide +kernel, by decide +kernel⟩
theorem ok_fars_from (T : Tx K mg A FD) : FnOk P w K mg base CX0 2 (A 15) (FD 15) ["web", "place"] (sp_fars_from K) := by
  refine T.d15.fn.ok sc_fars_from (fun vs H Q E h => ?_) (fun cdv Ar outer s H vs Q E hr h => ?_)
  · obtain ⟨F, os, v_web, x_web, x_place, rfl, _⟩ := h
    rfl
  · obtain ⟨F0, os, v_web, x_web, x_place, rfl, w0, r_web, hm⟩ := h
    have sF : Same F0 F0 := Same.refl _
    obtain ⟨a1, u1, z1, rfl, q1, r1a, r1b⟩ := r_web
    obtain rfl : u1 = V.int x_web.1 := r1a
    obtain ⟨a2, vs2, rfl, q2, h2⟩ := r1b
    refine ⟨_, (pss_cons (ps_expr (pe_call (ok_place_asked T) (hr.mono (by decide)) (by rfl) T.d14.mg T.d14.fn.kp T.d14.b .nil pass0 (pa_cons (pv 0) (pa_cons (pv 1) pa_nil)))) (pss_one (ps_ret (pe_call (ok_fars_by T) (hr.mono (by decide)) (by rfl) T.d11.mg T.d11.fn.kp T.d11.b .nil pass0 (pa_cons (pe_call (ok_near_lists T) (hr.mono (by decide)) (by rfl) T.d10.mg T.d10.fn.kp T.d10.b .nil pass0 (pa_cons (pv 0) pa_nil)) (pa_cons (pv 1) pa_nil)))))), ?_⟩
    refine ⟨_, rfl, _, rfl, _, _, _, (x_web : (Int × (Tup (Int × Int)))), _, rfl, w0, (rep_pair q1 rep_i (rep_tup q2 h2)), ?_⟩
    refine (post_bind hm).mono (fun y3 hm v3 F3 H3 w3 s3 r3 => ?_) (fun _ z => z)
    replace q1 := s3 _ _ q1
    replace q2 := s3 _ _ q2
    replace h2 := A2.mono s3 h2
    replace sF := sF.trans s3
    obtain rfl : v3 = V.non := r3
    refine ⟨_, rfl, _, _, _, (x_web : (Int × (Tup (Int × Int)))), rfl, w3, (rep_pair q1 rep_i (rep_tup q2 h2)), ?_⟩
    refine (post_bind hm).mono (fun y4 hm v4 F4 H4 w4 s4 r4 => ?_) (fun _ z => z)
    replace q1 := s4 _ _ q1
    replace h2 := A2.mono s4 h2
    replace q2 := s4 _ _ q2
    replace sF := sF.trans s4
    obtain ⟨a5, vs5, rfl, q5, h5⟩ := r4
    refine ⟨_, rfl, _, _, _, (y4 : (List (List Int))), _, rfl, w4, (rep_lst q5 h5), ?_⟩
    refine (post_bind hm).mono (fun y6 hm p6 us6 F6 H6 w6 s6 g6 => ?_) (fun _ z => z)
    replace q1 := s6 _ _ q1
    replace h2 := A2.mono s6 h2
    replace q2 := s6 _ _ q2
    replace q5 := s6 _ _ q5
    replace h5 := A2.mono s6 h5
    replace sF := sF.trans s6
    obtain ⟨l8, e8, hm⟩ := pb_allS hm
    have h8 : A2 (rep K F6) us6 l8 := A2.unsome (e8 ▸ g6)
    exact (post_ok hm) _ _ _ _ w6 sF h8
def sp_far_between (K : Fg) : Sp := fun vs H Q E => ∃ (F : Hp) (os : List (Addr × HO)) (v_web : V) (x_web : (Int × (Tup (Int × Int)))) (x_one : Int) (x_other : Int), vs = [v_web, .int x_one, .int x_other] ∧ W F H (os) ∧ rep K F v_web x_web ∧ Post (far_between x_web x_one x_other) (Ret K F os Q) noX
theorem sc_far_between : FnScope ["web", "one", "other"] ["web", "one", "other"] (defScope s_far_between) := ⟨rfl, rfl, rfl, by decide +kernel, rfl, by decide +kernel, by decide +kernel⟩
theorem ok_far_between (T : Tx K mg A FD) : FnOk P w K mg base CX0 2 (A 16) (FD 16) ["web", "one", "other"] (sp_far_between K) := by
  refine T.d16.fn.ok sc_far_between (fun vs H Q E h => ?_) (fun cdv Ar outer s H vs Q E hr h => ?_)
  · obtain ⟨F, os, v_web, x_web, x_one, x_other, rfl, _⟩ := h
    rfl
  · obtain ⟨F0, os, v_web, x_web, x_one, x_other, rfl, w0, r_web, hm⟩ := h
    have sF : Same F0 F0 := Same.refl _
    obtain ⟨a1, u1, z1, rfl, q1, r1a, r1b⟩ := r_web
    obtain rfl : u1 = V.int x_web.1 := r1a
    obtain ⟨a2, vs2, rfl, q2, h2⟩ := r1b
    refine ⟨_, (pss_cons (ps_expr (pe_call (ok_place_asked T) (hr.mono (by decide)) (by rfl) T.d14.mg T.d14.fn.kp T.d14.b .nil pass0 (pa_cons (pv 0) (pa_cons (pv 1) pa_nil)))) (pss_cons (ps_expr (pe_call (ok_place_asked T) (hr.mono (by decide)) (by rfl) T.d14.mg T.d14.fn.kp T.d14.b .nil pass0 (pa_cons (pv 0) (pa_cons (pv 2) pa_nil)))) (pss_one (ps_ret (pe_ix (ix_listK (K := K) rfl) (pe_call (ok_fars_by T) (hr.mono (by decide)) (by rfl) T.d11.mg T.d11.fn.kp T.d11.b .nil pass0 (pa_cons (pe_call (ok_near_lists T) (hr.mono (by decide)) (by rfl) T.d10.mg T.d10.fn.kp T.d10.b .nil pass0 (pa_cons (pv 0) pa_nil)) (pa_cons (pv 1) pa_nil))) (pv 2) (fun _ _ => rfl)))))), ?_⟩
    refine ⟨_, rfl, _, rfl, _, _, _, (x_web : (Int × (Tup (Int × Int)))), _, rfl, w0, (rep_pair q1 rep_i (rep_tup q2 h2)), ?_⟩
    refine (post_bind hm).mono (fun y3 hm v3 F3 H3 w3 s3 r3 => ?_) (fun _ z => z)
    replace q1 := s3 _ _ q1
    replace q2 := s3 _ _ q2
    replace h2 := A2.mono s3 h2
    replace sF := sF.trans s3
    obtain rfl : v3 = V.non := r3
    refine ⟨_, rfl, _, rfl, _, _, _, (x_web : (Int × (Tup (Int × Int)))), _, rfl, w3, (rep_pair q1 rep_i (rep_tup q2 h2)), ?_⟩
    refine (post_bind hm).mono (fun y4 hm v4 F4 H4 w4 s4 r4 => ?_) (fun _ z => z)
    replace q1 := s4 _ _ q1
    replace h2 := A2.mono s4 h2
    replace q2 := s4 _ _ q2
    replace sF := sF.trans s4
    obtain rfl : v4 = V.non := r4
    refine ⟨_, rfl, _, _, _, (x_web : (Int × (Tup (Int × Int)))), rfl, w4, (rep_pair q1 rep_i (rep_tup q2 h2)), ?_⟩
    refine (post_bind hm).mono (fun y5 hm v5 F5 H5 w5 s5 r5 => ?_) (fun _ z => z)
    replace q1 := s5 _ _ q1
    replace h2 := A2.mono s5 h2
    replace q2 := s5 _ _ q2
    replace sF := sF.trans s5
    obtain ⟨a6, vs6, rfl, q6, h6⟩ := r5
    refine ⟨_, rfl, _, _, _, (y5 : (List (List Int))), _, rfl, w5, (rep_lst q6 h6), ?_⟩
    refine (post_bind hm).mono (fun y7 hm p7 us7 F7 H7 w7 s7 g7 => ?_) (fun _ z => z)
    replace q1 := s7 _ _ q1
    replace h2 := A2.mono s7 h2
    replace q2 := s7 _ _ q2
    replace q6 := s7 _ _ q6
    replace h6 := A2.mono s7 h6
    replace sF := sF.trans s7
    obtain ⟨t9, e9, hm⟩ := pb_get hm
    obtain ⟨u9, f9, r9⟩ := A2.at g7 e9
    obtain ⟨t11, e11, hm⟩ := pb_ofO hm
    have r11 : rep K F7 u9 (some t11) := e11 ▸ r9
    replace r11 : u9 = V.int t11 := r11
    subst r11
    have w12 : W F7 _ (os) := w7.drop (pre := [])
    exact ⟨_, rfl, _, _, _, _, rfl, rfl, SqL.of (w7.get (pre := [])), f9, (post_ok hm) _ _ _ w12 sF rep_i⟩
def sp_table_of (K : Fg) : Sp := fun vs H Q E => ∃ (F : Hp) (os : List (Addr × HO)) (v_web : V) (x_web : (Int × (Tup (Int × Int)))), vs = [v_web] ∧ W F H (os) ∧ rep K F v_web x_web ∧ Post (table_of x_web) (Ret K F os Q) noX
theorem sc_table_of : FnScope ["web", "place"] ["web"] (defScope s_table_of) := ⟨rfl, rfl, rfl, by decide +kernel, rfl, by decide +kernel, by decide +kernel⟩
theorem ok_table_of (T : Tx K mg A FD) : FnOk P w K mg base CX0 3 (A 18) (FD 18) ["web"] (sp_table_of K) := by
  refine T.d18.fn.ok sc_table_of (fun vs H Q E h => ?_) (fun cdv Ar outer s H vs Q E hr h => ?_)
  · obtain ⟨F, os, v_web, x_web, rfl, _⟩ := h
    rfl
  · obtain ⟨F0, os, v_web, x_web, rfl, w0, r_web, hm⟩ := h
    have sF : Same F0 F0 := Same.refl _
    obtain ⟨a1, u1, z1, rfl, q1, r1a, r1b⟩ := r_web
    obtain rfl : u1 = V.int x_web.1 := r1a
    obtain ⟨a2, vs2, rfl, q2, h2⟩ := r1b
    refine ⟨_, (pss_one (ps_ret (pe_lc (own := [("place", 1)]) (g := gName 1) (by rfl) sc_table_of.nd (pi_range1 (by rfl) T.n_range (pa_cons (pe_ix (ix_tupK (K := K) rfl) (pv 0) pe_int (fun _ _ => rfl)) pa_nil)) (blkOk_by (own := [("place", 1)]) (N := ["web", "place"]) (sc := defScope s_table_of) (by decide +kernel)) (fun _ _ _ _ _ => (pg_name (i := 1) sc_table_of.nd rfl (Or.inl rfl))) (fun _ _ _ _ _ => pts_nil) (fun _ _ _ _ _ => (pe_call (ok_fars_from T) (hr.mono (by decide)) (by rfl) T.d15.mg T.d15.fn.kp T.d15.b .nil pass0 (pa_cons (pv 0) (pa_cons (pv 1) pa_nil))))))), ?_⟩
    obtain ⟨c3, hm⟩ := pb_rng hm
    refine ⟨_, rfl, _, _, _, _, rfl, rfl, SqT.of (w0.same _ _ q1), rfl, _, rfl, c3.2.2.1, c3.2.2.2, fun D4 nD4 => ?_⟩
    refine lcM (K := K) (tw_rng0 (j := x_web.1)) hm w0 nD4 (fun F' H' acc s w => trivial) ?_ ?_
    · -- one turn
      intro b4 x4 F4 H4 H4' acc4 N4 P4 s4 w4 y4 hN4 hm
      replace q1 := s4 _ _ q1
      replace q2 := s4 _ _ q2
      replace h2 := A2.mono s4 h2
      replace sF := sF.trans s4
      obtain ⟨rfl, rfl⟩ := y4
      refine ⟨rfl, _, rfl, _, rfl, _, _, _, (x_web : (Int × (Tup (Int × Int)))), _, rfl, w4, (rep_pair q1 rep_i (rep_tup q2 h2)), ?_⟩
      refine (post_bind hm).mono (fun y6 hm p6 us6 F6 H6 w6 s6 g6 => ?_) (fun _ z => z)
      replace q1 := s6 _ _ q1
      replace q2 := s6 _ _ q2
      replace h2 := A2.mono s6 h2
      replace sF := sF.trans s6
      obtain ⟨F8, s8, w8, q8⟩ : ∃ F', Same F6 F' ∧ W F' _ ((D4, .lst acc4) :: os) ∧ F' p6 = some (.lst us6) := w6.freezeE (pre := [])
      replace q1 := s8 _ _ q1
      replace q2 := s8 _ _ q2
      replace h2 := A2.mono s8 h2
      replace g6 := A2.mono s8 g6
      replace sF := sF.trans s8
      exact hN4 _ (post_ok hm) _ _ _ w8 (s6.trans s8) (rep_lst q8 g6)
    intro us4 F4 H4 ys4 s4 w4 gg4 hm
    replace q1 := s4 _ _ q1
    replace q2 := s4 _ _ q2
    replace h2 := A2.mono s4 h2
    replace sF := sF.trans s4
    obtain ⟨F10, s10, w10, q10⟩ : ∃ F', Same F4 F' ∧ W F' _ (os) ∧ F' D4 = some (.lst us4) := w4.freezeE (pre := [])
    replace q1 := s10 _ _ q1
    replace q2 := s10 _ _ q2
    replace h2 := A2.mono s10 h2
    replace gg4 := A2.mono s10 gg4
    replace sF := sF.trans s10
    exact (post_ok hm) _ _ _ w10 sF (rep_lst q10 gg4)
def sp_things_of (K : Fg) : Sp := fun vs H Q E => ∃ (F : Hp) (os : List (Addr × HO)) (v_web : V) (x_web : (Int × (Tup (Int × Int)))) (x_kind : Str), vs = [v_web, .str x_kind] ∧ W F H (os) ∧ rep K F v_web x_web ∧ Post (things_of x_web x_kind) (RetL K F os Q) noX
theorem sc_things_of : FnScope ["web", "kind", "places"] ["web", "kind"] (defScope s_things_of) := ⟨rfl, rfl, rfl, by decide +kernel, rfl, by decide +kernel, by decide +kernel⟩
theorem ok_things_of (T : Tx K mg A FD) : FnOk P w K mg base CX0 1 (A 19) (FD 19) ["web", "kind"] (sp_things_of K) := by
  refine T.d19.fn.ok sc_things_of (fun vs H Q E h => ?_) (fun cdv Ar outer s H vs Q E hr h => ?_)
  · obtain ⟨F, os, v_web, x_web, x_kind, rfl, _⟩ := h
    rfl
  · obtain ⟨F0, os, v_web, x_web, x_kind, rfl, w0, r_web, hm⟩ := h
    have sF : Same F0 F0 := Same.refl _
    obtain ⟨a1, u1, z1, rfl, q1, r1a, r1b⟩ := r_web
    obtain rfl : u1 = V.int x_web.1 := r1a
    obtain ⟨a2, vs2, rfl, q2, h2⟩ := r1b
    refine ⟨_, (pss_cons (ps_set (i := 2) sc_things_of.nd rfl (Or.inl rfl) (pe_listRg rfl (by rfl) T.n_list (prg_1 (by rfl) T.n_range (pe_ix (ix_tupK (K := K) rfl) (pv 0) pe_int (fun _ _ => rfl))))) (pss_cons (ps_if (pt_cmpR op_eqS (pv 1) pe_str (nomark _)) (pss_one (ps_ret (pv 2))) pss_nil) (pss_cons (ps_if (pt_cmpR op_eqS (pv 1) pe_str (nomark _)) (pss_one (ps_ret (pe_callTy (call_list_ofK (K := K) rfl) (by rfl) T.n_list (by decide +kernel) (pa_cons (pe_ix (ix_tupK (K := K) rfl) (pv 0) pe_int (fun _ _ => rfl)) pa_nil)))) pss_nil) (pss_one (ps_ret (pe_op op_cat (pv 2) (pe_callTy (call_list_ofK (K := K) rfl) (by rfl) T.n_list (by decide +kernel) (pa_cons (pe_ix (ix_tupK (K := K) rfl) (pv 0) pe_int (fun _ _ => rfl)) pa_nil)))))))), ?_⟩
    obtain ⟨l3, z3, e3, hm⟩ := pb_lrng hm
    have h3 : A2 (rep K F0) (rgV 0 x_web.1) l3 := by rw [e3, rgV_eq]; exact A2.of_ints
    refine ⟨_, rfl, _, _, _, _, rfl, rfl, SqT.of (w0.same _ _ q1), rfl, _, rfl, z3, fun p4 n4 => ?_⟩
    have w4 : W F0 _ ((p4, .lst (rgV 0 x_web.1)) :: os) := w0.new n4
    refine ⟨_, rfl, _, _, rfl, rfl, _, rfl, ?_⟩
    refine post_ite hm (fun k5 hm => ?_) (fun k5 hm => ?_)
    · skip
      have h6 : A2 (rep K F0) (rgV 0 x_web.1) (mkpl l3) := A2.pl h3
      exact ⟨_, rfl, (post_ok hm) _ _ _ _ w4 sF h6⟩
    · skip
      refine ⟨_, rfl, _, _, rfl, rfl, _, rfl, ?_⟩
      refine post_ite hm (fun k7 hm => ?_) (fun k7 hm => ?_)
      · skip
        have h8 : A2 (rep K F0) vs2 x_web.2.l := h2
        refine ⟨_, rfl, _, _, _, _, rfl, rfl, SqT.of (w4.same _ _ q1), rfl, _, _, rfl, .inr (SqT.of (w4.same _ _ q2)), fun p9 n9 => ?_⟩
        have w9 : W F0 _ ((p9, .lst vs2) :: (p4, .lst (rgV 0 x_web.1)) :: os) := w4.new n9
        have h10 : A2 (rep K F0) vs2 (mkti x_web.2.l) := A2.ti h8
        have w11 : W F0 _ ((p9, .lst vs2) :: os) := w9.drop (pre := [_])
        exact (post_ok hm) _ _ _ _ w11 sF h10
      · skip
        have h12 : A2 (rep K F0) vs2 x_web.2.l := h2
        refine ⟨_, rfl, _, rfl, _, _, _, _, rfl, rfl, SqT.of (w4.same _ _ q1), rfl, _, _, rfl, .inr (SqT.of (w4.same _ _ q2)), fun p13 n13 => ?_⟩
        have w13 : W F0 _ ((p13, .lst vs2) :: (p4, .lst (rgV 0 x_web.1)) :: os) := w4.new n13
        have h14 : A2 (rep K F0) (rgV 0 x_web.1) (mkpl l3) := A2.pl h3
        have h15 : A2 (rep K F0) vs2 (mkti x_web.2.l) := A2.ti h12
        obtain ⟨l16, z16, e16, hm⟩ := pn_extend hm
        have h16 : A2 (rep K F0) ((rgV 0 x_web.1) ++ vs2) l16 := e16 ▸ A2.append h14 h15
        refine ⟨_, _, _, _, rfl, rfl, (w13.get (pre := [_])), (w13.get (pre := [])), (A2.le2 h14 h15 z16), fun p17 n17 => ?_⟩
        have w17 : W F0 _ ((p17, .lst ((rgV 0 x_web.1) ++ vs2)) :: (p13, .lst vs2) :: (p4, .lst (rgV 0 x_web.1)) :: os) := w13.new n17
        have w18 : W F0 _ ((p17, .lst ((rgV 0 x_web.1) ++ vs2)) :: (p4, .lst (rgV 0 x_web.1)) :: os) := w17.drop (pre := [_])
        have w19 : W F0 _ ((p17, .lst ((rgV 0 x_web.1) ++ vs2)) :: os) := w18.drop (pre := [_])
        exact (post_ok hm) _ _ _ _ w19 sF h16
def sp_looks_asked (K : Fg) : Sp := fun vs H Q E => ∃ (F : Hp) (os : List (Addr × HO)) (v_web : V) (x_web : (Int × (Tup (Int × Int)))) (v_looks : V) (x_looks : (List Int)), vs = [v_web, v_looks] ∧ W F H (os) ∧ rep K F v_web x_web ∧ rep K F v_looks x_looks ∧ Post (looks_asked x_web x_looks) (Ret K F os Q) noX
theorem sc_looks_asked : FnScope ["web", "looks", "at", "look"] ["web", "looks"] (defScope s_looks_asked) := ⟨rfl, rfl, rfl, by decide +kernel, rfl, by decide +kernel, by decide +kernel⟩
theorem ok_looks_asked (T : Tx K mg A FD) : FnOk P w K mg base CX0 1 (A 20) (FD 20) ["web", "looks"] (sp_looks_asked K) := by
  refine T.d20.fn.ok sc_looks_asked (fun vs H Q E h => ?_) (fun cdv Ar outer s H vs Q E hr h => ?_)
  · obtain ⟨F, os, v_web, x_web, v_looks, x_looks, rfl, _⟩ := h
    rfl
  · obtain ⟨F0, os, v_web, x_web, v_looks, x_looks, rfl, w0, r_web, r_looks, hm⟩ := h
    have sF : Same F0 F0 := Same.refl _
    obtain ⟨a1, u1, z1, rfl, q1, r1a, r1b⟩ := r_web
    obtain rfl : u1 = V.int x_web.1 := r1a
    obtain ⟨a2, vs2, rfl, q2, h2⟩ := r1b
    obtain ⟨a3, vs3, rfl, q3, h3⟩ := r_looks
    refine ⟨_, (pss_one (ps_for PassesOwn.never rfl (pi_k (K := K) (wi := fun K => iEnum K _) rfl (pi_enum (by rfl) T.n_enumerate (pa_cons (pv 1) pa_nil))) (pg_k (K := K) (t := fun K => gTup K 2 _) rfl (pg_tup (n := 2) rfl (pgs_cons (pg_name (i := 2) sc_looks_asked.nd rfl (Or.inl rfl)) (pgs_cons (pg_name (i := 3) sc_looks_asked.nd rfl (Or.inl rfl)) pgs_nil)))) (pss_one (ps_if (PW.pt (pw_or (pt_not (pt_chain op_le op_lt pe_int (pv 3) (pe_ix (ix_tupK (K := K) rfl) (pv 0) pe_int (fun _ _ => rfl)))) (pw_or1 (PW.pt (pw_and (pt_cmp (pc_gt (pv 2) pe_int)) (pw_and1 (pt_cmp (pc_le (pv 3) (pe_ix (ix_listK (K := K) rfl) (pv 1) (pe_op op_sub (pv 2) pe_int) (fun _ _ => rfl)))))))))) (pss_one ps_absurd) pss_nil)))), ?_⟩
    refine ⟨_, rfl, _, _, rfl, SqL.of (w0.same _ _ q3), ?_⟩
    refine forS (tw_enum (a := a3) h3) hm (fun (g4 : Unit) σ H' => ∃ (F' : Hp) (o4_2 : Option V) (o4_3 : Option V), σ = [some (.ref a1), some (.ref a3), o4_2, o4_3] ∧ Same F0 F' ∧ W F' H' (os)) ⟨_, _, _, rfl, Same.refl _, w0⟩ (fun g σ H' hI => by obtain ⟨F', _, _, _, s, w⟩ := hI; exact SqL.of (w.same _ _ (s _ _ q3))) ?_ ?_
    · -- a turn
      intro b4 g4 x4 σ4 H4 H4' N4 P4 hI hy hN4 hm
      obtain ⟨F4, o4_2, o4_3, rfl, s4, w4⟩ := hI
      replace q1 := s4 _ _ q1
      replace q2 := s4 _ _ q2
      replace h2 := A2.mono s4 h2
      replace q3 := s4 _ _ q3
      replace h3 := A2.mono s4 h3
      replace sF := sF.trans s4
      obtain ⟨T5, u5, rfl, n5, rfl, r5⟩ := hy
      obtain ⟨F5, s5, w5, q5⟩ := w4.frzE (o := .tup [.int b4.1, u5]) n5
      replace r5 := Rep.mono s4 r5
      replace q1 := s5 _ _ q1
      replace q2 := s5 _ _ q2
      replace h2 := A2.mono s5 h2
      replace q3 := s5 _ _ q3
      replace h3 := A2.mono s5 h3
      replace sF := sF.trans s5
      replace r5 := Rep.mono s5 r5
      obtain rfl : u5 = V.int b4.2 := r5
      refine ⟨_, _, rfl, SqT.of (w5.same _ _ q5), rfl, _, _, rfl, _, _, rfl, rfl, ?_⟩
      try dsimp only
      refine stepIf ?_
      refine joinT hm (fun (j6 : Bool) c H' => c = j6 ∧ ∃ (F' : Hp), Same F5 F' ∧ W F' H' (os)) ?_ ?_
      · intro Q6 P6 q6 hm
        refine stepOr ?_
        refine stepNot ?_
        refine cutT (fun c H' => c = ((decide ((0 : Int) ≤ b4.2)) && (decide (b4.2 < x_web.1))) ∧ ∃ F', Same F5 F' ∧ W F' H' (os)) (fun Q7 q7 => ?_) (fun c7 H7 hc7 => ?_)
        · -- the ways
          refine ⟨_, rfl, _, _, rfl, rfl, _, rfl, ?_⟩
          refine ifB (fun k8 => ?_) (fun k8 => ?_)
          · skip
            exact ⟨_, rfl, _, _, _, _, rfl, rfl, SqT.of (w5.same _ _ q1), rfl, _, _, rfl, rfl, _, rfl, q7 _ _ ⟨(by first | rfl | exact absurd k8 (by decide) | (simp [k8]; done) | ((try simp only [Bool.not_eq_true] at k8); simp only [k8, Bool.true_or, Bool.false_or, Bool.or_false, Bool.or_true, Bool.true_and, Bool.false_and, Bool.and_true, Bool.and_false])), _, Same.refl _, w5⟩⟩
          · skip
            exact ⟨_, rfl, q7 _ _ ⟨(by first | rfl | exact absurd k8 (by decide) | (simp [k8]; done) | ((try simp only [Bool.not_eq_true] at k8); simp only [k8, Bool.true_or, Bool.false_or, Bool.or_false, Bool.or_true, Bool.true_and, Bool.false_and, Bool.and_true, Bool.and_false])), _, Same.refl _, w5⟩⟩
        obtain ⟨rfl, F7, s7, w7⟩ := hc7
        replace q1 := s7 _ _ q1
        replace h2 := A2.mono s7 h2
        replace q2 := s7 _ _ q2
        replace h3 := A2.mono s7 h3
        replace q3 := s7 _ _ q3
        replace sF := sF.trans s7
        refine post_ite hm (fun k11 hm => ?_) (fun k11 hm => ?_)
        · skip
          exact q6 _ (post_ok hm) _ _ ⟨rfl, _, s7, w7⟩
        · skip
          refine joinT hm (fun (j13 : Bool) c H' => c = j13 ∧ ∃ (F' : Hp), Same F7 F' ∧ W F' H' (os)) ?_ ?_
          · intro Q13 P13 q13 hm
            refine ⟨_, rfl, _, _, rfl, rfl, _, rfl, ?_⟩
            refine post_ite hm (fun k14 hm => ?_) (fun k14 hm => ?_)
            · skip
              obtain ⟨t15, e15, hm⟩ := pb_get hm
              obtain ⟨u15, f15, r15⟩ := A2.at h3 e15
              obtain rfl : u15 = V.int t15 := r15
              exact ⟨_, rfl, _, rfl, _, rfl, _, _, rfl, rfl, _, _, _, _, rfl, rfl, SqL.of (w7.same _ _ q3), f15, _, _, rfl, rfl, _, rfl, q13 _ (post_ok hm) _ _ ⟨rfl, _, Same.refl _, w7⟩⟩
            · skip
              exact q13 _ (post_ok hm) _ _ ⟨rfl, _, Same.refl _, w7⟩
          intro j13 c13 H13 hc13 hm
          obtain ⟨rfl, F13, s13, w13⟩ := hc13
          replace q1 := s13 _ _ q1
          replace h2 := A2.mono s13 h2
          replace q2 := s13 _ _ q2
          replace h3 := A2.mono s13 h3
          replace q3 := s13 _ _ q3
          replace sF := sF.trans s13
          exact q6 _ (post_ok hm) _ _ ⟨rfl, _, (s7.trans s13), w13⟩
      intro j6 c6 H6 hc6 hm
      obtain ⟨rfl, F6, s6, w6⟩ := hc6
      replace q1 := s6 _ _ q1
      replace h2 := A2.mono s6 h2
      replace q2 := s6 _ _ q2
      replace h3 := A2.mono s6 h3
      replace q3 := s6 _ _ q3
      replace sF := sF.trans s6
      refine post_ite hm (fun k19 hm => ?_) (fun k19 hm => ?_)
      · skip
        try dsimp only
        exact hm
      · skip
        exact hN4 _ (post_ok hm) _ _ ⟨_, _, _, rfl, (s4.trans (s5.trans s6)), w6⟩
    intro g4 σ4 H4 hI hm
    obtain ⟨F4, o4_2, o4_3, rfl, s4, w4⟩ := hI
    replace q1 := s4 _ _ q1
    replace q2 := s4 _ _ q2
    replace h2 := A2.mono s4 h2
    replace q3 := s4 _ _ q3
    replace h3 := A2.mono s4 h3
    replace sF := sF.trans s4
    exact (post_ok hm) _ _ _ w4 sF rep_n
def sp_thing_asked (K : Fg) : Sp := fun vs H Q E => ∃ (F : Hp) (os : List (Addr × HO)) (v_web : V) (x_web : (Int × (Tup (Int × Int)))) (v_thing : V) (x_thing : Thing), vs = [v_web, v_thing] ∧ W F H (os) ∧ rep K F v_web x_web ∧ rep K F v_thing x_thing ∧ Post (thing_asked x_web x_thing) (Ret K F os Q) noX
theorem sc_thing_asked : FnScope ["web", "thing"] ["web", "thing"] (defScope s_thing_asked) := ⟨rfl, rfl, rfl, by decide +kernel, rfl, by decide +kernel, by decide +kernel⟩
theorem ok_thing_asked (T : Tx K mg A FD) : FnOk P w K mg base CX0 1 (A 21) (FD 21) ["web", "thing"] (sp_thing_asked K) := by
  refine T.d21.fn.ok sc_thing_asked (fun vs H Q E h => ?_) (fun cdv Ar outer s H vs Q E hr h => ?_)
  · obtain ⟨F, os, v_web, x_web, v_thing, x_thing, rfl, _⟩ := h
    rfl
  · obtain ⟨F0, os, v_web, x_web, v_thing, x_thing, rfl, w0, r_web, r_thing, hm⟩ := h
    have sF : Same F0 F0 := Same.refl _
    obtain ⟨a1, u1, z1, rfl, q1, r1a, r1b⟩ := r_web
    obtain rfl : u1 = V.int x_web.1 := r1a
    obtain ⟨a2, vs2, rfl, q2, h2⟩ := r1b
    refine ⟨_, (pss_one (ps_if (pt_val (pe_callB (call_isB (K := K) rfl) (by rfl) T.n_isinstance (by decide +kernel) (pa_cons (pv 1) (pa_cons (pe_bltn (v := .ty "int") (by rfl) T.n_int (by decide +kernel) rfl) pa_nil)))) (pss_one (ps_if (pt_not (pt_chain op_le op_lt pe_int (pv 1) (pe_ix (ix_tupK (K := K) rfl) (pv 0) pe_int (fun _ _ => rfl)))) (pss_one ps_absurd) pss_nil)) (pss_one (ps_if (pt_cmpR (op_notInT (K := K) rfl (Int × Int) (by decide) (Room.units65 hr)) (pv 1) (pe_ix (ix_tupK (K := K) rfl) (pv 0) pe_int (fun _ _ => rfl)) (by rfl)) (pss_one ps_absurd) pss_nil)))), ?_⟩
    obtain ⟨a4, y4, k4⟩ := th_int w0.same r_thing
    refine ⟨_, rfl, _, _, _, x_thing.isPl, rfl, y4, k4, _, rfl, ?_⟩
    refine post_ite hm (fun k5 hm => ?_) (fun k5 hm => ?_)
    · skip
      obtain ⟨t6, e6, hm⟩ := pb_asPl hm
      have r6 : v_thing = V.int t6 := (show rep K F0 v_thing (Thing.pl t6) from e6 ▸ r_thing)
      subst r6
      try dsimp only
      refine stepIf ?_
      refine stepNot ?_
      refine cutT (fun c H' => c = ((decide ((0 : Int) ≤ t6)) && (decide (t6 < x_web.1))) ∧ ∃ F', Same F0 F' ∧ W F' H' (os)) (fun Q7 q7 => ?_) (fun c7 H7 hc7 => ?_)
      · -- the ways
        refine ⟨_, rfl, _, _, rfl, rfl, _, rfl, ?_⟩
        refine ifB (fun k8 => ?_) (fun k8 => ?_)
        · skip
          exact ⟨_, rfl, _, _, _, _, rfl, rfl, SqT.of (w0.same _ _ q1), rfl, _, _, rfl, rfl, _, rfl, q7 _ _ ⟨(by first | rfl | exact absurd k8 (by decide) | (simp [k8]; done) | ((try simp only [Bool.not_eq_true] at k8); simp only [k8, Bool.true_or, Bool.false_or, Bool.or_false, Bool.or_true, Bool.true_and, Bool.false_and, Bool.and_true, Bool.and_false])), _, Same.refl _, w0⟩⟩
        · skip
          exact ⟨_, rfl, q7 _ _ ⟨(by first | rfl | exact absurd k8 (by decide) | (simp [k8]; done) | ((try simp only [Bool.not_eq_true] at k8); simp only [k8, Bool.true_or, Bool.false_or, Bool.or_false, Bool.or_true, Bool.true_and, Bool.false_and, Bool.and_true, Bool.and_false])), _, Same.refl _, w0⟩⟩
      obtain ⟨rfl, F7, s7, w7⟩ := hc7
      replace q1 := s7 _ _ q1
      replace q2 := s7 _ _ q2
      replace h2 := A2.mono s7 h2
      replace r_thing := Rep.mono s7 r_thing
      replace sF := sF.trans s7
      refine post_ite hm (fun k11 hm => ?_) (fun k11 hm => ?_)
      · skip
        try dsimp only
        exact hm
      · skip
        exact (post_ok hm) _ _ _ w7 sF rep_n
    · skip
      obtain ⟨t12, e12, hm⟩ := pb_asTi hm
      have r12 : rep K F0 v_thing (t12 : Int × Int) := (show rep K F0 v_thing (Thing.ti t12.1 t12.2) from e12 ▸ r_thing)
      obtain ⟨a13, u13, z13, rfl, q13, r13a, r13b⟩ := r12
      obtain rfl : u13 = V.int t12.1 := r13a
      obtain rfl : z13 = V.int t12.2 := r13b
      refine ⟨_, rfl, _, rfl, _, _, _, _, rfl, rfl, SqT.of (w0.same _ _ q1), rfl, (t12 : (Int × Int)), _, (Rep.mono w0.same (rep_pair q13 rep_i rep_i)), (Rep.mono w0.same (rep_tup q2 h2)), _, rfl, ?_⟩
      refine post_ite hm (fun k14 hm => ?_) (fun k14 hm => ?_)
      · skip
        try dsimp only
        exact hm
      · skip
        exact (post_ok hm) _ _ _ w0 sF rep_n
def sp_far_by (K : Fg) : Sp := fun vs H Q E => ∃ (F : Hp) (os : List (Addr × HO)) (v_table : V) (x_table : (List (List Int))) (x_look : Int) (v_thing : V) (x_thing : Thing), vs = [v_table, .int x_look, v_thing] ∧ W F H (os) ∧ rep K F v_table x_table ∧ rep K F v_thing x_thing ∧ Post (far_by x_table x_look x_thing) (Ret K F os Q) noX
theorem sc_far_by : FnScope ["table", "look", "thing"] ["table", "look", "thing"] (defScope s_far_by) := ⟨rfl, rfl, rfl, by decide +kernel, rfl, by decide +kernel, by decide +kernel⟩
theorem ok_far_by (T : Tx K mg A FD) : FnOk P w K mg base CX0 1 (A 22) (FD 22) ["table", "look", "thing"] (sp_far_by K) := by
  refine T.d22.fn.ok sc_far_by (fun vs H Q E h => ?_) (fun cdv Ar outer s H vs Q E hr h => ?_)
  · obtain ⟨F, os, v_table, x_table, x_look, v_thing, x_thing, rfl, _⟩ := h
    rfl
  · obtain ⟨F0, os, v_table, x_table, x_look, v_thing, x_thing, rfl, w0, r_table, r_thing, hm⟩ := h
    have sF : Same F0 F0 := Same.refl _
    obtain ⟨a1, vs1, rfl, q1, h1⟩ := r_table
    refine ⟨_, (pss_cons (ps_if (pt_val (pe_callB (call_isB (K := K) rfl) (by rfl) T.n_isinstance (by decide +kernel) (pa_cons (pv 2) (pa_cons (pe_bltn (v := .ty "int") (by rfl) T.n_int (by decide +kernel) rfl) pa_nil)))) (pss_one (ps_ret (pe_ix (ix_listK (K := K) rfl) (pe_ix (ix_listK (K := K) rfl) (pv 0) (pv 1) (fun _ _ => rfl)) (pv 2) (fun _ _ => rfl)))) pss_nil) (pss_one (ps_ret (pe_callB (call_min2 rfl) (by rfl) T.n_min (by decide +kernel) (pa_cons (pe_ix (ix_listK (K := K) rfl) (pe_ix (ix_listK (K := K) rfl) (pv 0) (pv 1) (fun _ _ => rfl)) (pe_ix (ix_tupK (K := K) rfl) (pv 2) pe_int (fun _ _ => rfl)) (fun _ _ => rfl)) (pa_cons (pe_ix (ix_listK (K := K) rfl) (pe_ix (ix_listK (K := K) rfl) (pv 0) (pv 1) (fun _ _ => rfl)) (pe_ix (ix_tupK (K := K) rfl) (pv 2) pe_int (fun _ _ => rfl)) (fun _ _ => rfl)) pa_nil)))))), ?_⟩
    obtain ⟨a3, y3, k3⟩ := th_int w0.same r_thing
    refine ⟨_, rfl, _, _, _, x_thing.isPl, rfl, y3, k3, _, rfl, ?_⟩
    refine post_ite hm (fun k4 hm => ?_) (fun k4 hm => ?_)
    · skip
      obtain ⟨t5, e5, hm⟩ := pb_asPl hm
      have r5 : v_thing = V.int t5 := (show rep K F0 v_thing (Thing.pl t5) from e5 ▸ r_thing)
      subst r5
      obtain ⟨t6, e6, hm⟩ := pb_get hm
      obtain ⟨u6, f6, r6⟩ := A2.at h1 e6
      obtain ⟨a7, vs7, rfl, q7, h7⟩ := r6
      obtain ⟨t8, e8, hm⟩ := pb_get hm
      obtain ⟨u8, f8, r8⟩ := A2.at h7 e8
      obtain rfl : u8 = V.int t8 := r8
      exact ⟨_, rfl, _, rfl, _, _, _, _, rfl, rfl, SqL.of (w0.same _ _ q1), f6, _, rfl, _, _, _, _, rfl, rfl, SqL.of (w0.same _ _ q7), f8, (post_ok hm) _ _ _ w0 sF rep_i⟩
    · skip
      obtain ⟨t9, e9, hm⟩ := pb_asTi hm
      have r9 : rep K F0 v_thing (t9 : Int × Int) := (show rep K F0 v_thing (Thing.ti t9.1 t9.2) from e9 ▸ r_thing)
      obtain ⟨a10, u10, z10, rfl, q10, r10a, r10b⟩ := r9
      obtain rfl : u10 = V.int t9.1 := r10a
      obtain rfl : z10 = V.int t9.2 := r10b
      obtain ⟨t11, e11, hm⟩ := pb_get hm
      obtain ⟨u11, f11, r11⟩ := A2.at h1 e11
      obtain ⟨a12, vs12, rfl, q12, h12⟩ := r11
      obtain ⟨t13, e13, hm⟩ := pb_get hm
      obtain ⟨u13, f13, r13⟩ := A2.at h12 e13
      obtain rfl : u13 = V.int t13 := r13
      obtain ⟨t14, e14, hm⟩ := pb_get hm
      obtain ⟨u14, f14, r14⟩ := A2.at h1 e14
      obtain ⟨a15, vs15, rfl, q15, h15⟩ := r14
      obtain ⟨t16, e16, hm⟩ := pb_get hm
      obtain ⟨u16, f16, r16⟩ := A2.at h15 e16
      obtain rfl : u16 = V.int t16 := r16
      exact ⟨_, rfl, _, rfl, _, _, _, _, rfl, rfl, SqL.of (w0.same _ _ q1), f11, _, rfl, _, _, _, _, rfl, rfl, SqT.of (w0.same _ _ q10), rfl, _, _, _, _, rfl, rfl, SqL.of (w0.same _ _ q12), f13, _, rfl, _, rfl, _, _, _, _, rfl, rfl, SqL.of (w0.same _ _ q1), f14, _, rfl, _, _, _, _, rfl, rfl, SqT.of (w0.same _ _ q10), rfl, _, _, _, _, rfl, rfl, SqL.of (w0.same _ _ q15), f16, _, _, rfl, (post_ok hm) _ _ _ w0 sF rep_i⟩
def sp_code_of (K : Fg) : Sp := fun vs H Q E => ∃ (F : Hp) (os : List (Addr × HO)) (v_web : V) (x_web : (Int × (Tup (Int × Int)))) (v_looks : V) (x_looks : (List Int)) (v_thing : V) (x_thing : Thing), vs = [v_web, v_looks, v_thing] ∧ W F H (os) ∧ rep K F v_web x_web ∧ rep K F v_looks x_looks ∧ rep K F v_thing x_thing ∧ Post (code_of x_web x_looks x_thing) (RetL K F os Q) noX
theorem sc_code_of : FnScope ["web", "looks", "thing", "table", "look"] ["web", "looks", "thing"] (defScope s_code_of) := ⟨rfl, rfl, rfl, by decide +kernel, rfl, by decide +kernel, by decide +kernel⟩
theorem ok_code_of (T : Tx K mg A FD) : FnOk P w K mg base CX0 4 (A 23) (FD 23) ["web", "looks", "thing"] (sp_code_of K) := by
  refine T.d23.fn.ok sc_code_of (fun vs H Q E h => ?_) (fun cdv Ar outer s H vs Q E hr h => ?_)
  · obtain ⟨F, os, v_web, x_web, v_looks, x_looks, v_thing, x_thing, rfl, _⟩ := h
    rfl
  · obtain ⟨F0, os, v_web, x_web, v_looks, x_looks, v_thing, x_thing, rfl, w0, r_web, r_looks, r_thing, hm⟩ := h
    have sF : Same F0 F0 := Same.refl _
    obtain ⟨a1, u1, z1, rfl, q1, r1a, r1b⟩ := r_web
    obtain rfl : u1 = V.int x_web.1 := r1a
    obtain ⟨a2, vs2, rfl, q2, h2⟩ := r1b
    obtain ⟨a3, vs3, rfl, q3, h3⟩ := r_looks
    refine ⟨_, (pss_cons (ps_expr (pe_call (ok_looks_asked T) (hr.mono (by decide)) (by rfl) T.d20.mg T.d20.fn.kp T.d20.b .nil pass0 (pa_cons (pv 0) (pa_cons (pv 1) pa_nil)))) (pss_cons (ps_expr (pe_call (ok_thing_asked T) (hr.mono (by decide)) (by rfl) T.d21.mg T.d21.fn.kp T.d21.b .nil pass0 (pa_cons (pv 0) (pa_cons (pv 2) pa_nil)))) (pss_cons (ps_set (i := 3) sc_code_of.nd rfl (Or.inr rfl) (pe_call (ok_table_of T) (hr.mono (by decide)) (by rfl) T.d18.mg T.d18.fn.kp T.d18.b .nil pass0 (pa_cons (pv 0) pa_nil))) (pss_one (ps_ret (pe_lc (own := [("look", 4)]) (g := gName 4) (by rfl) sc_code_of.nd (pi_listK (K := K) rfl (pv 1)) (blkOk_by (own := [("look", 4)]) (N := ["web", "looks", "thing", "table", "look"]) (sc := defScope s_code_of) (by decide +kernel)) (fun _ _ _ _ _ => (pg_name (i := 4) sc_code_of.nd rfl (Or.inl rfl))) (fun _ _ _ _ _ => pts_nil) (fun _ _ _ _ _ => (pe_call (ok_far_by T) (hr.mono (by decide)) (by rfl) T.d22.mg T.d22.fn.kp T.d22.b .nil pass0 (pa_cons (pv 3) (pa_cons (pv 4) (pa_cons (pv 2) pa_nil))))))))))), ?_⟩
    refine ⟨_, rfl, _, rfl, _, _, _, (x_web : (Int × (Tup (Int × Int)))), _, (x_looks : (List Int)), rfl, w0, (rep_pair q1 rep_i (rep_tup q2 h2)), (rep_lst q3 h3), ?_⟩
    refine (post_bind hm).mono (fun y5 hm v5 F5 H5 w5 s5 r5 => ?_) (fun _ z => z)
    replace q1 := s5 _ _ q1
    replace q2 := s5 _ _ q2
    replace h2 := A2.mono s5 h2
    replace q3 := s5 _ _ q3
    replace h3 := A2.mono s5 h3
    replace r_thing := Rep.mono s5 r_thing
    replace sF := sF.trans s5
    obtain rfl : v5 = V.non := r5
    refine ⟨_, rfl, _, rfl, _, _, _, (x_web : (Int × (Tup (Int × Int)))), _, (x_thing : Thing), rfl, w5, (rep_pair q1 rep_i (rep_tup q2 h2)), r_thing, ?_⟩
    refine (post_bind hm).mono (fun y6 hm v6 F6 H6 w6 s6 r6 => ?_) (fun _ z => z)
    replace q1 := s6 _ _ q1
    replace h2 := A2.mono s6 h2
    replace q2 := s6 _ _ q2
    replace h3 := A2.mono s6 h3
    replace q3 := s6 _ _ q3
    replace r_thing := Rep.mono s6 r_thing
    replace sF := sF.trans s6
    obtain rfl : v6 = V.non := r6
    refine ⟨_, rfl, _, _, _, (x_web : (Int × (Tup (Int × Int)))), rfl, w6, (rep_pair q1 rep_i (rep_tup q2 h2)), ?_⟩
    refine (post_bind hm).mono (fun y7 hm v7 F7 H7 w7 s7 r7 => ?_) (fun _ z => z)
    replace q1 := s7 _ _ q1
    replace h2 := A2.mono s7 h2
    replace q2 := s7 _ _ q2
    replace h3 := A2.mono s7 h3
    replace q3 := s7 _ _ q3
    replace r_thing := Rep.mono s7 r_thing
    replace sF := sF.trans s7
    obtain ⟨a8, vs8, rfl, q8, h8⟩ := r7
    refine ⟨_, rfl, _, rfl, ⟨_, SqL.of (w7.same _ _ q3)⟩, fun D9 nD9 => ?_⟩
    refine lcM (K := K) (tw_list (a := a3) h3) hm w7 nD9 (fun F' H' acc s w => SqL.of (w.same _ _ (s _ _ q3))) ?_ ?_
    · -- one turn
      intro b9 x9 F9 H9 H9' acc9 N9 P9 s9 w9 y9 hN9 hm
      replace q1 := s9 _ _ q1
      replace h2 := A2.mono s9 h2
      replace q2 := s9 _ _ q2
      replace h3 := A2.mono s9 h3
      replace q3 := s9 _ _ q3
      replace r_thing := Rep.mono s9 r_thing
      replace h8 := A2.mono s9 h8
      replace q8 := s9 _ _ q8
      replace sF := sF.trans s9
      obtain ⟨rfl, r11⟩ := y9
      obtain rfl : x9 = V.int b9 := r11
      refine ⟨rfl, _, rfl, _, rfl, _, rfl, _, _, _, (y7 : (List (List Int))), _, _, (x_thing : Thing), rfl, w9, (rep_lst q8 h8), r_thing, ?_⟩
      refine (post_bind hm).mono (fun y12 hm v12 F12 H12 w12 s12 r12 => ?_) (fun _ z => z)
      replace q1 := s12 _ _ q1
      replace h2 := A2.mono s12 h2
      replace q2 := s12 _ _ q2
      replace h3 := A2.mono s12 h3
      replace q3 := s12 _ _ q3
      replace r_thing := Rep.mono s12 r_thing
      replace h8 := A2.mono s12 h8
      replace q8 := s12 _ _ q8
      replace sF := sF.trans s12
      obtain rfl : v12 = V.int y12 := r12
      exact hN9 _ (post_ok hm) _ _ _ w12 s12 rep_i
    intro us9 F9 H9 ys9 s9 w9 gg9 hm
    replace q1 := s9 _ _ q1
    replace h2 := A2.mono s9 h2
    replace q2 := s9 _ _ q2
    replace h3 := A2.mono s9 h3
    replace q3 := s9 _ _ q3
    replace r_thing := Rep.mono s9 r_thing
    replace h8 := A2.mono s9 h8
    replace q8 := s9 _ _ q8
    replace sF := sF.trans s9
    exact (post_ok hm) _ _ _ _ w9 sF gg9
def sp_by_code (K : Fg) : Sp := fun vs H Q E => ∃ (F : Hp) (os : List (Addr × HO)) (v_web : V) (x_web : (Int × (Tup (Int × Int)))) (v_looks : V) (x_looks : (List Int)) (x_kind : Str), vs = [v_web, v_looks, .str x_kind] ∧ W F H (os) ∧ rep K F v_web x_web ∧ rep K F v_looks x_looks ∧ Post (by_code x_web x_looks x_kind) (fun (y : ((List ((Tup Int) × Ix)) × (List (List Thing)))) => ∀ (p : Addr) (us : List (List Key × V)) (as : List Addr) (vss : List (List V)) (F' H' : Hp), W F' H' ((p, .dT us) :: (nz as vss ++ (os))) → Same F F' → AD kT (RX as) us y.1 → Sto K F' as vss y.2 → Q (.ref p) H') noX
theorem sc_by_code : FnScope ["web", "looks", "kind", "table", "found", "thing", "code", "look"] ["web", "looks", "kind"] (defScope s_by_code) := ⟨rfl, rfl, rfl, by decide +kernel, rfl, by decide +kernel, by decide +kernel⟩
theorem ok_by_code (T : Tx K mg A FD) : FnOk P w K mg base CX0 4 (A 24) (FD 24) ["web", "looks", "kind"] (sp_by_code K) := by
  refine T.d24.fn.ok sc_by_code (fun vs H Q E h => ?_) (fun cdv Ar outer s H vs Q E hr h => ?_)
  · obtain ⟨F, os, v_web, x_web, v_looks, x_looks, x_kind, rfl, _⟩ := h
    rfl
  · obtain ⟨F0, os, v_web, x_web, v_looks, x_looks, x_kind, rfl, w0, r_web, r_looks, hm⟩ := h
    have sF : Same F0 F0 := Same.refl _
    obtain ⟨a1, u1, z1, rfl, q1, r1a, r1b⟩ := r_web
    obtain rfl : u1 = V.int x_web.1 := r1a
    obtain ⟨a2, vs2, rfl, q2, h2⟩ := r1b
    obtain ⟨a3, vs3, rfl, q3, h3⟩ := r_looks
    have hr_g : Sto K F0 [] [] ([] : List (List Thing)) := Sto.nil
    replace w0 : W F0 _ ((nz [] [] ++ os)) := w0
    refine ⟨_, (pss_cons (ps_set (i := 3) sc_by_code.nd rfl (Or.inr rfl) (pe_call (ok_table_of T) (hr.mono (by decide)) (by rfl) T.d18.mg T.d18.fn.kp T.d18.b .nil pass0 (pa_cons (pv 0) pa_nil))) (pss_cons (ps_set (i := 4) sc_by_code.nd rfl (Or.inl rfl) pe_dnewT) (pss_cons (ps_for PassesOwn.never rfl (pi_listK (K := K) rfl (pe_call (ok_things_of T) (hr.mono (by decide)) (by rfl) T.d19.mg T.d19.fn.kp T.d19.b .nil pass0 (pa_cons (pv 0) (pa_cons (pv 2) pa_nil)))) (pg_name (i := 5) sc_by_code.nd rfl (Or.inr rfl)) (pss_cons (ps_set (i := 6) sc_by_code.nd rfl (Or.inl rfl) (pe_callTy (call_tuple_ofK (K := K) rfl) (by rfl) T.n_tuple (by decide +kernel) (pa_cons (pe_lc (own := [("look", 7)]) (g := gName 7) (by rfl) sc_by_code.nd (pi_listK (K := K) rfl (pv 1)) (blkOk_by (own := [("look", 7)]) (N := ["web", "looks", "kind", "table", "found", "thing", "code", "look"]) (sc := defScope s_by_code) (by decide +kernel)) (fun _ _ _ _ _ => (pg_name (i := 7) sc_by_code.nd rfl (Or.inl rfl))) (fun _ _ _ _ _ => pts_nil) (fun _ _ _ _ _ => (pe_call (ok_far_by T) (hr.mono (by decide)) (by rfl) T.d22.mg T.d22.fn.kp T.d22.b .nil pass0 (pa_cons (pv 3) (pa_cons (pv 7) (pa_cons (pv 5) pa_nil)))))) pa_nil))) (pss_cons (ps_if (pt_cmp (pc_dnotinH (Room.units1 hr) (pv 6) (pv 4))) (pss_one (ps_dput (Room.units1 hr) (pv 4) (pv 6) (pe_lst pa_nil) (by rfl))) pss_nil) (pss_one (ps_expr (pe_bm PySem.F.plainAttrs_list PySem.F.slot_list_append PySem.F.type_list_append mt_append (pe_dget (Room.units1 hr) (pv 4) (pv 6) (fun _ _ => rfl)) (pa_cons (pv 5) pa_nil))))))) (pss_one (ps_ret (pv 4)))))), ?_⟩
    refine ⟨_, rfl, _, _, _, (x_web : (Int × (Tup (Int × Int)))), rfl, w0, (rep_pair q1 rep_i (rep_tup q2 h2)), ?_⟩
    refine (post_bind hm).mono (fun y5 hm v5 F5 H5 w5 s5 r5 => ?_) (fun _ z => z)
    replace q1 := s5 _ _ q1
    replace q2 := s5 _ _ q2
    replace h2 := A2.mono s5 h2
    replace q3 := s5 _ _ q3
    replace h3 := A2.mono s5 h3
    replace hr_g := Sto.mono s5 hr_g
    replace sF := sF.trans s5
    obtain ⟨a6, vs6, rfl, q6, h6⟩ := r5
    refine fun p7 n7 => ?_
    have w7 : W F5 _ ((p7, .dT []) :: (nz [] [] ++ os)) := w5.new n7
    have h7 : AD kT (RX []) [] ([] : (List ((Tup Int) × Ix))) := .nil
    refine ⟨_, rfl, _, rfl, _, _, _, (x_web : (Int × (Tup (Int × Int)))), _, rfl, w7, (rep_pair q1 rep_i (rep_tup q2 h2)), ?_⟩
    refine (post_bind hm).mono (fun y9 hm p9 us9 F9 H9 w9 s9 g9 => ?_) (fun _ z => z)
    replace q1 := s9 _ _ q1
    replace h2 := A2.mono s9 h2
    replace q2 := s9 _ _ q2
    replace h3 := A2.mono s9 h3
    replace q3 := s9 _ _ q3
    replace h6 := A2.mono s9 h6
    replace q6 := s9 _ _ q6
    replace hr_g := Sto.mono s9 hr_g
    replace sF := sF.trans s9
    obtain ⟨F11, s11, w11, q11⟩ : ∃ F', Same F9 F' ∧ W F' _ ((p7, .dT []) :: (nz [] [] ++ os)) ∧ F' p9 = some (.lst us9) := w9.freezeE (pre := [])
    replace q1 := s11 _ _ q1
    replace h2 := A2.mono s11 h2
    replace q2 := s11 _ _ q2
    replace h3 := A2.mono s11 h3
    replace q3 := s11 _ _ q3
    replace h6 := A2.mono s11 h6
    replace q6 := s11 _ _ q6
    replace hr_g := Sto.mono s11 hr_g
    replace g9 := A2.mono s11 g9
    replace sF := sF.trans s11
    refine ⟨_, rfl, ⟨_, SqL.of (w11.same _ _ q11)⟩, ?_⟩
    refine forS (tw_list (a := p9) g9) hm (fun (g8 : (List ((Tup Int) × Ix)) × (List (List Thing))) σ H' => ∃ (F' : Hp) (vs8_0 : List (List Key × V)) (as8_1 : List Addr) (vs8_1 : List (List V)) (o8_6 : Option V) (o8_5 : Option V), σ = [some (.ref a1), some (.ref a3), some (.str x_kind), some (.ref a6), some (.ref p7), o8_5, o8_6, none] ∧ Same F11 F' ∧ W F' H' ((p7, .dT vs8_0) :: (nz as8_1 vs8_1 ++ os)) ∧ AD kT (RX as8_1) vs8_0 g8.1 ∧ [] <+: as8_1 ∧ Sto K F' as8_1 vs8_1 g8.2) ⟨_, _, _, _, _, _, rfl, Same.refl _, w11, h7, pfx_refl, hr_g⟩ (fun g σ H' hI => by obtain ⟨F', _, _, _, _, _, _, s, w, _⟩ := hI; exact SqL.of (w.same _ _ (s _ _ q11))) ?_ ?_
    · -- a turn
      intro b8 g8 x8 σ8 H8 H8' N8 P8 hI hy hN8 hm
      obtain ⟨F8, vs8_0, as8_1, vs8_1, o8_6, o8_5, rfl, s8, w8, h8_0, p8_1, h8_1⟩ := hI
      replace q1 := s8 _ _ q1
      replace h2 := A2.mono s8 h2
      replace q2 := s8 _ _ q2
      replace h3 := A2.mono s8 h3
      replace q3 := s8 _ _ q3
      replace h6 := A2.mono s8 h6
      replace q6 := s8 _ _ q6
      replace g9 := A2.mono s8 g9
      replace q11 := s8 _ _ q11
      replace sF := sF.trans s8
      obtain ⟨rfl, r12⟩ := hy
      replace r12 := Rep.mono s8 r12
      refine ⟨_, rfl, _, rfl, ⟨_, SqL.of (w8.same _ _ q3)⟩, fun D14 nD14 => ?_⟩
      refine lcM (K := K) (tw_list (a := a3) h3) hm w8 nD14 (fun F' H' acc s w => SqL.of (w.same _ _ (s _ _ q3))) ?_ ?_
      · -- one turn
        intro b14 x14 F14 H14 H14' acc14 N14 P14 s14 w14 y14 hN14 hm
        replace q1 := s14 _ _ q1
        replace h2 := A2.mono s14 h2
        replace q2 := s14 _ _ q2
        replace h3 := A2.mono s14 h3
        replace q3 := s14 _ _ q3
        replace h6 := A2.mono s14 h6
        replace q6 := s14 _ _ q6
        replace r12 := Rep.mono s14 r12
        replace h8_1 := Sto.mono s14 h8_1
        replace sF := sF.trans s14
        obtain ⟨rfl, r16⟩ := y14
        obtain rfl : x14 = V.int b14 := r16
        refine ⟨rfl, _, rfl, _, rfl, _, rfl, _, _, _, (y5 : (List (List Int))), _, _, (b8 : Thing), rfl, w14, (rep_lst q6 h6), r12, ?_⟩
        refine (post_bind hm).mono (fun y17 hm v17 F17 H17 w17 s17 r17 => ?_) (fun _ z => z)
        replace q1 := s17 _ _ q1
        replace h2 := A2.mono s17 h2
        replace q2 := s17 _ _ q2
        replace h3 := A2.mono s17 h3
        replace q3 := s17 _ _ q3
        replace h6 := A2.mono s17 h6
        replace q6 := s17 _ _ q6
        replace r12 := Rep.mono s17 r12
        replace h8_1 := Sto.mono s17 h8_1
        replace sF := sF.trans s17
        obtain rfl : v17 = V.int y17 := r17
        exact hN14 _ (post_ok hm) _ _ _ w17 s17 rep_i
      intro us14 F14 H14 ys14 s14 w14 gg14 hm
      replace q1 := s14 _ _ q1
      replace h2 := A2.mono s14 h2
      replace q2 := s14 _ _ q2
      replace h3 := A2.mono s14 h3
      replace q3 := s14 _ _ q3
      replace h6 := A2.mono s14 h6
      replace q6 := s14 _ _ q6
      replace r12 := Rep.mono s14 r12
      replace h8_1 := Sto.mono s14 h8_1
      replace sF := sF.trans s14
      have h19 : A2 (rep K F14) us14 ys14 := gg14
      refine ⟨_, _, rfl, .inl ⟨SqL.of (w14.get (pre := [])), fun p20 n20 => ?_⟩⟩
      obtain ⟨F20, s20, w20, q20⟩ := w14.frzE (o := .tup us14) n20
      replace q1 := s20 _ _ q1
      replace h2 := A2.mono s20 h2
      replace q2 := s20 _ _ q2
      replace h3 := A2.mono s20 h3
      replace q3 := s20 _ _ q3
      replace h6 := A2.mono s20 h6
      replace q6 := s20 _ _ q6
      replace r12 := Rep.mono s20 r12
      replace h8_1 := Sto.mono s20 h8_1
      replace gg14 := A2.mono s20 gg14
      replace h19 := A2.mono s20 h19
      replace sF := sF.trans s20
      have w21 : W F20 _ ((p7, .dT vs8_0) :: (nz as8_1 vs8_1 ++ os)) := w20.drop (pre := [])
      refine stepN ?_
      try dsimp only
      refine joinS hm (fun (g22 : (List ((Tup Int) × Ix)) × (List (List Thing))) σ H' => ∃ (F' : Hp) (vs22_0 : List (List Key × V)) (as22_1 : List Addr) (vs22_1 : List (List V)), σ = [some (.ref a1), some (.ref a3), some (.str x_kind), some (.ref a6), some (.ref p7), some x8, some (.ref p20), none] ∧ Same F20 F' ∧ W F' H' ((p7, .dT vs22_0) :: (nz as22_1 vs22_1 ++ os)) ∧ AD kT (RX as22_1) vs22_0 g22.1 ∧ as8_1 <+: as22_1 ∧ Sto K F' as22_1 vs22_1 g22.2) ?_ ?_
      · intro N22 P22 hN22 hm
        refine ⟨_, rfl, _, rfl, _, _, _, rfl, dgetA (t := (Tup.mk ys14)) (w21.get (pre := [])) (key_tup w21.same q20 h19), AD.no kT_inj h8_0, _, rfl, ?_⟩
        refine post_ite hm (fun k23 hm => ?_) (fun k23 hm => ?_)
        · skip
          have h24 : A2 (rep K F20) [] ([] : (List Thing)) := .nil
          refine ⟨(by show 0 ≤ sizeLine; decide), fun p25 n25 => ?_⟩
          have w25 : W F20 _ ((p25, .lst []) :: (p7, .dT vs8_0) :: (nz as8_1 vs8_1 ++ os)) := w21.new n25
          obtain ⟨j26, st26, ej26, es26, hm⟩ := pn_newS hm
          have w26 : W F20 _ ((p7, .dT vs8_0) :: (nz (as8_1 ++ [p25]) (vs8_1 ++ [[]]) ++ os)) := w25.nadd (pre := [_]) h8_1.len
          have q26 : (as8_1 ++ [p25])[j26]? = some p25 := IQ.new (h8_1.len2.trans ej26.symm)
          have h26 : Sto K F20 (as8_1 ++ [p25]) (vs8_1 ++ [[]]) st26 := es26 ▸ Sto.snoc (p := p25) h8_1 h24
          replace h8_0 := AD.imp (fun _ _ => RX.mono (pfx_snoc (p := p25))) h8_0
          obtain ⟨l27, z27, e27, hm⟩ := pn_mput hm
          refine ⟨_, rfl, _, rfl, _, _, rfl, dputA (t := (Tup.mk ys14)) (v := (.ref p25)) (w26.get (pre := [])) (key_tup w26.same q20 h19) h8_0 z27, ?_⟩
          have h27 : AD kT (RX (as8_1 ++ [p25])) (putK vs8_0 (kT (Tup.mk ys14)) (.ref p25)) l27 := e27 ▸ AD.put kT_inj h8_0 ⟨_, rfl, q26⟩
          have w28 : W F20 _ ((p7, .dT (putK vs8_0 (kT (Tup.mk ys14)) (.ref p25))) :: (nz (as8_1 ++ [p25]) (vs8_1 ++ [[]]) ++ os)) := w26.set (pre := [])
          exact hN22 _ (post_ok hm) _ _ ⟨_, _, _, _, rfl, Same.refl _, w28, h27, (pfx_snoc (p := p25)), h26⟩
        · skip
          exact hN22 _ (post_ok hm) _ _ ⟨_, _, _, _, rfl, Same.refl _, w21, h8_0, pfx_refl, h8_1⟩
      intro g22 σ22 H22 hI hm
      obtain ⟨F22, vs22_0, as22_1, vs22_1, rfl, s22, w22, h22_0, p22_1, h22_1⟩ := hI
      replace q1 := s22 _ _ q1
      replace h2 := A2.mono s22 h2
      replace q2 := s22 _ _ q2
      replace h3 := A2.mono s22 h3
      replace q3 := s22 _ _ q3
      replace h6 := A2.mono s22 h6
      replace q6 := s22 _ _ q6
      replace h19 := A2.mono s22 h19
      replace q20 := s22 _ _ q20
      replace r12 := Rep.mono s22 r12
      replace sF := sF.trans s22
      obtain ⟨t29, e29, hm⟩ := pb_mget hm
      obtain ⟨u29, f29, r29⟩ := AD.get kT_inj h22_0 e29
      obtain ⟨a30, rfl, q30⟩ := r29
      obtain ⟨x31, e31, hm⟩ := pb_getS hm
      obtain ⟨vs31, i31, h31⟩ := Sto.getq h22_1 e31 q30
      obtain ⟨l32, z32, e32, hm⟩ := pn_app hm
      obtain ⟨st32, es32, hm⟩ := pn_setS hm
      refine ⟨_, rfl, _, rfl, _, _, rfl, dgetsA (w22.get (pre := [])) (key_tup (t := (Tup.mk ys14)) w22.same q20 h19) f29, .inl ⟨rfl, _, SqL.of (W.nget (pre := [_]) w22 q30 i31)⟩, _, rfl, _, _, _, rfl, rfl, (W.nget (pre := [_]) w22 q30 i31), (A2.lt h31 z32), ?_⟩
      have h32 : Sto K F22 as22_1 (vs22_1.set t29 (vs31 ++ [x8])) st32 := es32 ▸ Sto.set h22_1 (e32 ▸ A2.snoc h31 r12)
      have w32 : W F22 _ ((p7, .dT vs22_0) :: (nz as22_1 (vs22_1.set t29 (vs31 ++ [x8])) ++ os)) := w22.nset (pre := [_]) (vs31 ++ [x8]) q30 i31
      exact hN8 _ (post_ok hm) _ _ ⟨_, _, _, _, _, _, rfl, (s8.trans (s14.trans (s20.trans s22))), w32, h22_0, (pfx_trans p8_1 p22_1), h32⟩
    intro g8 σ8 H8 hI hm
    obtain ⟨F8, vs8_0, as8_1, vs8_1, o8_6, o8_5, rfl, s8, w8, h8_0, p8_1, h8_1⟩ := hI
    replace q1 := s8 _ _ q1
    replace h2 := A2.mono s8 h2
    replace q2 := s8 _ _ q2
    replace h3 := A2.mono s8 h3
    replace q3 := s8 _ _ q3
    replace h6 := A2.mono s8 h6
    replace q6 := s8 _ _ q6
    replace g9 := A2.mono s8 g9
    replace q11 := s8 _ _ q11
    replace sF := sF.trans s8
    exact ⟨_, rfl, (post_ok hm) _ _ _ _ _ _ w8 sF h8_0 h8_1⟩
def sp_likes_by (K : Fg) : Sp := fun vs H Q E => ∃ (F : Hp) (os : List (Addr × HO)) (v_web : V) (x_web : (Int × (Tup (Int × Int)))) (v_looks : V) (x_looks : (List Int)) (x_kind : Str), vs = [v_web, v_looks, .str x_kind] ∧ W F H (os) ∧ rep K F v_web x_web ∧ rep K F v_looks x_looks ∧ Post (likes_by x_web x_looks x_kind) (Ret K F os Q) noX
theorem sc_likes_by : FnScope ["web", "looks", "kind", "things"] ["web", "looks", "kind"] (defScope s_likes_by) := ⟨rfl, rfl, rfl, by decide +kernel, rfl, by decide +kernel, by decide +kernel⟩
theorem ok_likes_by (T : Tx K mg A FD) : FnOk P w K mg base CX0 5 (A 25) (FD 25) ["web", "looks", "kind"] (sp_likes_by K) := by
  refine T.d25.fn.ok sc_likes_by (fun vs H Q E h => ?_) (fun cdv Ar outer s H vs Q E hr h => ?_)
  · obtain ⟨F, os, v_web, x_web, v_looks, x_looks, x_kind, rfl, _⟩ := h
    rfl
  · obtain ⟨F0, os, v_web, x_web, v_looks, x_looks, x_kind, rfl, w0, r_web, r_looks, hm⟩ := h
    have sF : Same F0 F0 := Same.refl _
    obtain ⟨a1, u1, z1, rfl, q1, r1a, r1b⟩ := r_web
    obtain rfl : u1 = V.int x_web.1 := r1a
    obtain ⟨a2, vs2, rfl, q2, h2⟩ := r1b
    obtain ⟨a3, vs3, rfl, q3, h3⟩ := r_looks
    refine ⟨_, (pss_cons (ps_expr (pe_call (ok_looks_asked T) (hr.mono (by decide)) (by rfl) T.d20.mg T.d20.fn.kp T.d20.b .nil pass0 (pa_cons (pv 0) (pa_cons (pv 1) pa_nil)))) (pss_one (ps_ret (pe_lc (own := [("things", 3)]) (g := gName 3) (by rfl) sc_likes_by.nd (pi_valuesT (pe_call (ok_by_code T) (hr.mono (by decide)) (by rfl) T.d24.mg T.d24.fn.kp T.d24.b .nil pass0 (pa_cons (pv 0) (pa_cons (pv 1) (pa_cons (pv 2) pa_nil))))) (blkOk_by (own := [("things", 3)]) (N := ["web", "looks", "kind", "things"]) (sc := defScope s_likes_by) (by decide +kernel)) (fun _ _ _ _ _ => (pg_name (i := 3) sc_likes_by.nd rfl (Or.inl rfl))) (fun _ _ _ _ _ => (pts_one (pt_cmp (pc_gt (pe_callB (call_lenN (K := K) rfl) (by rfl) T.n_len (by decide +kernel) (pa_cons (pv 3) pa_nil)) pe_int)))) (fun _ _ _ _ _ => (pv 3)))))), ?_⟩
    refine ⟨_, rfl, _, rfl, _, _, _, (x_web : (Int × (Tup (Int × Int)))), _, (x_looks : (List Int)), rfl, w0, (rep_pair q1 rep_i (rep_tup q2 h2)), (rep_lst q3 h3), ?_⟩
    refine (post_bind hm).mono (fun y4 hm v4 F4 H4 w4 s4 r4 => ?_) (fun _ z => z)
    replace q1 := s4 _ _ q1
    replace q2 := s4 _ _ q2
    replace h2 := A2.mono s4 h2
    replace q3 := s4 _ _ q3
    replace h3 := A2.mono s4 h3
    replace sF := sF.trans s4
    obtain rfl : v4 = V.non := r4
    refine ⟨_, rfl, _, rfl, _, rfl, _, _, _, (x_web : (Int × (Tup (Int × Int)))), _, (x_looks : (List Int)), _, rfl, w4, (rep_pair q1 rep_i (rep_tup q2 h2)), (rep_lst q3 h3), ?_⟩
    refine (post_bind hm).mono (fun y5 hm p5 us5 as5 vss5 F5 H5 w5 s5 g5 gs5 => ?_) (fun _ z => z)
    replace q1 := s5 _ _ q1
    replace h2 := A2.mono s5 h2
    replace q2 := s5 _ _ q2
    replace h3 := A2.mono s5 h3
    replace q3 := s5 _ _ q3
    replace sF := sF.trans s5
    have w8 : W F5 _ ((p5, .dT us5) :: (nz as5 vss5 ++ os)) := w5.nback (pre := [])
    refine ⟨_, _, rfl, (w8.get (pre := [])), fun od9 => ?_⟩
    have w9 : W F5 _ ((p5, (.frz od9 (.dT us5))) :: (nz as5 vss5 ++ os)) := w8.set (pre := [])
    refine fun D10 nD10 => ?_
    refine lcG (tw_valsT (d := p5) (o := od9) g5) hm (fun (g10 : (List (List Thing))) F' os' us ys => ∃ (as10_0 : List Addr) (vs10_0 : List (List V)), os' = (p5, (.frz od9 (.dT us5))) :: (nz as10_0 vs10_0 ++ os) ∧ as5 <+: as10_0 ∧ Sto K F' as10_0 vs10_0 g10 ∧ A2 (RX as10_0) us ys) w9 ⟨_, _, rfl, pfx_refl, gs5, .nil⟩ nD10 (fun _ _ _ _ _ o => by obtain ⟨_, _, rfl, _, _, h⟩ := o; exact h.length) (fun g F' H' os' acc ys s w o => by obtain ⟨_, _, rfl, _, _, _⟩ := o; exact w.get (pre := [_])) ?_ ?_
    · -- one turn
      intro b10 g10 x10 F10 H10 H10' os10 acc10 ya10 N10 M10 P10 s10 w10 o10 y10 hN10 hM10 hm
      obtain ⟨as10_0, vs10_0, rfl, p10_0, h10_0, ha10⟩ := o10
      replace q1 := s10 _ _ q1
      replace h2 := A2.mono s10 h2
      replace q2 := s10 _ _ q2
      replace h3 := A2.mono s10 h3
      replace q3 := s10 _ _ q3
      replace sF := sF.trans s10
      replace g5 := AD.imp (fun _ _ => RX.mono p10_0) g5
      obtain ⟨rfl, r12⟩ := y10
      replace r12 := RX.mono p10_0 r12
      obtain ⟨a13, rfl, q13⟩ := r12
      obtain ⟨x14, e14, hm⟩ := pb_getS hm
      obtain ⟨vs14, i14, h14⟩ := Sto.getq h10_0 e14 q13
      refine ⟨rfl, _, rfl, _, _, _, rfl, .inl (SqL.of (W.nget (pre := [_, _]) w10 q13 i14)), h14.length, _, _, rfl, rfl, _, rfl, ?_⟩
      refine post_ite hm (fun k15 hm => ?_) (fun k15 hm => ?_)
      · skip
        exact ⟨_, rfl, hN10 _ _ (post_ok hm) _ _ _ _ w10 (Same.refl _) ⟨_, _, rfl, p10_0, h10_0, A2.snoc ha10 ⟨_, rfl, q13⟩⟩⟩
      · skip
        exact hM10 _ (post_ok hm) _ _ _ w10 (Same.refl _) ⟨_, _, rfl, p10_0, h10_0, ha10⟩
    intro g10 us10 F10 H10 os10 ys10 s10 w10 o10 hm
    obtain ⟨as10_0, vs10_0, rfl, p10_0, h10_0, gg10⟩ := o10
    replace q1 := s10 _ _ q1
    replace h2 := A2.mono s10 h2
    replace q2 := s10 _ _ q2
    replace h3 := A2.mono s10 h3
    replace q3 := s10 _ _ q3
    replace sF := sF.trans s10
    replace g5 := AD.imp (fun _ _ => RX.mono p10_0) g5
    obtain ⟨xss17, e17, hm⟩ := pb_deref hm
    obtain ⟨F17a, s17a, w17a, q17⟩ : ∃ F', Same F10 F' ∧ W F' _ ((p5, (.frz od9 (.dT us5))) :: (nz as10_0 vs10_0 ++ os)) ∧ F' D10 = some (.lst us10) := w10.freezeE (pre := [])
    obtain ⟨F17, s17b, w17, f17⟩ : ∃ F', Same F17a F' ∧ W F' _ ((p5, (.frz od9 (.dT us5))) :: os) ∧ ∀ (j : Nat) (a : Addr) (vs : List V), as10_0[j]? = some a → vs10_0[j]? = some vs → F' a = some (.lst vs) := W.nfreeze (pre := [_]) w17a
    replace q17 := s17b _ _ q17
    have s17 : Same F10 F17 := s17a.trans s17b
    have h17 : A2 (rep K F17) us10 xss17 := deref_rep h10_0 f17 s17 gg10 e17
    replace q1 := s17 _ _ q1
    replace h2 := A2.mono s17 h2
    replace q2 := s17 _ _ q2
    replace h3 := A2.mono s17 h3
    replace q3 := s17 _ _ q3
    replace sF := sF.trans s17
    have w18 : W F17 _ (os) := w17.drop (pre := [])
    exact (post_ok hm) _ _ _ w18 sF (rep_lst q17 h17)
def sp_is_known (K : Fg) : Sp := fun vs H Q E => ∃ (F : Hp) (os : List (Addr × HO)) (v_web : V) (x_web : (Int × (Tup (Int × Int)))) (v_looks : V) (x_looks : (List Int)) (x_kind : Str), vs = [v_web, v_looks, .str x_kind] ∧ W F H (os) ∧ rep K F v_web x_web ∧ rep K F v_looks x_looks ∧ Post (is_known x_web x_looks x_kind) (Ret K F os Q) noX
theorem sc_is_known : FnScope ["web", "looks", "kind"] ["web", "looks", "kind"] (defScope s_is_known) := ⟨rfl, rfl, rfl, by decide +kernel, rfl, by decide +kernel, by decide +kernel⟩
theorem ok_is_known (T : Tx K mg A FD) : FnOk P w K mg base CX0 6 (A 26) (FD 26) ["web", "looks", "kind"] (sp_is_known K) := by
  refine T.d26.fn.ok sc_is_known (fun vs H Q E h => ?_) (fun cdv Ar outer s H vs Q E hr h => ?_)
  · obtain ⟨F, os, v_web, x_web, v_looks, x_looks, x_kind, rfl, _⟩ := h
    rfl
  · obtain ⟨F0, os, v_web, x_web, v_looks, x_looks, x_kind, rfl, w0, r_web, r_looks, hm⟩ := h
    have sF : Same F0 F0 := Same.refl _
    obtain ⟨a1, u1, z1, rfl, q1, r1a, r1b⟩ := r_web
    obtain rfl : u1 = V.int x_web.1 := r1a
    obtain ⟨a2, vs2, rfl, q2, h2⟩ := r1b
    obtain ⟨a3, vs3, rfl, q3, h3⟩ := r_looks
    refine ⟨_, (pss_one (ps_ret (pe_cmpR (op_eqDt (K := K) rfl (List (List Thing)) (by decide) hr.units) (pe_call (ok_likes_by T) (hr.mono (by decide)) (by rfl) T.d25.mg T.d25.fn.kp T.d25.b .nil pass0 (pa_cons (pv 0) (pa_cons (pv 1) (pa_cons (pv 2) pa_nil)))) (pe_lst pa_nil) (nomark _)))), ?_⟩
    refine ⟨_, rfl, _, rfl, _, rfl, _, _, _, (x_web : (Int × (Tup (Int × Int)))), _, (x_looks : (List Int)), _, rfl, w0, (rep_pair q1 rep_i (rep_tup q2 h2)), (rep_lst q3 h3), ?_⟩
    refine (post_bind hm).mono (fun y4 hm v4 F4 H4 w4 s4 r4 => ?_) (fun _ z => z)
    replace q1 := s4 _ _ q1
    replace q2 := s4 _ _ q2
    replace h2 := A2.mono s4 h2
    replace q3 := s4 _ _ q3
    replace h3 := A2.mono s4 h3
    replace sF := sF.trans s4
    obtain ⟨a5, vs5, rfl, q5, h5⟩ := r4
    have h6 : A2 (rep K F4) [] ([] : (List (List Thing))) := .nil
    refine ⟨(by show 0 ≤ sizeLine; decide), fun p7 n7 => ?_⟩
    have w7 : W F4 _ ((p7, .lst []) :: os) := w4.new n7
    have w8 : W F4 _ (os) := w7.drop (pre := [])
    exact ⟨(y4 : (List (List Thing))), (([] : (List (List Thing))) : (List (List Thing))), (Rep.mono w7.same (rep_lst q5 h5)), (rep_own (pre := []) w7 h6), (post_ok hm) _ _ _ w8 sF rep_b⟩
def sp_few_things (K : Fg) : Sp := fun vs H Q E => ∃ (F : Hp) (os : List (Addr × HO)) (v_web : V) (x_web : (Int × (Tup (Int × Int)))) (x_kind : Str), vs = [v_web, .str x_kind] ∧ W F H (os) ∧ rep K F v_web x_web ∧ Post (few_things x_web x_kind) (Ret K F os Q) noX
theorem sc_few_things : FnScope ["web", "kind", "things"] ["web", "kind"] (defScope s_few_things) := ⟨rfl, rfl, rfl, by decide +kernel, rfl, by decide +kernel, by decide +kernel⟩
theorem ok_few_things (T : Tx K mg A FD) : FnOk P w K mg base CX0 2 (A 30) (FD 30) ["web", "kind"] (sp_few_things K) := by
  refine T.d30.fn.ok sc_few_things (fun vs H Q E h => ?_) (fun cdv Ar outer s H vs Q E hr h => ?_)
  · obtain ⟨F, os, v_web, x_web, x_kind, rfl, _⟩ := h
    rfl
  · obtain ⟨F0, os, v_web, x_web, x_kind, rfl, w0, r_web, hm⟩ := h
    have sF : Same F0 F0 := Same.refl _
    obtain ⟨a1, u1, z1, rfl, q1, r1a, r1b⟩ := r_web
    obtain rfl : u1 = V.int x_web.1 := r1a
    obtain ⟨a2, vs2, rfl, q2, h2⟩ := r1b
    refine ⟨_, (pss_cons (ps_set (i := 2) sc_few_things.nd rfl (Or.inl rfl) (pe_call (ok_things_of T) (hr.mono (by decide)) (by rfl) T.d19.mg T.d19.fn.kp T.d19.b .nil pass0 (pa_cons (pv 0) (pa_cons (pv 1) pa_nil)))) (pss_cons (ps_if (PW.pt (pw_or (pt_cmp (pc_gt (pe_ix (ix_tupK (K := K) rfl) (pv 0) pe_int (fun _ _ => rfl)) (pe_globI (by rfl) T.c_MOST_PLACES_asks))) (pw_or1 (pt_not (pt_chain op_le op_le pe_int (pe_callB (call_lenN (K := K) rfl) (by rfl) T.n_len (by decide +kernel) (pa_cons (pv 2) pa_nil)) (pe_globI (by rfl) T.c_MOST_THINGS)))))) (pss_one ps_absurd) pss_nil) (pss_one (ps_ret (pv 2))))), ?_⟩
    refine ⟨_, rfl, _, rfl, _, _, _, (x_web : (Int × (Tup (Int × Int)))), _, rfl, w0, (rep_pair q1 rep_i (rep_tup q2 h2)), ?_⟩
    refine (post_bind hm).mono (fun y3 hm p3 us3 F3 H3 w3 s3 g3 => ?_) (fun _ z => z)
    replace q1 := s3 _ _ q1
    replace q2 := s3 _ _ q2
    replace h2 := A2.mono s3 h2
    replace sF := sF.trans s3
    obtain ⟨F5, s5, w5, q5⟩ : ∃ F', Same F3 F' ∧ W F' _ (os) ∧ F' p3 = some (.lst us3) := w3.freezeE (pre := [])
    replace q1 := s5 _ _ q1
    replace q2 := s5 _ _ q2
    replace h2 := A2.mono s5 h2
    replace g3 := A2.mono s5 g3
    replace sF := sF.trans s5
    refine stepN ?_
    try dsimp only
    refine stepSeq (stepIf ?_)
    refine cutT (fun c H' => c = (((decide ((7 : Int) < x_web.1)) || (!((decide ((1 : Int) ≤ (y3.length : Int))) && (decide ((y3.length : Int) ≤ (8 : Int))))))) ∧ ∃ F', Same F5 F' ∧ W F' H' (os)) (fun Q6 q6 => ?_) (fun c6 H6 hc6 => ?_)
    · -- the ways
      refine ⟨_, rfl, _, _, _, _, rfl, rfl, SqT.of (w5.same _ _ q1), rfl, _, _, rfl, rfl, _, rfl, ?_⟩
      refine ifB (fun k7 => ?_) (fun k7 => ?_)
      · skip
        exact q6 _ _ ⟨(by first | rfl | exact absurd k7 (by decide) | (simp [k7]; done) | ((try simp only [Bool.not_eq_true] at k7); simp only [k7, Bool.true_or, Bool.false_or, Bool.or_false, Bool.or_true, Bool.true_and, Bool.false_and, Bool.and_true, Bool.and_false])), _, Same.refl _, w5⟩
      · skip
        refine stepNot ?_
        refine cutT (fun c H' => c = ((decide ((1 : Int) ≤ (y3.length : Int))) && (decide ((y3.length : Int) ≤ (8 : Int)))) ∧ ∃ F', Same F5 F' ∧ W F' H' (os)) (fun Q9 q9 => ?_) (fun c9 H9 hc9 => ?_)
        · -- the ways
          refine ⟨_, rfl, _, _, _, rfl, .inl (SqL.of (w5.same _ _ q5)), g3.length, _, _, rfl, rfl, _, rfl, ?_⟩
          refine ifB (fun k10 => ?_) (fun k10 => ?_)
          · skip
            exact ⟨_, _, rfl, rfl, _, rfl, q9 _ _ ⟨(by first | rfl | exact absurd k10 (by decide) | (simp [k10]; done) | ((try simp only [Bool.not_eq_true] at k10); simp only [k10, Bool.true_or, Bool.false_or, Bool.or_false, Bool.or_true, Bool.true_and, Bool.false_and, Bool.and_true, Bool.and_false])), _, Same.refl _, w5⟩⟩
          · skip
            exact ⟨_, rfl, q9 _ _ ⟨(by first | rfl | exact absurd k10 (by decide) | (simp [k10]; done) | ((try simp only [Bool.not_eq_true] at k10); simp only [k10, Bool.true_or, Bool.false_or, Bool.or_false, Bool.or_true, Bool.true_and, Bool.false_and, Bool.and_true, Bool.and_false])), _, Same.refl _, w5⟩⟩
        obtain ⟨rfl, F9, s9, w9⟩ := hc9
        replace q1 := s9 _ _ q1
        replace h2 := A2.mono s9 h2
        replace q2 := s9 _ _ q2
        replace g3 := A2.mono s9 g3
        replace q5 := s9 _ _ q5
        replace sF := sF.trans s9
        exact q6 _ _ ⟨(by first | rfl | exact absurd k7 (by decide) | (simp [k7]; done) | ((try simp only [Bool.not_eq_true] at k7); simp only [k7, Bool.true_or, Bool.false_or, Bool.or_false, Bool.or_true, Bool.true_and, Bool.false_and, Bool.and_true, Bool.and_false])), _, s9, w9⟩
    obtain ⟨rfl, F6, s6, w6⟩ := hc6
    replace q1 := s6 _ _ q1
    replace h2 := A2.mono s6 h2
    replace q2 := s6 _ _ q2
    replace g3 := A2.mono s6 g3
    replace q5 := s6 _ _ q5
    replace sF := sF.trans s6
    refine post_ite hm (fun k14 hm => ?_) (fun k14 hm => ?_)
    · skip
      try dsimp only
      exact hm
    · skip
      exact ⟨_, rfl, (post_ok hm) _ _ _ w6 sF (rep_lst q5 g3)⟩
def sp_all_fars (K : Fg) : Sp := fun vs H Q E => ∃ (F : Hp) (os : List (Addr × HO)) (v_web : V) (x_web : (Int × (Tup (Int × Int)))), vs = [v_web] ∧ W F H (os) ∧ rep K F v_web x_web ∧ Post (all_fars x_web) (Ret K F os Q) noX
theorem sc_all_fars : FnScope ["web", "place"] ["web"] (defScope s_all_fars) := ⟨rfl, rfl, rfl, by decide +kernel, rfl, by decide +kernel, by decide +kernel⟩
theorem ok_all_fars (T : Tx K mg A FD) : FnOk P w K mg base CX0 3 (A 31) (FD 31) ["web"] (sp_all_fars K) := by
  refine T.d31.fn.ok sc_all_fars (fun vs H Q E h => ?_) (fun cdv Ar outer s H vs Q E hr h => ?_)
  · obtain ⟨F, os, v_web, x_web, rfl, _⟩ := h
    rfl
  · obtain ⟨F0, os, v_web, x_web, rfl, w0, r_web, hm⟩ := h
    have sF : Same F0 F0 := Same.refl _
    obtain ⟨a1, u1, z1, rfl, q1, r1a, r1b⟩ := r_web
    obtain rfl : u1 = V.int x_web.1 := r1a
    obtain ⟨a2, vs2, rfl, q2, h2⟩ := r1b
    refine ⟨_, (pss_one (ps_ret (pe_lc (own := [("place", 1)]) (g := gName 1) (by rfl) sc_all_fars.nd (pi_range1 (by rfl) T.n_range (pa_cons (pe_ix (ix_tupK (K := K) rfl) (pv 0) pe_int (fun _ _ => rfl)) pa_nil)) (blkOk_by (own := [("place", 1)]) (N := ["web", "place"]) (sc := defScope s_all_fars) (by decide +kernel)) (fun _ _ _ _ _ => (pg_name (i := 1) sc_all_fars.nd rfl (Or.inl rfl))) (fun _ _ _ _ _ => pts_nil) (fun _ _ _ _ _ => (pe_call (ok_fars_from T) (hr.mono (by decide)) (by rfl) T.d15.mg T.d15.fn.kp T.d15.b .nil pass0 (pa_cons (pv 0) (pa_cons (pv 1) pa_nil))))))), ?_⟩
    obtain ⟨c3, hm⟩ := pb_rng hm
    refine ⟨_, rfl, _, _, _, _, rfl, rfl, SqT.of (w0.same _ _ q1), rfl, _, rfl, c3.2.2.1, c3.2.2.2, fun D4 nD4 => ?_⟩
    refine lcM (K := K) (tw_rng0 (j := x_web.1)) hm w0 nD4 (fun F' H' acc s w => trivial) ?_ ?_
    · -- one turn
      intro b4 x4 F4 H4 H4' acc4 N4 P4 s4 w4 y4 hN4 hm
      replace q1 := s4 _ _ q1
      replace q2 := s4 _ _ q2
      replace h2 := A2.mono s4 h2
      replace sF := sF.trans s4
      obtain ⟨rfl, rfl⟩ := y4
      refine ⟨rfl, _, rfl, _, rfl, _, _, _, (x_web : (Int × (Tup (Int × Int)))), _, rfl, w4, (rep_pair q1 rep_i (rep_tup q2 h2)), ?_⟩
      refine (post_bind hm).mono (fun y6 hm p6 us6 F6 H6 w6 s6 g6 => ?_) (fun _ z => z)
      replace q1 := s6 _ _ q1
      replace q2 := s6 _ _ q2
      replace h2 := A2.mono s6 h2
      replace sF := sF.trans s6
      obtain ⟨F8, s8, w8, q8⟩ : ∃ F', Same F6 F' ∧ W F' _ ((D4, .lst acc4) :: os) ∧ F' p6 = some (.lst us6) := w6.freezeE (pre := [])
      replace q1 := s8 _ _ q1
      replace q2 := s8 _ _ q2
      replace h2 := A2.mono s8 h2
      replace g6 := A2.mono s8 g6
      replace sF := sF.trans s8
      exact hN4 _ (post_ok hm) _ _ _ w8 (s6.trans s8) (rep_lst q8 g6)
    intro us4 F4 H4 ys4 s4 w4 gg4 hm
    replace q1 := s4 _ _ q1
    replace q2 := s4 _ _ q2
    replace h2 := A2.mono s4 h2
    replace sF := sF.trans s4
    obtain ⟨F10, s10, w10, q10⟩ : ∃ F', Same F4 F' ∧ W F' _ (os) ∧ F' D4 = some (.lst us4) := w4.freezeE (pre := [])
    replace q1 := s10 _ _ q1
    replace q2 := s10 _ _ q2
    replace h2 := A2.mono s10 h2
    replace gg4 := A2.mono s10 gg4
    replace sF := sF.trans s10
    exact (post_ok hm) _ _ _ w10 sF (rep_lst q10 gg4)
def sp_far_thing (K : Fg) : Sp := fun vs H Q E => ∃ (F : Hp) (os : List (Addr × HO)) (v_fars : V) (x_fars : (List (List Int))) (x_place : Int) (v_thing : V) (x_thing : Thing), vs = [v_fars, .int x_place, v_thing] ∧ W F H (os) ∧ rep K F v_fars x_fars ∧ rep K F v_thing x_thing ∧ Post (far_thing x_fars x_place x_thing) (Ret K F os Q) noX
theorem sc_far_thing : FnScope ["fars", "place", "thing"] ["fars", "place", "thing"] (defScope s_far_thing) := ⟨rfl, rfl, rfl, by decide +kernel, rfl, by decide +kernel, by decide +kernel⟩
theorem ok_far_thing (T : Tx K mg A FD) : FnOk P w K mg base CX0 1 (A 32) (FD 32) ["fars", "place", "thing"] (sp_far_thing K) := by
  refine T.d32.fn.ok sc_far_thing (fun vs H Q E h => ?_) (fun cdv Ar outer s H vs Q E hr h => ?_)
  · obtain ⟨F, os, v_fars, x_fars, x_place, v_thing, x_thing, rfl, _⟩ := h
    rfl
  · obtain ⟨F0, os, v_fars, x_fars, x_place, v_thing, x_thing, rfl, w0, r_fars, r_thing, hm⟩ := h
    have sF : Same F0 F0 := Same.refl _
    obtain ⟨a1, vs1, rfl, q1, h1⟩ := r_fars
    refine ⟨_, (pss_cons (ps_if (pt_val (pe_callB (call_isB (K := K) rfl) (by rfl) T.n_isinstance (by decide +kernel) (pa_cons (pv 2) (pa_cons (pe_bltn (v := .ty "tuple") (by rfl) T.n_tuple (by decide +kernel) rfl) pa_nil)))) (pss_one (ps_ret (pe_callB (call_min2 rfl) (by rfl) T.n_min (by decide +kernel) (pa_cons (pe_ix (ix_listK (K := K) rfl) (pe_ix (ix_listK (K := K) rfl) (pv 0) (pv 1) (fun _ _ => rfl)) (pe_ix (ix_tupK (K := K) rfl) (pv 2) pe_int (fun _ _ => rfl)) (fun _ _ => rfl)) (pa_cons (pe_ix (ix_listK (K := K) rfl) (pe_ix (ix_listK (K := K) rfl) (pv 0) (pv 1) (fun _ _ => rfl)) (pe_ix (ix_tupK (K := K) rfl) (pv 2) pe_int (fun _ _ => rfl)) (fun _ _ => rfl)) pa_nil))))) pss_nil) (pss_one (ps_ret (pe_ix (ix_listK (K := K) rfl) (pe_ix (ix_listK (K := K) rfl) (pv 0) (pv 1) (fun _ _ => rfl)) (pv 2) (fun _ _ => rfl))))), ?_⟩
    obtain ⟨a3, y3, k3⟩ := th_tuple w0.same r_thing
    refine ⟨_, rfl, _, _, _, (!x_thing.isPl), rfl, y3, k3, _, rfl, ?_⟩
    refine post_ite hm (fun k4 hm => ?_) (fun k4 hm => ?_)
    · skip
      obtain ⟨t5, e5, hm⟩ := pb_asTi hm
      have r5 : rep K F0 v_thing (t5 : Int × Int) := (show rep K F0 v_thing (Thing.ti t5.1 t5.2) from e5 ▸ r_thing)
      obtain ⟨a6, u6, z6, rfl, q6, r6a, r6b⟩ := r5
      obtain rfl : u6 = V.int t5.1 := r6a
      obtain rfl : z6 = V.int t5.2 := r6b
      obtain ⟨t7, e7, hm⟩ := pb_get hm
      obtain ⟨u7, f7, r7⟩ := A2.at h1 e7
      obtain ⟨a8, vs8, rfl, q8, h8⟩ := r7
      obtain ⟨t9, e9, hm⟩ := pb_get hm
      obtain ⟨u9, f9, r9⟩ := A2.at h8 e9
      obtain rfl : u9 = V.int t9 := r9
      obtain ⟨t10, e10, hm⟩ := pb_get hm
      obtain ⟨u10, f10, r10⟩ := A2.at h1 e10
      obtain ⟨a11, vs11, rfl, q11, h11⟩ := r10
      obtain ⟨t12, e12, hm⟩ := pb_get hm
      obtain ⟨u12, f12, r12⟩ := A2.at h11 e12
      obtain rfl : u12 = V.int t12 := r12
      exact ⟨_, rfl, _, rfl, _, _, _, _, rfl, rfl, SqL.of (w0.same _ _ q1), f7, _, rfl, _, _, _, _, rfl, rfl, SqT.of (w0.same _ _ q6), rfl, _, _, _, _, rfl, rfl, SqL.of (w0.same _ _ q8), f9, _, rfl, _, rfl, _, _, _, _, rfl, rfl, SqL.of (w0.same _ _ q1), f10, _, rfl, _, _, _, _, rfl, rfl, SqT.of (w0.same _ _ q6), rfl, _, _, _, _, rfl, rfl, SqL.of (w0.same _ _ q11), f12, _, _, rfl, (post_ok hm) _ _ _ w0 sF rep_i⟩
    · skip
      obtain ⟨t13, e13, hm⟩ := pb_asPl hm
      have r13 : v_thing = V.int t13 := (show rep K F0 v_thing (Thing.pl t13) from e13 ▸ r_thing)
      subst r13
      obtain ⟨t14, e14, hm⟩ := pb_get hm
      obtain ⟨u14, f14, r14⟩ := A2.at h1 e14
      obtain ⟨a15, vs15, rfl, q15, h15⟩ := r14
      obtain ⟨t16, e16, hm⟩ := pb_get hm
      obtain ⟨u16, f16, r16⟩ := A2.at h15 e16
      obtain rfl : u16 = V.int t16 := r16
      exact ⟨_, rfl, _, rfl, _, _, _, _, rfl, rfl, SqL.of (w0.same _ _ q1), f14, _, rfl, _, _, _, _, rfl, rfl, SqL.of (w0.same _ _ q15), f16, (post_ok hm) _ _ _ w0 sF rep_i⟩
def sp_parts_by (K : Fg) : Sp := fun vs H Q E => ∃ (F : Hp) (os : List (Addr × HO)) (v_fars : V) (x_fars : (List (List Int))) (v_things : V) (x_things : (Tup Thing)) (x_place : Int), vs = [v_fars, v_things, .int x_place] ∧ W F H (os) ∧ rep K F v_fars x_fars ∧ rep K F v_things x_things ∧ Post (parts_by x_fars x_things x_place) (Ret K F os Q) noX
theorem sc_parts_by : FnScope ["fars", "things", "place", "found", "thing", "answer"] ["fars", "things", "place"] (defScope s_parts_by) := ⟨rfl, rfl, rfl, by decide +kernel, rfl, by decide +kernel, by decide +kernel⟩
theorem ok_parts_by (T : Tx K mg A FD) : FnOk P w K mg base CX0 2 (A 33) (FD 33) ["fars", "things", "place"] (sp_parts_by K) := by
  refine T.d33.fn.ok sc_parts_by (fun vs H Q E h => ?_) (fun cdv Ar outer s H vs Q E hr h => ?_)
  · obtain ⟨F, os, v_fars, x_fars, v_things, x_things, x_place, rfl, _⟩ := h
    rfl
  · obtain ⟨F0, os, v_fars, x_fars, v_things, x_things, x_place, rfl, w0, r_fars, r_things, hm⟩ := h
    have sF : Same F0 F0 := Same.refl _
    obtain ⟨a1, vs1, rfl, q1, h1⟩ := r_fars
    obtain ⟨a2, vs2, rfl, q2, h2⟩ := r_things
    have hr_g : Sto K F0 [] [] ([] : List (List Thing)) := Sto.nil
    replace w0 : W F0 _ ((nz [] [] ++ os)) := w0
    refine ⟨_, (pss_cons (ps_set (i := 3) sc_parts_by.nd rfl (Or.inr rfl) pe_dnewK) (pss_cons (ps_for PassesOwn.never rfl (pi_tupK (K := K) rfl (pv 1)) (pg_name (i := 4) sc_parts_by.nd rfl (Or.inl rfl)) (pss_one (ps_expr (pe_bm PySem.F.plainAttrs_list PySem.F.slot_list_append PySem.F.type_list_append mt_append (pe_dsetdVK (pv 3) (pe_call (ok_far_thing T) (hr.mono (by decide)) (by rfl) T.d32.mg T.d32.fn.kp T.d32.b .nil pass0 (pa_cons (pv 0) (pa_cons (pv 2) (pa_cons (pv 4) pa_nil)))) (pe_lst pa_nil) ⟨rfl, rfl, rfl, rfl⟩) (pa_cons (pv 4) pa_nil))))) (pss_one (ps_ret (pe_lc (own := [("answer", 5)]) (g := gName 5) (by rfl) sc_parts_by.nd (pi_listK (K := K) rfl (pe_callB (cr_sortedDK rfl) (by rfl) T.n_sorted (by decide +kernel) (pa_cons (pv 3) pa_nil))) (blkOk_by (own := [("answer", 5)]) (N := ["fars", "things", "place", "found", "thing", "answer"]) (sc := defScope s_parts_by) (by decide +kernel)) (fun _ _ _ _ _ => (pg_name (i := 5) sc_parts_by.nd rfl (Or.inl rfl))) (fun _ _ _ _ _ => pts_nil) (fun _ _ _ _ _ => (pe_tup (pa_cons (pv 5) (pa_cons (pe_callTy (call_tuple_ofK (K := K) rfl) (by rfl) T.n_tuple (by decide +kernel) (pa_cons (pe_dget (Room.units1 hr) (pv 3) (pv 5) (fun _ _ => rfl)) pa_nil)) pa_nil))))))))), ?_⟩
    refine fun p4 n4 => ?_
    have w4 : W F0 _ ((p4, .dK []) :: (nz [] [] ++ os)) := w0.new n4
    have h4 : AD kK (RX []) [] ([] : (List (Int × Ix))) := .nil
    refine ⟨_, rfl, _, rfl, ⟨_, SqT.of (w4.same _ _ q2)⟩, ?_⟩
    refine forS (tw_tup (a := a2) h2) hm (fun (g5 : (List (Int × Ix)) × (List (List Thing))) σ H' => ∃ (F' : Hp) (vs5_0 : List (Key × V)) (as5_1 : List Addr) (vs5_1 : List (List V)) (o5_4 : Option V), σ = [some (.ref a1), some (.ref a2), some (.int x_place), some (.ref p4), o5_4, none] ∧ Same F0 F' ∧ W F' H' ((p4, .dK vs5_0) :: (nz as5_1 vs5_1 ++ os)) ∧ AD kK (RX as5_1) vs5_0 g5.1 ∧ [] <+: as5_1 ∧ Sto K F' as5_1 vs5_1 g5.2) ⟨_, _, _, _, _, rfl, Same.refl _, w4, h4, pfx_refl, hr_g⟩ (fun g σ H' hI => by obtain ⟨F', _, _, _, _, _, s, w, _⟩ := hI; exact SqT.of (w.same _ _ (s _ _ q2))) ?_ ?_
    · -- a turn
      intro b5 g5 x5 σ5 H5 H5' N5 P5 hI hy hN5 hm
      obtain ⟨F5, vs5_0, as5_1, vs5_1, o5_4, rfl, s5, w5, h5_0, p5_1, h5_1⟩ := hI
      replace h1 := A2.mono s5 h1
      replace q1 := s5 _ _ q1
      replace h2 := A2.mono s5 h2
      replace q2 := s5 _ _ q2
      replace sF := sF.trans s5
      obtain ⟨rfl, r6⟩ := hy
      replace r6 := Rep.mono s5 r6
      refine ⟨_, rfl, _, rfl, isD_k (w5.get (pre := [])), _, rfl, _, rfl, _, rfl, _, _, _, (x_fars : (List (List Int))), _, _, (b5 : Thing), rfl, w5, (rep_lst q1 h1), r6, ?_⟩
      refine (post_bind hm).mono (fun y8 hm v8 F8 H8 w8 s8 r8 => ?_) (fun _ z => z)
      replace h1 := A2.mono s8 h1
      replace q1 := s8 _ _ q1
      replace h2 := A2.mono s8 h2
      replace q2 := s8 _ _ q2
      replace r6 := Rep.mono s8 r6
      replace h5_1 := Sto.mono s8 h5_1
      replace sF := sF.trans s8
      obtain rfl : v8 = V.int y8 := r8
      have h9 : A2 (rep K F8) [] ([] : (List Thing)) := .nil
      refine ⟨(by show 0 ≤ sizeLine; decide), fun p10 n10 => ?_⟩
      have w10 : W F8 _ ((p10, .lst []) :: (p4, .dK vs5_0) :: (nz as5_1 vs5_1 ++ os)) := w8.new n10
      obtain ⟨j11, st11, ej11, es11, hm⟩ := pn_newS hm
      have w11 : W F8 _ ((p4, .dK vs5_0) :: (nz (as5_1 ++ [p10]) (vs5_1 ++ [[]]) ++ os)) := w10.nadd (pre := [_]) h5_1.len
      have q11 : (as5_1 ++ [p10])[j11]? = some p10 := IQ.new (h5_1.len2.trans ej11.symm)
      have h11 : Sto K F8 (as5_1 ++ [p10]) (vs5_1 ++ [[]]) st11 := es11 ▸ Sto.snoc (p := p10) h5_1 h9
      replace h5_0 := AD.imp (fun _ _ => RX.mono (pfx_snoc (p := p10))) h5_0
      obtain ⟨l12, z12, e12, hm⟩ := pn_msetd hm
      obtain ⟨t12, i12, hm⟩ := pb_mget hm
      have h12 : AD kK (RX (as5_1 ++ [p10])) (setdKK vs5_0 (kK y8) (.ref p10)) l12 := e12 ▸ AD.setdK h5_0 ⟨_, rfl, q11⟩
      obtain ⟨u12, f12, r12⟩ := AD.get kK_inj h12 i12
      refine ⟨_, _, _, (w11.get (pre := [])), rfl, (by rw [AD.length h5_0]; exact z12), f12, ?_⟩
      have w13 : W F8 _ ((p4, .dK (setdKK vs5_0 (kK y8) (.ref p10))) :: (nz (as5_1 ++ [p10]) (vs5_1 ++ [[]]) ++ os)) := w11.set (pre := [])
      obtain ⟨a14, rfl, q14⟩ := r12
      obtain ⟨x15, e15, hm⟩ := pb_getS hm
      obtain ⟨vs15, i15, h15⟩ := Sto.getq h11 e15 q14
      obtain ⟨l16, z16, e16, hm⟩ := pn_app hm
      obtain ⟨st16, es16, hm⟩ := pn_setS hm
      refine ⟨.inl ⟨rfl, _, SqL.of (W.nget (pre := [_]) w13 q14 i15)⟩, _, rfl, _, _, _, rfl, rfl, (W.nget (pre := [_]) w13 q14 i15), (A2.lt h15 z16), ?_⟩
      have h16 : Sto K F8 (as5_1 ++ [p10]) ((vs5_1 ++ [[]]).set t12 (vs15 ++ [x5])) st16 := es16 ▸ Sto.set h11 (e16 ▸ A2.snoc h15 r6)
      have w16 : W F8 _ ((p4, .dK (setdKK vs5_0 (kK y8) (.ref p10))) :: (nz (as5_1 ++ [p10]) ((vs5_1 ++ [[]]).set t12 (vs15 ++ [x5])) ++ os)) := w13.nset (pre := [_]) (vs15 ++ [x5]) q14 i15
      exact hN5 _ (post_ok hm) _ _ ⟨_, _, _, _, _, rfl, (s5.trans s8), w16, h12, (pfx_trans p5_1 (pfx_snoc (p := p10))), h16⟩
    intro g5 σ5 H5 hI hm
    obtain ⟨F5, vs5_0, as5_1, vs5_1, o5_4, rfl, s5, w5, h5_0, p5_1, h5_1⟩ := hI
    replace h1 := A2.mono s5 h1
    replace q1 := s5 _ _ q1
    replace h2 := A2.mono s5 h2
    replace q2 := s5 _ _ q2
    replace sF := sF.trans s5
    refine ⟨_, rfl, _, _, _, rfl, (.inl (w5.get (pre := []))), keysI_of h5_0, fun ns17 p17 u17 i17 n17 => ?_⟩
    obtain rfl : ns17 = (sortI (g5.1.map (·.1))) := sortI_eq u17 i17
    have h17 : A2 (rep K F5) ((sortI (g5.1.map (·.1))).map V.int) (sortI (g5.1.map (·.1))) := A2.of_ints
    have w17 : W F5 _ ((p17, .lst ((sortI (g5.1.map (·.1))).map V.int)) :: (p4, .dK vs5_0) :: (nz as5_1 vs5_1 ++ os)) := w5.new n17
    obtain ⟨F19, s19, w19, q19⟩ : ∃ F', Same F5 F' ∧ W F' _ ((p4, .dK vs5_0) :: (nz as5_1 vs5_1 ++ os)) ∧ F' p17 = some (.lst ((sortI (g5.1.map (·.1))).map V.int)) := w17.freezeE (pre := [])
    replace h1 := A2.mono s19 h1
    replace q1 := s19 _ _ q1
    replace h2 := A2.mono s19 h2
    replace q2 := s19 _ _ q2
    replace h5_1 := Sto.mono s19 h5_1
    replace h17 := A2.mono s19 h17
    replace sF := sF.trans s19
    refine ⟨_, rfl, ⟨_, SqL.of (w19.same _ _ q19)⟩, fun D20 nD20 => ?_⟩
    refine lcM (K := K) (tw_list (a := p17) h17) hm w19 nD20 (fun F' H' acc s w => SqL.of (w.same _ _ (s _ _ q19))) ?_ ?_
    · -- one turn
      intro b20 x20 F20 H20 H20' acc20 N20 P20 s20 w20 y20 hN20 hm
      replace h1 := A2.mono s20 h1
      replace q1 := s20 _ _ q1
      replace h2 := A2.mono s20 h2
      replace q2 := s20 _ _ q2
      replace h5_1 := Sto.mono s20 h5_1
      replace h17 := A2.mono s20 h17
      replace q19 := s20 _ _ q19
      replace sF := sF.trans s20
      obtain ⟨rfl, r22⟩ := y20
      obtain rfl : x20 = V.int b20 := r22
      obtain ⟨t23, e23, hm⟩ := pb_mget hm
      obtain ⟨u23, f23, r23⟩ := AD.get kK_inj h5_0 e23
      obtain ⟨a24, rfl, q24⟩ := r23
      obtain ⟨x25, e25, hm⟩ := pb_getS hm
      obtain ⟨vs25, i25, h25⟩ := Sto.getq h5_1 e25 q24
      have h26 : A2 (rep K F20) vs25 x25 := h25
      refine ⟨rfl, _, rfl, _, rfl, _, rfl, _, _, rfl, dgetsI (w20.get (pre := [_])) f23, _, _, rfl, .inl ⟨SqL.of (W.nget (pre := [_, _]) w20 q24 i25), fun p27 n27 => ?_⟩⟩
      obtain ⟨F27, s27, w27, q27⟩ := w20.frzE (o := .tup vs25) n27
      replace h1 := A2.mono s27 h1
      replace q1 := s27 _ _ q1
      replace h2 := A2.mono s27 h2
      replace q2 := s27 _ _ q2
      replace h5_1 := Sto.mono s27 h5_1
      replace h17 := A2.mono s27 h17
      replace q19 := s27 _ _ q19
      replace h25 := A2.mono s27 h25
      replace h26 := A2.mono s27 h26
      replace sF := sF.trans s27
      refine ⟨(by show 2 ≤ sizeLine; decide), fun p28 n28 => ?_⟩
      obtain ⟨F28, s28, w28, q28⟩ := w27.frzE (o := .tup [(.int b20), (.ref p27)]) n28
      replace h1 := A2.mono s28 h1
      replace q1 := s28 _ _ q1
      replace h2 := A2.mono s28 h2
      replace q2 := s28 _ _ q2
      replace h5_1 := Sto.mono s28 h5_1
      replace h17 := A2.mono s28 h17
      replace q19 := s28 _ _ q19
      replace h25 := A2.mono s28 h25
      replace h26 := A2.mono s28 h26
      replace q27 := s28 _ _ q27
      replace sF := sF.trans s28
      exact hN20 _ (post_ok hm) _ _ _ w28 (s27.trans s28) (rep_pair q28 rep_i (rep_tup q27 h26))
    intro us20 F20 H20 ys20 s20 w20 gg20 hm
    replace h1 := A2.mono s20 h1
    replace q1 := s20 _ _ q1
    replace h2 := A2.mono s20 h2
    replace q2 := s20 _ _ q2
    replace h5_1 := Sto.mono s20 h5_1
    replace h17 := A2.mono s20 h17
    replace q19 := s20 _ _ q19
    replace sF := sF.trans s20
    obtain ⟨F30, s30, w30, q30⟩ : ∃ F', Same F20 F' ∧ W F' _ ((p4, .dK vs5_0) :: (nz as5_1 vs5_1 ++ os)) ∧ F' D20 = some (.lst us20) := w20.freezeE (pre := [])
    replace h1 := A2.mono s30 h1
    replace q1 := s30 _ _ q1
    replace h2 := A2.mono s30 h2
    replace q2 := s30 _ _ q2
    replace h5_1 := Sto.mono s30 h5_1
    replace h17 := A2.mono s30 h17
    replace q19 := s30 _ _ q19
    replace gg20 := A2.mono s30 gg20
    replace sF := sF.trans s30
    have w31 : W F30 _ ((nz as5_1 vs5_1 ++ os)) := w30.drop (pre := [])
    have w32 : W F30 _ (os) := w31.dropL (pre := [])
    exact (post_ok hm) _ _ _ w32 sF (rep_lst q30 gg20)
def sp_Asking_init (K : Fg) : Sp := fun vs H Q E => ∃ (F : Hp) (os : List (Addr × HO)) (a_self : Addr) (dx_self : Addr) (C_self : Addr) (v_web : V) (x_web : (Int × (Tup (Int × Int)))), vs = [.ref a_self, v_web] ∧ W F H ((a_self, .ins C_self dx_self []) :: (dx_self, .own a_self) :: os) ∧ Nm K "Asking" C_self ∧ rep K F v_web x_web ∧ Post (Asking_init x_web) (fun (y : AskingF) => ∀ (u_fars : V) (p_least : Addr) (us_least : List Ent) (p_best : Addr) (us_best : List Ent) (F' H' : Hp), W F' H' ((a_self, .ins C_self dx_self (mkfs [("fars" : Str), ("least" : Str), ("best" : Str)] [u_fars, .ref p_least, .ref p_best])) :: (dx_self, .own a_self) :: (p_least, DnO p_least us_least) :: (p_best, DnO p_best us_best) :: os) → Same F F' → rep K F' u_fars (y.1 : (List (List Int))) → ADN K F' (rep K F') us_least y.2.1 → ADN K F' (rep K F') us_best y.2.2.1 → Q .non H') noX
theorem sc_Asking_init : FnScope ["self", "web"] ["self", "web"] (defScope s_Asking_init) := ⟨rfl, rfl, rfl, by decide +kernel, rfl, by decide +kernel, by decide +kernel⟩
theorem ok_Asking_init (T : Tx K mg A FD) : FnOk P w K mg base CX0 4 (A 35000) (FD 35000) ["self", "web"] (sp_Asking_init K) := by
  refine T.d35000.fn.ok sc_Asking_init (fun vs H Q E h => ?_) (fun cdv Ar outer s H vs Q E hr h => ?_)
  · obtain ⟨F, os, a_self, dx_self, C_self, v_web, x_web, rfl, _⟩ := h
    rfl
  · obtain ⟨F0, os, a_self, dx_self, C_self, v_web, x_web, rfl, w0, n_self, r_web, hm⟩ := h
    have sF : Same F0 F0 := Same.refl _
    obtain rfl := n_self.uniq T.nm_Asking
    obtain ⟨a3, u3, z3, rfl, q3, r3a, r3b⟩ := r_web
    obtain rfl : u3 = V.int x_web.1 := r3a
    obtain ⟨a4, vs4, rfl, q4, h4⟩ := r3b
    refine ⟨_, (pss_cons (ps_fld (pv 0) (pe_call (ok_all_fars T) (hr.mono (by decide)) (by rfl) T.d31.mg T.d31.fn.kp T.d31.b .nil pass0 (pa_cons (pv 1) pa_nil)) (by rfl)) (pss_cons (ps_fld (pv 0) pe_dnewN (by rfl)) (pss_one (ps_fld (pv 0) pe_dnewN (by rfl))))), ?_⟩
    refine ⟨_, rfl, _, _, _, (x_web : (Int × (Tup (Int × Int)))), rfl, w0, (rep_pair q3 rep_i (rep_tup q4 h4)), ?_⟩
    refine (post_bind hm).mono (fun y5 hm v5 F5 H5 w5 s5 r5 => ?_) (fun _ z => z)
    replace q3 := s5 _ _ q3
    replace q4 := s5 _ _ q4
    replace h4 := A2.mono s5 h4
    replace sF := sF.trans s5
    obtain ⟨a6, vs6, rfl, q6, h6⟩ := r5
    refine ⟨_, rfl, _, _, _, _, rfl, (w5.get (pre := [])), T.cl_Asking, T.na_Asking_fars, (Nat.lt_of_le_of_lt (Nat.le_refl _) (by decide : 0 < 1000)), ?_⟩
    have w7 : W F5 _ ((a_self, (.ins (A 34) dx_self (putF ("fars" : Str) (.ref a6) []))) :: (dx_self, (.own a_self)) :: os) := w5.set (pre := [])
    refine fun p8 n8 => ?_
    have w8 : W F5 _ ((p8, DnO p8 []) :: (a_self, (.ins (A 34) dx_self (putF ("fars" : Str) (.ref a6) []))) :: (dx_self, (.own a_self)) :: os) := w7.new n8
    have h8 : ADN K F5 (rep K F5) [] ([] : (List ((Tup Thing) × Int))) := .nil
    refine ⟨_, rfl, _, _, _, _, rfl, (w8.get (pre := [_])), T.cl_Asking, T.na_Asking_least, (Nat.lt_of_le_of_lt (Nat.le_trans (length_putF _ _ _) (Nat.succ_le_succ (Nat.le_refl _))) (by decide : 1 < 1000)), ?_⟩
    have w9 : W F5 _ ((p8, DnO p8 []) :: (a_self, (.ins (A 34) dx_self (putF ("least" : Str) (.ref p8) (putF ("fars" : Str) (.ref a6) [])))) :: (dx_self, (.own a_self)) :: os) := w8.set (pre := [_])
    refine fun p10 n10 => ?_
    have w10 : W F5 _ ((p10, DnO p10 []) :: (p8, DnO p8 []) :: (a_self, (.ins (A 34) dx_self (putF ("least" : Str) (.ref p8) (putF ("fars" : Str) (.ref a6) [])))) :: (dx_self, (.own a_self)) :: os) := w9.new n10
    have h10 : ADN K F5 (rep K F5) [] ([] : (List ((Tup Thing) × Int))) := .nil
    refine ⟨_, rfl, _, _, _, _, rfl, (w10.get (pre := [_, _])), T.cl_Asking, T.na_Asking_best, (Nat.lt_of_le_of_lt (Nat.le_trans (length_putF _ _ _) (Nat.succ_le_succ (Nat.le_trans (length_putF _ _ _) (Nat.succ_le_succ (Nat.le_refl _))))) (by decide : 2 < 1000)), ?_⟩
    have w11 : W F5 _ ((p10, DnO p10 []) :: (p8, DnO p8 []) :: (a_self, (.ins (A 34) dx_self (putF ("best" : Str) (.ref p10) (putF ("least" : Str) (.ref p8) (putF ("fars" : Str) (.ref a6) []))))) :: (dx_self, (.own a_self)) :: os) := w10.set (pre := [_, _])
    replace w11 : W F5 _ ((p10, DnO p10 []) :: (p8, DnO p8 []) :: (a_self, (.ins (A 34) dx_self (mkfs [("fars" : Str), ("least" : Str), ("best" : Str)] [(.ref a6), (.ref p8), (.ref p10)]))) :: (dx_self, (.own a_self)) :: os) := w11
    have w12 : W F5 _ ((p8, DnO p8 []) :: (p10, DnO p10 []) :: (a_self, (.ins (A 34) dx_self (mkfs [("fars" : Str), ("least" : Str), ("best" : Str)] [(.ref a6), (.ref p8), (.ref p10)]))) :: (dx_self, (.own a_self)) :: os) := w11.front (pre := [_])
    have w13 : W F5 _ ((dx_self, (.own a_self)) :: (p8, DnO p8 []) :: (p10, DnO p10 []) :: (a_self, (.ins (A 34) dx_self (mkfs [("fars" : Str), ("least" : Str), ("best" : Str)] [(.ref a6), (.ref p8), (.ref p10)]))) :: os) := w12.front (pre := [_, _, _])
    have w14 : W F5 _ ((a_self, (.ins (A 34) dx_self (mkfs [("fars" : Str), ("least" : Str), ("best" : Str)] [(.ref a6), (.ref p8), (.ref p10)]))) :: (dx_self, (.own a_self)) :: (p8, DnO p8 []) :: (p10, DnO p10 []) :: os) := w13.front (pre := [_, _, _])
    exact (post_ok hm) _ _ _ _ _ _ _ w14 sF (rep_lst q6 h6) h8 h10
def sp_Asking_need (d : Nat) (K : Fg) : Sp := fun vs H Q E => ∃ (F : Hp) (os : List (Addr × HO)) (a_self : Addr) (dx_self : Addr) (C_self : Addr) (v_self_fars : V) (a_self_least : Addr) (vs_self_least : List Ent) (a_self_best : Addr) (vs_self_best : List Ent) (x_self : AskingF) (v_things : V) (x_things : (Tup Thing)), vs = [.ref a_self, v_things] ∧ W F H ((a_self, .ins C_self dx_self (mkfs [("fars" : Str), ("least" : Str), ("best" : Str)] [v_self_fars, .ref a_self_least, .ref a_self_best])) :: (dx_self, .own a_self) :: (a_self_least, DnO a_self_least vs_self_least) :: (a_self_best, DnO a_self_best vs_self_best) :: os) ∧ Nm K "Asking" C_self ∧ rep K F v_self_fars (x_self.1 : (List (List Int))) ∧ ADN K F (rep K F) vs_self_least x_self.2.1 ∧ ADN K F (rep K F) vs_self_best x_self.2.2.1 ∧ rep K F v_things x_things ∧ Post (Asking_need d x_self x_things) (fun (y : (Int × (List ((Tup Thing) × Int)) × (List ((Tup Thing) × Int)))) => ∀ (v : V) (zs_self_least : List Ent) (zs_self_best : List Ent) (F' H' : Hp), W F' H' ((a_self, .ins C_self dx_self (mkfs [("fars" : Str), ("least" : Str), ("best" : Str)] [v_self_fars, .ref a_self_least, .ref a_self_best])) :: (dx_self, .own a_self) :: (a_self_least, DnO a_self_least zs_self_least) :: (a_self_best, DnO a_self_best zs_self_best) :: os) → Same F F' → rep K F' v (y.1 : Int) → ADN K F' (rep K F') zs_self_least y.2.1 → ADN K F' (rep K F') zs_self_best y.2.2 → Q v H') noX
theorem sc_Asking_need : FnScope ["self", "things", "fewest", "place", "parts", "asks", "answer", "part"] ["self", "things"] (defScope s_Asking_need) := ⟨rfl, rfl, rfl, by decide +kernel, rfl, by decide +kernel, by decide +kernel⟩
theorem ok_Asking_need (T : Tx K mg A FD) (d : Nat) : FnOk P w K mg base CX0 (3 + d) (A 35001) (FD 35001) ["self", "things"] (sp_Asking_need d K) := by
  induction d with
  | zero =>
    refine T.d35001.fn.ok (k := 2) sc_Asking_need (fun vs H Q E h => ?_) (fun cdv Ar outer s H vs Q E hr h => ?_)
    · obtain ⟨F, os, a_self, dx_self, C_self, v_self_fars, a_self_least, vs_self_least, a_self_best, vs_self_best, x_self, v_things, x_things, rfl, _⟩ := h
      rfl
    · obtain ⟨F0, os, a_self, dx_self, C_self, v_self_fars, a_self_least, vs_self_least, a_self_best, vs_self_best, x_self, v_things, x_things, rfl, w0, n_self, r_self_fars, h_self_least, h_self_best, r_things, hm⟩ := h
      refine ⟨_, (pss_cons ps_absurd (pss_cons ps_absurd (pss_cons ps_absurd (pss_cons ps_absurd (pss_one ps_absurd))))), ?_⟩
      exact hm
  | succ d ih =>
    refine T.d35001.fn.ok (k := 3 + d) sc_Asking_need (fun vs H Q E h => ?_) (fun cdv Ar outer s H vs Q E hr h => ?_)
    · obtain ⟨F, os, a_self, dx_self, C_self, v_self_fars, a_self_least, vs_self_least, a_self_best, vs_self_best, x_self, v_things, x_things, rfl, _⟩ := h
      rfl
    · obtain ⟨F0, os, a_self, dx_self, C_self, v_self_fars, a_self_least, vs_self_least, a_self_best, vs_self_best, x_self, v_things, x_things, rfl, w0, n_self, r_self_fars, h_self_least, h_self_best, r_things, hm⟩ := h
      rw [Asking_need] at hm
      have sF : Same F0 F0 := Same.refl _
      obtain rfl := n_self.uniq T.nm_Asking
      obtain ⟨a5, vs5, rfl, q5, h5⟩ := r_things
      obtain ⟨a6, vs6, rfl, q6, h6⟩ := r_self_fars
      refine ⟨_, (pss_cons (ps_if (pt_cmp (pc_dinM hr.units (pv 1) (pe_fld (pv 0) (by rfl)))) (pss_one (ps_ret (pe_dgetN hr.units (pe_fld (pv 0) (by rfl)) (pv 1) (fun _ _ => rfl)))) pss_nil) (pss_cons (ps_set (i := 2) sc_Asking_need.nd rfl (Or.inl rfl) pe_int1) (pss_cons (ps_if (pt_cmp (pc_gt (pe_callB (call_lenN (K := K) rfl) (by rfl) T.n_len (by decide +kernel) (pa_cons (pv 1) pa_nil)) pe_int)) (pss_cons (ps_set (i := 2) sc_Asking_need.nd rfl (Or.inl rfl) (pe_callB (call_lenN (K := K) rfl) (by rfl) T.n_len (by decide +kernel) (pa_cons (pv 1) pa_nil))) (pss_one (ps_for PassesOwn.never rfl (pi_range1 (by rfl) T.n_range (pa_cons (pe_callB (call_lenN (K := K) rfl) (by rfl) T.n_len (by decide +kernel) (pa_cons (pe_fld (pv 0) (by rfl)) pa_nil)) pa_nil)) (pg_name (i := 3) sc_Asking_need.nd rfl (Or.inl rfl)) (pss_cons (ps_set (i := 4) sc_Asking_need.nd rfl (Or.inl rfl) (pe_call (ok_parts_by T) (hr.mono (by first | decide | omega)) (by rfl) T.d33.mg T.d33.fn.kp T.d33.b .nil pass0 (pa_cons (pe_fld (pv 0) (by rfl)) (pa_cons (pv 1) (pa_cons (pv 3) pa_nil))))) (pss_one (ps_if (pt_cmp (pc_gt (pe_callB (call_lenN (K := K) rfl) (by rfl) T.n_len (by decide +kernel) (pa_cons (pv 4) pa_nil)) pe_int)) (pss_cons (ps_set (i := 5) sc_Asking_need.nd rfl (Or.inl rfl) (pe_op op_add pe_int (pe_callB (cr_maxI (K := K) rfl rfl) (by rfl) T.n_max (by decide +kernel) (pa_cons (pe_lc (own := [("answer", 6), ("part", 7)]) (g := _) (by rfl) sc_Asking_need.nd (pi_listK (K := K) rfl (pv 4)) (blkOk_by (own := [("answer", 6), ("part", 7)]) (N := ["self", "things", "fewest", "place", "parts", "asks", "answer", "part"]) (sc := defScope s_Asking_need) (by decide +kernel)) (fun _ _ _ _ _ => (pg_k (K := K) (t := fun K => gTup K 2 _) rfl (pg_tup (n := 2) rfl (pgs_cons (pg_name (i := 6) sc_Asking_need.nd rfl (Or.inl rfl)) (pgs_cons (pg_name (i := 7) sc_Asking_need.nd rfl (Or.inl rfl)) pgs_nil))))) (fun _ _ _ _ _ => pts_nil) (fun _ _ _ _ _ => (pe_meth (pl := _) (pv 0) T.cl_Asking T.d35001.mt ih (hr.mono (by first | decide | omega)) T.d35001.b .nil pass0 (pa_cons (pv 7) pa_nil)))) pa_nil)))) (pss_one (ps_if (PW.pt (pw_or (pt_cmp (pc_lt (pv 5) (pv 2))) (pw_or1 (pt_cmp (pc_dnotinM hr.units (pv 1) (pe_fld (pv 0) (by rfl))))))) (pss_one (ps_asg (pe_tup (pa_cons (pv 5) (pa_cons (pv 3) pa_nil))) (pg_k (K := K) (t := fun K => gTup K 2 _) rfl (pg_tup (n := 2) rfl (pgs_cons (pg_name (i := 2) sc_Asking_need.nd rfl (Or.inl rfl)) (pgs_cons (pg_sub (pe_fld (pv 0) (by rfl)) (pv 1) (set_dn hr.units)) pgs_nil)))))) pss_nil))) pss_nil)))))) pss_nil) (pss_cons (ps_dputN hr.units (pe_fld (pv 0) (by rfl)) (pv 1) (pv 2) (by rfl)) (pss_one (ps_ret (pv 2))))))), ?_⟩
      refine ⟨_, rfl, _, rfl, _, _, _, _, _, rfl, (w0.get (pre := [])), T.cl_Asking, T.na_Asking_least, (fl_Asking_least ((.ref a6) : V) ((.ref a_self_least) : V) ((.ref a_self_best) : V)), _, _, _, rfl, dgetN (.inl (w0.get (pre := [_, _]))) w0.same h_self_least (rep_tup q5 h5), ADN.has h_self_least _, _, rfl, ?_⟩
      refine post_ite hm (fun k7 hm => ?_) (fun k7 hm => ?_)
      · skip
        obtain ⟨t8, e8, hm⟩ := pb_mget hm
        obtain ⟨u8, f8, r8⟩ := ADN.some h_self_least e8
        obtain rfl : u8 = V.int t8 := r8
        exact ⟨_, rfl, _, _, _, _, _, rfl, (w0.get (pre := [])), T.cl_Asking, T.na_Asking_least, (fl_Asking_least ((.ref a6) : V) ((.ref a_self_least) : V) ((.ref a_self_best) : V)), _, rfl, _, _, rfl, dgetsN (.inl (w0.get (pre := [_, _]))) w0.same h_self_least (rep_tup q5 h5) f8, (post_ok hm) _ _ _ _ _ w0 sF rep_i h_self_least h_self_best⟩
      · skip
        refine ⟨trivial, ?_⟩
        refine stepN ?_
        try dsimp only
        refine joinS hm (fun (g9 : Int × (List ((Tup Thing) × Int)) × (List ((Tup Thing) × Int))) σ H' => ∃ (F' : Hp) (vs9_0 : List Ent) (vs9_1 : List Ent) (o9_3 : Option V) (o9_4 : Option V) (o9_5 : Option V), σ = [some (.ref a_self), some (.ref a5), some (.int g9.1), o9_3, o9_4, o9_5, none, none] ∧ Same F0 F' ∧ W F' H' ((a_self, (.ins (A 34) dx_self (mkfs [("fars" : Str), ("least" : Str), ("best" : Str)] [(.ref a6), (.ref a_self_least), (.ref a_self_best)]))) :: (dx_self, (.own a_self)) :: (a_self_least, DnO a_self_least vs9_0) :: (a_self_best, DnO a_self_best vs9_1) :: os) ∧ ADN K F' (rep K F') vs9_0 g9.2.1 ∧ ADN K F' (rep K F') vs9_1 g9.2.2) ?_ ?_
        · intro N9 P9 hN9 hm
          refine ⟨_, rfl, _, _, _, rfl, .inr (SqT.of (w0.same _ _ q5)), h5.length, _, _, rfl, rfl, _, rfl, ?_⟩
          refine post_ite hm (fun k10 hm => ?_) (fun k10 hm => ?_)
          · skip
            obtain ⟨c12, hm⟩ := pb_rng hm
            refine ⟨_, rfl, _, _, _, rfl, .inr (SqT.of (w0.same _ _ q5)), h5.length, _, rfl, _, _, _, _, _, rfl, (w0.get (pre := [])), T.cl_Asking, T.na_Asking_fars, (fl_Asking_fars ((.ref a6) : V) ((.ref a_self_least) : V) ((.ref a_self_best) : V)), _, _, _, rfl, .inl (SqL.of (w0.same _ _ q6)), h6.length, _, rfl, c12.2.2.1, c12.2.2.2, ?_⟩
            refine forS (tw_rng0 (j := (x_self.1.length : Int))) hm (fun (g11 : Int × (List ((Tup Thing) × Int)) × (List ((Tup Thing) × Int))) σ H' => ∃ (F' : Hp) (vs11_0 : List Ent) (vs11_1 : List Ent) (o11_4 : Option V) (o11_5 : Option V) (o11_3 : Option V), σ = [some (.ref a_self), some (.ref a5), some (.int g11.1), o11_3, o11_4, o11_5, none, none] ∧ Same F0 F' ∧ W F' H' ((a_self, (.ins (A 34) dx_self (mkfs [("fars" : Str), ("least" : Str), ("best" : Str)] [(.ref a6), (.ref a_self_least), (.ref a_self_best)]))) :: (dx_self, (.own a_self)) :: (a_self_least, DnO a_self_least vs11_0) :: (a_self_best, DnO a_self_best vs11_1) :: os) ∧ ADN K F' (rep K F') vs11_0 g11.2.1 ∧ ADN K F' (rep K F') vs11_1 g11.2.2) ⟨_, _, _, _, _, _, rfl, Same.refl _, w0, h_self_least, h_self_best⟩ (fun _ _ _ _ => trivial) ?_ ?_
            · -- a turn
              intro b11 g11 x11 σ11 H11 H11' N11 P11 hI hy hN11 hm
              obtain ⟨F11, vs11_0, vs11_1, o11_4, o11_5, o11_3, rfl, s11, w11, h11_0, h11_1⟩ := hI
              replace h5 := A2.mono s11 h5
              replace q5 := s11 _ _ q5
              replace h6 := A2.mono s11 h6
              replace q6 := s11 _ _ q6
              replace sF := sF.trans s11
              obtain ⟨rfl, rfl⟩ := hy
              refine ⟨_, rfl, _, _, _, _, _, rfl, (w11.get (pre := [])), T.cl_Asking, T.na_Asking_fars, (fl_Asking_fars ((.ref a6) : V) ((.ref a_self_least) : V) ((.ref a_self_best) : V)), _, rfl, _, rfl, _, _, _, (x_self.1 : (List (List Int))), _, (x_things : (Tup Thing)), _, rfl, w11, (rep_lst q6 h6), (rep_tup q5 h5), ?_⟩
              refine (post_bind hm).mono (fun y13 hm v13 F13 H13 w13 s13 r13 => ?_) (fun _ z => z)
              replace h5 := A2.mono s13 h5
              replace q5 := s13 _ _ q5
              replace h6 := A2.mono s13 h6
              replace q6 := s13 _ _ q6
              replace h11_0 := ADN.imp s13 (fun _ _ r => Rep.mono s13 r) h11_0
              replace h11_1 := ADN.imp s13 (fun _ _ r => Rep.mono s13 r) h11_1
              replace sF := sF.trans s13
              obtain ⟨a14, vs14, rfl, q14, h14⟩ := r13
              refine ⟨_, rfl, _, _, _, rfl, .inl (SqL.of (w13.same _ _ q14)), h14.length, _, _, rfl, rfl, _, rfl, ?_⟩
              refine post_ite hm (fun k15 hm => ?_) (fun k15 hm => ?_)
              · skip
                refine ⟨_, rfl, _, rfl, ⟨_, SqL.of (w13.same _ _ q14)⟩, fun D16 nD16 => ?_⟩
                refine lcMap (K := K) (tw_list (a := a14) h14) hm (fun (g16 : (List ((Tup Thing) × Int)) × (List ((Tup Thing) × Int))) F' os' => ∃ (vs16_0 : List Ent) (vs16_1 : List Ent), os' = (a_self, (.ins (A 34) dx_self (mkfs [("fars" : Str), ("least" : Str), ("best" : Str)] [(.ref a6), (.ref a_self_least), (.ref a_self_best)]))) :: (dx_self, (.own a_self)) :: (a_self_least, DnO a_self_least vs16_0) :: (a_self_best, DnO a_self_best vs16_1) :: os ∧ ADN K F' (rep K F') vs16_0 g16.1 ∧ ADN K F' (rep K F') vs16_1 g16.2) w13 ⟨_, _, rfl, h11_0, h11_1⟩ nD16 (fun g F' H' os' acc s w o => by obtain ⟨_, _, rfl, _, _⟩ := o; exact SqL.of (w.same _ _ (s _ _ q14))) ?_ ?_
                · -- one turn
                  intro b16 g16 x16 F16 H16 H16' os16 acc16 N16 P16 s16 w16 o16 y16 hN16 hm
                  obtain ⟨vs16_0, vs16_1, rfl, h16_0, h16_1⟩ := o16
                  replace h5 := A2.mono s16 h5
                  replace q5 := s16 _ _ q5
                  replace h6 := A2.mono s16 h6
                  replace q6 := s16 _ _ q6
                  replace h14 := A2.mono s16 h14
                  replace q14 := s16 _ _ q14
                  replace sF := sF.trans s16
                  obtain ⟨rfl, r18⟩ := y16
                  replace r18 := Rep.mono s16 r18
                  obtain ⟨a19, u19, z19, rfl, q19, r19a, r19b⟩ := r18
                  obtain rfl : u19 = V.int b16.1 := r19a
                  obtain ⟨a20, vs20, rfl, q20, h20⟩ := r19b
                  have w21 : W F16 _ ((a_self_best, DnO a_self_best vs16_1) :: (D16, .lst acc16) :: (a_self, (.ins (A 34) dx_self (mkfs [("fars" : Str), ("least" : Str), ("best" : Str)] [(.ref a6), (.ref a_self_least), (.ref a_self_best)]))) :: (dx_self, (.own a_self)) :: (a_self_least, DnO a_self_least vs16_0) :: os) := w16.front (pre := [_, _, _, _])
                  have w22 : W F16 _ ((a_self_least, DnO a_self_least vs16_0) :: (a_self_best, DnO a_self_best vs16_1) :: (D16, .lst acc16) :: (a_self, (.ins (A 34) dx_self (mkfs [("fars" : Str), ("least" : Str), ("best" : Str)] [(.ref a6), (.ref a_self_least), (.ref a_self_best)]))) :: (dx_self, (.own a_self)) :: os) := w21.front (pre := [_, _, _, _])
                  have w23 : W F16 _ ((dx_self, (.own a_self)) :: (a_self_least, DnO a_self_least vs16_0) :: (a_self_best, DnO a_self_best vs16_1) :: (D16, .lst acc16) :: (a_self, (.ins (A 34) dx_self (mkfs [("fars" : Str), ("least" : Str), ("best" : Str)] [(.ref a6), (.ref a_self_least), (.ref a_self_best)]))) :: os) := w22.front (pre := [_, _, _, _])
                  have w24 : W F16 _ ((a_self, (.ins (A 34) dx_self (mkfs [("fars" : Str), ("least" : Str), ("best" : Str)] [(.ref a6), (.ref a_self_least), (.ref a_self_best)]))) :: (dx_self, (.own a_self)) :: (a_self_least, DnO a_self_least vs16_0) :: (a_self_best, DnO a_self_best vs16_1) :: (D16, .lst acc16) :: os) := w23.front (pre := [_, _, _, _])
                  refine ⟨_, _, rfl, SqT.of (w16.same _ _ q19), rfl, _, _, rfl, _, _, rfl, rfl, rfl, _, rfl, _, _, _, rfl, (w16.get (pre := [_])), fm0_Asking_need ((.ref a6) : V) ((.ref a_self_least) : V) ((.ref a_self_best) : V), _, rfl, _, _, _, _, _, _, _, _, _, _, ((x_self.1, g16.1, g16.2, ()) : AskingF), _, (b16.2 : (Tup Thing)), rfl, w24, T.nm_Asking, (rep_lst q6 h6), h16_0, h16_1, (rep_tup q20 h20), ?_⟩
                  refine (post_bind hm).mono (fun y25 hm v25 vs25 vs25_1 F25 H25 w25 s25 r25 h25 h25_1 => ?_) (fun _ z => z)
                  replace h5 := A2.mono s25 h5
                  replace q5 := s25 _ _ q5
                  replace h6 := A2.mono s25 h6
                  replace q6 := s25 _ _ q6
                  replace h14 := A2.mono s25 h14
                  replace q14 := s25 _ _ q14
                  replace q19 := s25 _ _ q19
                  replace q20 := s25 _ _ q20
                  replace h20 := A2.mono s25 h20
                  replace sF := sF.trans s25
                  obtain rfl : v25 = V.int y25.1 := r25
                  have w26 : W F25 _ ((a_self_best, DnO a_self_best vs25_1) :: (a_self, (.ins (A 34) dx_self (mkfs [("fars" : Str), ("least" : Str), ("best" : Str)] [(.ref a6), (.ref a_self_least), (.ref a_self_best)]))) :: (dx_self, (.own a_self)) :: (a_self_least, DnO a_self_least vs25) :: (D16, .lst acc16) :: os) := w25.front (pre := [_, _, _])
                  have w27 : W F25 _ ((a_self_least, DnO a_self_least vs25) :: (a_self_best, DnO a_self_best vs25_1) :: (a_self, (.ins (A 34) dx_self (mkfs [("fars" : Str), ("least" : Str), ("best" : Str)] [(.ref a6), (.ref a_self_least), (.ref a_self_best)]))) :: (dx_self, (.own a_self)) :: (D16, .lst acc16) :: os) := w26.front (pre := [_, _, _])
                  have w28 : W F25 _ ((dx_self, (.own a_self)) :: (a_self_least, DnO a_self_least vs25) :: (a_self_best, DnO a_self_best vs25_1) :: (a_self, (.ins (A 34) dx_self (mkfs [("fars" : Str), ("least" : Str), ("best" : Str)] [(.ref a6), (.ref a_self_least), (.ref a_self_best)]))) :: (D16, .lst acc16) :: os) := w27.front (pre := [_, _, _])
                  have w29 : W F25 _ ((a_self, (.ins (A 34) dx_self (mkfs [("fars" : Str), ("least" : Str), ("best" : Str)] [(.ref a6), (.ref a_self_least), (.ref a_self_best)]))) :: (dx_self, (.own a_self)) :: (a_self_least, DnO a_self_least vs25) :: (a_self_best, DnO a_self_best vs25_1) :: (D16, .lst acc16) :: os) := w28.front (pre := [_, _, _])
                  have w30 : W F25 _ ((D16, .lst acc16) :: (a_self, (.ins (A 34) dx_self (mkfs [("fars" : Str), ("least" : Str), ("best" : Str)] [(.ref a6), (.ref a_self_least), (.ref a_self_best)]))) :: (dx_self, (.own a_self)) :: (a_self_least, DnO a_self_least vs25) :: (a_self_best, DnO a_self_best vs25_1) :: os) := w29.front (pre := [_, _, _, _])
                  exact hN16 _ _ (post_ok hm) _ _ _ _ w30 s25 ⟨_, _, rfl, h25, h25_1⟩ rep_i
                intro g16 us16 F16 H16 os16 ys16 s16 w16 o16 gg16 hm
                obtain ⟨vs16_0, vs16_1, rfl, h16_0, h16_1⟩ := o16
                replace h5 := A2.mono s16 h5
                replace q5 := s16 _ _ q5
                replace h6 := A2.mono s16 h6
                replace q6 := s16 _ _ q6
                replace h14 := A2.mono s16 h14
                replace q14 := s16 _ _ q14
                replace sF := sF.trans s16
                obtain ⟨t32, e32, hm⟩ := pb_max hm
                have w33 : W F16 _ ((a_self, (.ins (A 34) dx_self (mkfs [("fars" : Str), ("least" : Str), ("best" : Str)] [(.ref a6), (.ref a_self_least), (.ref a_self_best)]))) :: (dx_self, (.own a_self)) :: (a_self_least, DnO a_self_least vs16_0) :: (a_self_best, DnO a_self_best vs16_1) :: os) := w16.drop (pre := [])
                refine ⟨_, _, _, rfl, ints_q (SqL.of (w16.get (pre := []))) gg16, e32, _, _, rfl, rfl, ?_⟩
                refine stepN ?_
                try dsimp only
                refine stepIf ?_
                refine cutT (fun c H' => c = (((decide (((1 : Int) + t32) < g11.1)) || (!mhas g16.2 x_things))) ∧ ∃ F', Same F16 F' ∧ W F' H' ((a_self, (.ins (A 34) dx_self (mkfs [("fars" : Str), ("least" : Str), ("best" : Str)] [(.ref a6), (.ref a_self_least), (.ref a_self_best)]))) :: (dx_self, (.own a_self)) :: (a_self_least, DnO a_self_least vs16_0) :: (a_self_best, DnO a_self_best vs16_1) :: os)) (fun Q34 q34 => ?_) (fun c34 H34 hc34 => ?_)
                · -- the ways
                  refine ⟨_, rfl, _, rfl, _, _, rfl, rfl, _, rfl, ?_⟩
                  refine ifB (fun k35 => ?_) (fun k35 => ?_)
                  · skip
                    exact q34 _ _ ⟨(by first | rfl | exact absurd k35 (by decide) | (simp [k35]; done) | ((try simp only [Bool.not_eq_true] at k35); simp only [k35, Bool.true_or, Bool.false_or, Bool.or_false, Bool.or_true, Bool.true_and, Bool.false_and, Bool.and_true, Bool.and_false])), _, Same.refl _, w33⟩
                  · skip
                    exact ⟨_, rfl, _, rfl, _, _, _, _, _, rfl, (w33.get (pre := [])), T.cl_Asking, T.na_Asking_best, (fl_Asking_best ((.ref a6) : V) ((.ref a_self_least) : V) ((.ref a_self_best) : V)), _, _, _, rfl, dgetN (.inl (w33.get (pre := [_, _, _]))) w33.same h16_1 (rep_tup q5 h5), ADN.has h16_1 _, _, rfl, q34 _ _ ⟨(by first | rfl | exact absurd k35 (by decide) | (simp [k35]; done) | ((try simp only [Bool.not_eq_true] at k35); simp only [k35, Bool.true_or, Bool.false_or, Bool.or_false, Bool.or_true, Bool.true_and, Bool.false_and, Bool.and_true, Bool.and_false])), _, Same.refl _, w33⟩⟩
                obtain ⟨rfl, F34, s34, w34⟩ := hc34
                replace h5 := A2.mono s34 h5
                replace q5 := s34 _ _ q5
                replace h6 := A2.mono s34 h6
                replace q6 := s34 _ _ q6
                replace h14 := A2.mono s34 h14
                replace q14 := s34 _ _ q14
                replace h16_0 := ADN.imp s34 (fun _ _ r => Rep.mono s34 r) h16_0
                replace h16_1 := ADN.imp s34 (fun _ _ r => Rep.mono s34 r) h16_1
                replace sF := sF.trans s34
                refine post_ite hm (fun k38 hm => ?_) (fun k38 hm => ?_)
                · skip
                  refine ⟨_, rfl, _, rfl, (by show 2 ≤ sizeLine; decide), fun p39 n39 => ?_⟩
                  obtain ⟨F39, s39, w39, q39⟩ := w34.frzE (o := .tup [(.int ((1 : Int) + t32)), (.int b11)]) n39
                  replace h5 := A2.mono s39 h5
                  replace q5 := s39 _ _ q5
                  replace h6 := A2.mono s39 h6
                  replace q6 := s39 _ _ q6
                  replace h14 := A2.mono s39 h14
                  replace q14 := s39 _ _ q14
                  replace h16_0 := ADN.imp s39 (fun _ _ r => Rep.mono s39 r) h16_0
                  replace h16_1 := ADN.imp s39 (fun _ _ r => Rep.mono s39 r) h16_1
                  replace sF := sF.trans s39
                  obtain ⟨l40, z40, e40, hm⟩ := pn_mput hm
                  refine ⟨_, _, rfl, SqT.of (w39.same _ _ q39), rfl, _, _, rfl, _, _, rfl, _, rfl, _, _, _, _, _, rfl, (w39.get (pre := [])), T.cl_Asking, T.na_Asking_best, (fl_Asking_best ((.ref a6) : V) ((.ref a_self_least) : V) ((.ref a_self_best) : V)), _, rfl, _, _, rfl, dputN (v := (.int b11)) (w39.get (pre := [_, _, _])) w39.same h16_1 (rep_tup q5 h5) z40, ?_⟩
                  have h40 : ADN K F39 (rep K F39) (putN vs16_1 a5 x_things (.int b11)) l40 := e40 ▸ ADN.put h16_1 (rep_tup q5 h5) rep_i
                  have w41 : W F39 _ ((a_self, (.ins (A 34) dx_self (mkfs [("fars" : Str), ("least" : Str), ("best" : Str)] [(.ref a6), (.ref a_self_least), (.ref a_self_best)]))) :: (dx_self, (.own a_self)) :: (a_self_least, DnO a_self_least vs16_0) :: (a_self_best, DnO a_self_best (putN vs16_1 a5 x_things (.int b11))) :: os) := w39.set (pre := [_, _, _])
                  refine ⟨rfl, ?_⟩
                  exact hN11 _ (post_ok hm) _ _ ⟨_, _, _, _, _, _, rfl, (s11.trans (s13.trans (s16.trans (s34.trans s39)))), w41, h16_0, h40⟩
                · skip
                  exact hN11 _ (post_ok hm) _ _ ⟨_, _, _, _, _, _, rfl, (s11.trans (s13.trans (s16.trans s34))), w34, h16_0, h16_1⟩
              · skip
                exact hN11 _ (post_ok hm) _ _ ⟨_, _, _, _, _, _, rfl, (s11.trans s13), w13, h11_0, h11_1⟩
            intro g11 σ11 H11 hI hm
            obtain ⟨F11, vs11_0, vs11_1, o11_4, o11_5, o11_3, rfl, s11, w11, h11_0, h11_1⟩ := hI
            replace h5 := A2.mono s11 h5
            replace q5 := s11 _ _ q5
            replace h6 := A2.mono s11 h6
            replace q6 := s11 _ _ q6
            replace sF := sF.trans s11
            exact hN9 _ (post_ok hm) _ _ ⟨_, _, _, _, _, _, rfl, s11, w11, h11_0, h11_1⟩
          · skip
            exact hN9 _ (post_ok hm) _ _ ⟨_, _, _, _, _, _, rfl, Same.refl _, w0, h_self_least, h_self_best⟩
        intro g9 σ9 H9 hI hm
        obtain ⟨F9, vs9_0, vs9_1, o9_3, o9_4, o9_5, rfl, s9, w9, h9_0, h9_1⟩ := hI
        replace h5 := A2.mono s9 h5
        replace q5 := s9 _ _ q5
        replace h6 := A2.mono s9 h6
        replace q6 := s9 _ _ q6
        replace sF := sF.trans s9
        obtain ⟨l42, z42, e42, hm⟩ := pn_mput hm
        refine ⟨_, rfl, _, rfl, _, _, _, _, _, rfl, (w9.get (pre := [])), T.cl_Asking, T.na_Asking_least, (fl_Asking_least ((.ref a6) : V) ((.ref a_self_least) : V) ((.ref a_self_best) : V)), _, rfl, _, _, rfl, dputN (v := (.int g9.1)) (w9.get (pre := [_, _])) w9.same h9_0 (rep_tup q5 h5) z42, ?_⟩
        have h42 : ADN K F9 (rep K F9) (putN vs9_0 a5 x_things (.int g9.1)) l42 := e42 ▸ ADN.put h9_0 (rep_tup q5 h5) rep_i
        have w43 : W F9 _ ((a_self, (.ins (A 34) dx_self (mkfs [("fars" : Str), ("least" : Str), ("best" : Str)] [(.ref a6), (.ref a_self_least), (.ref a_self_best)]))) :: (dx_self, (.own a_self)) :: (a_self_least, DnO a_self_least (putN vs9_0 a5 x_things (.int g9.1))) :: (a_self_best, DnO a_self_best vs9_1) :: os) := w9.set (pre := [_, _])
        exact ⟨_, rfl, (post_ok hm) _ _ _ _ _ w43 sF rep_i h42 h9_1⟩
def sp_Asking_plan (d : Nat) (K : Fg) : Sp := fun vs H Q E => ∃ (F : Hp) (os : List (Addr × HO)) (a_self : Addr) (dx_self : Addr) (C_self : Addr) (v_self_fars : V) (a_self_least : Addr) (vs_self_least : List Ent) (a_self_best : Addr) (vs_self_best : List Ent) (x_self : AskingF) (v_things : V) (x_things : (Tup Thing)), vs = [.ref a_self, v_things] ∧ W F H ((a_self, .ins C_self dx_self (mkfs [("fars" : Str), ("least" : Str), ("best" : Str)] [v_self_fars, .ref a_self_least, .ref a_self_best])) :: (dx_self, .own a_self) :: (a_self_least, DnO a_self_least vs_self_least) :: (a_self_best, DnO a_self_best vs_self_best) :: os) ∧ Nm K "Asking" C_self ∧ rep K F v_self_fars (x_self.1 : (List (List Int))) ∧ ADN K F (rep K F) vs_self_least x_self.2.1 ∧ ADN K F (rep K F) vs_self_best x_self.2.2.1 ∧ rep K F v_things x_things ∧ Post (Asking_plan d x_self x_things) (fun (y : Pl) => ∀ (v : V) (F' H' : Hp), W F' H' ((a_self, .ins C_self dx_self (mkfs [("fars" : Str), ("least" : Str), ("best" : Str)] [v_self_fars, .ref a_self_least, .ref a_self_best])) :: (dx_self, .own a_self) :: (a_self_least, DnO a_self_least vs_self_least) :: (a_self_best, DnO a_self_best vs_self_best) :: os) → Same F F' → rep K F' v (y : Pl) → Q v H') noX
theorem sc_Asking_plan : FnScope ["self", "things", "place", "parts", "answer", "part"] ["self", "things"] (defScope s_Asking_plan) := ⟨rfl, rfl, rfl, by decide +kernel, rfl, by decide +kernel, by decide +kernel⟩
theorem ok_Asking_plan (T : Tx K mg A FD) (d : Nat) : FnOk P w K mg base CX0 (3 + d) (A 35002) (FD 35002) ["self", "things"] (sp_Asking_plan d K) := by
  induction d with
  | zero =>
    refine T.d35002.fn.ok (k := 2) sc_Asking_plan (fun vs H Q E h => ?_) (fun cdv Ar outer s H vs Q E hr h => ?_)
    · obtain ⟨F, os, a_self, dx_self, C_self, v_self_fars, a_self_least, vs_self_least, a_self_best, vs_self_best, x_self, v_things, x_things, rfl, _⟩ := h
      rfl
    · obtain ⟨F0, os, a_self, dx_self, C_self, v_self_fars, a_self_least, vs_self_least, a_self_best, vs_self_best, x_self, v_things, x_things, rfl, w0, n_self, r_self_fars, h_self_least, h_self_best, r_things, hm⟩ := h
      refine ⟨_, (pss_cons ps_absurd (pss_cons ps_absurd (pss_cons ps_absurd (pss_one ps_absurd)))), ?_⟩
      exact hm
  | succ d ih =>
    refine T.d35002.fn.ok (k := 3 + d) sc_Asking_plan (fun vs H Q E h => ?_) (fun cdv Ar outer s H vs Q E hr h => ?_)
    · obtain ⟨F, os, a_self, dx_self, C_self, v_self_fars, a_self_least, vs_self_least, a_self_best, vs_self_best, x_self, v_things, x_things, rfl, _⟩ := h
      rfl
    · obtain ⟨F0, os, a_self, dx_self, C_self, v_self_fars, a_self_least, vs_self_least, a_self_best, vs_self_best, x_self, v_things, x_things, rfl, w0, n_self, r_self_fars, h_self_least, h_self_best, r_things, hm⟩ := h
      rw [Asking_plan] at hm
      have sF : Same F0 F0 := Same.refl _
      obtain rfl := n_self.uniq T.nm_Asking
      obtain ⟨a5, vs5, rfl, q5, h5⟩ := r_things
      obtain ⟨a6, vs6, rfl, q6, h6⟩ := r_self_fars
      refine ⟨_, (pss_cons (ps_if (pt_cmp (pc_eqI (pe_callB (call_lenN (K := K) rfl) (by rfl) T.n_len (by decide +kernel) (pa_cons (pv 1) pa_nil)) pe_int)) (pss_one (ps_ret (pe_tup (pa_cons pe_str (pa_cons (pe_ix (ix_tupK (K := K) rfl) (pv 1) pe_int (fun _ _ => rfl)) pa_nil))))) pss_nil) (pss_cons (ps_set (i := 2) sc_Asking_plan.nd rfl (Or.inl rfl) (pe_dgetN hr.units (pe_fld (pv 0) (by rfl)) (pv 1) (fun _ _ => rfl))) (pss_cons (ps_set (i := 3) sc_Asking_plan.nd rfl (Or.inl rfl) (pe_call (ok_parts_by T) (hr.mono (by first | decide | omega)) (by rfl) T.d33.mg T.d33.fn.kp T.d33.b .nil pass0 (pa_cons (pe_fld (pv 0) (by rfl)) (pa_cons (pv 1) (pa_cons (pv 2) pa_nil))))) (pss_one (ps_ret (pe_tup (pa_cons pe_str (pa_cons (pv 2) (pa_cons (pe_callTy (call_tuple_ofK (K := K) rfl) (by rfl) T.n_tuple (by decide +kernel) (pa_cons (pe_lc (own := [("answer", 4), ("part", 5)]) (g := _) (by rfl) sc_Asking_plan.nd (pi_listK (K := K) rfl (pv 3)) (blkOk_by (own := [("answer", 4), ("part", 5)]) (N := ["self", "things", "place", "parts", "answer", "part"]) (sc := defScope s_Asking_plan) (by decide +kernel)) (fun _ _ _ _ _ => (pg_k (K := K) (t := fun K => gTup K 2 _) rfl (pg_tup (n := 2) rfl (pgs_cons (pg_name (i := 4) sc_Asking_plan.nd rfl (Or.inl rfl)) (pgs_cons (pg_name (i := 5) sc_Asking_plan.nd rfl (Or.inl rfl)) pgs_nil))))) (fun _ _ _ _ _ => pts_nil) (fun _ _ _ _ _ => (pe_tup (pa_cons (pv 4) (pa_cons (pe_meth (pl := _) (pv 0) T.cl_Asking T.d35002.mt ih (hr.mono (by first | decide | omega)) T.d35002.b .nil pass0 (pa_cons (pv 5) pa_nil)) pa_nil))))) pa_nil)) pa_nil))))))))), ?_⟩
      refine ⟨_, rfl, _, _, _, rfl, .inr (SqT.of (w0.same _ _ q5)), h5.length, _, _, rfl, rfl, _, rfl, ?_⟩
      refine post_ite hm (fun k7 hm => ?_) (fun k7 hm => ?_)
      · skip
        obtain ⟨t8, e8, hm⟩ := pb_get hm
        obtain ⟨u8, f8, r8⟩ := A2.at h5 e8
        refine ⟨_, rfl, _, _, _, _, rfl, rfl, SqT.of (w0.same _ _ q5), f8, (by show 2 ≤ sizeLine; decide), fun p10 n10 => ?_⟩
        obtain ⟨F10, s10, w10, q10⟩ := w0.frzE (o := .tup [(.str "is"), u8]) n10
        replace h_self_least := ADN.imp s10 (fun _ _ r => Rep.mono s10 r) h_self_least
        replace h_self_best := ADN.imp s10 (fun _ _ r => Rep.mono s10 r) h_self_best
        replace q5 := s10 _ _ q5
        replace h5 := A2.mono s10 h5
        replace q6 := s10 _ _ q6
        replace h6 := A2.mono s10 h6
        replace r8 := Rep.mono s10 r8
        replace sF := sF.trans s10
        have r10 : rep K F10 (.ref p10) ((Pl.is t8) : Pl) := (rep_is q10 r8)
        exact (post_ok hm) _ _ _ w10 sF r10
      · skip
        obtain ⟨t11, e11, hm⟩ := pb_mget hm
        obtain ⟨u11, f11, r11⟩ := ADN.some h_self_best e11
        obtain rfl : u11 = V.int t11 := r11
        refine ⟨_, rfl, _, _, _, _, _, rfl, (w0.get (pre := [])), T.cl_Asking, T.na_Asking_best, (fl_Asking_best ((.ref a6) : V) ((.ref a_self_least) : V) ((.ref a_self_best) : V)), _, rfl, _, _, rfl, dgetsN (.inl (w0.get (pre := [_, _, _]))) w0.same h_self_best (rep_tup q5 h5) f11, _, rfl, _, _, _, _, _, rfl, (w0.get (pre := [])), T.cl_Asking, T.na_Asking_fars, (fl_Asking_fars ((.ref a6) : V) ((.ref a_self_least) : V) ((.ref a_self_best) : V)), _, rfl, _, rfl, _, _, _, (x_self.1 : (List (List Int))), _, (x_things : (Tup Thing)), _, rfl, w0, (rep_lst q6 h6), (rep_tup q5 h5), ?_⟩
        refine (post_bind hm).mono (fun y12 hm v12 F12 H12 w12 s12 r12 => ?_) (fun _ z => z)
        replace h5 := A2.mono s12 h5
        replace q5 := s12 _ _ q5
        replace h6 := A2.mono s12 h6
        replace q6 := s12 _ _ q6
        replace h_self_least := ADN.imp s12 (fun _ _ r => Rep.mono s12 r) h_self_least
        replace h_self_best := ADN.imp s12 (fun _ _ r => Rep.mono s12 r) h_self_best
        replace sF := sF.trans s12
        obtain ⟨a13, vs13, rfl, q13, h13⟩ := r12
        refine ⟨_, rfl, _, rfl, _, rfl, ⟨_, SqL.of (w12.same _ _ q13)⟩, fun D14 nD14 => ?_⟩
        refine lcM (K := K) (tw_list (a := a13) h13) hm w12 nD14 (fun F' H' acc s w => SqL.of (w.same _ _ (s _ _ q13))) ?_ ?_
        · -- one turn
          intro b14 x14 F14 H14 H14' acc14 N14 P14 s14 w14 y14 hN14 hm
          replace h5 := A2.mono s14 h5
          replace q5 := s14 _ _ q5
          replace h6 := A2.mono s14 h6
          replace q6 := s14 _ _ q6
          replace h13 := A2.mono s14 h13
          replace q13 := s14 _ _ q13
          replace h_self_least := ADN.imp s14 (fun _ _ r => Rep.mono s14 r) h_self_least
          replace h_self_best := ADN.imp s14 (fun _ _ r => Rep.mono s14 r) h_self_best
          replace sF := sF.trans s14
          obtain ⟨rfl, r16⟩ := y14
          replace r16 := Rep.mono s14 r16
          obtain ⟨a17, u17, z17, rfl, q17, r17a, r17b⟩ := r16
          obtain rfl : u17 = V.int b14.1 := r17a
          obtain ⟨a18, vs18, rfl, q18, h18⟩ := r17b
          have w19 : W F14 _ ((a_self_best, DnO a_self_best vs_self_best) :: (D14, .lst acc14) :: (a_self, (.ins (A 34) dx_self (mkfs [("fars" : Str), ("least" : Str), ("best" : Str)] [(.ref a6), (.ref a_self_least), (.ref a_self_best)]))) :: (dx_self, (.own a_self)) :: (a_self_least, DnO a_self_least vs_self_least) :: os) := w14.front (pre := [_, _, _, _])
          have w20 : W F14 _ ((a_self_least, DnO a_self_least vs_self_least) :: (a_self_best, DnO a_self_best vs_self_best) :: (D14, .lst acc14) :: (a_self, (.ins (A 34) dx_self (mkfs [("fars" : Str), ("least" : Str), ("best" : Str)] [(.ref a6), (.ref a_self_least), (.ref a_self_best)]))) :: (dx_self, (.own a_self)) :: os) := w19.front (pre := [_, _, _, _])
          have w21 : W F14 _ ((dx_self, (.own a_self)) :: (a_self_least, DnO a_self_least vs_self_least) :: (a_self_best, DnO a_self_best vs_self_best) :: (D14, .lst acc14) :: (a_self, (.ins (A 34) dx_self (mkfs [("fars" : Str), ("least" : Str), ("best" : Str)] [(.ref a6), (.ref a_self_least), (.ref a_self_best)]))) :: os) := w20.front (pre := [_, _, _, _])
          have w22 : W F14 _ ((a_self, (.ins (A 34) dx_self (mkfs [("fars" : Str), ("least" : Str), ("best" : Str)] [(.ref a6), (.ref a_self_least), (.ref a_self_best)]))) :: (dx_self, (.own a_self)) :: (a_self_least, DnO a_self_least vs_self_least) :: (a_self_best, DnO a_self_best vs_self_best) :: (D14, .lst acc14) :: os) := w21.front (pre := [_, _, _, _])
          refine ⟨_, _, rfl, SqT.of (w14.same _ _ q17), rfl, _, _, rfl, _, _, rfl, rfl, rfl, _, rfl, _, rfl, _, _, _, rfl, (w14.get (pre := [_])), fm0_Asking_plan ((.ref a6) : V) ((.ref a_self_least) : V) ((.ref a_self_best) : V), _, rfl, _, _, _, _, _, _, _, _, _, _, ((x_self.1, x_self.2.1, x_self.2.2.1, ()) : AskingF), _, (b14.2 : (Tup Thing)), rfl, w22, T.nm_Asking, (rep_lst q6 h6), h_self_least, h_self_best, (rep_tup q18 h18), ?_⟩
          refine (post_bind hm).mono (fun y23 hm v23 F23 H23 w23 s23 r23 => ?_) (fun _ z => z)
          replace h5 := A2.mono s23 h5
          replace q5 := s23 _ _ q5
          replace h6 := A2.mono s23 h6
          replace q6 := s23 _ _ q6
          replace h13 := A2.mono s23 h13
          replace q13 := s23 _ _ q13
          replace h_self_least := ADN.imp s23 (fun _ _ r => Rep.mono s23 r) h_self_least
          replace h_self_best := ADN.imp s23 (fun _ _ r => Rep.mono s23 r) h_self_best
          replace q17 := s23 _ _ q17
          replace q18 := s23 _ _ q18
          replace h18 := A2.mono s23 h18
          replace sF := sF.trans s23
          have r24 : rep K F23 v23 (y23 : Pl) := r23
          obtain ⟨a24, u24, t24, rfl, q24, o24, l24⟩ := pl_openN r24
          refine ⟨(by show 2 ≤ sizeLine; decide), fun p25 n25 => ?_⟩
          obtain ⟨F25, s25, w25, q25⟩ := w23.frzE (o := .tup [(.int b14.1), (.ref a24)]) n25
          replace h5 := A2.mono s25 h5
          replace q5 := s25 _ _ q5
          replace h6 := A2.mono s25 h6
          replace q6 := s25 _ _ q6
          replace h13 := A2.mono s25 h13
          replace q13 := s25 _ _ q13
          replace h_self_least := ADN.imp s25 (fun _ _ r => Rep.mono s25 r) h_self_least
          replace h_self_best := ADN.imp s25 (fun _ _ r => Rep.mono s25 r) h_self_best
          replace q17 := s25 _ _ q17
          replace q18 := s25 _ _ q18
          replace h18 := A2.mono s25 h18
          replace q24 := s25 _ _ q24
          replace r24 := Rep.mono s25 r24
          replace o24 := Rep.mono s25 o24
          replace sF := sF.trans s25
          have w26 : W F25 _ ((a_self_best, DnO a_self_best vs_self_best) :: (a_self, (.ins (A 34) dx_self (mkfs [("fars" : Str), ("least" : Str), ("best" : Str)] [(.ref a6), (.ref a_self_least), (.ref a_self_best)]))) :: (dx_self, (.own a_self)) :: (a_self_least, DnO a_self_least vs_self_least) :: (D14, .lst acc14) :: os) := w25.front (pre := [_, _, _])
          have w27 : W F25 _ ((a_self_least, DnO a_self_least vs_self_least) :: (a_self_best, DnO a_self_best vs_self_best) :: (a_self, (.ins (A 34) dx_self (mkfs [("fars" : Str), ("least" : Str), ("best" : Str)] [(.ref a6), (.ref a_self_least), (.ref a_self_best)]))) :: (dx_self, (.own a_self)) :: (D14, .lst acc14) :: os) := w26.front (pre := [_, _, _])
          have w28 : W F25 _ ((dx_self, (.own a_self)) :: (a_self_least, DnO a_self_least vs_self_least) :: (a_self_best, DnO a_self_best vs_self_best) :: (a_self, (.ins (A 34) dx_self (mkfs [("fars" : Str), ("least" : Str), ("best" : Str)] [(.ref a6), (.ref a_self_least), (.ref a_self_best)]))) :: (D14, .lst acc14) :: os) := w27.front (pre := [_, _, _])
          have w29 : W F25 _ ((a_self, (.ins (A 34) dx_self (mkfs [("fars" : Str), ("least" : Str), ("best" : Str)] [(.ref a6), (.ref a_self_least), (.ref a_self_best)]))) :: (dx_self, (.own a_self)) :: (a_self_least, DnO a_self_least vs_self_least) :: (a_self_best, DnO a_self_best vs_self_best) :: (D14, .lst acc14) :: os) := w28.front (pre := [_, _, _])
          have w30 : W F25 _ ((D14, .lst acc14) :: (a_self, (.ins (A 34) dx_self (mkfs [("fars" : Str), ("least" : Str), ("best" : Str)] [(.ref a6), (.ref a_self_least), (.ref a_self_best)]))) :: (dx_self, (.own a_self)) :: (a_self_least, DnO a_self_least vs_self_least) :: (a_self_best, DnO a_self_best vs_self_best) :: os) := w29.front (pre := [_, _, _, _])
          exact hN14 _ (post_ok hm) _ _ _ w30 (s23.trans s25) (rep_pair q25 rep_i r24)
        intro us14 F14 H14 ys14 s14 w14 gg14 hm
        replace h5 := A2.mono s14 h5
        replace q5 := s14 _ _ q5
        replace h6 := A2.mono s14 h6
        replace q6 := s14 _ _ q6
        replace h13 := A2.mono s14 h13
        replace q13 := s14 _ _ q13
        replace h_self_least := ADN.imp s14 (fun _ _ r => Rep.mono s14 r) h_self_least
        replace h_self_best := ADN.imp s14 (fun _ _ r => Rep.mono s14 r) h_self_best
        replace sF := sF.trans s14
        have h32 : A2 (rep K F14) us14 ys14 := gg14
        refine ⟨_, _, rfl, .inl ⟨SqL.of (w14.get (pre := [])), fun p33 n33 => ?_⟩⟩
        obtain ⟨F33, s33, w33, q33⟩ := w14.frzE (o := .tup us14) n33
        replace h5 := A2.mono s33 h5
        replace q5 := s33 _ _ q5
        replace h6 := A2.mono s33 h6
        replace q6 := s33 _ _ q6
        replace h13 := A2.mono s33 h13
        replace q13 := s33 _ _ q13
        replace h_self_least := ADN.imp s33 (fun _ _ r => Rep.mono s33 r) h_self_least
        replace h_self_best := ADN.imp s33 (fun _ _ r => Rep.mono s33 r) h_self_best
        replace gg14 := A2.mono s33 gg14
        replace h32 := A2.mono s33 h32
        replace sF := sF.trans s33
        refine ⟨(by show 3 ≤ sizeLine; decide), fun p34 n34 => ?_⟩
        obtain ⟨F34, s34, w34, q34⟩ := w33.frzE (o := .tup [(.str "ask"), (.int t11), (.ref p33)]) n34
        replace h5 := A2.mono s34 h5
        replace q5 := s34 _ _ q5
        replace h6 := A2.mono s34 h6
        replace q6 := s34 _ _ q6
        replace h13 := A2.mono s34 h13
        replace q13 := s34 _ _ q13
        replace h_self_least := ADN.imp s34 (fun _ _ r => Rep.mono s34 r) h_self_least
        replace h_self_best := ADN.imp s34 (fun _ _ r => Rep.mono s34 r) h_self_best
        replace gg14 := A2.mono s34 gg14
        replace h32 := A2.mono s34 h32
        replace q33 := s34 _ _ q33
        replace sF := sF.trans s34
        have r34 : rep K F34 (.ref p34) ((Pl.ask t11 ys14) : Pl) := (rep_ask q34 q33 h32)
        have w35 : W F34 _ ((a_self, (.ins (A 34) dx_self (mkfs [("fars" : Str), ("least" : Str), ("best" : Str)] [(.ref a6), (.ref a_self_least), (.ref a_self_best)]))) :: (dx_self, (.own a_self)) :: (a_self_least, DnO a_self_least vs_self_least) :: (a_self_best, DnO a_self_best vs_self_best) :: os) := w34.drop (pre := [])
        exact (post_ok hm) _ _ _ w35 sF r34
def sp_len_first (K : Fg) : Sp := fun vs H Q E => ∃ (F : Hp) (os : List (Addr × HO)) (v_row : V) (x_row : ((Tup Thing) × Int)), vs = [v_row] ∧ W F H (os) ∧ rep K F v_row x_row ∧ Post (len_first x_row) (Ret K F os Q) noX
theorem sc_len_first : FnScope ["row"] ["row"] (defScope s_len_first) := ⟨rfl, rfl, rfl, by decide +kernel, rfl, by decide +kernel, by decide +kernel⟩
theorem ok_len_first (T : Tx K mg A FD) : FnOk P w K mg base CX0 1 (A 36) (FD 36) ["row"] (sp_len_first K) := by
  refine T.d36.fn.ok sc_len_first (fun vs H Q E h => ?_) (fun cdv Ar outer s H vs Q E hr h => ?_)
  · obtain ⟨F, os, v_row, x_row, rfl, _⟩ := h
    rfl
  · obtain ⟨F0, os, v_row, x_row, rfl, w0, r_row, hm⟩ := h
    have sF : Same F0 F0 := Same.refl _
    obtain ⟨a1, u1, z1, rfl, q1, r1a, r1b⟩ := r_row
    obtain ⟨a2, vs2, rfl, q2, h2⟩ := r1a
    obtain rfl : z1 = V.int x_row.2 := r1b
    refine ⟨_, (pss_one (ps_ret (pe_callB (call_lenN (K := K) rfl) (by rfl) T.n_len (by decide +kernel) (pa_cons (pe_ix (ix_tupK (K := K) rfl) (pv 0) pe_int (fun _ _ => rfl)) pa_nil)))), ?_⟩
    exact ⟨_, rfl, _, _, _, _, rfl, rfl, SqT.of (w0.same _ _ q1), rfl, _, _, _, rfl, .inr (SqT.of (w0.same _ _ q2)), h2.length, (post_ok hm) _ _ _ w0 sF rep_i⟩
def sp_fewest_asks (K : Fg) : Sp := fun vs H Q E => ∃ (F : Hp) (os : List (Addr × HO)) (v_web : V) (x_web : (Int × (Tup (Int × Int)))) (x_kind : Str), vs = [v_web, .str x_kind] ∧ W F H (os) ∧ rep K F v_web x_web ∧ Post (fewest_asks x_web x_kind) (Ret K F os Q) noX
theorem sc_fewest_asks : FnScope ["web", "kind", "things", "asking", "asks", "table", "some"] ["web", "kind"] (defScope s_fewest_asks) := ⟨rfl, rfl, rfl, by decide +kernel, rfl, by decide +kernel, by decide +kernel⟩
theorem ok_fewest_asks (T : Tx K mg A FD) : FnOk P w K mg base CX0 24 (A 35) (FD 35) ["web", "kind"] (sp_fewest_asks K) := by
  refine T.d35.fn.ok sc_fewest_asks (fun vs H Q E h => ?_) (fun cdv Ar outer s H vs Q E hr h => ?_)
  · obtain ⟨F, os, v_web, x_web, x_kind, rfl, _⟩ := h
    rfl
  · obtain ⟨F0, os, v_web, x_web, x_kind, rfl, w0, r_web, hm⟩ := h
    have sF : Same F0 F0 := Same.refl _
    obtain ⟨a1, u1, z1, rfl, q1, r1a, r1b⟩ := r_web
    obtain rfl : u1 = V.int x_web.1 := r1a
    obtain ⟨a2, vs2, rfl, q2, h2⟩ := r1b
    refine ⟨_, (pss_cons (ps_set (i := 2) sc_fewest_asks.nd rfl (Or.inl rfl) (pe_callTy (call_tuple_ofK (K := K) rfl) (by rfl) T.n_tuple (by decide +kernel) (pa_cons (pe_call (ok_few_things T) (hr.mono (by decide)) (by rfl) T.d30.mg T.d30.fn.kp T.d30.b .nil pass0 (pa_cons (pv 0) (pa_cons (pv 1) pa_nil))) pa_nil))) (pss_cons (ps_set (i := 3) sc_fewest_asks.nd rfl (Or.inr rfl) (pe_make T.mk_Asking (ok_Asking_init T) (hr.mono (by first | decide | omega)) (by rfl) T.mg_Asking T.d35000.b .nil pass0 (pa_cons (pv 0) pa_nil))) (pss_cons (ps_set (i := 4) sc_fewest_asks.nd rfl (Or.inl rfl) (pe_meth (pl := _) (pv 3) T.cl_Asking T.d35001.mt (ok_Asking_need T 20) (hr.mono (by first | decide | omega)) T.d35001.b .nil pass0 (pa_cons (pv 2) pa_nil))) (pss_cons (ps_lock (ps_setLc (i := 5) (own := [("some", 6)]) (g := gName 6) (by rfl) sc_fewest_asks.nd rfl rfl (sw_true rfl rfl rfl (by decide +kernel)) (pi_keysN (pe_fld (pv 3) (by rfl))) (blkOk_by (own := [("some", 6)]) (N := ["web", "kind", "things", "asking", "asks", "table", "some"]) (sc := defScope s_fewest_asks) (by decide +kernel)) (fun _ _ _ _ _ => (pg_name (i := 6) sc_fewest_asks.nd rfl (Or.inl rfl))) (fun _ _ _ _ _ => pts_nil) (fun _ _ _ _ _ => (pe_tup (pa_cons (pv 6) (pa_cons (pe_dgetN hr.units (pe_k (K := K) (t := fun K => tFld K _ _) rfl (pe_fld (pv 3) (by rfl))) (pv 6) (fun _ _ => rfl)) pa_nil)))))) (pss_one (ps_ret (pe_tup (pa_cons (pv 4) (pa_cons (pe_meth (pl := _) (pv 3) T.cl_Asking T.d35002.mt (ok_Asking_plan T 20) (hr.mono (by first | decide | omega)) T.d35002.b .nil pass0 (pa_cons (pv 2) pa_nil)) (pa_cons (pe_callBK (cr_sortedFK (sp := sp_len_first K) (K := K) rfl (ok_len_first T) (hr.mono (by first | decide | omega)) T.d36.b) (by rfl) T.n_sorted (by decide +kernel) (pa_cons (pv 5) pa_nil) (pk_cons (pe_glob (v := .ref (A 36)) (by rfl) T.d36.mg rfl) pk_nil)) pa_nil)))))))))), ?_⟩
    refine ⟨_, rfl, _, rfl, _, _, _, (x_web : (Int × (Tup (Int × Int)))), _, rfl, w0, (rep_pair q1 rep_i (rep_tup q2 h2)), ?_⟩
    refine (post_bind hm).mono (fun y3 hm v3 F3 H3 w3 s3 r3 => ?_) (fun _ z => z)
    replace q1 := s3 _ _ q1
    replace q2 := s3 _ _ q2
    replace h2 := A2.mono s3 h2
    replace sF := sF.trans s3
    obtain ⟨a4, vs4, rfl, q4, h4⟩ := r3
    have h5 : A2 (rep K F3) vs4 y3 := h4
    refine ⟨_, _, rfl, .inl ⟨SqL.of (w3.same _ _ q4), fun p6 n6 => ?_⟩⟩
    obtain ⟨F6, s6, w6, q6⟩ := w3.frzE (o := .tup vs4) n6
    replace q1 := s6 _ _ q1
    replace q2 := s6 _ _ q2
    replace h2 := A2.mono s6 h2
    replace q4 := s6 _ _ q4
    replace h4 := A2.mono s6 h4
    replace h5 := A2.mono s6 h5
    replace sF := sF.trans s6
    refine ⟨_, rfl, fun a7 dx7 na7 nd7 ne7 => ?_⟩
    have wd7 : W F6 _ ((dx7, (.own a7)) :: os) := w6.new (o := .own a7) nd7
    have w7 : W F6 _ ((a7, (.ins (A 34) dx7 [])) :: (dx7, (.own a7)) :: os) := wd7.new (o := .ins (A 34) dx7 []) (by rw [upd_ne ne7.symm]; exact na7)
    refine ⟨_, _, _, _, _, _, (x_web : (Int × (Tup (Int × Int)))), rfl, w7, T.nm_Asking, (rep_pair q1 rep_i (rep_tup q2 h2)), ?_⟩
    refine (post_bind hm).mono (fun y7 hm u7_0 p7_1 us7_1 p7_2 us7_2 F7 H7 w7i s7 h7_0 h7_1 h7_2 => ⟨rfl, ?_⟩) (fun _ z => z)
    replace q1 := s7 _ _ q1
    replace h2 := A2.mono s7 h2
    replace q2 := s7 _ _ q2
    replace h5 := A2.mono s7 h5
    replace q6 := s7 _ _ q6
    replace sF := sF.trans s7
    obtain ⟨a14, vs14, rfl, q14, h14⟩ := h7_0
    have w15 : W F7 _ ((p7_2, DnO p7_2 us7_2) :: (a7, (.ins (A 34) dx7 (mkfs [("fars" : Str), ("least" : Str), ("best" : Str)] [(.ref a14), (.ref p7_1), (.ref p7_2)]))) :: (dx7, (.own a7)) :: (p7_1, DnO p7_1 us7_1) :: os) := w7i.front (pre := [_, _, _])
    have w16 : W F7 _ ((p7_1, DnO p7_1 us7_1) :: (p7_2, DnO p7_2 us7_2) :: (a7, (.ins (A 34) dx7 (mkfs [("fars" : Str), ("least" : Str), ("best" : Str)] [(.ref a14), (.ref p7_1), (.ref p7_2)]))) :: (dx7, (.own a7)) :: os) := w15.front (pre := [_, _, _])
    have w17 : W F7 _ ((dx7, (.own a7)) :: (p7_1, DnO p7_1 us7_1) :: (p7_2, DnO p7_2 us7_2) :: (a7, (.ins (A 34) dx7 (mkfs [("fars" : Str), ("least" : Str), ("best" : Str)] [(.ref a14), (.ref p7_1), (.ref p7_2)]))) :: os) := w16.front (pre := [_, _, _])
    have w18 : W F7 _ ((a7, (.ins (A 34) dx7 (mkfs [("fars" : Str), ("least" : Str), ("best" : Str)] [(.ref a14), (.ref p7_1), (.ref p7_2)]))) :: (dx7, (.own a7)) :: (p7_1, DnO p7_1 us7_1) :: (p7_2, DnO p7_2 us7_2) :: os) := w17.front (pre := [_, _, _])
    refine ⟨_, rfl, _, _, _, rfl, (w7i.get (pre := [])), fm0_Asking_need ((.ref a14) : V) ((.ref p7_1) : V) ((.ref p7_2) : V), _, rfl, _, _, _, _, _, _, _, _, _, _, ((y7.1, y7.2.1, y7.2.2.1, ()) : AskingF), _, ((Tup.mk y3) : (Tup Thing)), rfl, w18, T.nm_Asking, (rep_lst q14 h14), h7_1, h7_2, (rep_tup q6 h5), ?_⟩
    refine (post_bind hm).mono (fun y19 hm v19 vs19 vs19_1 F19 H19 w19 s19 r19 h19 h19_1 => ?_) (fun _ z => z)
    replace q1 := s19 _ _ q1
    replace h2 := A2.mono s19 h2
    replace q2 := s19 _ _ q2
    replace h5 := A2.mono s19 h5
    replace q6 := s19 _ _ q6
    replace h14 := A2.mono s19 h14
    replace q14 := s19 _ _ q14
    replace sF := sF.trans s19
    obtain rfl : v19 = V.int y19.1 := r19
    refine stepN ?_
    try dsimp only
    refine ⟨_, _, (w19.get (pre := [_, _])), (by exact True.intro), fun od20 => ?_⟩
    have w20 : W F19 _ ((a7, (.ins (A 34) dx7 (mkfs [("fars" : Str), ("least" : Str), ("best" : Str)] [(.ref a14), (.ref p7_1), (.ref p7_2)]))) :: (dx7, (.own a7)) :: (p7_1, (.frz od20 (DnO p7_1 vs19))) :: (p7_2, DnO p7_2 vs19_1) :: os) := w19.set (pre := [_, _])
    refine ⟨_, rfl, _, _, _, _, _, rfl, (w20.get (pre := [])), T.cl_Asking, T.na_Asking_least, (fl_Asking_least ((.ref a14) : V) ((.ref p7_1) : V) ((.ref p7_2) : V)), _, _, _, rfl, (w20.get (pre := [_, _])), fun D21 nD21 => ?_⟩
    refine lcM (K := K) (tw_keysN (d := p7_1) (o := od20) h19) hm w20 nD21 (fun F' H' acc s w => w.get (pre := [_, _, _])) ?_ ?_
    · -- one turn
      intro b21 x21 F21 H21 H21' acc21 N21 P21 s21 w21 y21 hN21 hm
      replace q1 := s21 _ _ q1
      replace h2 := A2.mono s21 h2
      replace q2 := s21 _ _ q2
      replace h5 := A2.mono s21 h5
      replace q6 := s21 _ _ q6
      replace h14 := A2.mono s21 h14
      replace q14 := s21 _ _ q14
      replace h19 := ADN.imp s21 (fun _ _ r => Rep.mono s21 r) h19
      replace h19_1 := ADN.imp s21 (fun _ _ r => Rep.mono s21 r) h19_1
      replace sF := sF.trans s21
      obtain ⟨rfl, r23⟩ := y21
      replace r23 := Rep.mono s21 r23
      obtain ⟨a24, vs24, rfl, q24, h24⟩ := r23
      obtain ⟨t25, e25, hm⟩ := pb_mget hm
      obtain ⟨u25, f25, r25⟩ := ADN.some h19 e25
      obtain rfl : u25 = V.int t25 := r25
      refine ⟨rfl, _, rfl, _, rfl, _, _, _, _, _, rfl, (w21.get (pre := [_])), T.cl_Asking, T.na_Asking_least, (fl_Asking_least ((.ref a14) : V) ((.ref p7_1) : V) ((.ref p7_2) : V)), _, rfl, _, _, rfl, dgetsN (.inr ⟨_, (w21.get (pre := [_, _, _]))⟩) w21.same h19 (rep_tup q24 h24) f25, (by show 2 ≤ sizeLine; decide), fun p26 n26 => ?_⟩
      obtain ⟨F26, s26, w26, q26⟩ := w21.frzE (o := .tup [(.ref a24), (.int t25)]) n26
      replace q1 := s26 _ _ q1
      replace h2 := A2.mono s26 h2
      replace q2 := s26 _ _ q2
      replace h5 := A2.mono s26 h5
      replace q6 := s26 _ _ q6
      replace h14 := A2.mono s26 h14
      replace q14 := s26 _ _ q14
      replace h19 := ADN.imp s26 (fun _ _ r => Rep.mono s26 r) h19
      replace h19_1 := ADN.imp s26 (fun _ _ r => Rep.mono s26 r) h19_1
      replace q24 := s26 _ _ q24
      replace h24 := A2.mono s26 h24
      replace sF := sF.trans s26
      exact hN21 _ (post_ok hm) _ _ _ w26 s26 (rep_pair q26 (rep_tup q24 h24) rep_i)
    intro us21 F21 H21 ys21 s21 w21 gg21 hm
    replace q1 := s21 _ _ q1
    replace h2 := A2.mono s21 h2
    replace q2 := s21 _ _ q2
    replace h5 := A2.mono s21 h5
    replace q6 := s21 _ _ q6
    replace h14 := A2.mono s21 h14
    replace q14 := s21 _ _ q14
    replace h19 := ADN.imp s21 (fun _ _ r => Rep.mono s21 r) h19
    replace h19_1 := ADN.imp s21 (fun _ _ r => Rep.mono s21 r) h19_1
    replace sF := sF.trans s21
    obtain ⟨F28, s28, w28, q28⟩ : ∃ F', Same F21 F' ∧ W F' _ ((a7, (.ins (A 34) dx7 (mkfs [("fars" : Str), ("least" : Str), ("best" : Str)] [(.ref a14), (.ref p7_1), (.ref p7_2)]))) :: (dx7, (.own a7)) :: (p7_1, (.frz od20 (DnO p7_1 vs19))) :: (p7_2, DnO p7_2 vs19_1) :: os) ∧ F' D21 = some (.lst us21) := w21.freezeE (pre := [])
    replace q1 := s28 _ _ q1
    replace h2 := A2.mono s28 h2
    replace q2 := s28 _ _ q2
    replace h5 := A2.mono s28 h5
    replace q6 := s28 _ _ q6
    replace h14 := A2.mono s28 h14
    replace q14 := s28 _ _ q14
    replace h19 := ADN.imp s28 (fun _ _ r => Rep.mono s28 r) h19
    replace h19_1 := ADN.imp s28 (fun _ _ r => Rep.mono s28 r) h19_1
    replace gg21 := A2.mono s28 gg21
    replace sF := sF.trans s28
    refine stepN ?_
    try dsimp only
    refine ⟨(w28.get (pre := [_, _])), ?_⟩
    have w29 : W F28 _ ((a7, (.ins (A 34) dx7 (mkfs [("fars" : Str), ("least" : Str), ("best" : Str)] [(.ref a14), (.ref p7_1), (.ref p7_2)]))) :: (dx7, (.own a7)) :: (p7_1, DnO p7_1 vs19) :: (p7_2, DnO p7_2 vs19_1) :: os) := w28.set (pre := [_, _])
    have w30 : W F28 _ ((p7_2, DnO p7_2 vs19_1) :: (a7, (.ins (A 34) dx7 (mkfs [("fars" : Str), ("least" : Str), ("best" : Str)] [(.ref a14), (.ref p7_1), (.ref p7_2)]))) :: (dx7, (.own a7)) :: (p7_1, DnO p7_1 vs19) :: os) := w29.front (pre := [_, _, _])
    have w31 : W F28 _ ((p7_1, DnO p7_1 vs19) :: (p7_2, DnO p7_2 vs19_1) :: (a7, (.ins (A 34) dx7 (mkfs [("fars" : Str), ("least" : Str), ("best" : Str)] [(.ref a14), (.ref p7_1), (.ref p7_2)]))) :: (dx7, (.own a7)) :: os) := w30.front (pre := [_, _, _])
    have w32 : W F28 _ ((dx7, (.own a7)) :: (p7_1, DnO p7_1 vs19) :: (p7_2, DnO p7_2 vs19_1) :: (a7, (.ins (A 34) dx7 (mkfs [("fars" : Str), ("least" : Str), ("best" : Str)] [(.ref a14), (.ref p7_1), (.ref p7_2)]))) :: os) := w31.front (pre := [_, _, _])
    have w33 : W F28 _ ((a7, (.ins (A 34) dx7 (mkfs [("fars" : Str), ("least" : Str), ("best" : Str)] [(.ref a14), (.ref p7_1), (.ref p7_2)]))) :: (dx7, (.own a7)) :: (p7_1, DnO p7_1 vs19) :: (p7_2, DnO p7_2 vs19_1) :: os) := w32.front (pre := [_, _, _])
    refine ⟨_, rfl, _, rfl, _, _, _, rfl, (w29.get (pre := [])), fm0_Asking_plan ((.ref a14) : V) ((.ref p7_1) : V) ((.ref p7_2) : V), _, rfl, _, _, _, _, _, _, _, _, _, _, ((y7.1, y19.2.1, y19.2.2, ()) : AskingF), _, ((Tup.mk y3) : (Tup Thing)), rfl, w33, T.nm_Asking, (rep_lst q14 h14), h19, h19_1, (rep_tup q6 h5), ?_⟩
    refine (post_bind hm).mono (fun y34 hm v34 F34 H34 w34 s34 r34 => ?_) (fun _ z => z)
    replace q1 := s34 _ _ q1
    replace h2 := A2.mono s34 h2
    replace q2 := s34 _ _ q2
    replace h5 := A2.mono s34 h5
    replace q6 := s34 _ _ q6
    replace h14 := A2.mono s34 h14
    replace q14 := s34 _ _ q14
    replace gg21 := A2.mono s34 gg21
    replace q28 := s34 _ _ q28
    replace h19 := ADN.imp s34 (fun _ _ r => Rep.mono s34 r) h19
    replace h19_1 := ADN.imp s34 (fun _ _ r => Rep.mono s34 r) h19_1
    replace sF := sF.trans s34
    have r35 : rep K F34 v34 (y34 : Pl) := r34
    obtain ⟨a35, u35, t35, rfl, q35, o35, l35⟩ := pl_openN r35
    obtain ⟨k36, hm⟩ := pb_sortBy hm
    refine ⟨_, rfl, rfl, key_ok (sp := sp_len_first K) (f := len_first) w34 (SqL.of (w34.same _ _ q28)) (gg21) k36 (fun x b F' H' Q' w' r' h' => ⟨F', _, x, b, rfl, w', r', h'⟩) (fun p36 us36 F36 H36 w36 s36 n36 h36 => ?_)⟩
    replace q1 := s36 _ _ q1
    replace h2 := A2.mono s36 h2
    replace q2 := s36 _ _ q2
    replace h5 := A2.mono s36 h5
    replace q6 := s36 _ _ q6
    replace h14 := A2.mono s36 h14
    replace q14 := s36 _ _ q14
    replace gg21 := A2.mono s36 gg21
    replace q28 := s36 _ _ q28
    replace h19 := ADN.imp s36 (fun _ _ r => Rep.mono s36 r) h19
    replace h19_1 := ADN.imp s36 (fun _ _ r => Rep.mono s36 r) h19_1
    replace q35 := s36 _ _ q35
    replace r35 := Rep.mono s36 r35
    replace o35 := Rep.mono s36 o35
    replace sF := sF.trans s36
    have w38 : W F36 _ ((p36, .lst us36) :: (a7, (.ins (A 34) dx7 (mkfs [("fars" : Str), ("least" : Str), ("best" : Str)] [(.ref a14), (.ref p7_1), (.ref p7_2)]))) :: (dx7, (.own a7)) :: (p7_1, DnO p7_1 vs19) :: (p7_2, DnO p7_2 vs19_1) :: os) := w36.new n36
    obtain ⟨F39, s39, w39, q39⟩ : ∃ F', Same F36 F' ∧ W F' _ ((a7, (.ins (A 34) dx7 (mkfs [("fars" : Str), ("least" : Str), ("best" : Str)] [(.ref a14), (.ref p7_1), (.ref p7_2)]))) :: (dx7, (.own a7)) :: (p7_1, DnO p7_1 vs19) :: (p7_2, DnO p7_2 vs19_1) :: os) ∧ F' p36 = some (.lst us36) := w38.freezeE (pre := [])
    replace q1 := s39 _ _ q1
    replace h2 := A2.mono s39 h2
    replace q2 := s39 _ _ q2
    replace h5 := A2.mono s39 h5
    replace q6 := s39 _ _ q6
    replace h14 := A2.mono s39 h14
    replace q14 := s39 _ _ q14
    replace gg21 := A2.mono s39 gg21
    replace q28 := s39 _ _ q28
    replace h19 := ADN.imp s39 (fun _ _ r => Rep.mono s39 r) h19
    replace h19_1 := ADN.imp s39 (fun _ _ r => Rep.mono s39 r) h19_1
    replace q35 := s39 _ _ q35
    replace r35 := Rep.mono s39 r35
    replace o35 := Rep.mono s39 o35
    replace h36 := A2.mono s39 h36
    replace sF := sF.trans s39
    refine ⟨(by show 3 ≤ sizeLine; decide), fun p40 n40 => ?_⟩
    obtain ⟨F40, s40, w40, q40⟩ := w39.frzE (o := .tup [(.int y19.1), (.ref a35), (.ref p36)]) n40
    replace q1 := s40 _ _ q1
    replace h2 := A2.mono s40 h2
    replace q2 := s40 _ _ q2
    replace h5 := A2.mono s40 h5
    replace q6 := s40 _ _ q6
    replace h14 := A2.mono s40 h14
    replace q14 := s40 _ _ q14
    replace gg21 := A2.mono s40 gg21
    replace q28 := s40 _ _ q28
    replace h19 := ADN.imp s40 (fun _ _ r => Rep.mono s40 r) h19
    replace h19_1 := ADN.imp s40 (fun _ _ r => Rep.mono s40 r) h19_1
    replace q35 := s40 _ _ q35
    replace r35 := Rep.mono s40 r35
    replace o35 := Rep.mono s40 o35
    replace h36 := A2.mono s40 h36
    replace q39 := s40 _ _ q39
    replace sF := sF.trans s40
    have w41 : W F40 _ ((dx7, (.own a7)) :: (p7_1, DnO p7_1 vs19) :: (p7_2, DnO p7_2 vs19_1) :: os) := w40.drop (pre := [])
    have w42 : W F40 _ ((p7_1, DnO p7_1 vs19) :: (p7_2, DnO p7_2 vs19_1) :: os) := w41.drop (pre := [])
    have w43 : W F40 _ ((p7_2, DnO p7_2 vs19_1) :: os) := w42.drop (pre := [])
    have w44 : W F40 _ (os) := w43.drop (pre := [])
    exact (post_ok hm) _ _ _ w44 sF (rep_nt3 q40 rep_i r35 (rep_lst q39 h36))
def sp_asks_of (d : Nat) (K : Fg) : Sp := fun vs H Q E => ∃ (F : Hp) (os : List (Addr × HO)) (v_fars : V) (x_fars : (List (List Int))) (v_things : V) (x_things : (Tup Thing)) (v_plan : V) (x_plan : Pl), vs = [v_fars, v_things, v_plan] ∧ W F H (os) ∧ rep K F v_fars x_fars ∧ rep K F v_things x_things ∧ rep K F v_plan x_plan ∧ Post (asks_of d x_fars x_things x_plan) (Ret K F os Q) noX
theorem sc_asks_of : FnScope ["fars", "things", "plan"] ["fars", "things", "plan"] (defScope s_asks_of) := ⟨rfl, rfl, rfl, by decide +kernel, rfl, by decide +kernel, by decide +kernel⟩
def sp_plan_of_parts (d : Nat) (K : Fg) : Sp := fun vs H Q E => ∃ (F : Hp) (os : List (Addr × HO)) (v_fars : V) (x_fars : (List (List Int))) (v_things : V) (x_things : (Tup Thing)) (v_plan : V) (x_plan : Pl), vs = [v_fars, v_things, v_plan] ∧ W F H (os) ∧ rep K F v_fars x_fars ∧ rep K F v_things x_things ∧ rep K F v_plan x_plan ∧ Post (plan_of_parts (asks_of d) x_fars x_things x_plan) (Ret K F os Q) noX
theorem sc_plan_of_parts : FnScope ["fars", "things", "plan", "parts", "found", "answer", "part", "rest", "same"] ["fars", "things", "plan"] (defScope s_plan_of_parts) := ⟨rfl, rfl, rfl, by decide +kernel, rfl, by decide +kernel, by decide +kernel⟩
theorem ok_plan_of_parts (T : Tx K mg A FD) (d : Nat) (ih : FnOk P w K mg base CX0 (3 + 2 * d) (A 38) (FD 38) ["fars", "things", "plan"] (sp_asks_of d K)) : FnOk P w K mg base CX0 (3 + 2 * d + 1) (A 37) (FD 37) ["fars", "things", "plan"] (sp_plan_of_parts d K) := by
  refine T.d37.fn.ok (k := 3 + 2 * d) sc_plan_of_parts (fun vs H Q E h => ?_) (fun cdv Ar outer s H vs Q E hr h => ?_)
  · obtain ⟨F, os, v_fars, x_fars, v_things, x_things, v_plan, x_plan, rfl, _⟩ := h
    rfl
  · obtain ⟨F0, os, v_fars, x_fars, v_things, x_things, v_plan, x_plan, rfl, w0, r_fars, r_things, r_plan, hm⟩ := h
    have sF : Same F0 F0 := Same.refl _
    obtain ⟨a1, vs1, rfl, q1, h1⟩ := r_fars
    obtain ⟨a2, vs2, rfl, q2, h2⟩ := r_things
    have r3 : rep K F0 v_plan (x_plan : Pl) := r_plan
    obtain ⟨a3, u3, t3, rfl, q3, o3, l3⟩ := pl_openN r3
    obtain ⟨i4, l4, e4, hm⟩ := pb_asAsk hm
    have r4 : rep K F0 (.ref a3) (Pl.ask i4 l4) := e4 ▸ r3
    obtain ⟨p4, b4, vs4, z4, q4, qb4, h4⟩ := ask_open r4
    have z4 : a3 = p4 := V.ref.inj z4
    subst z4
    refine ⟨_, (pss_cons (ps_if (pt_cmpR (op_notInL (K := K) rfl Int (by decide) (Room.units65 hr)) (pe_ix (ix_tupK (K := K) rfl) (pv 2) pe_int (fun _ _ => rfl)) (pe_listRg rfl (by rfl) T.n_list (prg_1 (by rfl) T.n_range (pe_callB (call_lenN (K := K) rfl) (by rfl) T.n_len (by decide +kernel) (pa_cons (pv 0) pa_nil)))) (by rfl)) (pss_one (ps_ret pe_non)) pss_nil) (pss_cons (ps_set (i := 3) sc_plan_of_parts.nd rfl (Or.inl rfl) (pe_call (ok_parts_by T) (hr.mono (by first | decide | omega)) (by rfl) T.d33.mg T.d33.fn.kp T.d33.b .nil pass0 (pa_cons (pv 0) (pa_cons (pv 1) (pa_cons (pe_ix (ix_tupK (K := K) rfl) (pv 2) pe_int (fun _ _ => rfl)) pa_nil))))) (pss_cons (ps_if (PW.pt (pw_or (pt_cmp (pc_lt (pe_callB (call_lenN (K := K) rfl) (by rfl) T.n_len (by decide +kernel) (pa_cons (pv 3) pa_nil)) pe_int)) (pw_or1 (pt_cmpR (op_neDt (K := K) rfl (List Int) (by decide) hr.units) (pe_lc (own := [("answer", 5), ("part", 6)]) (g := _) (by rfl) sc_plan_of_parts.nd (pi_listK (K := K) rfl (pv 3)) (blkOk_by (own := [("answer", 5), ("part", 6)]) (N := ["fars", "things", "plan", "parts", "found", "answer", "part", "rest", "same"]) (sc := defScope s_plan_of_parts) (by decide +kernel)) (fun _ _ _ _ _ => (pg_k (K := K) (t := fun K => gTup K 2 _) rfl (pg_tup (n := 2) rfl (pgs_cons (pg_name (i := 5) sc_plan_of_parts.nd rfl (Or.inl rfl)) (pgs_cons (pg_name (i := 6) sc_plan_of_parts.nd rfl (Or.inl rfl)) pgs_nil))))) (fun _ _ _ _ _ => pts_nil) (fun _ _ _ _ _ => (pv 5))) (pe_lc (own := [("answer", 5), ("rest", 7)]) (g := _) (by rfl) sc_plan_of_parts.nd (pi_tupK (K := K) rfl (pe_ix (ix_tupK (K := K) rfl) (pv 2) pe_int (fun _ _ => rfl))) (blkOk_by (own := [("answer", 5), ("rest", 7)]) (N := ["fars", "things", "plan", "parts", "found", "answer", "part", "rest", "same"]) (sc := defScope s_plan_of_parts) (by decide +kernel)) (fun _ _ _ _ _ => (pg_k (K := K) (t := fun K => gTup K 2 _) rfl (pg_tup (n := 2) rfl (pgs_cons (pg_name (i := 5) sc_plan_of_parts.nd rfl (Or.inl rfl)) (pgs_cons (pg_name (i := 7) sc_plan_of_parts.nd rfl (Or.inl rfl)) pgs_nil))))) (fun _ _ _ _ _ => pts_nil) (fun _ _ _ _ _ => (pv 5))) (nomark _))))) (pss_one (ps_ret pe_non)) pss_nil) (pss_cons (ps_setLc (i := 4) (own := [("answer", 5), ("part", 6), ("same", 8), ("rest", 7)]) (g := _) (by rfl) sc_plan_of_parts.nd rfl rfl (sw_true rfl rfl rfl (by decide +kernel)) (pi_k (K := K) (wi := fun K => MZ.iZip2 MZ.qL MZ.qT K _) rfl (MZ.pi_zip2 (by rfl) T.n_zip (pa_cons (pv 3) (pa_cons (pe_ix (ix_tupK (K := K) rfl) (pv 2) pe_int (fun _ _ => rfl)) pa_nil)))) (blkOk_by (own := [("answer", 5), ("part", 6), ("same", 8), ("rest", 7)]) (N := ["fars", "things", "plan", "parts", "found", "answer", "part", "rest", "same"]) (sc := defScope s_plan_of_parts) (by decide +kernel)) (fun _ _ _ _ _ => (pg_k (K := K) (t := fun K => gTup K 2 _) rfl (pg_tup (n := 2) rfl (pgs_cons (pg_k (K := K) (t := fun K => gTup K 2 _) rfl (pg_tup (n := 2) rfl (pgs_cons (pg_name (i := 5) sc_plan_of_parts.nd rfl (Or.inl rfl)) (pgs_cons (pg_name (i := 6) sc_plan_of_parts.nd rfl (Or.inl rfl)) pgs_nil)))) (pgs_cons (pg_k (K := K) (t := fun K => gTup K 2 _) rfl (pg_tup (n := 2) rfl (pgs_cons (pg_name (i := 8) sc_plan_of_parts.nd rfl (Or.inl rfl)) (pgs_cons (pg_name (i := 7) sc_plan_of_parts.nd rfl (Or.inl rfl)) pgs_nil)))) pgs_nil))))) (fun _ _ _ _ _ => pts_nil) (fun _ _ _ _ _ => (pe_call ih (hr.mono (by first | decide | omega)) (by rfl) T.d38.mg T.d38.fn.kp T.d38.b .nil pass0 (pa_cons (pv 0) (pa_cons (pv 6) (pa_cons (pv 7) pa_nil)))))) (pss_cons (ps_if (pt_cmpR (op_inL (K := K) rfl (Option Int) (by decide) (Room.units65 hr)) pe_non (pv 4) (by rfl)) (pss_one (ps_ret pe_non)) pss_nil) (pss_one (ps_ret (pe_op op_add pe_int (pe_callB (cr_maxI (K := K) rfl rfl) (by rfl) T.n_max (by decide +kernel) (pa_cons (pv 4) pa_nil)))))))))), ?_⟩
    obtain ⟨l5, z5, e5, hm⟩ := pb_lrng hm
    have h5 : A2 (rep K F0) (rgV 0 (x_fars.length : Int)) l5 := by rw [e5, rgV_eq]; exact A2.of_ints
    refine ⟨_, rfl, _, _, _, _, rfl, rfl, SqT.of (w0.same _ _ q4), rfl, _, rfl, _, _, _, rfl, .inl (SqL.of (w0.same _ _ q1)), h1.length, _, rfl, z5, fun p6 n6 => ?_⟩
    have w6 : W F0 _ ((p6, .lst (rgV 0 (x_fars.length : Int))) :: os) := w0.new n6
    refine ⟨(i4 : Int), _, rep_i, (rep_own (pre := []) w6 h5), _, rfl, ?_⟩
    have w7 : W F0 _ (os) := w6.drop (pre := [])
    refine post_ite hm (fun k8 hm => ?_) (fun k8 hm => ?_)
    · skip
      exact (post_ok hm) _ _ _ w7 sF rep_none
    · skip
      refine ⟨_, rfl, _, rfl, _, rfl, _, _, _, _, rfl, rfl, SqT.of (w7.same _ _ q4), rfl, _, _, _, (x_fars : (List (List Int))), _, (x_things : (Tup Thing)), _, rfl, w7, (rep_lst q1 h1), (rep_tup q2 h2), ?_⟩
      refine (post_bind hm).mono (fun y9 hm v9 F9 H9 w9 s9 r9 => ?_) (fun _ z => z)
      replace q1 := s9 _ _ q1
      replace h1 := A2.mono s9 h1
      replace q2 := s9 _ _ q2
      replace h2 := A2.mono s9 h2
      replace q3 := s9 _ _ q3
      replace r3 := Rep.mono s9 r3
      replace o3 := Rep.mono s9 o3
      replace r4 := Rep.mono s9 r4
      replace q4 := s9 _ _ q4
      replace qb4 := s9 _ _ qb4
      replace h4 := A2.mono s9 h4
      replace sF := sF.trans s9
      obtain ⟨a10, vs10, rfl, q10, h10⟩ := r9
      refine stepN ?_
      try dsimp only
      refine stepSeq (stepIf ?_)
      refine joinT hm (fun (j11 : Bool) c H' => c = j11 ∧ ∃ (F' : Hp), Same F9 F' ∧ W F' H' (os)) ?_ ?_
      · intro Q11 P11 q11 hm
        refine ⟨_, rfl, _, _, _, rfl, .inl (SqL.of (w9.same _ _ q10)), h10.length, _, _, rfl, rfl, _, rfl, ?_⟩
        refine post_ite hm (fun k12 hm => ?_) (fun k12 hm => ?_)
        · skip
          exact q11 _ (post_ok hm) _ _ ⟨rfl, _, Same.refl _, w9⟩
        · skip
          refine ⟨_, rfl, _, rfl, ⟨_, SqL.of (w9.same _ _ q10)⟩, fun D14 nD14 => ?_⟩
          refine lcM (K := K) (tw_list (a := a10) h10) hm w9 nD14 (fun F' H' acc s w => SqL.of (w.same _ _ (s _ _ q10))) ?_ ?_
          · -- one turn
            intro b14 x14 F14 H14 H14' acc14 N14 P14 s14 w14 y14 hN14 hm
            replace h1 := A2.mono s14 h1
            replace q1 := s14 _ _ q1
            replace h2 := A2.mono s14 h2
            replace q2 := s14 _ _ q2
            replace q4 := s14 _ _ q4
            replace r4 := Rep.mono s14 r4
            replace h4 := A2.mono s14 h4
            replace qb4 := s14 _ _ qb4
            replace h10 := A2.mono s14 h10
            replace q10 := s14 _ _ q10
            replace sF := sF.trans s14
            obtain ⟨rfl, r16⟩ := y14
            replace r16 := Rep.mono s14 r16
            obtain ⟨a17, u17, z17, rfl, q17, r17a, r17b⟩ := r16
            obtain rfl : u17 = V.int b14.1 := r17a
            obtain ⟨a18, vs18, rfl, q18, h18⟩ := r17b
            exact ⟨_, _, rfl, SqT.of (w14.same _ _ q17), rfl, _, _, rfl, _, _, rfl, rfl, rfl, _, rfl, hN14 _ (post_ok hm) _ _ _ w14 (Same.refl _) rep_i⟩
          intro us14 F14 H14 ys14 s14 w14 gg14 hm
          replace h1 := A2.mono s14 h1
          replace q1 := s14 _ _ q1
          replace h2 := A2.mono s14 h2
          replace q2 := s14 _ _ q2
          replace q4 := s14 _ _ q4
          replace r4 := Rep.mono s14 r4
          replace h4 := A2.mono s14 h4
          replace qb4 := s14 _ _ qb4
          replace h10 := A2.mono s14 h10
          replace q10 := s14 _ _ q10
          replace sF := sF.trans s14
          refine ⟨_, rfl, _, _, _, _, rfl, rfl, SqT.of (w14.same _ _ q4), rfl, _, rfl, ⟨_, SqT.of (w14.same _ _ qb4)⟩, fun D20 nD20 => ?_⟩
          refine lcM (K := K) (tw_tup (a := b4) h4) hm w14 nD20 (fun F' H' acc s w => SqT.of (w.same _ _ (s _ _ qb4))) ?_ ?_
          · -- one turn
            intro b20 x20 F20 H20 H20' acc20 N20 P20 s20 w20 y20 hN20 hm
            replace h1 := A2.mono s20 h1
            replace q1 := s20 _ _ q1
            replace h2 := A2.mono s20 h2
            replace q2 := s20 _ _ q2
            replace q4 := s20 _ _ q4
            replace r4 := Rep.mono s20 r4
            replace h4 := A2.mono s20 h4
            replace qb4 := s20 _ _ qb4
            replace h10 := A2.mono s20 h10
            replace q10 := s20 _ _ q10
            replace gg14 := A2.mono s20 gg14
            replace sF := sF.trans s20
            obtain ⟨rfl, r22⟩ := y20
            replace r22 := Rep.mono s20 r22
            obtain ⟨a23, u23, z23, rfl, q23, r23a, r23b⟩ := r22
            obtain rfl : u23 = V.int b20.1 := r23a
            have r24 : rep K F20 z23 (b20.2 : Pl) := r23b
            obtain ⟨a24, u24, t24, rfl, q24, o24, l24⟩ := pl_openN r24
            exact ⟨_, _, rfl, SqT.of (w20.same _ _ q23), rfl, _, _, rfl, _, _, rfl, rfl, rfl, _, rfl, hN20 _ (post_ok hm) _ _ _ w20 (Same.refl _) rep_i⟩
          intro us20 F20 H20 ys20 s20 w20 gg20 hm
          replace h1 := A2.mono s20 h1
          replace q1 := s20 _ _ q1
          replace h2 := A2.mono s20 h2
          replace q2 := s20 _ _ q2
          replace q4 := s20 _ _ q4
          replace r4 := Rep.mono s20 r4
          replace h4 := A2.mono s20 h4
          replace qb4 := s20 _ _ qb4
          replace h10 := A2.mono s20 h10
          replace q10 := s20 _ _ q10
          replace gg14 := A2.mono s20 gg14
          replace sF := sF.trans s20
          have w27 : W F20 _ ((D14, .lst us14) :: os) := w20.drop (pre := [])
          have w28 : W F20 _ (os) := w27.drop (pre := [])
          exact ⟨(ys14 : (List Int)), (ys20 : (List Int)), (rep_own (pre := [_]) w20 gg14), (rep_own (pre := []) w20 gg20), _, rfl, q11 _ (post_ok hm) _ _ ⟨rfl, _, (s14.trans s20), w28⟩⟩
      intro j11 c11 H11 hc11 hm
      obtain ⟨rfl, F11, s11, w11⟩ := hc11
      replace h1 := A2.mono s11 h1
      replace q1 := s11 _ _ q1
      replace h2 := A2.mono s11 h2
      replace q2 := s11 _ _ q2
      replace q4 := s11 _ _ q4
      replace r4 := Rep.mono s11 r4
      replace h4 := A2.mono s11 h4
      replace qb4 := s11 _ _ qb4
      replace h10 := A2.mono s11 h10
      replace q10 := s11 _ _ q10
      replace sF := sF.trans s11
      refine post_ite hm (fun k29 hm => ?_) (fun k29 hm => ?_)
      · skip
        exact (post_ok hm) _ _ _ w11 sF rep_none
      · skip
        refine ⟨_, rfl, _, rfl, _, _, _, _, rfl, rfl, SqT.of (w11.same _ _ q4), rfl, _, _, _, _, rfl, SqL.of (w11.same _ _ q10), SqT.of (w11.same _ _ qb4), fun D30 nD30 => ?_⟩
        refine lcM (K := K) (tw_zip2 (Q1 := MZ.qL) (Q2 := MZ.qT) (a := a10) (b := b4) h10 h4) hm w11 nD30 (fun F' H' acc s w => ⟨SqL.of (w.same _ _ (s _ _ q10)), SqT.of (w.same _ _ (s _ _ qb4))⟩) ?_ ?_
        · -- one turn
          intro b30 x30 F30 H30 H30' acc30 N30 P30 s30 w30 y30 hN30 hm
          replace h1 := A2.mono s30 h1
          replace q1 := s30 _ _ q1
          replace h2 := A2.mono s30 h2
          replace q2 := s30 _ _ q2
          replace q4 := s30 _ _ q4
          replace r4 := Rep.mono s30 r4
          replace h4 := A2.mono s30 h4
          replace qb4 := s30 _ _ qb4
          replace h10 := A2.mono s30 h10
          replace q10 := s30 _ _ q10
          replace sF := sF.trans s30
          obtain ⟨T32, z32, u32, rfl, n32, rfl, r32a, r32b⟩ := y30
          obtain ⟨F32, s32, w32, q32⟩ := w30.frzE (o := .tup [z32, u32]) n32
          replace r32a := Rep.mono s30 r32a
          replace r32b := Rep.mono s30 r32b
          replace h1 := A2.mono s32 h1
          replace q1 := s32 _ _ q1
          replace h2 := A2.mono s32 h2
          replace q2 := s32 _ _ q2
          replace q4 := s32 _ _ q4
          replace r4 := Rep.mono s32 r4
          replace h4 := A2.mono s32 h4
          replace qb4 := s32 _ _ qb4
          replace h10 := A2.mono s32 h10
          replace q10 := s32 _ _ q10
          replace sF := sF.trans s32
          replace r32a := Rep.mono s32 r32a
          replace r32b := Rep.mono s32 r32b
          obtain ⟨a33, u33, z33, rfl, q33, r33a, r33b⟩ := r32a
          obtain rfl : u33 = V.int b30.1.1 := r33a
          obtain ⟨a34, vs34, rfl, q34, h34⟩ := r33b
          obtain ⟨a35, u35, z35, rfl, q35, r35a, r35b⟩ := r32b
          obtain rfl : u35 = V.int b30.2.1 := r35a
          have r36 : rep K F32 z35 (b30.2.2 : Pl) := r35b
          obtain ⟨a36, u36, t36, rfl, q36, o36, l36⟩ := pl_openN r36
          refine ⟨_, _, rfl, SqT.of (w32.same _ _ q32), rfl, _, _, rfl, _, _, rfl, SqT.of (w32.same _ _ q33), rfl, _, _, rfl, _, _, rfl, rfl, _, _, rfl, _, _, rfl, SqT.of (w32.same _ _ q35), rfl, _, _, rfl, _, _, rfl, rfl, rfl, rfl, _, rfl, _, rfl, _, rfl, _, _, _, (x_fars : (List (List Int))), _, (b30.1.2 : (Tup Thing)), _, (b30.2.2 : Pl), rfl, w32, (rep_lst q1 h1), (rep_tup q34 h34), r36, ?_⟩
          refine (post_bind hm).mono (fun y37 hm v37 F37 H37 w37 s37 r37 => ?_) (fun _ z => z)
          replace h1 := A2.mono s37 h1
          replace q1 := s37 _ _ q1
          replace h2 := A2.mono s37 h2
          replace q2 := s37 _ _ q2
          replace q4 := s37 _ _ q4
          replace r4 := Rep.mono s37 r4
          replace h4 := A2.mono s37 h4
          replace qb4 := s37 _ _ qb4
          replace h10 := A2.mono s37 h10
          replace q10 := s37 _ _ q10
          replace q32 := s37 _ _ q32
          replace q33 := s37 _ _ q33
          replace q34 := s37 _ _ q34
          replace h34 := A2.mono s37 h34
          replace q35 := s37 _ _ q35
          replace q36 := s37 _ _ q36
          replace r36 := Rep.mono s37 r36
          replace o36 := Rep.mono s37 o36
          replace sF := sF.trans s37
          exact hN30 _ (post_ok hm) _ _ _ w37 (s32.trans s37) r37
        intro us30 F30 H30 ys30 s30 w30 gg30 hm
        replace h1 := A2.mono s30 h1
        replace q1 := s30 _ _ q1
        replace h2 := A2.mono s30 h2
        replace q2 := s30 _ _ q2
        replace q4 := s30 _ _ q4
        replace r4 := Rep.mono s30 r4
        replace h4 := A2.mono s30 h4
        replace qb4 := s30 _ _ qb4
        replace h10 := A2.mono s30 h10
        replace q10 := s30 _ _ q10
        replace sF := sF.trans s30
        obtain ⟨F40, s40, w40, q40⟩ : ∃ F', Same F30 F' ∧ W F' _ (os) ∧ F' D30 = some (.lst us30) := w30.freezeE (pre := [])
        replace h1 := A2.mono s40 h1
        replace q1 := s40 _ _ q1
        replace h2 := A2.mono s40 h2
        replace q2 := s40 _ _ q2
        replace q4 := s40 _ _ q4
        replace r4 := Rep.mono s40 r4
        replace h4 := A2.mono s40 h4
        replace qb4 := s40 _ _ qb4
        replace h10 := A2.mono s40 h10
        replace q10 := s40 _ _ q10
        replace gg30 := A2.mono s40 gg30
        replace sF := sF.trans s40
        refine ⟨_, rfl, (none : (Option Int)), _, (Rep.mono w40.same rep_none), (Rep.mono w40.same (rep_lst q40 gg30)), _, rfl, ?_⟩
        refine post_ite hm (fun k41 hm => ?_) (fun k41 hm => ?_)
        · skip
          exact (post_ok hm) _ _ _ w40 sF rep_none
        · skip
          obtain ⟨l42, e42, hm⟩ := pb_allS hm
          have h42 : A2 (rep K F40) us30 l42 := A2.unsome (e42 ▸ gg30)
          obtain ⟨t43, e43, hm⟩ := pb_max hm
          exact ⟨_, rfl, _, _, _, rfl, ints_q (SqL.of (w40.same _ _ q40)) h42, e43, _, _, rfl, rfl, (post_ok hm) _ _ _ w40 sF (rep_some rep_i)⟩
theorem ok_asks_of (T : Tx K mg A FD) (d : Nat) : FnOk P w K mg base CX0 (3 + 2 * d) (A 38) (FD 38) ["fars", "things", "plan"] (sp_asks_of d K) := by
  induction d with
  | zero =>
    refine T.d38.fn.ok (k := 2) sc_asks_of (fun vs H Q E h => ?_) (fun cdv Ar outer s H vs Q E hr h => ?_)
    · obtain ⟨F, os, v_fars, x_fars, v_things, x_things, v_plan, x_plan, rfl, _⟩ := h
      rfl
    · obtain ⟨F0, os, v_fars, x_fars, v_things, x_things, v_plan, x_plan, rfl, w0, r_fars, r_things, r_plan, hm⟩ := h
      refine ⟨_, (pss_cons ps_absurd (pss_cons ps_absurd (pss_one ps_absurd))), ?_⟩
      exact hm
  | succ d ih =>
    refine T.d38.fn.ok (k := 3 + 2 * d + 1) sc_asks_of (fun vs H Q E h => ?_) (fun cdv Ar outer s H vs Q E hr h => ?_)
    · obtain ⟨F, os, v_fars, x_fars, v_things, x_things, v_plan, x_plan, rfl, _⟩ := h
      rfl
    · obtain ⟨F0, os, v_fars, x_fars, v_things, x_things, v_plan, x_plan, rfl, w0, r_fars, r_things, r_plan, hm⟩ := h
      rw [asks_of] at hm
      have sF : Same F0 F0 := Same.refl _
      obtain ⟨a1, vs1, rfl, q1, h1⟩ := r_fars
      obtain ⟨a2, vs2, rfl, q2, h2⟩ := r_things
      have r3 : rep K F0 v_plan (x_plan : Pl) := r_plan
      obtain ⟨a3, u3, t3, rfl, q3, o3, l3⟩ := pl_openN r3
      refine ⟨_, (pss_cons (ps_if (PW.pt (pw_and (pt_cmp (pc_eqI (pe_callB (call_lenN (K := K) rfl) (by rfl) T.n_len (by decide +kernel) (pa_cons (pv 2) pa_nil)) pe_int)) (pw_and1 (pt_cmpR op_eqS (pe_ix (ix_tupK (K := K) rfl) (pv 2) pe_int (fun _ _ => rfl)) pe_str (nomark _))))) (pss_one (ps_ret (pe_ix (ix_listK (K := K) rfl) (pe_lst (pa_cons pe_non (pa_cons pe_int pa_nil))) (pe_callTy call_intB (by rfl) T.n_int (by decide +kernel) (pa_cons (pe_cmpR (op_eqDt (K := K) rfl (Tup Thing) (by decide) hr.units) (pe_tup (pa_cons (pe_ix (ix_tupK (K := K) rfl) (pv 2) pe_int (fun _ _ => rfl)) pa_nil)) (pv 1) (nomark _)) pa_nil)) (fun _ _ => rfl)))) pss_nil) (pss_cons (ps_if (PW.pt (pw_and (pt_cmp (pc_eqI (pe_callB (call_lenN (K := K) rfl) (by rfl) T.n_len (by decide +kernel) (pa_cons (pv 2) pa_nil)) pe_int)) (pw_and1 (pt_cmpR op_eqS (pe_ix (ix_tupK (K := K) rfl) (pv 2) pe_int (fun _ _ => rfl)) pe_str (nomark _))))) (pss_one (ps_ret (pe_call (ok_plan_of_parts T d ih) (hr.mono (by first | decide | omega)) (by rfl) T.d37.mg T.d37.fn.kp T.d37.b .nil pass0 (pa_cons (pv 0) (pa_cons (pv 1) (pa_cons (pv 2) pa_nil)))))) pss_nil) (pss_one (ps_ret pe_non)))), ?_⟩
      try dsimp only
      refine stepSeq (stepIf ?_)
      refine joinT hm (fun (j4 : Bool) c H' => c = j4 ∧ ∃ (F' : Hp), Same F0 F' ∧ W F' H' (os)) ?_ ?_
      · intro Q4 P4 q4 hm
        refine ⟨_, rfl, _, _, _, rfl, .inr (SqT.of (w0.same _ _ q3)), l3, _, _, rfl, rfl, _, rfl, ?_⟩
        refine post_ite hm (fun k5 hm => ?_) (fun k5 hm => ?_)
        · skip
          exact ⟨_, rfl, _, _, _, _, rfl, rfl, SqT.of (w0.same _ _ q3), at_0, _, _, rfl, rfl, _, rfl, q4 _ (post_ok hm) _ _ ⟨rfl, _, Same.refl _, w0⟩⟩
        · skip
          exact q4 _ (post_ok hm) _ _ ⟨rfl, _, Same.refl _, w0⟩
      intro j4 c4 H4 hc4 hm
      obtain ⟨rfl, F4, s4, w4⟩ := hc4
      replace q1 := s4 _ _ q1
      replace h1 := A2.mono s4 h1
      replace q2 := s4 _ _ q2
      replace h2 := A2.mono s4 h2
      replace q3 := s4 _ _ q3
      replace r3 := Rep.mono s4 r3
      replace o3 := Rep.mono s4 o3
      replace sF := sF.trans s4
      refine post_ite hm (fun k8 hm => ?_) (fun k8 hm => ?_)
      · skip
        obtain ⟨t9, e9, hm⟩ := pb_asIs hm
        have o9 : rep K F4 u3 t9 := (show (x_plan).one = t9 from by rw [e9]; rfl) ▸ o3
        have h10 : A2 (rep K F4) [.non, (.int 0)] ([none, (some (0 : Int))] : (List (Option Int))) := .cons rep_none (.cons (rep_some rep_i) (.nil))
        refine ⟨(by show 2 ≤ sizeLine; decide), fun p11 n11 => ?_⟩
        have w11 : W F4 _ ((p11, .lst [.non, (.int 0)]) :: os) := w4.new n11
        have h12 : A2 (rep K F4) [u3] (Tup.mk [t9] : (Tup Thing)).l := .cons o9 (.nil)
        refine ⟨_, rfl, _, _, _, _, rfl, rfl, SqT.of (w11.same _ _ q3), at_1, (by show 1 ≤ sizeLine; decide), fun p13 n13 => ?_⟩
        obtain ⟨F13, s13, w13, q13⟩ := w11.frzE (o := .tup [u3]) n13
        replace q1 := s13 _ _ q1
        replace h1 := A2.mono s13 h1
        replace q2 := s13 _ _ q2
        replace h2 := A2.mono s13 h2
        replace q3 := s13 _ _ q3
        replace r3 := Rep.mono s13 r3
        replace o3 := Rep.mono s13 o3
        replace o9 := Rep.mono s13 o9
        replace h10 := A2.mono s13 h10
        replace h12 := A2.mono s13 h12
        replace sF := sF.trans s13
        obtain ⟨t14, e14, hm⟩ := pb_get hm
        obtain ⟨u14, f14, r14⟩ := A2.at h10 e14
        have w16 : W F13 _ (os) := w13.drop (pre := [])
        exact ⟨_, rfl, ((Tup.mk [t9] : (Tup Thing)) : (Tup Thing)), (x_things : (Tup Thing)), (Rep.mono w13.same (rep_tup q13 h12)), (Rep.mono w13.same (rep_tup q2 h2)), _, rfl, _, _, _, _, rfl, rfl, SqL.of (w13.get (pre := [])), f14, (post_ok hm) _ _ _ w16 sF r14⟩
      · skip
        refine stepX ?_
        try dsimp only
        refine stepSeq (stepIf ?_)
        refine joinT hm (fun (j17 : Bool) c H' => c = j17 ∧ ∃ (F' : Hp), Same F4 F' ∧ W F' H' (os)) ?_ ?_
        · intro Q17 P17 q17 hm
          refine ⟨_, rfl, _, _, _, rfl, .inr (SqT.of (w4.same _ _ q3)), l3, _, _, rfl, rfl, _, rfl, ?_⟩
          refine post_ite hm (fun k18 hm => ?_) (fun k18 hm => ?_)
          · skip
            exact ⟨_, rfl, _, _, _, _, rfl, rfl, SqT.of (w4.same _ _ q3), at_0, _, _, rfl, rfl, _, rfl, q17 _ (post_ok hm) _ _ ⟨rfl, _, Same.refl _, w4⟩⟩
          · skip
            exact q17 _ (post_ok hm) _ _ ⟨rfl, _, Same.refl _, w4⟩
        intro j17 c17 H17 hc17 hm
        obtain ⟨rfl, F17, s17, w17⟩ := hc17
        replace q1 := s17 _ _ q1
        replace h1 := A2.mono s17 h1
        replace q2 := s17 _ _ q2
        replace h2 := A2.mono s17 h2
        replace q3 := s17 _ _ q3
        replace r3 := Rep.mono s17 r3
        replace o3 := Rep.mono s17 o3
        replace sF := sF.trans s17
        refine post_ite hm (fun k21 hm => ?_) (fun k21 hm => ?_)
        · skip
          obtain ⟨i22, l22, e22, hm⟩ := pb_asAsk hm
          have r22 : rep K F17 (.ref a3) (Pl.ask i22 l22) := e22 ▸ r3
          obtain ⟨p22, b22, vs22, z22, q22, qb22, h22⟩ := ask_open r22
          have z22 : a3 = p22 := V.ref.inj z22
          subst z22
          refine ⟨_, rfl, _, rfl, _, rfl, _, _, _, (x_fars : (List (List Int))), _, (x_things : (Tup Thing)), _, ((Pl.ask i22 l22) : Pl), rfl, w17, (rep_lst q1 h1), (rep_tup q2 h2), r22, ?_⟩
          refine (post_bind hm).mono (fun y23 hm v23 F23 H23 w23 s23 r23 => ?_) (fun _ z => z)
          replace q1 := s23 _ _ q1
          replace h1 := A2.mono s23 h1
          replace q2 := s23 _ _ q2
          replace h2 := A2.mono s23 h2
          replace q3 := s23 _ _ q3
          replace r3 := Rep.mono s23 r3
          replace o3 := Rep.mono s23 o3
          replace r22 := Rep.mono s23 r22
          replace q22 := s23 _ _ q22
          replace qb22 := s23 _ _ qb22
          replace h22 := A2.mono s23 h22
          replace sF := sF.trans s23
          exact (post_ok hm) _ _ _ w23 sF r23
        · skip
          exact (post_ok hm) _ _ _ w17 sF rep_none
def sp_plan_asks (K : Fg) : Sp := fun vs H Q E => ∃ (F : Hp) (os : List (Addr × HO)) (v_web : V) (x_web : (Int × (Tup (Int × Int)))) (x_kind : Str) (v_plan : V) (x_plan : Pl), vs = [v_web, .str x_kind, v_plan] ∧ W F H (os) ∧ rep K F v_web x_web ∧ rep K F v_plan x_plan ∧ Post (plan_asks x_web x_kind x_plan) (Ret K F os Q) noX
theorem sc_plan_asks : FnScope ["web", "kind", "plan", "things"] ["web", "kind", "plan"] (defScope s_plan_asks) := ⟨rfl, rfl, rfl, by decide +kernel, rfl, by decide +kernel, by decide +kernel⟩
theorem ok_plan_asks (T : Tx K mg A FD) : FnOk P w K mg base CX0 44 (A 39) (FD 39) ["web", "kind", "plan"] (sp_plan_asks K) := by
  refine T.d39.fn.ok sc_plan_asks (fun vs H Q E h => ?_) (fun cdv Ar outer s H vs Q E hr h => ?_)
  · obtain ⟨F, os, v_web, x_web, x_kind, v_plan, x_plan, rfl, _⟩ := h
    rfl
  · obtain ⟨F0, os, v_web, x_web, x_kind, v_plan, x_plan, rfl, w0, r_web, r_plan, hm⟩ := h
    have sF : Same F0 F0 := Same.refl _
    obtain ⟨a1, u1, z1, rfl, q1, r1a, r1b⟩ := r_web
    obtain rfl : u1 = V.int x_web.1 := r1a
    obtain ⟨a2, vs2, rfl, q2, h2⟩ := r1b
    have r3 : rep K F0 v_plan (x_plan : Pl) := r_plan
    obtain ⟨a3, u3, t3, rfl, q3, o3, l3⟩ := pl_openN r3
    refine ⟨_, (pss_cons (ps_set (i := 3) sc_plan_asks.nd rfl (Or.inl rfl) (pe_callTy (call_tuple_ofK (K := K) rfl) (by rfl) T.n_tuple (by decide +kernel) (pa_cons (pe_call (ok_few_things T) (hr.mono (by decide)) (by rfl) T.d30.mg T.d30.fn.kp T.d30.b .nil pass0 (pa_cons (pv 0) (pa_cons (pv 1) pa_nil))) pa_nil))) (pss_one (ps_ret (pe_call (ok_asks_of T 20) (hr.mono (by first | decide | omega)) (by rfl) T.d38.mg T.d38.fn.kp T.d38.b .nil pass0 (pa_cons (pe_call (ok_all_fars T) (hr.mono (by decide)) (by rfl) T.d31.mg T.d31.fn.kp T.d31.b .nil pass0 (pa_cons (pv 0) pa_nil)) (pa_cons (pv 3) (pa_cons (pv 2) pa_nil))))))), ?_⟩
    refine ⟨_, rfl, _, rfl, _, _, _, (x_web : (Int × (Tup (Int × Int)))), _, rfl, w0, (rep_pair q1 rep_i (rep_tup q2 h2)), ?_⟩
    refine (post_bind hm).mono (fun y4 hm v4 F4 H4 w4 s4 r4 => ?_) (fun _ z => z)
    replace q1 := s4 _ _ q1
    replace q2 := s4 _ _ q2
    replace h2 := A2.mono s4 h2
    replace q3 := s4 _ _ q3
    replace r3 := Rep.mono s4 r3
    replace o3 := Rep.mono s4 o3
    replace sF := sF.trans s4
    obtain ⟨a5, vs5, rfl, q5, h5⟩ := r4
    have h6 : A2 (rep K F4) vs5 y4 := h5
    refine ⟨_, _, rfl, .inl ⟨SqL.of (w4.same _ _ q5), fun p7 n7 => ?_⟩⟩
    obtain ⟨F7, s7, w7, q7⟩ := w4.frzE (o := .tup vs5) n7
    replace q1 := s7 _ _ q1
    replace q2 := s7 _ _ q2
    replace h2 := A2.mono s7 h2
    replace q3 := s7 _ _ q3
    replace r3 := Rep.mono s7 r3
    replace o3 := Rep.mono s7 o3
    replace q5 := s7 _ _ q5
    replace h5 := A2.mono s7 h5
    replace h6 := A2.mono s7 h6
    replace sF := sF.trans s7
    refine ⟨_, rfl, _, _, _, (x_web : (Int × (Tup (Int × Int)))), rfl, w7, (rep_pair q1 rep_i (rep_tup q2 h2)), ?_⟩
    refine (post_bind hm).mono (fun y8 hm v8 F8 H8 w8 s8 r8 => ?_) (fun _ z => z)
    replace q1 := s8 _ _ q1
    replace h2 := A2.mono s8 h2
    replace q2 := s8 _ _ q2
    replace q3 := s8 _ _ q3
    replace r3 := Rep.mono s8 r3
    replace o3 := Rep.mono s8 o3
    replace h6 := A2.mono s8 h6
    replace q7 := s8 _ _ q7
    replace sF := sF.trans s8
    obtain ⟨a9, vs9, rfl, q9, h9⟩ := r8
    refine ⟨_, rfl, _, rfl, _, _, _, (y8 : (List (List Int))), _, ((Tup.mk y4) : (Tup Thing)), _, (x_plan : Pl), rfl, w8, (rep_lst q9 h9), (rep_tup q7 h6), r3, ?_⟩
    refine (post_bind hm).mono (fun y10 hm v10 F10 H10 w10 s10 r10 => ?_) (fun _ z => z)
    replace q1 := s10 _ _ q1
    replace h2 := A2.mono s10 h2
    replace q2 := s10 _ _ q2
    replace q3 := s10 _ _ q3
    replace r3 := Rep.mono s10 r3
    replace o3 := Rep.mono s10 o3
    replace h6 := A2.mono s10 h6
    replace q7 := s10 _ _ q7
    replace q9 := s10 _ _ q9
    replace h9 := A2.mono s10 h9
    replace sF := sF.trans s10
    exact (post_ok hm) _ _ _ w10 sF r10
def sp_law_cell_at (K : Fg) : Sp := fun vs H Q E => ∃ (F : Hp) (os : List (Addr × HO)) (v_script : V) (x_script : Scr) (x_k : Int), vs = [v_script, .int x_k] ∧ W F H (os) ∧ rep K F v_script x_script ∧ Post (law_cell_at x_script x_k) (Ret K F os Q) noX
theorem sc_law_cell_at : FnScope ["script", "k", "cell"] ["script", "k"] (defScope s_law_cell_at) := ⟨rfl, rfl, rfl, by decide +kernel, rfl, by decide +kernel, by decide +kernel⟩
theorem ok_law_cell_at (T : Tx K mg A FD) : FnOk P w K mg base CX0 1 (A 41) (FD 41) ["script", "k"] (sp_law_cell_at K) := by
  refine T.d41.fn.ok sc_law_cell_at (fun vs H Q E h => ?_) (fun cdv Ar outer s H vs Q E hr h => ?_)
  · obtain ⟨F, os, v_script, x_script, x_k, rfl, _⟩ := h
    rfl
  · obtain ⟨F0, os, v_script, x_script, x_k, rfl, w0, r_script, hm⟩ := h
    have sF : Same F0 F0 := Same.refl _
    obtain ⟨a1, rfl, q1⟩ := r_script
    have h1 : A2 (rep K F0) (x_script.l.map V.int) x_script.l := A2.of_ints
    refine ⟨_, (pss_cons (ps_if (pt_cmp (pc_lt (pv 1) (pe_callB (call_lenN (K := K) rfl) (by rfl) T.n_len (by decide +kernel) (pa_cons (pv 0) pa_nil)))) (pss_one (ps_ret (pe_ix (ix_listK (K := K) rfl) (pv 0) (pv 1) (fun _ _ => rfl)))) pss_nil) (pss_cons (ps_set (i := 2) sc_law_cell_at.nd rfl (Or.inl rfl) pe_int1) (pss_cons (ps_if (pt_cmpR (op_neDt (K := K) rfl Scr (by decide) hr.units) (pv 0) (pe_lst pa_nil) (nomark _)) (pss_one (ps_set (i := 2) sc_law_cell_at.nd rfl (Or.inl rfl) (pe_op op_mod (pe_ix (ix_listK (K := K) rfl) (pv 0) (pe_op op_mod (pv 1) (pe_callB (call_lenN (K := K) rfl) (by rfl) T.n_len (by decide +kernel) (pa_cons (pv 0) pa_nil))) (fun _ _ => rfl)) pe_int))) pss_nil) (pss_one (ps_ret (pe_op op_add (pe_op op_add (pv 2) (pe_op op_mul pe_int (pv 1))) pe_int)))))), ?_⟩
    refine ⟨_, rfl, _, rfl, _, _, _, rfl, .inl (w0.same.seq q1), h1.length, _, _, rfl, rfl, _, rfl, ?_⟩
    refine post_ite hm (fun k2 hm => ?_) (fun k2 hm => ?_)
    · skip
      obtain ⟨t3, e3, hm⟩ := pb_get hm
      obtain ⟨u3, f3, r3⟩ := A2.at h1 e3
      obtain rfl : u3 = V.int t3 := r3
      exact ⟨_, rfl, _, rfl, _, _, _, _, rfl, rfl, w0.same.seq q1, f3, (post_ok hm) _ _ _ w0 sF rep_i⟩
    · skip
      refine ⟨trivial, ?_⟩
      refine stepN ?_
      try dsimp only
      refine joinS hm (fun (g4 : Int) σ H' => ∃ (F' : Hp), σ = [some (.ref a1), some (.int x_k), some (.int g4)] ∧ Same F0 F' ∧ W F' H' (os)) ?_ ?_
      · intro N4 P4 hN4 hm
        have h5 : A2 (rep K F0) [] ([] : (List Int)) := .nil
        refine ⟨_, rfl, (by show 0 ≤ sizeLine; decide), fun p6 n6 => ?_⟩
        have w6 : W F0 _ ((p6, .lst []) :: os) := w0.new n6
        refine ⟨(x_script : Scr), (⟨([] : (List Int))⟩ : Scr), (Rep.mono w6.same ⟨_, rfl, q1⟩), ⟨_, rfl, SqL.of (w6.get (pre := []))⟩, _, rfl, ?_⟩
        have w7 : W F0 _ (os) := w6.drop (pre := [])
        refine post_ite hm (fun k8 hm => ?_) (fun k8 hm => ?_)
        · skip
          obtain ⟨c9, hm⟩ := pb_mod hm
          obtain ⟨t10, e10, hm⟩ := pb_get hm
          obtain ⟨u10, f10, r10⟩ := A2.at h1 e10
          obtain rfl : u10 = V.int t10 := r10
          exact ⟨_, rfl, _, rfl, _, rfl, _, _, _, rfl, .inl (w7.same.seq q1), h1.length, _, _, rfl, rfl, c9, _, _, _, _, rfl, rfl, w7.same.seq q1, f10, _, _, rfl, rfl, (by show (0 : Int) < (1000003 : Int); decide), hN4 _ (post_ok hm) _ _ ⟨_, rfl, Same.refl _, w7⟩⟩
        · skip
          exact hN4 _ (post_ok hm) _ _ ⟨_, rfl, Same.refl _, w7⟩
      intro g4 σ4 H4 hI hm
      obtain ⟨F4, rfl, s4, w4⟩ := hI
      replace h1 := A2.mono s4 h1
      replace q1 := s4.seq q1
      replace sF := sF.trans s4
      exact ⟨_, rfl, _, rfl, _, _, rfl, rfl, (.inl (by constructor <;> decide)), _, _, rfl, rfl, _, _, rfl, rfl, (post_ok hm) _ _ _ w4 sF rep_i⟩
def sp_law_folded (K : Fg) : Sp := fun vs H Q E => ∃ (F : Hp) (os : List (Addr × HO)) (v_script : V) (x_script : Scr) (x_many : Int), vs = [v_script, .int x_many] ∧ W F H (os) ∧ rep K F v_script x_script ∧ Post (law_folded x_script x_many) (RetL K F os Q) noX
theorem sc_law_folded : FnScope ["script", "many", "cells", "k", "at"] ["script", "many"] (defScope s_law_folded) := ⟨rfl, rfl, rfl, by decide +kernel, rfl, by decide +kernel, by decide +kernel⟩
theorem ok_law_folded (T : Tx K mg A FD) : FnOk P w K mg base CX0 2 (A 42) (FD 42) ["script", "many"] (sp_law_folded K) := by
  refine T.d42.fn.ok sc_law_folded (fun vs H Q E h => ?_) (fun cdv Ar outer s H vs Q E hr h => ?_)
  · obtain ⟨F, os, v_script, x_script, x_many, rfl, _⟩ := h
    rfl
  · obtain ⟨F0, os, v_script, x_script, x_many, rfl, w0, r_script, hm⟩ := h
    have sF : Same F0 F0 := Same.refl _
    obtain ⟨a1, rfl, q1⟩ := r_script
    have h1 : A2 (rep K F0) (x_script.l.map V.int) x_script.l := A2.of_ints
    refine ⟨_, (pss_cons (ps_setLc (i := 2) (own := [("k", 3)]) (g := gName 3) (by rfl) sc_law_folded.nd rfl rfl (sw_true rfl rfl rfl (by decide +kernel)) (pi_range1 (by rfl) T.n_range (pa_cons (pv 1) pa_nil)) (blkOk_by (own := [("k", 3)]) (N := ["script", "many", "cells", "k", "at"]) (sc := defScope s_law_folded) (by decide +kernel)) (fun _ _ _ _ _ => (pg_name (i := 3) sc_law_folded.nd rfl (Or.inl rfl))) (fun _ _ _ _ _ => pts_nil) (fun _ _ _ _ _ => (pe_call (ok_law_cell_at T) (hr.mono (by decide)) (by rfl) T.d41.mg T.d41.fn.kp T.d41.b .nil pass0 (pa_cons (pv 0) (pa_cons (pv 3) pa_nil))))) (pss_cons (ps_for PassesOwn.never rfl (pi_range2 (by rfl) T.n_range (pa_cons (pv 1) (pa_cons (pe_callB (call_lenN (K := K) rfl) (by rfl) T.n_len (by decide +kernel) (pa_cons (pv 0) pa_nil)) pa_nil))) (pg_name (i := 3) sc_law_folded.nd rfl (Or.inl rfl)) (pss_cons (ps_set (i := 4) sc_law_folded.nd rfl (Or.inl rfl) (pe_op op_mod (pv 3) (pv 1))) (pss_one (ps_asg (pe_op op_mod (pe_op op_add (pe_op op_mul (pe_op op_mod (pe_ix (ix_listK (K := K) rfl) (pv 2) (pv 4) (fun _ _ => rfl)) (pe_op op_pow pe_int pe_int)) pe_int) (pe_ix (ix_listK (K := K) rfl) (pv 0) (pv 3) (fun _ _ => rfl))) (pe_op op_add (pe_op op_pow pe_int pe_int) pe_int)) (pg_sub (pv 2) (pv 4) set_list))))) (pss_one (ps_ret (pv 2))))), ?_⟩
    obtain ⟨c2, hm⟩ := pb_rng hm
    refine ⟨_, rfl, _, rfl, c2.2.2.1, c2.2.2.2, fun D3 nD3 => ?_⟩
    refine lcM (K := K) (tw_rng0 (j := x_many)) hm w0 nD3 (fun F' H' acc s w => trivial) ?_ ?_
    · -- one turn
      intro b3 x3 F3 H3 H3' acc3 N3 P3 s3 w3 y3 hN3 hm
      replace q1 := s3.seq q1
      replace h1 := A2.mono s3 h1
      replace sF := sF.trans s3
      obtain ⟨rfl, rfl⟩ := y3
      refine ⟨rfl, _, rfl, _, rfl, _, _, _, (x_script : Scr), _, rfl, w3, ⟨_, rfl, q1⟩, ?_⟩
      refine (post_bind hm).mono (fun y5 hm v5 F5 H5 w5 s5 r5 => ?_) (fun _ z => z)
      replace q1 := s5.seq q1
      replace h1 := A2.mono s5 h1
      replace sF := sF.trans s5
      obtain rfl : v5 = V.int y5 := r5
      exact hN3 _ (post_ok hm) _ _ _ w5 s5 rep_i
    intro us3 F3 H3 ys3 s3 w3 gg3 hm
    replace q1 := s3.seq q1
    replace h1 := A2.mono s3 h1
    replace sF := sF.trans s3
    obtain ⟨c8, hm⟩ := pb_rng hm
    refine ⟨_, rfl, _, rfl, _, _, _, rfl, .inl (w3.same.seq q1), h1.length, _, _, rfl, c8, ?_⟩
    refine forS (tw_rng (i := x_many) (j := (x_script.l.length : Int))) hm (fun (g7 : (List Int)) σ H' => ∃ (F' : Hp) (vs7_0 : List V) (o7_4 : Option V) (o7_3 : Option V), σ = [some (.ref a1), some (.int x_many), some (.ref D3), o7_3, o7_4] ∧ Same F3 F' ∧ W F' H' ((D3, .lst vs7_0) :: os) ∧ A2 (rep K F') vs7_0 g7) ⟨_, _, _, _, rfl, Same.refl _, w3, gg3⟩ (fun _ _ _ _ => trivial) ?_ ?_
    · -- a turn
      intro b7 g7 x7 σ7 H7 H7' N7 P7 hI hy hN7 hm
      obtain ⟨F7, vs7_0, o7_4, o7_3, rfl, s7, w7, h7_0⟩ := hI
      replace h1 := A2.mono s7 h1
      replace q1 := s7.seq q1
      replace sF := sF.trans s7
      obtain ⟨rfl, rfl⟩ := hy
      obtain ⟨c9, hm⟩ := pb_mod hm
      obtain ⟨t10, e10, hm⟩ := pb_get hm
      obtain ⟨u10, f10, r10⟩ := A2.at h7_0 e10
      obtain rfl : u10 = V.int t10 := r10
      obtain ⟨t14, e14, hm⟩ := pb_get hm
      obtain ⟨u14, f14, r14⟩ := A2.at h1 e14
      obtain rfl : u14 = V.int t14 := r14
      obtain ⟨j17, l17, z17, e17, hm⟩ := pn_set hm
      refine ⟨_, rfl, _, rfl, _, _, rfl, rfl, c9, _, rfl, _, rfl, _, _, _, _, rfl, rfl, SqL.of (w7.get (pre := [])), f10, _, _, rfl, rfl, (by refine ⟨?_, ?_, ?_⟩ <;> decide), _, _, rfl, rfl, (by show (0 : Int) < ((10 : Int) ^ ((60 : Int) : Int).toNat); decide), _, _, rfl, rfl, (.inr (by constructor <;> decide)), _, rfl, _, rfl, _, _, _, _, rfl, rfl, w7.same.seq q1, f14, _, _, rfl, rfl, _, _, rfl, rfl, (by refine ⟨?_, ?_, ?_⟩ <;> decide), _, _, rfl, rfl, _, _, rfl, rfl, (by show (0 : Int) < (((10 : Int) ^ ((60 : Int) : Int).toNat) + (7 : Int)); decide), _, rfl, _, rfl, _, _, _, _, rfl, rfl, (w7.get (pre := [])), (A2.ix h7_0 z17), ?_⟩
      have h17 : A2 (rep K F7) (vs7_0.set j17 (V.int ((((t10 % ((10 : Int) ^ ((60 : Int) : Int).toNat)) * (48271 : Int)) + t14) % (((10 : Int) ^ ((60 : Int) : Int).toNat) + (7 : Int))))) l17 := e17 ▸ A2.set rep_i j17 h7_0
      have w18 : W F7 _ ((D3, .lst (vs7_0.set j17 (V.int ((((t10 % ((10 : Int) ^ ((60 : Int) : Int).toNat)) * (48271 : Int)) + t14) % (((10 : Int) ^ ((60 : Int) : Int).toNat) + (7 : Int)))))) :: os) := w7.set (pre := [])
      exact hN7 _ (post_ok hm) _ _ ⟨_, _, _, _, rfl, s7, w18, h17⟩
    intro g7 σ7 H7 hI hm
    obtain ⟨F7, vs7_0, o7_4, o7_3, rfl, s7, w7, h7_0⟩ := hI
    replace h1 := A2.mono s7 h1
    replace q1 := s7.seq q1
    replace sF := sF.trans s7
    exact ⟨_, rfl, (post_ok hm) _ _ _ _ w7 sF h7_0⟩
def sp_law_state (K : Fg) : Sp := fun vs H Q E => ∃ (F : Hp) (os : List (Addr × HO)) (x_cell : Int), vs = [.int x_cell] ∧ W F H (os) ∧ Post (law_state x_cell) (RetL K F os Q) noX
theorem sc_law_state : FnScope ["cell", "left"] ["cell"] (defScope s_law_state) := ⟨rfl, rfl, rfl, by decide +kernel, rfl, by decide +kernel, by decide +kernel⟩
theorem ok_law_state (T : Tx K mg A FD) : FnOk P w K mg base CX0 1 (A 43) (FD 43) ["cell"] (sp_law_state K) := by
  refine T.d43.fn.ok sc_law_state (fun vs H Q E h => ?_) (fun cdv Ar outer s H vs Q E hr h => ?_)
  · obtain ⟨F, os, x_cell, rfl, _⟩ := h
    rfl
  · obtain ⟨F0, os, x_cell, rfl, w0, hm⟩ := h
    have sF : Same F0 F0 := Same.refl _
    refine ⟨_, (pss_cons (ps_set (i := 1) sc_law_state.nd rfl (Or.inl rfl) pe_int1) (pss_cons (ps_if (pt_cmp (pc_ge (pv 0) (pe_op op_pow pe_int pe_int))) (pss_one (ps_set (i := 1) sc_law_state.nd rfl (Or.inl rfl) (pv 0))) pss_nil) (pss_one (ps_ret (pe_lst (pa_cons (pv 1) (pa_cons (pe_op op_mod (pe_op op_mul (pe_op op_add (pe_op op_mod (pv 0) pe_int) pe_int) pe_int) pe_int) pa_nil))))))), ?_⟩
    refine ⟨trivial, ?_⟩
    refine stepN ?_
    try dsimp only
    refine joinS hm (fun (g1 : Int) σ H' => ∃ (F' : Hp), σ = [some (.int x_cell), some (.int g1)] ∧ Same F0 F' ∧ W F' H' (os)) ?_ ?_
    · intro N1 P1 hN1 hm
      refine ⟨_, rfl, _, _, rfl, rfl, (by refine ⟨?_, ?_, ?_⟩ <;> decide), _, _, rfl, rfl, _, rfl, ?_⟩
      refine post_ite hm (fun k3 hm => ?_) (fun k3 hm => ?_)
      · skip
        exact ⟨_, rfl, hN1 _ (post_ok hm) _ _ ⟨_, rfl, Same.refl _, w0⟩⟩
      · skip
        exact hN1 _ (post_ok hm) _ _ ⟨_, rfl, Same.refl _, w0⟩
    intro g1 σ1 H1 hI hm
    obtain ⟨F1, rfl, s1, w1⟩ := hI
    replace sF := sF.trans s1
    have h7 : A2 (rep K F1) [(.int g1), (.int ((((x_cell % (2147483629 : Int)) + (11 : Int)) * (48271 : Int)) % (2147483647 : Int)))] ([g1, ((((x_cell % (2147483629 : Int)) + (11 : Int)) * (48271 : Int)) % (2147483647 : Int))] : (List Int)) := .cons rep_i (.cons rep_i (.nil))
    refine ⟨_, rfl, _, rfl, _, _, rfl, rfl, (by show (0 : Int) < (2147483629 : Int); decide), _, _, rfl, rfl, _, _, rfl, rfl, (.inr (by constructor <;> decide)), _, _, rfl, rfl, (by show (0 : Int) < (2147483647 : Int); decide), (by show 2 ≤ sizeLine; decide), fun p8 n8 => ?_⟩
    have w8 : W F1 _ ((p8, .lst [(.int g1), (.int ((((x_cell % (2147483629 : Int)) + (11 : Int)) * (48271 : Int)) % (2147483647 : Int)))]) :: os) := w1.new n8
    exact (post_ok hm) _ _ _ _ w8 sF h7
def sp_law_next (K : Fg) : Sp := fun vs H Q E => ∃ (F : Hp) (os : List (Addr × HO)) (a_state : Addr) (vs_state : List V) (x_state : (List Int)) (x_many : Int), vs = [.ref a_state, .int x_many] ∧ W F H ((a_state, .lst vs_state) :: os) ∧ A2 (rep K F) vs_state x_state ∧ Post (law_next x_state x_many) (RetM K F a_state os Q) noX
theorem sc_law_next : FnScope ["state", "many", "found"] ["state", "many"] (defScope s_law_next) := ⟨rfl, rfl, rfl, by decide +kernel, rfl, by decide +kernel, by decide +kernel⟩
theorem ok_law_next (T : Tx K mg A FD) : FnOk P w K mg base CX0 1 (A 44) (FD 44) ["state", "many"] (sp_law_next K) := by
  refine T.d44.fn.ok sc_law_next (fun vs H Q E h => ?_) (fun cdv Ar outer s H vs Q E hr h => ?_)
  · obtain ⟨F, os, a_state, vs_state, x_state, x_many, rfl, _⟩ := h
    rfl
  · obtain ⟨F0, os, a_state, vs_state, x_state, x_many, rfl, w0, h_state, hm⟩ := h
    have sF : Same F0 F0 := Same.refl _
    refine ⟨_, (pss_cons (ps_if (pt_cmp (pc_gt (pe_ix (ix_listK (K := K) rfl) (pv 0) pe_int (fun _ _ => rfl)) pe_int)) (pss_cons (ps_set (i := 2) sc_law_next.nd rfl (Or.inl rfl) (pe_op op_mod (pe_ix (ix_listK (K := K) rfl) (pv 0) pe_int (fun _ _ => rfl)) (pv 1))) (pss_cons (ps_asg (pe_op op_fdivW (pe_ix (ix_listK (K := K) rfl) (pv 0) pe_int (fun _ _ => rfl)) (pv 1)) (pg_sub (pv 0) pe_int set_list)) (pss_one (ps_ret (pv 2))))) pss_nil) (pss_cons (ps_asg (pe_op op_mod (pe_op op_add (pe_op op_mul (pe_ix (ix_listK (K := K) rfl) (pv 0) pe_int (fun _ _ => rfl)) pe_int) pe_int) pe_int) (pg_sub (pv 0) pe_int set_list)) (pss_one (ps_ret (pe_op op_mod (pe_op op_fdiv (pe_op op_mod (pe_op op_mul (pe_ix (ix_listK (K := K) rfl) (pv 0) pe_int (fun _ _ => rfl)) (pe_ix (ix_listK (K := K) rfl) (pv 0) pe_int (fun _ _ => rfl))) pe_int) pe_int) (pv 1)))))), ?_⟩
    obtain ⟨t2, e2, hm⟩ := pb_get hm
    obtain ⟨u2, f2, r2⟩ := A2.at h_state e2
    obtain rfl : u2 = V.int t2 := r2
    refine ⟨_, rfl, _, _, _, _, rfl, rfl, SqL.of (w0.get (pre := [])), f2, _, _, rfl, rfl, _, rfl, ?_⟩
    refine post_ite hm (fun k3 hm => ?_) (fun k3 hm => ?_)
    · skip
      obtain ⟨t4, e4, hm⟩ := pb_get hm
      obtain ⟨u4, f4, r4⟩ := A2.at h_state e4
      obtain rfl : u4 = V.int t4 := r4
      obtain ⟨c5, hm⟩ := pb_mod hm
      obtain ⟨t6, e6, hm⟩ := pb_get hm
      obtain ⟨u6, f6, r6⟩ := A2.at h_state e6
      obtain rfl : u6 = V.int t6 := r6
      obtain ⟨c7, hm⟩ := pb_div hm
      obtain ⟨j8, l8, z8, e8, hm⟩ := pn_set hm
      refine ⟨_, rfl, _, _, _, _, rfl, rfl, SqL.of (w0.get (pre := [])), f4, _, rfl, _, _, rfl, rfl, c5, _, rfl, _, _, _, _, rfl, rfl, SqL.of (w0.get (pre := [])), f6, _, rfl, _, _, rfl, rfl, c7, _, rfl, _, _, _, _, rfl, rfl, (w0.get (pre := [])), (A2.ix h_state z8), ?_⟩
      have h8 : A2 (rep K F0) (vs_state.set j8 (V.int (t6 / x_many))) l8 := e8 ▸ A2.set rep_i j8 h_state
      have w9 : W F0 _ ((a_state, .lst (vs_state.set j8 (V.int (t6 / x_many)))) :: os) := w0.set (pre := [])
      exact ⟨_, rfl, (post_ok hm) _ _ _ _ w9 sF rep_i h8⟩
    · skip
      obtain ⟨t10, e10, hm⟩ := pb_get hm
      obtain ⟨u10, f10, r10⟩ := A2.at h_state e10
      obtain rfl : u10 = V.int t10 := r10
      obtain ⟨j13, l13, z13, e13, hm⟩ := pn_set hm
      refine ⟨_, rfl, _, _, _, _, rfl, rfl, SqL.of (w0.get (pre := [])), f10, _, _, rfl, rfl, (.inr (by constructor <;> decide)), _, _, rfl, rfl, _, _, rfl, rfl, (by show (0 : Int) < (2147483647 : Int); decide), _, rfl, _, _, _, _, rfl, rfl, (w0.get (pre := [])), (A2.ix h_state z13), ?_⟩
      have h13 : A2 (rep K F0) (vs_state.set j13 (V.int (((t10 * (69621 : Int)) + (40692 : Int)) % (2147483647 : Int)))) l13 := e13 ▸ A2.set rep_i j13 h_state
      have w14 : W F0 _ ((a_state, .lst (vs_state.set j13 (V.int (((t10 * (69621 : Int)) + (40692 : Int)) % (2147483647 : Int))))) :: os) := w0.set (pre := [])
      obtain ⟨t15, e15, hm⟩ := pb_get hm
      obtain ⟨u15, f15, r15⟩ := A2.at h13 e15
      obtain rfl : u15 = V.int t15 := r15
      obtain ⟨t16, e16, hm⟩ := pb_get hm
      obtain ⟨u16, f16, r16⟩ := A2.at h13 e16
      obtain rfl : u16 = V.int t16 := r16
      obtain ⟨c17, hm⟩ := pb_mul hm
      obtain ⟨c20, hm⟩ := pb_mod hm
      exact ⟨_, rfl, _, _, _, _, rfl, rfl, SqL.of (w14.get (pre := [])), f15, _, rfl, _, _, _, _, rfl, rfl, SqL.of (w14.get (pre := [])), f16, _, _, rfl, rfl, c17, _, _, rfl, rfl, (by show (0 : Int) < (2147483629 : Int); decide), _, _, rfl, rfl, (by constructor <;> decide), _, rfl, _, _, rfl, rfl, c20, (post_ok hm) _ _ _ _ w14 sF rep_i h13⟩
def sp_law_web (K : Fg) : Sp := fun vs H Q E => ∃ (F : Hp) (os : List (Addr × HO)) (a_state : Addr) (vs_state : List V) (x_state : (List Int)) (x_least : Int) (x_most : Int), vs = [.ref a_state, .int x_least, .int x_most] ∧ W F H ((a_state, .lst vs_state) :: os) ∧ A2 (rep K F) vs_state x_state ∧ Post (law_web x_state x_least x_most) (RetM K F a_state os Q) noX
theorem sc_law_web : FnScope ["state", "least", "most", "many", "way", "ties", "j", "turn", "one", "other", "names", "place", "k"] ["state", "least", "most"] (defScope s_law_web) := ⟨rfl, rfl, rfl, by decide +kernel, rfl, by decide +kernel, by decide +kernel⟩
set_option maxHeartbeats 40000000 in
theorem ok_law_web (T : Tx K mg A FD) : FnOk P w K mg base CX0 3 (A 45) (FD 45) ["state", "least", "most"] (sp_law_web K) := by
  refine T.d45.fn.ok sc_law_web (fun vs H Q E h => ?_) (fun cdv Ar outer s H vs Q E hr h => ?_)
  · obtain ⟨F, os, a_state, vs_state, x_state, x_least, x_most, rfl, _⟩ := h
    rfl
  · obtain ⟨F0, os, a_state, vs_state, x_state, x_least, x_most, rfl, w0, h_state, hm⟩ := h
    have sF : Same F0 F0 := Same.refl _
    refine ⟨_, (pss_cons (ps_set (i := 3) sc_law_web.nd rfl (Or.inl rfl) (pe_op op_add (pv 1) (pe_call (ok_law_next T) (hr.mono (by decide)) (by rfl) T.d44.mg T.d44.fn.kp T.d44.b .nil pass0 (pa_cons (pv 0) (pa_cons (pe_op op_sub (pe_op op_add (pv 2) pe_int) (pv 1)) pa_nil))))) (pss_cons (ps_set (i := 4) sc_law_web.nd rfl (Or.inl rfl) (pe_call (ok_law_next T) (hr.mono (by decide)) (by rfl) T.d44.mg T.d44.fn.kp T.d44.b .nil pass0 (pa_cons (pv 0) (pa_cons pe_int pa_nil)))) (pss_cons (ps_setLc (i := 5) (own := [("k", 12)]) (g := gName 12) (by rfl) sc_law_web.nd rfl rfl (sw_true rfl rfl rfl (by decide +kernel)) (pi_range1 (by rfl) T.n_range (pa_cons (pe_op op_sub (pv 3) pe_int) pa_nil)) (blkOk_by (own := [("k", 12)]) (N := ["state", "least", "most", "many", "way", "ties", "j", "turn", "one", "other", "names", "place", "k"]) (sc := defScope s_law_web) (by decide +kernel)) (fun _ _ _ _ _ => (pg_name (i := 12) sc_law_web.nd rfl (Or.inl rfl))) (fun _ _ _ _ _ => pts_nil) (fun _ _ _ _ _ => (pe_tup (pa_cons (pv 12) (pa_cons (pe_op op_add (pv 12) pe_int) pa_nil))))) (pss_cons (ps_if (PW.pt (pw_and (pt_cmp (pc_eqI (pv 4) pe_int)) (pw_and1 (pt_cmp (pc_gt (pv 3) pe_int))))) (pss_one (ps_expr (pe_bm PySem.F.plainAttrs_list PySem.F.slot_list_append PySem.F.type_list_append mt_append (pv 5) (pa_cons (pe_tup (pa_cons pe_int (pa_cons (pe_op op_sub (pv 3) pe_int) pa_nil))) pa_nil)))) pss_nil) (pss_cons (ps_if (pt_cmp (pc_eqI (pv 4) pe_int)) (pss_one (ps_setLc (i := 5) (own := [("k", 12)]) (g := gName 12) (by rfl) sc_law_web.nd rfl rfl (sw_true rfl rfl rfl (by decide +kernel)) (pi_range2 (by rfl) T.n_range (pa_cons pe_int (pa_cons (pv 3) pa_nil))) (blkOk_by (own := [("k", 12)]) (N := ["state", "least", "most", "many", "way", "ties", "j", "turn", "one", "other", "names", "place", "k"]) (sc := defScope s_law_web) (by decide +kernel)) (fun _ _ _ _ _ => (pg_name (i := 12) sc_law_web.nd rfl (Or.inl rfl))) (fun _ _ _ _ _ => pts_nil) (fun _ _ _ _ _ => (pe_tup (pa_cons pe_int (pa_cons (pv 12) pa_nil)))))) pss_nil) (pss_cons (ps_if (pt_cmp (pc_eqI (pv 4) pe_int)) (pss_one (ps_set (i := 5) sc_law_web.nd rfl (Or.inl rfl) (pe_op op_cat (pe_slice (sl_listK (K := K) rfl) (pv 5) (po_some pe_int) po_none) (pe_lc (own := [("k", 12)]) (g := gName 12) (by rfl) sc_law_web.nd (pi_range2 (by rfl) T.n_range (pa_cons pe_int (pa_cons (pv 3) pa_nil))) (blkOk_by (own := [("k", 12)]) (N := ["state", "least", "most", "many", "way", "ties", "j", "turn", "one", "other", "names", "place", "k"]) (sc := defScope s_law_web) (by decide +kernel)) (fun _ _ _ _ _ => (pg_name (i := 12) sc_law_web.nd rfl (Or.inl rfl))) (fun _ _ _ _ _ => pts_nil) (fun _ _ _ _ _ => (pe_tup (pa_cons pe_int (pa_cons (pv 12) pa_nil)))))))) pss_nil) (pss_cons (ps_if (pt_cmp (pc_eqI (pv 4) pe_int)) (pss_cons (ps_set (i := 5) sc_law_web.nd rfl (Or.inl rfl) (pe_lst pa_nil)) (pss_one (ps_for PassesOwn.never rfl (pi_range1 (by rfl) T.n_range (pa_cons (pv 3) pa_nil)) (pg_name (i := 6) sc_law_web.nd rfl (Or.inr rfl)) (pss_one (ps_expr (pe_bm PySem.F.plainAttrs_list PySem.F.slot_list_extend PySem.F.type_list_extend mt_extend (pv 5) (pa_cons (pe_lc (own := [("k", 12)]) (g := gName 12) (by rfl) sc_law_web.nd (pi_range1 (by rfl) T.n_range (pa_cons (pv 6) pa_nil)) (blkOk_by (own := [("k", 12)]) (N := ["state", "least", "most", "many", "way", "ties", "j", "turn", "one", "other", "names", "place", "k"]) (sc := defScope s_law_web) (by decide +kernel)) (fun _ _ _ _ _ => (pg_name (i := 12) sc_law_web.nd rfl (Or.inl rfl))) (fun _ _ _ _ _ => pts_nil) (fun _ _ _ _ _ => (pe_tup (pa_cons (pv 12) (pa_cons (pv 6) pa_nil))))) pa_nil))))))) pss_nil) (pss_cons (ps_if (pt_cmp (pc_gt (pv 4) pe_int)) (pss_cons (ps_setLc (i := 5) (own := [("k", 12)]) (g := gName 12) (by rfl) sc_law_web.nd rfl rfl (sw_true rfl rfl rfl (by decide +kernel)) (pi_range2 (by rfl) T.n_range (pa_cons pe_int (pa_cons (pv 3) pa_nil))) (blkOk_by (own := [("k", 12)]) (N := ["state", "least", "most", "many", "way", "ties", "j", "turn", "one", "other", "names", "place", "k"]) (sc := defScope s_law_web) (by decide +kernel)) (fun _ _ _ _ _ => (pg_name (i := 12) sc_law_web.nd rfl (Or.inl rfl))) (fun _ _ _ _ _ => pts_nil) (fun _ _ _ _ _ => (pe_tup (pa_cons (pe_call (ok_law_next T) (hr.mono (by decide)) (by rfl) T.d44.mg T.d44.fn.kp T.d44.b .nil pass0 (pa_cons (pv 0) (pa_cons (pv 12) pa_nil))) (pa_cons (pv 12) pa_nil))))) (pss_one (ps_for PassesOwn.never rfl (pi_range1 (by rfl) T.n_range (pa_cons (pe_call (ok_law_next T) (hr.mono (by decide)) (by rfl) T.d44.mg T.d44.fn.kp T.d44.b .nil pass0 (pa_cons (pv 0) (pa_cons pe_int pa_nil))) pa_nil)) (pg_name (i := 7) sc_law_web.nd rfl (Or.inl rfl)) (pss_cons (ps_par (i := 8) (j := 9) rfl sc_law_web.nd rfl rfl (by decide) rfl rfl (pa_cons (pe_call (ok_law_next T) (hr.mono (by decide)) (by rfl) T.d44.mg T.d44.fn.kp T.d44.b .nil pass0 (pa_cons (pv 0) (pa_cons (pv 3) pa_nil))) (pa_cons (pe_call (ok_law_next T) (hr.mono (by decide)) (by rfl) T.d44.mg T.d44.fn.kp T.d44.b .nil pass0 (pa_cons (pv 0) (pa_cons (pv 3) pa_nil))) pa_nil)) rfl) (pss_one (ps_if (PW.pt (pw_and (pt_cmp (pc_lt (pv 8) (pv 9))) (pw_and1 (pt_cmpR (op_notInL (K := K) rfl (Int × Int) (by decide) (Room.units65 hr)) (pe_tup (pa_cons (pv 8) (pa_cons (pv 9) pa_nil))) (pv 5) (by rfl))))) (pss_one (ps_expr (pe_bm PySem.F.plainAttrs_list PySem.F.slot_list_append PySem.F.type_list_append mt_append (pv 5) (pa_cons (pe_tup (pa_cons (pv 8) (pa_cons (pv 9) pa_nil))) pa_nil)))) pss_nil)))))) pss_nil) (pss_cons (ps_set (i := 10) sc_law_web.nd rfl (Or.inr rfl) (pe_lst pa_nil)) (pss_cons (ps_for PassesOwn.never rfl (pi_range1 (by rfl) T.n_range (pa_cons (pv 3) pa_nil)) (pg_name (i := 11) sc_law_web.nd rfl (Or.inl rfl)) (pss_one (ps_expr (pe_bm PySem.F.plainAttrs_list PySem.F.slot_list_insert PySem.F.type_list_insert mt_insert (pv 10) (pa_cons (pe_call (ok_law_next T) (hr.mono (by decide)) (by rfl) T.d44.mg T.d44.fn.kp T.d44.b .nil pass0 (pa_cons (pv 0) (pa_cons (pe_op op_add (pv 11) pe_int) pa_nil))) (pa_cons (pv 11) pa_nil)))))) (pss_one (ps_ret (pe_call (ok_made_web T) (hr.mono (by decide)) (by rfl) T.d13.mg T.d13.fn.kp T.d13.b .nil pass0 (pa_cons (pv 3) (pa_cons (pe_lc (own := [("one", 8), ("other", 9)]) (g := _) (by rfl) sc_law_web.nd (pi_listK (K := K) rfl (pv 5)) (blkOk_by (own := [("one", 8), ("other", 9)]) (N := ["state", "least", "most", "many", "way", "ties", "j", "turn", "one", "other", "names", "place", "k"]) (sc := defScope s_law_web) (by decide +kernel)) (fun _ _ _ _ _ => (pg_k (K := K) (t := fun K => gTup K 2 _) rfl (pg_tup (n := 2) rfl (pgs_cons (pg_name (i := 8) sc_law_web.nd rfl (Or.inl rfl)) (pgs_cons (pg_name (i := 9) sc_law_web.nd rfl (Or.inl rfl)) pgs_nil))))) (fun _ _ _ _ _ => pts_nil) (fun _ _ _ _ _ => (pe_tup (pa_cons (pe_ix (ix_listK (K := K) rfl) (pv 10) (pv 8) (fun _ _ => rfl)) (pa_cons (pe_ix (ix_listK (K := K) rfl) (pv 10) (pv 9) (fun _ _ => rfl)) pa_nil))))) pa_nil))))))))))))))), ?_⟩
    refine ⟨_, rfl, _, rfl, _, rfl, _, _, rfl, rfl, _, rfl, _, _, rfl, rfl, _, _, _, _, _, _, rfl, w0, h_state, ?_⟩
    refine (post_bind hm).mono (fun y2 hm v2 vs2 F2 H2 w2 s2 r2 h2 => ?_) (fun _ z => z)
    replace sF := sF.trans s2
    obtain rfl : v2 = V.int y2.1 := r2
    refine ⟨_, _, rfl, rfl, _, rfl, _, _, _, _, _, _, rfl, w2, h2, ?_⟩
    refine (post_bind hm).mono (fun y3 hm v3 vs3 F3 H3 w3 s3 r3 h3 => ?_) (fun _ z => z)
    replace sF := sF.trans s3
    obtain rfl : v3 = V.int y3.1 := r3
    obtain ⟨c4, hm⟩ := pb_rng hm
    refine ⟨_, rfl, _, _, rfl, rfl, _, rfl, c4.2.2.1, c4.2.2.2, fun D5 nD5 => ?_⟩
    refine lcM (K := K) (tw_rng0 (j := ((x_least + y2.1) - (1 : Int)))) hm w3 nD5 (fun F' H' acc s w => trivial) ?_ ?_
    · -- one turn
      intro b5 x5 F5 H5 H5' acc5 N5 P5 s5 w5 y5 hN5 hm
      replace h3 := A2.mono s5 h3
      replace sF := sF.trans s5
      obtain ⟨rfl, rfl⟩ := y5
      refine ⟨rfl, _, rfl, _, rfl, _, _, rfl, rfl, (by show 2 ≤ sizeLine; decide), fun p7 n7 => ?_⟩
      obtain ⟨F7, s7, w7, q7⟩ := w5.frzE (o := .tup [(.int b5), (.int (b5 + (1 : Int)))]) n7
      replace h3 := A2.mono s7 h3
      replace sF := sF.trans s7
      exact hN5 _ (post_ok hm) _ _ _ w7 s7 (rep_pair q7 rep_i rep_i)
    intro us5 F5 H5 ys5 s5 w5 gg5 hm
    replace h3 := A2.mono s5 h3
    replace sF := sF.trans s5
    refine stepN ?_
    try dsimp only
    refine joinS hm (fun (g9 : (List (Int × Int))) σ H' => ∃ (F' : Hp) (vs9_0 : List V), σ = [some (.ref a_state), some (.int x_least), some (.int x_most), some (.int (x_least + y2.1)), some (.int y3.1), some (.ref D5), none, none, none, none, none, none, none] ∧ Same F5 F' ∧ W F' H' ((D5, .lst vs9_0) :: (a_state, .lst vs3) :: os) ∧ A2 (rep K F') vs9_0 g9) ?_ ?_
    · intro N9 P9 hN9 hm
      refine stepIf ?_
      refine cutT (fun c H' => c = (((decide (y3.1 = (1 : Int))) && (decide ((2 : Int) < (x_least + y2.1))))) ∧ ∃ F', Same F5 F' ∧ W F' H' ((D5, .lst us5) :: (a_state, .lst vs3) :: os)) (fun Q10 q10 => ?_) (fun c10 H10 hc10 => ?_)
      · -- the ways
        refine ⟨_, rfl, _, _, rfl, rfl, _, rfl, ?_⟩
        refine ifB (fun k11 => ?_) (fun k11 => ?_)
        · skip
          exact ⟨_, rfl, _, _, rfl, rfl, _, rfl, q10 _ _ ⟨(by first | rfl | exact absurd k11 (by decide) | (simp [k11]; done) | ((try simp only [Bool.not_eq_true] at k11); simp only [k11, Bool.true_or, Bool.false_or, Bool.or_false, Bool.or_true, Bool.true_and, Bool.false_and, Bool.and_true, Bool.and_false])), _, Same.refl _, w5⟩⟩
        · skip
          exact q10 _ _ ⟨(by first | rfl | exact absurd k11 (by decide) | (simp [k11]; done) | ((try simp only [Bool.not_eq_true] at k11); simp only [k11, Bool.true_or, Bool.false_or, Bool.or_false, Bool.or_true, Bool.true_and, Bool.false_and, Bool.and_true, Bool.and_false])), _, Same.refl _, w5⟩
      obtain ⟨rfl, F10, s10, w10⟩ := hc10
      replace gg5 := A2.mono s10 gg5
      replace h3 := A2.mono s10 h3
      replace sF := sF.trans s10
      refine post_ite hm (fun k14 hm => ?_) (fun k14 hm => ?_)
      · skip
        refine ⟨_, rfl, .inl ⟨rfl, _, SqL.of (w10.get (pre := []))⟩, _, rfl, _, _, rfl, rfl, (by show 2 ≤ sizeLine; decide), fun p15 n15 => ?_⟩
        obtain ⟨F15, s15, w15, q15⟩ := w10.frzE (o := .tup [(.int 0), (.int ((x_least + y2.1) - (1 : Int)))]) n15
        replace gg5 := A2.mono s15 gg5
        replace h3 := A2.mono s15 h3
        replace sF := sF.trans s15
        obtain ⟨l16, z16, e16, hm⟩ := pn_app hm
        refine ⟨_, _, _, rfl, rfl, (w15.get (pre := [])), (A2.lt gg5 z16), ?_⟩
        have h16 : A2 (rep K F15) (us5 ++ [(V.ref p15)]) l16 := e16 ▸ A2.snoc gg5 (rep_pair q15 rep_i rep_i)
        have w17 : W F15 _ ((D5, .lst (us5 ++ [(V.ref p15)])) :: (a_state, .lst vs3) :: os) := w15.set (pre := [])
        exact hN9 _ (post_ok hm) _ _ ⟨_, _, rfl, (s10.trans s15), w17, h16⟩
      · skip
        exact hN9 _ (post_ok hm) _ _ ⟨_, _, rfl, s10, w10, gg5⟩
    intro g9 σ9 H9 hI hm
    obtain ⟨F9, vs9_0, rfl, s9, w9, h9_0⟩ := hI
    replace h3 := A2.mono s9 h3
    replace sF := sF.trans s9
    try dsimp only
    refine joinS hm (fun (g18 : (List (Int × Int))) σ H' => ∃ (F' : Hp) (ao18_5 : Addr) (uo18_5 : List V), σ = [some (.ref a_state), some (.int x_least), some (.int x_most), some (.int (x_least + y2.1)), some (.int y3.1), some (.ref ao18_5), none, none, none, none, none, none, none] ∧ Same F9 F' ∧ W F' H' ((ao18_5, .lst uo18_5) :: (a_state, .lst vs3) :: os) ∧ A2 (rep K F') uo18_5 g18) ?_ ?_
    · intro N18 P18 hN18 hm
      refine ⟨_, rfl, _, _, rfl, rfl, _, rfl, ?_⟩
      refine post_ite hm (fun k19 hm => ?_) (fun k19 hm => ?_)
      · skip
        obtain ⟨c20, hm⟩ := pb_rng hm
        refine ⟨_, rfl, _, _, rfl, c20, fun D21 nD21 => ?_⟩
        refine lcM (K := K) (tw_rng (i := (1 : Int)) (j := (x_least + y2.1))) hm w9 nD21 (fun F' H' acc s w => trivial) ?_ ?_
        · -- one turn
          intro b21 x21 F21 H21 H21' acc21 N21 P21 s21 w21 y21 hN21 hm
          replace h9_0 := A2.mono s21 h9_0
          replace h3 := A2.mono s21 h3
          replace sF := sF.trans s21
          obtain ⟨rfl, rfl⟩ := y21
          refine ⟨rfl, _, rfl, (by show 2 ≤ sizeLine; decide), fun p23 n23 => ?_⟩
          obtain ⟨F23, s23, w23, q23⟩ := w21.frzE (o := .tup [(.int 0), (.int b21)]) n23
          replace h9_0 := A2.mono s23 h9_0
          replace h3 := A2.mono s23 h3
          replace sF := sF.trans s23
          exact hN21 _ (post_ok hm) _ _ _ w23 s23 (rep_pair q23 rep_i rep_i)
        intro us21 F21 H21 ys21 s21 w21 gg21 hm
        replace h9_0 := A2.mono s21 h9_0
        replace h3 := A2.mono s21 h3
        replace sF := sF.trans s21
        have w25 : W F21 _ ((D21, .lst us21) :: (a_state, .lst vs3) :: os) := w21.drop (pre := [_])
        exact hN18 _ (post_ok hm) _ _ ⟨_, _, _, rfl, s21, w25, gg21⟩
      · skip
        exact hN18 _ (post_ok hm) _ _ ⟨_, _, _, rfl, Same.refl _, w9, h9_0⟩
    intro g18 σ18 H18 hI hm
    obtain ⟨F18, ao18_5, uo18_5, rfl, s18, w18, ko18_5⟩ := hI
    replace h3 := A2.mono s18 h3
    replace sF := sF.trans s18
    try dsimp only
    refine joinS hm (fun (g27 : (List (Int × Int))) σ H' => ∃ (F' : Hp) (ao27_5 : Addr) (uo27_5 : List V), σ = [some (.ref a_state), some (.int x_least), some (.int x_most), some (.int (x_least + y2.1)), some (.int y3.1), some (.ref ao27_5), none, none, none, none, none, none, none] ∧ Same F18 F' ∧ W F' H' ((ao27_5, .lst uo27_5) :: (a_state, .lst vs3) :: os) ∧ A2 (rep K F') uo27_5 g27) ?_ ?_
    · intro N27 P27 hN27 hm
      refine ⟨_, rfl, _, _, rfl, rfl, _, rfl, ?_⟩
      refine post_ite hm (fun k28 hm => ?_) (fun k28 hm => ?_)
      · skip
        have h29 : A2 (rep K F18) (cutV uo18_5 (some (1 : Int)) none) (cutL g18 (some (1 : Int)) none) := sl_cut ko18_5 _ _
        refine ⟨_, rfl, _, rfl, _, _, rfl, SqL.of (w18.get (pre := [])), fun p30 n30 => ?_⟩
        have w30 : W F18 _ ((p30, .lst (cutV uo18_5 (some (1 : Int)) none)) :: (ao18_5, .lst uo18_5) :: (a_state, .lst vs3) :: os) := w18.new n30
        obtain ⟨c31, hm⟩ := pb_rng hm
        refine ⟨_, rfl, _, _, rfl, c31, fun D32 nD32 => ?_⟩
        refine lcM (K := K) (tw_rng (i := (1 : Int)) (j := (x_least + y2.1))) hm w30 nD32 (fun F' H' acc s w => trivial) ?_ ?_
        · -- one turn
          intro b32 x32 F32 H32 H32' acc32 N32 P32 s32 w32 y32 hN32 hm
          replace ko18_5 := A2.mono s32 ko18_5
          replace h3 := A2.mono s32 h3
          replace h29 := A2.mono s32 h29
          replace sF := sF.trans s32
          obtain ⟨rfl, rfl⟩ := y32
          refine ⟨rfl, _, rfl, (by show 2 ≤ sizeLine; decide), fun p34 n34 => ?_⟩
          obtain ⟨F34, s34, w34, q34⟩ := w32.frzE (o := .tup [(.int 0), (.int b32)]) n34
          replace ko18_5 := A2.mono s34 ko18_5
          replace h3 := A2.mono s34 h3
          replace h29 := A2.mono s34 h29
          replace sF := sF.trans s34
          exact hN32 _ (post_ok hm) _ _ _ w34 s34 (rep_pair q34 rep_i rep_i)
        intro us32 F32 H32 ys32 s32 w32 gg32 hm
        replace ko18_5 := A2.mono s32 ko18_5
        replace h3 := A2.mono s32 h3
        replace h29 := A2.mono s32 h29
        replace sF := sF.trans s32
        obtain ⟨l36, z36, e36, hm⟩ := pn_extend hm
        have h36 : A2 (rep K F32) ((cutV uo18_5 (some (1 : Int)) none) ++ us32) l36 := e36 ▸ A2.append h29 gg32
        refine ⟨_, _, _, _, rfl, rfl, (w32.get (pre := [_])), (w32.get (pre := [])), (A2.le2 h29 gg32 z36), fun p37 n37 => ?_⟩
        have w37 : W F32 _ ((p37, .lst ((cutV uo18_5 (some (1 : Int)) none) ++ us32)) :: (D32, .lst us32) :: (p30, .lst (cutV uo18_5 (some (1 : Int)) none)) :: (ao18_5, .lst uo18_5) :: (a_state, .lst vs3) :: os) := w32.new n37
        have w38 : W F32 _ ((p37, .lst ((cutV uo18_5 (some (1 : Int)) none) ++ us32)) :: (D32, .lst us32) :: (p30, .lst (cutV uo18_5 (some (1 : Int)) none)) :: (a_state, .lst vs3) :: os) := w37.drop (pre := [_, _, _])
        have w39 : W F32 _ ((p37, .lst ((cutV uo18_5 (some (1 : Int)) none) ++ us32)) :: (p30, .lst (cutV uo18_5 (some (1 : Int)) none)) :: (a_state, .lst vs3) :: os) := w38.drop (pre := [_])
        have w40 : W F32 _ ((p37, .lst ((cutV uo18_5 (some (1 : Int)) none) ++ us32)) :: (a_state, .lst vs3) :: os) := w39.drop (pre := [_])
        exact hN27 _ (post_ok hm) _ _ ⟨_, _, _, rfl, s32, w40, h36⟩
      · skip
        exact hN27 _ (post_ok hm) _ _ ⟨_, _, _, rfl, Same.refl _, w18, ko18_5⟩
    intro g27 σ27 H27 hI hm
    obtain ⟨F27, ao27_5, uo27_5, rfl, s27, w27, ko27_5⟩ := hI
    replace h3 := A2.mono s27 h3
    replace sF := sF.trans s27
    try dsimp only
    refine joinS hm (fun (g42 : (List (Int × Int))) σ H' => ∃ (F' : Hp) (ao42_5 : Addr) (uo42_5 : List V) (o42_6 : Option V), σ = [some (.ref a_state), some (.int x_least), some (.int x_most), some (.int (x_least + y2.1)), some (.int y3.1), some (.ref ao42_5), o42_6, none, none, none, none, none, none] ∧ Same F27 F' ∧ W F' H' ((ao42_5, .lst uo42_5) :: (a_state, .lst vs3) :: os) ∧ A2 (rep K F') uo42_5 g42) ?_ ?_
    · intro N42 P42 hN42 hm
      refine ⟨_, rfl, _, _, rfl, rfl, _, rfl, ?_⟩
      refine post_ite hm (fun k43 hm => ?_) (fun k43 hm => ?_)
      · skip
        have h44 : A2 (rep K F27) [] ([] : (List (Int × Int))) := .nil
        refine ⟨(by show 0 ≤ sizeLine; decide), fun p45 n45 => ?_⟩
        have w45 : W F27 _ ((p45, .lst []) :: (ao27_5, .lst uo27_5) :: (a_state, .lst vs3) :: os) := w27.new n45
        have w46 : W F27 _ ((p45, .lst []) :: (a_state, .lst vs3) :: os) := w45.drop (pre := [_])
        obtain ⟨c48, hm⟩ := pb_rng hm
        refine ⟨_, rfl, _, rfl, c48.2.2.1, c48.2.2.2, ?_⟩
        refine forS (tw_rng0 (j := (x_least + y2.1))) hm (fun (g47 : (List (Int × Int))) σ H' => ∃ (F' : Hp) (vs47_0 : List V) (o47_6 : Option V), σ = [some (.ref a_state), some (.int x_least), some (.int x_most), some (.int (x_least + y2.1)), some (.int y3.1), some (.ref p45), o47_6, none, none, none, none, none, none] ∧ Same F27 F' ∧ W F' H' ((p45, .lst vs47_0) :: (a_state, .lst vs3) :: os) ∧ A2 (rep K F') vs47_0 g47) ⟨_, _, _, rfl, Same.refl _, w46, h44⟩ (fun _ _ _ _ => trivial) ?_ ?_
        · -- a turn
          intro b47 g47 x47 σ47 H47 H47' N47 P47 hI hy hN47 hm
          obtain ⟨F47, vs47_0, o47_6, rfl, s47, w47, h47_0⟩ := hI
          replace h3 := A2.mono s47 h3
          replace sF := sF.trans s47
          obtain ⟨rfl, rfl⟩ := hy
          obtain ⟨c49, hm⟩ := pb_rng hm
          refine ⟨_, rfl, .inl ⟨rfl, _, SqL.of (w47.get (pre := []))⟩, _, rfl, _, rfl, c49.2.2.1, c49.2.2.2, fun D50 nD50 => ?_⟩
          refine lcM (K := K) (tw_rng0 (j := b47)) hm w47 nD50 (fun F' H' acc s w => trivial) ?_ ?_
          · -- one turn
            intro b50 x50 F50 H50 H50' acc50 N50 P50 s50 w50 y50 hN50 hm
            replace h47_0 := A2.mono s50 h47_0
            replace h3 := A2.mono s50 h3
            replace sF := sF.trans s50
            obtain ⟨rfl, rfl⟩ := y50
            refine ⟨rfl, _, rfl, _, rfl, (by show 2 ≤ sizeLine; decide), fun p52 n52 => ?_⟩
            obtain ⟨F52, s52, w52, q52⟩ := w50.frzE (o := .tup [(.int b50), (.int b47)]) n52
            replace h47_0 := A2.mono s52 h47_0
            replace h3 := A2.mono s52 h3
            replace sF := sF.trans s52
            exact hN50 _ (post_ok hm) _ _ _ w52 s52 (rep_pair q52 rep_i rep_i)
          intro us50 F50 H50 ys50 s50 w50 gg50 hm
          replace h47_0 := A2.mono s50 h47_0
          replace h3 := A2.mono s50 h3
          replace sF := sF.trans s50
          obtain ⟨l54, z54, e54, hm⟩ := pn_extend hm
          refine ⟨_, _, _, _, rfl, rfl, (w50.get (pre := [_])), (w50.get (pre := [])), (A2.le2 h47_0 gg50 z54), ?_⟩
          have h54 : A2 (rep K F50) (vs47_0 ++ us50) l54 := e54 ▸ A2.append h47_0 gg50
          have w55 : W F50 _ ((D50, .lst us50) :: (p45, .lst (vs47_0 ++ us50)) :: (a_state, .lst vs3) :: os) := w50.set (pre := [_])
          have w56 : W F50 _ ((p45, .lst (vs47_0 ++ us50)) :: (a_state, .lst vs3) :: os) := w55.drop (pre := [])
          exact hN47 _ (post_ok hm) _ _ ⟨_, _, _, rfl, (s47.trans s50), w56, h54⟩
        intro g47 σ47 H47 hI hm
        obtain ⟨F47, vs47_0, o47_6, rfl, s47, w47, h47_0⟩ := hI
        replace h3 := A2.mono s47 h3
        replace sF := sF.trans s47
        exact hN42 _ (post_ok hm) _ _ ⟨_, _, _, _, rfl, s47, w47, h47_0⟩
      · skip
        exact hN42 _ (post_ok hm) _ _ ⟨_, _, _, _, rfl, Same.refl _, w27, ko27_5⟩
    intro g42 σ42 H42 hI hm
    obtain ⟨F42, ao42_5, uo42_5, o42_6, rfl, s42, w42, ko42_5⟩ := hI
    replace h3 := A2.mono s42 h3
    replace sF := sF.trans s42
    try dsimp only
    refine joinS hm (fun (g58 : (List (Int × Int)) × (List Int)) σ H' => ∃ (F' : Hp) (ao58_5 : Addr) (uo58_5 : List V) (vs58_0 : List V) (o58_7 : Option V) (o58_8 : Option V) (o58_9 : Option V), σ = [some (.ref a_state), some (.int x_least), some (.int x_most), some (.int (x_least + y2.1)), some (.int y3.1), some (.ref ao58_5), o42_6, o58_7, o58_8, o58_9, none, none, none] ∧ Same F42 F' ∧ W F' H' ((ao58_5, .lst uo58_5) :: (a_state, .lst vs58_0) :: os) ∧ A2 (rep K F') uo58_5 g58.1 ∧ A2 (rep K F') vs58_0 g58.2) ?_ ?_
    · intro N58 P58 hN58 hm
      refine ⟨_, rfl, _, _, rfl, rfl, _, rfl, ?_⟩
      refine post_ite hm (fun k59 hm => ?_) (fun k59 hm => ?_)
      · skip
        obtain ⟨c60, hm⟩ := pb_rng hm
        refine ⟨_, rfl, _, _, rfl, c60, fun D61 nD61 => ?_⟩
        refine lcMap (K := K) (tw_rng (i := (1 : Int)) (j := (x_least + y2.1))) hm (fun (g61 : (List Int)) F' os' => ∃ (vs61_0 : List V), os' = (ao42_5, .lst uo42_5) :: (a_state, .lst vs61_0) :: os ∧ A2 (rep K F') vs61_0 g61) w42 ⟨_, rfl, h3⟩ nD61 (fun g F' H' os' acc s w o => by obtain ⟨_, rfl, _⟩ := o; exact trivial) ?_ ?_
        · -- one turn
          intro b61 g61 x61 F61 H61 H61' os61 acc61 N61 P61 s61 w61 o61 y61 hN61 hm
          obtain ⟨vs61_0, rfl, h61_0⟩ := o61
          replace ko42_5 := A2.mono s61 ko42_5
          replace sF := sF.trans s61
          obtain ⟨rfl, rfl⟩ := y61
          have w63 : W F61 _ ((a_state, .lst vs61_0) :: (D61, .lst acc61) :: (ao42_5, .lst uo42_5) :: os) := w61.front (pre := [_, _])
          refine ⟨rfl, _, rfl, _, rfl, _, _, _, _, _, _, rfl, w63, h61_0, ?_⟩
          refine (post_bind hm).mono (fun y64 hm v64 vs64 F64 H64 w64 s64 r64 h64 => ?_) (fun _ z => z)
          replace ko42_5 := A2.mono s64 ko42_5
          replace sF := sF.trans s64
          obtain rfl : v64 = V.int y64.1 := r64
          refine ⟨_, rfl, (by show 2 ≤ sizeLine; decide), fun p65 n65 => ?_⟩
          obtain ⟨F65, s65, w65, q65⟩ := w64.frzE (o := .tup [(.int y64.1), (.int b61)]) n65
          replace ko42_5 := A2.mono s65 ko42_5
          replace h64 := A2.mono s65 h64
          replace sF := sF.trans s65
          have w66 : W F65 _ ((ao42_5, .lst uo42_5) :: (a_state, .lst vs64) :: (D61, .lst acc61) :: os) := w65.front (pre := [_, _])
          have w67 : W F65 _ ((D61, .lst acc61) :: (ao42_5, .lst uo42_5) :: (a_state, .lst vs64) :: os) := w66.front (pre := [_, _])
          exact hN61 _ _ (post_ok hm) _ _ _ _ w67 (s64.trans s65) ⟨_, rfl, h64⟩ (rep_pair q65 rep_i rep_i)
        intro g61 us61 F61 H61 os61 ys61 s61 w61 o61 gg61 hm
        obtain ⟨vs61_0, rfl, h61_0⟩ := o61
        replace ko42_5 := A2.mono s61 ko42_5
        replace sF := sF.trans s61
        have w69 : W F61 _ ((D61, .lst us61) :: (a_state, .lst vs61_0) :: os) := w61.drop (pre := [_])
        have w71 : W F61 _ ((a_state, .lst vs61_0) :: (D61, .lst us61) :: os) := w69.front (pre := [_])
        refine ⟨_, rfl, _, _, _, _, _, _, rfl, w71, h61_0, ?_⟩
        refine (post_bind hm).mono (fun y72 hm v72 vs72 F72 H72 w72 s72 r72 h72 => ?_) (fun _ z => z)
        replace gg61 := A2.mono s72 gg61
        replace sF := sF.trans s72
        obtain rfl : v72 = V.int y72.1 := r72
        obtain ⟨c73, hm⟩ := pb_rng hm
        refine ⟨_, rfl, c73.2.2.1, c73.2.2.2, ?_⟩
        refine forS (tw_rng0 (j := y72.1)) hm (fun (g70 : (List Int) × (List (Int × Int))) σ H' => ∃ (F' : Hp) (vs70_0 : List V) (vs70_1 : List V) (o70_8 : Option V) (o70_9 : Option V) (o70_7 : Option V), σ = [some (.ref a_state), some (.int x_least), some (.int x_most), some (.int (x_least + y2.1)), some (.int y3.1), some (.ref D61), o42_6, o70_7, o70_8, o70_9, none, none, none] ∧ Same F72 F' ∧ W F' H' ((a_state, .lst vs70_0) :: (D61, .lst vs70_1) :: os) ∧ A2 (rep K F') vs70_0 g70.1 ∧ A2 (rep K F') vs70_1 g70.2) ⟨_, _, _, _, _, _, rfl, Same.refl _, w72, h72, gg61⟩ (fun _ _ _ _ => trivial) ?_ ?_
        · -- a turn
          intro b70 g70 x70 σ70 H70 H70' N70 P70 hI hy hN70 hm
          obtain ⟨F70, vs70_0, vs70_1, o70_8, o70_9, o70_7, rfl, s70, w70, h70_0, h70_1⟩ := hI
          replace sF := sF.trans s70
          obtain ⟨rfl, rfl⟩ := hy
          refine ⟨_, rfl, _, rfl, _, _, _, _, _, _, rfl, w70, h70_0, ?_⟩
          refine (post_bind hm).mono (fun y74 hm v74 vs74 F74 H74 w74 s74 r74 h74 => ?_) (fun _ z => z)
          replace h70_1 := A2.mono s74 h70_1
          replace sF := sF.trans s74
          obtain rfl : v74 = V.int y74.1 := r74
          refine ⟨_, rfl, _, rfl, _, _, _, _, _, _, rfl, w74, h74, ?_⟩
          refine (post_bind hm).mono (fun y75 hm v75 vs75 F75 H75 w75 s75 r75 h75 => ?_) (fun _ z => z)
          replace h70_1 := A2.mono s75 h70_1
          replace sF := sF.trans s75
          obtain rfl : v75 = V.int y75.1 := r75
          refine ⟨_, _, rfl, ?_⟩
          try dsimp only
          refine stepIf ?_
          refine cutT (fun c H' => c = (((decide (y74.1 < y75.1)) && (!inB (y74.1, y75.1) g70.2))) ∧ ∃ F', Same F75 F' ∧ W F' H' ((a_state, .lst vs75) :: (D61, .lst vs70_1) :: os)) (fun Q76 q76 => ?_) (fun c76 H76 hc76 => ?_)
          · -- the ways
            refine ⟨_, rfl, _, rfl, _, _, rfl, rfl, _, rfl, ?_⟩
            refine ifB (fun k77 => ?_) (fun k77 => ?_)
            · skip
              refine ⟨_, rfl, _, rfl, (by show 2 ≤ sizeLine; decide), fun p78 n78 => ?_⟩
              obtain ⟨F78, s78, w78, q78⟩ := w75.frzE (o := .tup [(.int y74.1), (.int y75.1)]) n78
              replace h75 := A2.mono s78 h75
              replace h70_1 := A2.mono s78 h70_1
              replace sF := sF.trans s78
              exact ⟨_, rfl, ((y74.1, y75.1) : (Int × Int)), _, (Rep.mono w78.same (rep_pair q78 rep_i rep_i)), (rep_own (pre := [_]) w78 h70_1), _, rfl, q76 _ _ ⟨(by first | rfl | exact absurd k77 (by decide) | (simp [k77]; done) | ((try simp only [Bool.not_eq_true] at k77); simp only [k77, Bool.true_or, Bool.false_or, Bool.or_false, Bool.or_true, Bool.true_and, Bool.false_and, Bool.and_true, Bool.and_false])), _, s78, w78⟩⟩
            · skip
              exact q76 _ _ ⟨(by first | rfl | exact absurd k77 (by decide) | (simp [k77]; done) | ((try simp only [Bool.not_eq_true] at k77); simp only [k77, Bool.true_or, Bool.false_or, Bool.or_false, Bool.or_true, Bool.true_and, Bool.false_and, Bool.and_true, Bool.and_false])), _, Same.refl _, w75⟩
          obtain ⟨rfl, F76, s76, w76⟩ := hc76
          replace h75 := A2.mono s76 h75
          replace h70_1 := A2.mono s76 h70_1
          replace sF := sF.trans s76
          refine post_ite hm (fun k81 hm => ?_) (fun k81 hm => ?_)
          · skip
            refine ⟨_, rfl, .inl ⟨rfl, _, SqL.of (w76.get (pre := [_]))⟩, _, rfl, _, rfl, (by show 2 ≤ sizeLine; decide), fun p82 n82 => ?_⟩
            obtain ⟨F82, s82, w82, q82⟩ := w76.frzE (o := .tup [(.int y74.1), (.int y75.1)]) n82
            replace h75 := A2.mono s82 h75
            replace h70_1 := A2.mono s82 h70_1
            replace sF := sF.trans s82
            obtain ⟨l83, z83, e83, hm⟩ := pn_app hm
            refine ⟨_, _, _, rfl, rfl, (w82.get (pre := [_])), (A2.lt h70_1 z83), ?_⟩
            have h83 : A2 (rep K F82) (vs70_1 ++ [(V.ref p82)]) l83 := e83 ▸ A2.snoc h70_1 (rep_pair q82 rep_i rep_i)
            have w84 : W F82 _ ((a_state, .lst vs75) :: (D61, .lst (vs70_1 ++ [(V.ref p82)])) :: os) := w82.set (pre := [_])
            exact hN70 _ (post_ok hm) _ _ ⟨_, _, _, _, _, _, rfl, (s70.trans (s74.trans (s75.trans (s76.trans s82)))), w84, h75, h83⟩
          · skip
            exact hN70 _ (post_ok hm) _ _ ⟨_, _, _, _, _, _, rfl, (s70.trans (s74.trans (s75.trans s76))), w76, h75, h70_1⟩
        intro g70 σ70 H70 hI hm
        obtain ⟨F70, vs70_0, vs70_1, o70_8, o70_9, o70_7, rfl, s70, w70, h70_0, h70_1⟩ := hI
        replace sF := sF.trans s70
        have w85 : W F70 _ ((D61, .lst vs70_1) :: (a_state, .lst vs70_0) :: os) := w70.front (pre := [_])
        exact hN58 _ (post_ok hm) _ _ ⟨_, _, _, _, _, _, _, rfl, (s61.trans (s72.trans s70)), w85, h70_1, h70_0⟩
      · skip
        exact hN58 _ (post_ok hm) _ _ ⟨_, _, _, _, _, _, _, rfl, Same.refl _, w42, ko42_5, h3⟩
    intro g58 σ58 H58 hI hm
    obtain ⟨F58, ao58_5, uo58_5, vs58_0, o58_7, o58_8, o58_9, rfl, s58, w58, ko58_5, h58_0⟩ := hI
    replace sF := sF.trans s58
    have h87 : A2 (rep K F58) [] ([] : (List Int)) := .nil
    refine ⟨(by show 0 ≤ sizeLine; decide), fun p88 n88 => ?_⟩
    have w88 : W F58 _ ((p88, .lst []) :: (ao58_5, .lst uo58_5) :: (a_state, .lst vs58_0) :: os) := w58.new n88
    obtain ⟨c90, hm⟩ := pb_rng hm
    refine ⟨_, rfl, _, rfl, c90.2.2.1, c90.2.2.2, ?_⟩
    refine forS (tw_rng0 (j := (x_least + y2.1))) hm (fun (g89 : (List Int) × (List Int)) σ H' => ∃ (F' : Hp) (vs89_0 : List V) (vs89_1 : List V) (o89_11 : Option V), σ = [some (.ref a_state), some (.int x_least), some (.int x_most), some (.int (x_least + y2.1)), some (.int y3.1), some (.ref ao58_5), o42_6, o58_7, o58_8, o58_9, some (.ref p88), o89_11, none] ∧ Same F58 F' ∧ W F' H' ((p88, .lst vs89_0) :: (ao58_5, .lst uo58_5) :: (a_state, .lst vs89_1) :: os) ∧ A2 (rep K F') vs89_0 g89.1 ∧ A2 (rep K F') vs89_1 g89.2) ⟨_, _, _, _, rfl, Same.refl _, w88, h87, h58_0⟩ (fun _ _ _ _ => trivial) ?_ ?_
    · -- a turn
      intro b89 g89 x89 σ89 H89 H89' N89 P89 hI hy hN89 hm
      obtain ⟨F89, vs89_0, vs89_1, o89_11, rfl, s89, w89, h89_0, h89_1⟩ := hI
      replace ko58_5 := A2.mono s89 ko58_5
      replace sF := sF.trans s89
      obtain ⟨rfl, rfl⟩ := hy
      have w91 : W F89 _ ((a_state, .lst vs89_1) :: (p88, .lst vs89_0) :: (ao58_5, .lst uo58_5) :: os) := w89.front (pre := [_, _])
      refine ⟨_, rfl, .inl ⟨rfl, _, SqL.of (w89.get (pre := []))⟩, _, rfl, _, rfl, _, _, rfl, rfl, _, _, _, _, _, _, rfl, w91, h89_1, ?_⟩
      refine (post_bind hm).mono (fun y92 hm v92 vs92 F92 H92 w92 s92 r92 h92 => ?_) (fun _ z => z)
      replace h89_0 := A2.mono s92 h89_0
      replace ko58_5 := A2.mono s92 ko58_5
      replace sF := sF.trans s92
      obtain rfl : v92 = V.int y92.1 := r92
      obtain ⟨l93, z93, e93, hm⟩ := pn_ins hm
      refine ⟨_, rfl, _, _, _, _, rfl, rfl, (w92.get (pre := [_])), (line_ins h89_0 z93.1), z93.2.1, (by have := z93.2.2; omega), ?_⟩
      have h93 : A2 (rep K F92) (vs89_0.take y92.1.toNat ++ [(.int b89)] ++ vs89_0.drop y92.1.toNat) l93 := e93 ▸ A2.ins _ h89_0 rep_i
      have w94 : W F92 _ ((a_state, .lst vs92) :: (p88, .lst (vs89_0.take y92.1.toNat ++ [(.int b89)] ++ vs89_0.drop y92.1.toNat)) :: (ao58_5, .lst uo58_5) :: os) := w92.set (pre := [_])
      have w95 : W F92 _ ((ao58_5, .lst uo58_5) :: (a_state, .lst vs92) :: (p88, .lst (vs89_0.take y92.1.toNat ++ [(.int b89)] ++ vs89_0.drop y92.1.toNat)) :: os) := w94.front (pre := [_, _])
      have w96 : W F92 _ ((p88, .lst (vs89_0.take y92.1.toNat ++ [(.int b89)] ++ vs89_0.drop y92.1.toNat)) :: (ao58_5, .lst uo58_5) :: (a_state, .lst vs92) :: os) := w95.front (pre := [_, _])
      exact hN89 _ (post_ok hm) _ _ ⟨_, _, _, _, rfl, (s89.trans s92), w96, h93, h92⟩
    intro g89 σ89 H89 hI hm
    obtain ⟨F89, vs89_0, vs89_1, o89_11, rfl, s89, w89, h89_0, h89_1⟩ := hI
    replace ko58_5 := A2.mono s89 ko58_5
    replace sF := sF.trans s89
    refine ⟨_, rfl, _, rfl, _, rfl, ⟨_, SqL.of (w89.get (pre := [_]))⟩, fun D97 nD97 => ?_⟩
    refine lcM (K := K) (tw_list (a := ao58_5) ko58_5) hm w89 nD97 (fun F' H' acc s w => SqL.of (w.get (pre := [_, _]))) ?_ ?_
    · -- one turn
      intro b97 x97 F97 H97 H97' acc97 N97 P97 s97 w97 y97 hN97 hm
      replace h89_0 := A2.mono s97 h89_0
      replace ko58_5 := A2.mono s97 ko58_5
      replace h89_1 := A2.mono s97 h89_1
      replace sF := sF.trans s97
      obtain ⟨rfl, r99⟩ := y97
      replace r99 := Rep.mono s97 r99
      obtain ⟨a100, u100, z100, rfl, q100, r100a, r100b⟩ := r99
      obtain rfl : u100 = V.int b97.1 := r100a
      obtain rfl : z100 = V.int b97.2 := r100b
      obtain ⟨t101, e101, hm⟩ := pb_get hm
      obtain ⟨u101, f101, r101⟩ := A2.at h89_0 e101
      obtain rfl : u101 = V.int t101 := r101
      obtain ⟨t102, e102, hm⟩ := pb_get hm
      obtain ⟨u102, f102, r102⟩ := A2.at h89_0 e102
      obtain rfl : u102 = V.int t102 := r102
      refine ⟨_, _, rfl, SqT.of (w97.same _ _ q100), rfl, _, _, rfl, _, _, rfl, rfl, rfl, _, rfl, _, rfl, _, _, _, _, rfl, rfl, SqL.of (w97.get (pre := [_])), f101, _, rfl, _, rfl, _, _, _, _, rfl, rfl, SqL.of (w97.get (pre := [_])), f102, (by show 2 ≤ sizeLine; decide), fun p103 n103 => ?_⟩
      obtain ⟨F103, s103, w103, q103⟩ := w97.frzE (o := .tup [(.int t101), (.int t102)]) n103
      replace h89_0 := A2.mono s103 h89_0
      replace ko58_5 := A2.mono s103 ko58_5
      replace h89_1 := A2.mono s103 h89_1
      replace q100 := s103 _ _ q100
      replace sF := sF.trans s103
      exact hN97 _ (post_ok hm) _ _ _ w103 s103 (rep_pair q103 rep_i rep_i)
    intro us97 F97 H97 ys97 s97 w97 gg97 hm
    replace h89_0 := A2.mono s97 h89_0
    replace ko58_5 := A2.mono s97 ko58_5
    replace h89_1 := A2.mono s97 h89_1
    replace sF := sF.trans s97
    refine ⟨_, _, _, _, _, _, rfl, w97, gg97, ?_⟩
    refine (post_bind hm).mono (fun y105 hm v105 F105 H105 w105 s105 r105 => ?_) (fun _ z => z)
    replace h89_0 := A2.mono s105 h89_0
    replace ko58_5 := A2.mono s105 ko58_5
    replace h89_1 := A2.mono s105 h89_1
    replace gg97 := A2.mono s105 gg97
    replace sF := sF.trans s105
    obtain ⟨a106, u106, z106, rfl, q106, r106a, r106b⟩ := r105
    obtain rfl : u106 = V.int y105.1 := r106a
    obtain ⟨a107, vs107, rfl, q107, h107⟩ := r106b
    have w108 : W F105 _ ((p88, .lst vs89_0) :: (ao58_5, .lst uo58_5) :: (a_state, .lst vs89_1) :: os) := w105.drop (pre := [])
    have w109 : W F105 _ ((ao58_5, .lst uo58_5) :: (a_state, .lst vs89_1) :: os) := w108.drop (pre := [])
    have w110 : W F105 _ ((a_state, .lst vs89_1) :: os) := w109.drop (pre := [])
    exact (post_ok hm) _ _ _ _ w110 sF (rep_pair q106 rep_i (rep_tup q107 h107)) h89_1
def sp_law_things (K : Fg) : Sp := fun vs H Q E => ∃ (F : Hp) (os : List (Addr × HO)) (v_web : V) (x_web : (Int × (Tup (Int × Int)))) (x_kind : Str), vs = [v_web, .str x_kind] ∧ W F H (os) ∧ rep K F v_web x_web ∧ Post (law_things x_web x_kind) (Ret K F os Q) noX
theorem sc_law_things : FnScope ["web", "kind", "places"] ["web", "kind"] (defScope s_law_things) := ⟨rfl, rfl, rfl, by decide +kernel, rfl, by decide +kernel, by decide +kernel⟩
theorem ok_law_things (T : Tx K mg A FD) : FnOk P w K mg base CX0 1 (A 46) (FD 46) ["web", "kind"] (sp_law_things K) := by
  refine T.d46.fn.ok sc_law_things (fun vs H Q E h => ?_) (fun cdv Ar outer s H vs Q E hr h => ?_)
  · obtain ⟨F, os, v_web, x_web, x_kind, rfl, _⟩ := h
    rfl
  · obtain ⟨F0, os, v_web, x_web, x_kind, rfl, w0, r_web, hm⟩ := h
    have sF : Same F0 F0 := Same.refl _
    obtain ⟨a1, u1, z1, rfl, q1, r1a, r1b⟩ := r_web
    obtain rfl : u1 = V.int x_web.1 := r1a
    obtain ⟨a2, vs2, rfl, q2, h2⟩ := r1b
    refine ⟨_, (pss_cons (ps_set (i := 2) sc_law_things.nd rfl (Or.inl rfl) (pe_listRg rfl (by rfl) T.n_list (prg_1 (by rfl) T.n_range (pe_ix (ix_tupK (K := K) rfl) (pv 0) pe_int (fun _ _ => rfl))))) (pss_one (ps_ret (pe_op op_cat (pe_op op_rep (pv 2) (pe_callTy call_intB (by rfl) T.n_int (by decide +kernel) (pa_cons (pe_cmpR op_neS (pv 1) pe_str (nomark _)) pa_nil))) (pe_op op_rep (pe_callTy (call_list_ofK (K := K) rfl) (by rfl) T.n_list (by decide +kernel) (pa_cons (pe_ix (ix_tupK (K := K) rfl) (pv 0) pe_int (fun _ _ => rfl)) pa_nil)) (pe_callTy call_intB (by rfl) T.n_int (by decide +kernel) (pa_cons (pe_cmpR op_neS (pv 1) pe_str (nomark _)) pa_nil))))))), ?_⟩
    obtain ⟨l3, z3, e3, hm⟩ := pb_lrng hm
    have h3 : A2 (rep K F0) (rgV 0 x_web.1) l3 := by rw [e3, rgV_eq]; exact A2.of_ints
    refine ⟨_, rfl, _, _, _, _, rfl, rfl, SqT.of (w0.same _ _ q1), rfl, _, rfl, z3, fun p4 n4 => ?_⟩
    have w4 : W F0 _ ((p4, .lst (rgV 0 x_web.1)) :: os) := w0.new n4
    obtain ⟨F5, s5, w5, q5⟩ : ∃ F', Same F0 F' ∧ W F' _ (os) ∧ F' p4 = some (.lst (rgV 0 x_web.1)) := w4.freezeE (pre := [])
    replace q1 := s5 _ _ q1
    replace q2 := s5 _ _ q2
    replace h2 := A2.mono s5 h2
    replace h3 := A2.mono s5 h3
    replace sF := sF.trans s5
    obtain ⟨l6, z6, e6, hm⟩ := pb_rep hm
    have h6 : A2 (rep K F5) (List.replicate (b2i (!decide (x_kind = ("ties" : Str)))).toNat (rgV 0 x_web.1)).flatten l6 := e6 ▸ A2.flat h3 _
    refine ⟨_, rfl, _, rfl, _, _, rfl, rfl, _, rfl, _, _, _, rfl, rfl, (w5.same _ _ q5), z6.1, z6.2.1, (by rw [h3.length]; exact z6.2.2), fun p7 n7 => ?_⟩
    have w7 : W F5 _ ((p7, .lst (List.replicate (b2i (!decide (x_kind = ("ties" : Str)))).toNat (rgV 0 x_web.1)).flatten) :: os) := w5.new n7
    have h8 : A2 (rep K F5) vs2 x_web.2.l := h2
    refine ⟨_, rfl, _, _, _, _, rfl, rfl, SqT.of (w7.same _ _ q1), rfl, _, _, rfl, .inr (SqT.of (w7.same _ _ q2)), fun p9 n9 => ?_⟩
    have w9 : W F5 _ ((p9, .lst vs2) :: (p7, .lst (List.replicate (b2i (!decide (x_kind = ("ties" : Str)))).toNat (rgV 0 x_web.1)).flatten) :: os) := w7.new n9
    obtain ⟨l10, z10, e10, hm⟩ := pb_rep hm
    have h10 : A2 (rep K F5) (List.replicate (b2i (!decide (x_kind = ("places" : Str)))).toNat vs2).flatten l10 := e10 ▸ A2.flat h8 _
    refine ⟨_, rfl, _, _, rfl, rfl, _, rfl, _, _, _, rfl, rfl, (w9.get (pre := [])), z10.1, z10.2.1, (by rw [h8.length]; exact z10.2.2), fun p11 n11 => ?_⟩
    have w11 : W F5 _ ((p11, .lst (List.replicate (b2i (!decide (x_kind = ("places" : Str)))).toNat vs2).flatten) :: (p9, .lst vs2) :: (p7, .lst (List.replicate (b2i (!decide (x_kind = ("ties" : Str)))).toNat (rgV 0 x_web.1)).flatten) :: os) := w9.new n11
    have h12 : A2 (rep K F5) (List.replicate (b2i (!decide (x_kind = ("ties" : Str)))).toNat (rgV 0 x_web.1)).flatten (mkpl l6) := A2.pl h6
    have h13 : A2 (rep K F5) (List.replicate (b2i (!decide (x_kind = ("places" : Str)))).toNat vs2).flatten (mkti l10) := A2.ti h10
    obtain ⟨l14, z14, e14, hm⟩ := pn_extend hm
    have h14 : A2 (rep K F5) ((List.replicate (b2i (!decide (x_kind = ("ties" : Str)))).toNat (rgV 0 x_web.1)).flatten ++ (List.replicate (b2i (!decide (x_kind = ("places" : Str)))).toNat vs2).flatten) l14 := e14 ▸ A2.append h12 h13
    refine ⟨_, _, _, _, rfl, rfl, (w11.get (pre := [_, _])), (w11.get (pre := [])), (A2.le2 h12 h13 z14), fun p15 n15 => ?_⟩
    generalize (((List.replicate (b2i (!decide (x_kind = ("ties" : Str)))).toNat (rgV 0 x_web.1)).flatten ++ (List.replicate (b2i (!decide (x_kind = ("places" : Str)))).toNat vs2).flatten) : List V) = u15 at h14 ⊢
    have w15 : W F5 _ ((p15, .lst u15) :: (p11, .lst (List.replicate (b2i (!decide (x_kind = ("places" : Str)))).toNat vs2).flatten) :: (p9, .lst vs2) :: (p7, .lst (List.replicate (b2i (!decide (x_kind = ("ties" : Str)))).toNat (rgV 0 x_web.1)).flatten) :: os) := w11.new n15
    obtain ⟨F16, s16, w16, q16⟩ : ∃ F', Same F5 F' ∧ W F' _ ((p11, .lst (List.replicate (b2i (!decide (x_kind = ("places" : Str)))).toNat vs2).flatten) :: (p9, .lst vs2) :: (p7, .lst (List.replicate (b2i (!decide (x_kind = ("ties" : Str)))).toNat (rgV 0 x_web.1)).flatten) :: os) ∧ F' p15 = some (.lst u15) := w15.freezeE (pre := [])
    replace q1 := s16 _ _ q1
    replace h2 := A2.mono s16 h2
    replace q2 := s16 _ _ q2
    replace h3 := A2.mono s16 h3
    replace q5 := s16 _ _ q5
    replace h8 := A2.mono s16 h8
    replace h12 := A2.mono s16 h12
    replace h13 := A2.mono s16 h13
    replace h14 := A2.mono s16 h14
    replace sF := sF.trans s16
    have w17 : W F16 _ ((p9, .lst vs2) :: (p7, .lst (List.replicate (b2i (!decide (x_kind = ("ties" : Str)))).toNat (rgV 0 x_web.1)).flatten) :: os) := w16.drop (pre := [])
    have w18 : W F16 _ ((p7, .lst (List.replicate (b2i (!decide (x_kind = ("ties" : Str)))).toNat (rgV 0 x_web.1)).flatten) :: os) := w17.drop (pre := [])
    have w19 : W F16 _ (os) := w18.drop (pre := [])
    exact (post_ok hm) _ _ _ w19 sF (rep_lst q16 h14)
def sp_law_few (K : Fg) : Sp := fun vs H Q E => ∃ (F : Hp) (os : List (Addr × HO)) (a_state : Addr) (vs_state : List V) (x_state : (List Int)) (x_least : Int), vs = [.ref a_state, .int x_least] ∧ W F H ((a_state, .lst vs_state) :: os) ∧ A2 (rep K F) vs_state x_state ∧ Post (law_few x_state x_least) (RetM K F a_state os Q) noX
theorem sc_law_few : FnScope ["state", "least", "web", "kind"] ["state", "least"] (defScope s_law_few) := ⟨rfl, rfl, rfl, by decide +kernel, rfl, by decide +kernel, by decide +kernel⟩
theorem ok_law_few (T : Tx K mg A FD) : FnOk P w K mg base CX0 4 (A 47) (FD 47) ["state", "least"] (sp_law_few K) := by
  refine T.d47.fn.ok sc_law_few (fun vs H Q E h => ?_) (fun cdv Ar outer s H vs Q E hr h => ?_)
  · obtain ⟨F, os, a_state, vs_state, x_state, x_least, rfl, _⟩ := h
    rfl
  · obtain ⟨F0, os, a_state, vs_state, x_state, x_least, rfl, w0, h_state, hm⟩ := h
    have sF : Same F0 F0 := Same.refl _
    refine ⟨_, (pss_cons (ps_set (i := 2) sc_law_few.nd rfl (Or.inl rfl) (pe_call (ok_law_web T) (hr.mono (by decide)) (by rfl) T.d45.mg T.d45.fn.kp T.d45.b .nil pass0 (pa_cons (pv 0) (pa_cons (pv 1) (pa_cons pe_int pa_nil))))) (pss_cons (ps_set (i := 3) sc_law_few.nd rfl (Or.inl rfl) (pe_ix (ix_listK (K := K) rfl) (pe_lst (pa_cons pe_str (pa_cons pe_str (pa_cons pe_str pa_nil)))) (pe_call (ok_law_next T) (hr.mono (by decide)) (by rfl) T.d44.mg T.d44.fn.kp T.d44.b .nil pass0 (pa_cons (pv 0) (pa_cons pe_int pa_nil))) (fun _ _ => rfl))) (pss_cons (ps_if (pt_not (pt_chain op_le op_le pe_int (pe_callB (call_lenN (K := K) rfl) (by rfl) T.n_len (by decide +kernel) (pa_cons (pe_call (ok_law_things T) (hr.mono (by decide)) (by rfl) T.d46.mg T.d46.fn.kp T.d46.b .nil pass0 (pa_cons (pv 2) (pa_cons (pv 3) pa_nil))) pa_nil)) pe_int)) (pss_one (ps_set (i := 3) sc_law_few.nd rfl (Or.inl rfl) pe_str1)) pss_nil) (pss_one (ps_ret (pe_tup (pa_cons (pv 2) (pa_cons (pv 3) (pa_cons (pe_call (ok_law_things T) (hr.mono (by decide)) (by rfl) T.d46.mg T.d46.fn.kp T.d46.b .nil pass0 (pa_cons (pv 2) (pa_cons (pv 3) pa_nil))) pa_nil))))))))), ?_⟩
    refine ⟨_, rfl, _, rfl, _, _, _, _, _, _, _, rfl, w0, h_state, ?_⟩
    refine (post_bind hm).mono (fun y2 hm v2 vs2 F2 H2 w2 s2 r2 h2 => ?_) (fun _ z => z)
    replace sF := sF.trans s2
    obtain ⟨a3, u3, z3, rfl, q3, r3a, r3b⟩ := r2
    obtain rfl : u3 = V.int y2.1.1 := r3a
    obtain ⟨a4, vs4, rfl, q4, h4⟩ := r3b
    have h5 : A2 (rep K F2) [(.str "places"), (.str "ties"), (.str "all")] ([("places" : Str), ("ties" : Str), ("all" : Str)] : (List Str)) := .cons rep_s (.cons rep_s (.cons rep_s (.nil)))
    refine ⟨(by show 3 ≤ sizeLine; decide), fun p6 n6 => ?_⟩
    have w6 : W F2 _ ((p6, .lst [(.str "places"), (.str "ties"), (.str "all")]) :: (a_state, .lst vs2) :: os) := w2.new n6
    have w7 : W F2 _ ((a_state, .lst vs2) :: (p6, .lst [(.str "places"), (.str "ties"), (.str "all")]) :: os) := w6.front (pre := [_])
    refine ⟨_, rfl, _, _, _, _, _, _, rfl, w7, h2, ?_⟩
    refine (post_bind hm).mono (fun y8 hm v8 vs8 F8 H8 w8 s8 r8 h8 => ?_) (fun _ z => z)
    replace q3 := s8 _ _ q3
    replace h4 := A2.mono s8 h4
    replace q4 := s8 _ _ q4
    replace h5 := A2.mono s8 h5
    replace sF := sF.trans s8
    obtain rfl : v8 = V.int y8.1 := r8
    obtain ⟨t9, e9, hm⟩ := pb_get hm
    obtain ⟨u9, f9, r9⟩ := A2.at h5 e9
    obtain rfl : u9 = V.str t9 := r9
    have w10 : W F8 _ ((a_state, .lst vs8) :: os) := w8.drop (pre := [_])
    refine ⟨_, _, _, _, rfl, rfl, SqL.of (w8.get (pre := [_])), f9, ?_⟩
    refine stepN ?_
    try dsimp only
    refine joinS hm (fun (g11 : Str) σ H' => ∃ (F' : Hp), σ = [some (.ref a_state), some (.int x_least), some (.ref a3), some (.str g11)] ∧ Same F8 F' ∧ W F' H' ((a_state, .lst vs8) :: os)) ?_ ?_
    · intro N11 P11 hN11 hm
      refine stepIf ?_
      refine stepNot ?_
      refine joinT hm (fun (j12 : Bool) c H' => c = j12 ∧ ∃ (F' : Hp), Same F8 F' ∧ W F' H' ((a_state, .lst vs8) :: os)) ?_ ?_
      · intro Q12 P12 q12 hm
        refine ⟨_, rfl, _, rfl, _, _, _, (y2.1 : (Int × (Tup (Int × Int)))), _, rfl, w10, (rep_pair q3 rep_i (rep_tup q4 h4)), ?_⟩
        refine (post_bind hm).mono (fun y13 hm v13 F13 H13 w13 s13 r13 => ?_) (fun _ z => z)
        replace q3 := s13 _ _ q3
        replace h4 := A2.mono s13 h4
        replace q4 := s13 _ _ q4
        replace h8 := A2.mono s13 h8
        replace sF := sF.trans s13
        obtain ⟨a14, vs14, rfl, q14, h14⟩ := r13
        refine ⟨_, _, _, rfl, .inl (SqL.of (w13.same _ _ q14)), h14.length, _, _, rfl, rfl, _, rfl, ?_⟩
        refine post_ite hm (fun k15 hm => ?_) (fun k15 hm => ?_)
        · skip
          exact ⟨_, _, rfl, rfl, _, rfl, q12 _ (post_ok hm) _ _ ⟨rfl, _, s13, w13⟩⟩
        · skip
          exact ⟨_, rfl, q12 _ (post_ok hm) _ _ ⟨rfl, _, s13, w13⟩⟩
      intro j12 c12 H12 hc12 hm
      obtain ⟨rfl, F12, s12, w12⟩ := hc12
      replace q3 := s12 _ _ q3
      replace h4 := A2.mono s12 h4
      replace q4 := s12 _ _ q4
      replace h8 := A2.mono s12 h8
      replace sF := sF.trans s12
      refine post_ite hm (fun k18 hm => ?_) (fun k18 hm => ?_)
      · skip
        exact ⟨trivial, hN11 _ (post_ok hm) _ _ ⟨_, rfl, s12, w12⟩⟩
      · skip
        exact hN11 _ (post_ok hm) _ _ ⟨_, rfl, s12, w12⟩
    intro g11 σ11 H11 hI hm
    obtain ⟨F11, rfl, s11, w11⟩ := hI
    replace q3 := s11 _ _ q3
    replace h4 := A2.mono s11 h4
    replace q4 := s11 _ _ q4
    replace h8 := A2.mono s11 h8
    replace sF := sF.trans s11
    refine ⟨_, rfl, _, rfl, _, rfl, _, rfl, _, _, _, (y2.1 : (Int × (Tup (Int × Int)))), _, rfl, w11, (rep_pair q3 rep_i (rep_tup q4 h4)), ?_⟩
    refine (post_bind hm).mono (fun y19 hm v19 F19 H19 w19 s19 r19 => ?_) (fun _ z => z)
    replace q3 := s19 _ _ q3
    replace h4 := A2.mono s19 h4
    replace q4 := s19 _ _ q4
    replace h8 := A2.mono s19 h8
    replace sF := sF.trans s19
    obtain ⟨a20, vs20, rfl, q20, h20⟩ := r19
    refine ⟨(by show 3 ≤ sizeLine; decide), fun p21 n21 => ?_⟩
    obtain ⟨F21, s21, w21, q21⟩ := w19.frzE (o := .tup [(.ref a3), (.str g11), (.ref a20)]) n21
    replace q3 := s21 _ _ q3
    replace h4 := A2.mono s21 h4
    replace q4 := s21 _ _ q4
    replace h8 := A2.mono s21 h8
    replace q20 := s21 _ _ q20
    replace h20 := A2.mono s21 h20
    replace sF := sF.trans s21
    exact (post_ok hm) _ _ _ _ w21 sF (rep_nt3 q21 (rep_pair q3 rep_i (rep_tup q4 h4)) rep_s (rep_lst q20 h20)) h8
def sp_law_gone (K : Fg) : Sp := fun vs H Q E => ∃ (F : Hp) (os : List (Addr × HO)) (v_web : V) (x_web : (Int × (Tup (Int × Int)))) (v_plan : V) (x_plan : Pl) (v_thing : V) (x_thing : Thing), vs = [v_web, v_plan, v_thing] ∧ W F H (os) ∧ rep K F v_web x_web ∧ rep K F v_plan x_plan ∧ rep K F v_thing x_thing ∧ Post (law_gone x_web x_plan x_thing) (Ret K F os Q) noX
theorem sc_law_gone : FnScope ["web", "plan", "thing", "asks", "answer", "fitting", "other", "rest"] ["web", "plan", "thing"] (defScope s_law_gone) := ⟨rfl, rfl, rfl, by decide +kernel, rfl, by decide +kernel, by decide +kernel⟩
theorem ok_law_gone (T : Tx K mg A FD) : FnOk P w K mg base CX0 5 (A 48) (FD 48) ["web", "plan", "thing"] (sp_law_gone K) := by
  refine T.d48.fn.ok sc_law_gone (fun vs H Q E h => ?_) (fun cdv Ar outer s H vs Q E hr h => ?_)
  · obtain ⟨F, os, v_web, x_web, v_plan, x_plan, v_thing, x_thing, rfl, _⟩ := h
    rfl
  · obtain ⟨F0, os, v_web, x_web, v_plan, x_plan, v_thing, x_thing, rfl, w0, r_web, r_plan, r_thing, hm⟩ := h
    have sF : Same F0 F0 := Same.refl _
    obtain ⟨a1, u1, z1, rfl, q1, r1a, r1b⟩ := r_web
    obtain rfl : u1 = V.int x_web.1 := r1a
    obtain ⟨a2, vs2, rfl, q2, h2⟩ := r1b
    have r3 : rep K F0 v_plan (x_plan : Pl) := r_plan
    obtain ⟨a3, u3, t3, rfl, q3, o3, l3⟩ := pl_openN r3
    refine ⟨_, (pss_cons (ps_set (i := 3) sc_law_gone.nd rfl (Or.inl rfl) pe_int1) (pss_cons (ps_while PassesOwn.never (PW.pt (pw_and (pt_cmpR op_eqS (pe_ix (ix_tupK (K := K) rfl) (pv 1) pe_int (fun _ _ => rfl)) pe_str (nomark _)) (pw_and1 (pt_cmp (pc_lt (pv 3) pe_int))))) (pss_cons (ps_set (i := 3) sc_law_gone.nd rfl (Or.inl rfl) (pe_op op_add (pv 3) pe_int)) (pss_cons (ps_set (i := 4) sc_law_gone.nd rfl (Or.inr rfl) (pe_ix (ix_listK (K := K) rfl) (pe_call (ok_code_of T) (hr.mono (by decide)) (by rfl) T.d23.mg T.d23.fn.kp T.d23.b .nil pass0 (pa_cons (pv 0) (pa_cons (pe_lst (pa_cons (pe_ix (ix_tupK (K := K) rfl) (pv 1) pe_int (fun _ _ => rfl)) pa_nil)) (pa_cons (pv 2) pa_nil)))) pe_int (fun _ _ => rfl))) (pss_cons (ps_setLc (i := 5) (own := [("other", 6), ("rest", 7)]) (g := _) (by rfl) sc_law_gone.nd rfl rfl (sw_true rfl rfl rfl (by decide +kernel)) (pi_tupK (K := K) rfl (pe_ix (ix_tupK (K := K) rfl) (pv 1) pe_int (fun _ _ => rfl))) (blkOk_by (own := [("other", 6), ("rest", 7)]) (N := ["web", "plan", "thing", "asks", "answer", "fitting", "other", "rest"]) (sc := defScope s_law_gone) (by decide +kernel)) (fun _ _ _ _ _ => (pg_k (K := K) (t := fun K => gTup K 2 _) rfl (pg_tup (n := 2) rfl (pgs_cons (pg_name (i := 6) sc_law_gone.nd rfl (Or.inl rfl)) (pgs_cons (pg_name (i := 7) sc_law_gone.nd rfl (Or.inl rfl)) pgs_nil))))) (fun _ _ _ _ _ => (pts_one (pt_cmp (pc_eqI (pv 6) (pv 4))))) (fun _ _ _ _ _ => (pv 7))) (pss_cons (ps_if (pt_cmp (pc_neI (pe_callB (call_lenN (K := K) rfl) (by rfl) T.n_len (by decide +kernel) (pa_cons (pv 5) pa_nil)) pe_int)) (pss_one (ps_ret (pe_tup (pa_cons pe_non (pa_cons (pv 3) pa_nil))))) pss_nil) (pss_one (ps_set (i := 1) sc_law_gone.nd rfl (Or.inl rfl) (pe_ix (ix_listK (K := K) rfl) (pv 5) pe_int (fun _ _ => rfl))))))))) (pss_one (ps_ret (pe_tup (pa_cons (pe_ix (ix_tupK (K := K) rfl) (pv 1) pe_int (fun _ _ => rfl)) (pa_cons (pv 3) pa_nil))))))), ?_⟩
    refine ⟨trivial, ?_⟩
    refine stepN ?_
    try dsimp only
    refine stepSeq (whileX hm (fun (g5 : Int × Pl) σ H' => ∃ (F' : Hp) (v5_1 : V) (o5_4 : Option V) (o5_5 : Option V), σ = [some (.ref a1), some v5_1, some v_thing, some (.int g5.1), o5_4, o5_5, none, none] ∧ Same F0 F' ∧ W F' H' (os) ∧ rep K F' v5_1 (g5.2 : Pl)) ⟨_, _, _, _, rfl, Same.refl _, w0, r3⟩ ?_ ?_ ?_)
    · intro g5 σ5 H5 N5 P5 hI hN5 hm
      obtain ⟨F5, v5_1, o5_4, o5_5, rfl, s5, w5, r5_1⟩ := hI
      replace q1 := s5 _ _ q1
      replace h2 := A2.mono s5 h2
      replace q2 := s5 _ _ q2
      replace q3 := s5 _ _ q3
      replace r3 := Rep.mono s5 r3
      replace o3 := Rep.mono s5 o3
      replace r_thing := Rep.mono s5 r_thing
      replace sF := sF.trans s5
      have r6 : rep K F5 v5_1 (g5.2 : Pl) := r5_1
      obtain ⟨a6, u6, t6, rfl, q6, o6, l6⟩ := pl_openN r6
      refine joinT hm (fun (j7 : Bool) c H' => c = j7 ∧ ∃ (F' : Hp), Same F5 F' ∧ W F' H' (os)) ?_ ?_
      · intro Q7 P7 q7 hm
        refine ⟨_, rfl, _, _, _, _, rfl, rfl, SqT.of (w5.same _ _ q6), at_0, _, _, rfl, rfl, _, rfl, ?_⟩
        refine post_ite hm (fun k8 hm => ?_) (fun k8 hm => ?_)
        · skip
          exact ⟨_, rfl, _, _, rfl, rfl, _, rfl, q7 _ (post_ok hm) _ _ ⟨rfl, _, Same.refl _, w5⟩⟩
        · skip
          exact q7 _ (post_ok hm) _ _ ⟨rfl, _, Same.refl _, w5⟩
      intro j7 c7 H7 hc7 hm
      obtain ⟨rfl, F7, s7, w7⟩ := hc7
      replace q1 := s7 _ _ q1
      replace h2 := A2.mono s7 h2
      replace q2 := s7 _ _ q2
      replace q3 := s7 _ _ q3
      replace r3 := Rep.mono s7 r3
      replace o3 := Rep.mono s7 o3
      replace r_thing := Rep.mono s7 r_thing
      replace q6 := s7 _ _ q6
      replace r6 := Rep.mono s7 r6
      replace o6 := Rep.mono s7 o6
      replace sF := sF.trans s7
      exact hN5 _ (post_ok hm) _ ⟨_, _, _, _, rfl, (s5.trans s7), w7, r6⟩
    · intro g5 σ5 H5 N5 B5 P5 hI hN5 hB5 hZ5 hm
      obtain ⟨F5, v5_1, o5_4, o5_5, rfl, s5, w5, r5_1⟩ := hI
      replace q1 := s5 _ _ q1
      replace h2 := A2.mono s5 h2
      replace q2 := s5 _ _ q2
      replace q3 := s5 _ _ q3
      replace r3 := Rep.mono s5 r3
      replace o3 := Rep.mono s5 o3
      replace r_thing := Rep.mono s5 r_thing
      replace sF := sF.trans s5
      have r11 : rep K F5 v5_1 (g5.2 : Pl) := r5_1
      obtain ⟨a11, u11, t11, rfl, q11, o11, l11⟩ := pl_openN r11
      obtain ⟨i12, l12, e12, hm⟩ := pb_asAsk hm
      have r12 : rep K F5 (.ref a11) (Pl.ask i12 l12) := e12 ▸ r11
      obtain ⟨p12, b12, vs12, z12, q12, qb12, h12⟩ := ask_open r12
      have z12 : a11 = p12 := V.ref.inj z12
      subst z12
      have h13 : A2 (rep K F5) [(.int i12)] ([i12] : (List Int)) := .cons rep_i (.nil)
      refine ⟨_, rfl, _, _, rfl, rfl, _, rfl, _, rfl, _, _, _, _, rfl, rfl, SqT.of (w5.same _ _ q12), rfl, (by show 1 ≤ sizeLine; decide), fun p14 n14 => ?_⟩
      have w14 : W F5 _ ((p14, .lst [(.int i12)]) :: os) := w5.new n14
      obtain ⟨F15, s15, w15, q15⟩ : ∃ F', Same F5 F' ∧ W F' _ (os) ∧ F' p14 = some (.lst [(.int i12)]) := w14.freezeE (pre := [])
      replace q1 := s15 _ _ q1
      replace h2 := A2.mono s15 h2
      replace q2 := s15 _ _ q2
      replace q12 := s15 _ _ q12
      replace r12 := Rep.mono s15 r12
      replace h12 := A2.mono s15 h12
      replace qb12 := s15 _ _ qb12
      replace r_thing := Rep.mono s15 r_thing
      replace h13 := A2.mono s15 h13
      replace sF := sF.trans s15
      refine ⟨_, rfl, _, _, _, (x_web : (Int × (Tup (Int × Int)))), _, (([i12] : (List Int)) : (List Int)), _, (x_thing : Thing), rfl, w15, (rep_pair q1 rep_i (rep_tup q2 h2)), (rep_lst q15 h13), r_thing, ?_⟩
      refine (post_bind hm).mono (fun y16 hm p16 us16 F16 H16 w16 s16 g16 => ?_) (fun _ z => z)
      replace q1 := s16 _ _ q1
      replace h2 := A2.mono s16 h2
      replace q2 := s16 _ _ q2
      replace q12 := s16 _ _ q12
      replace r12 := Rep.mono s16 r12
      replace h12 := A2.mono s16 h12
      replace qb12 := s16 _ _ qb12
      replace r_thing := Rep.mono s16 r_thing
      replace h13 := A2.mono s16 h13
      replace q15 := s16 _ _ q15
      replace sF := sF.trans s16
      obtain ⟨t18, e18, hm⟩ := pb_get hm
      obtain ⟨u18, f18, r18⟩ := A2.at g16 e18
      obtain rfl : u18 = V.int t18 := r18
      have w19 : W F16 _ (os) := w16.drop (pre := [])
      refine ⟨_, _, _, _, rfl, rfl, SqL.of (w16.get (pre := [])), f18, _, rfl, _, _, _, _, rfl, rfl, SqT.of (w19.same _ _ q12), rfl, _, rfl, ⟨_, SqT.of (w19.same _ _ qb12)⟩, fun D20 nD20 => ?_⟩
      refine lcF (K := K) (tw_tup (a := b12) h12) hm w19 nD20 (fun F' H' acc s w => SqT.of (w.same _ _ (s _ _ qb12))) ?_ ?_
      · -- one turn
        intro b20 x20 F20 H20 H20' acc20 N20 M20 P20 s20 w20 y20 hN20 hM20 hm
        replace q1 := s20 _ _ q1
        replace h2 := A2.mono s20 h2
        replace q2 := s20 _ _ q2
        replace q12 := s20 _ _ q12
        replace r12 := Rep.mono s20 r12
        replace h12 := A2.mono s20 h12
        replace qb12 := s20 _ _ qb12
        replace r_thing := Rep.mono s20 r_thing
        replace sF := sF.trans s20
        obtain ⟨rfl, r22⟩ := y20
        replace r22 := Rep.mono s20 r22
        obtain ⟨a23, u23, z23, rfl, q23, r23a, r23b⟩ := r22
        obtain rfl : u23 = V.int b20.1 := r23a
        have r24 : rep K F20 z23 (b20.2 : Pl) := r23b
        obtain ⟨a24, u24, t24, rfl, q24, o24, l24⟩ := pl_openN r24
        refine ⟨_, _, rfl, SqT.of (w20.same _ _ q23), rfl, _, _, rfl, _, _, rfl, rfl, rfl, _, rfl, _, rfl, _, _, rfl, rfl, _, rfl, ?_⟩
        refine post_ite hm (fun k25 hm => ?_) (fun k25 hm => ?_)
        · skip
          exact ⟨_, rfl, hN20 _ (post_ok hm) _ _ _ w20 (Same.refl _) r24⟩
        · skip
          exact hM20 (post_ok hm) _ _ w20 (Same.refl _)
      intro us20 F20 H20 ys20 s20 w20 gg20 hm
      replace q1 := s20 _ _ q1
      replace h2 := A2.mono s20 h2
      replace q2 := s20 _ _ q2
      replace q12 := s20 _ _ q12
      replace r12 := Rep.mono s20 r12
      replace h12 := A2.mono s20 h12
      replace qb12 := s20 _ _ qb12
      replace r_thing := Rep.mono s20 r_thing
      replace sF := sF.trans s20
      obtain ⟨F27, s27, w27, q27⟩ : ∃ F', Same F20 F' ∧ W F' _ (os) ∧ F' D20 = some (.lst us20) := w20.freezeE (pre := [])
      replace q1 := s27 _ _ q1
      replace h2 := A2.mono s27 h2
      replace q2 := s27 _ _ q2
      replace q12 := s27 _ _ q12
      replace r12 := Rep.mono s27 r12
      replace h12 := A2.mono s27 h12
      replace qb12 := s27 _ _ qb12
      replace r_thing := Rep.mono s27 r_thing
      replace gg20 := A2.mono s27 gg20
      replace sF := sF.trans s27
      refine ⟨_, rfl, _, _, _, rfl, .inl (SqL.of (w27.same _ _ q27)), gg20.length, _, _, rfl, rfl, _, rfl, ?_⟩
      refine post_ite hm (fun k28 hm => ?_) (fun k28 hm => ?_)
      · skip
        have r29 : rep K F27 .non (none : (Option Thing)) := rep_none
        refine ⟨_, rfl, (by show 2 ≤ sizeLine; decide), fun p30 n30 => ?_⟩
        obtain ⟨F30, s30, w30, q30⟩ := w27.frzE (o := .tup [.non, (.int (g5.1 + (1 : Int)))]) n30
        replace q1 := s30 _ _ q1
        replace h2 := A2.mono s30 h2
        replace q2 := s30 _ _ q2
        replace q12 := s30 _ _ q12
        replace r12 := Rep.mono s30 r12
        replace h12 := A2.mono s30 h12
        replace qb12 := s30 _ _ qb12
        replace r_thing := Rep.mono s30 r_thing
        replace gg20 := A2.mono s30 gg20
        replace q27 := s30 _ _ q27
        replace r29 := Rep.mono s30 r29
        replace sF := sF.trans s30
        have hm := hZ5 _ (post_ok hm)
        exact (post_ok hm) _ _ _ w30 sF (rep_nt2 q30 r29 rep_i)
      · skip
        obtain ⟨t31, e31, hm⟩ := pb_get hm
        obtain ⟨u31, f31, r31⟩ := A2.at gg20 e31
        have r32 : rep K F27 u31 (t31 : Pl) := r31
        obtain ⟨a32, u32, t32, rfl, q32, o32, l32⟩ := pl_openN r32
        exact ⟨_, rfl, _, _, _, _, rfl, rfl, SqL.of (w27.same _ _ q27), f31, hN5 _ (post_ok hm) _ _ ⟨_, _, _, _, rfl, (s5.trans (s15.trans (s16.trans (s20.trans s27)))), w27, r32⟩⟩
    intro g5 σ5 H5 hI hm
    obtain ⟨F5, v5_1, o5_4, o5_5, rfl, s5, w5, r5_1⟩ := hI
    replace q1 := s5 _ _ q1
    replace h2 := A2.mono s5 h2
    replace q2 := s5 _ _ q2
    replace q3 := s5 _ _ q3
    replace r3 := Rep.mono s5 r3
    replace o3 := Rep.mono s5 o3
    replace r_thing := Rep.mono s5 r_thing
    replace sF := sF.trans s5
    have r33 : rep K F5 v5_1 (g5.2 : Pl) := r5_1
    obtain ⟨a33, u33, t33, rfl, q33, o33, l33⟩ := pl_openN r33
    have r34 : rep K F5 u33 ((some (g5.2).one) : (Option Thing)) := (rep_some o33)
    refine ⟨_, rfl, _, _, _, _, rfl, rfl, SqT.of (w5.same _ _ q33), at_1, _, rfl, (by show 2 ≤ sizeLine; decide), fun p35 n35 => ?_⟩
    obtain ⟨F35, s35, w35, q35⟩ := w5.frzE (o := .tup [u33, (.int g5.1)]) n35
    replace q1 := s35 _ _ q1
    replace h2 := A2.mono s35 h2
    replace q2 := s35 _ _ q2
    replace q33 := s35 _ _ q33
    replace r33 := Rep.mono s35 r33
    replace o33 := Rep.mono s35 o33
    replace r_thing := Rep.mono s35 r_thing
    replace r34 := Rep.mono s35 r34
    replace sF := sF.trans s35
    exact (post_ok hm) _ _ _ w35 sF (rep_nt2 q35 r34 rep_i)
def sp_law_looks (K : Fg) : Sp := fun vs H Q E => ∃ (F : Hp) (os : List (Addr × HO)) (a_state : Addr) (vs_state : List V) (x_state : (List Int)) (v_web : V) (x_web : (Int × (Tup (Int × Int)))) (x_kind : Str), vs = [.ref a_state, v_web, .str x_kind] ∧ W F H ((a_state, .lst vs_state) :: os) ∧ A2 (rep K F) vs_state x_state ∧ rep K F v_web x_web ∧ Post (law_looks x_state x_web x_kind) (RetM K F a_state os Q) noX
theorem sc_law_looks : FnScope ["state", "web", "kind", "order", "place", "many"] ["state", "web", "kind"] (defScope s_law_looks) := ⟨rfl, rfl, rfl, by decide +kernel, rfl, by decide +kernel, by decide +kernel⟩
theorem ok_law_looks (T : Tx K mg A FD) : FnOk P w K mg base CX0 7 (A 49) (FD 49) ["state", "web", "kind"] (sp_law_looks K) := by
  refine T.d49.fn.ok sc_law_looks (fun vs H Q E h => ?_) (fun cdv Ar outer s H vs Q E hr h => ?_)
  · obtain ⟨F, os, a_state, vs_state, x_state, v_web, x_web, x_kind, rfl, _⟩ := h
    rfl
  · obtain ⟨F0, os, a_state, vs_state, x_state, v_web, x_web, x_kind, rfl, w0, h_state, r_web, hm⟩ := h
    have sF : Same F0 F0 := Same.refl _
    obtain ⟨a2, u2, z2, rfl, q2, r2a, r2b⟩ := r_web
    obtain rfl : u2 = V.int x_web.1 := r2a
    obtain ⟨a3, vs3, rfl, q3, h3⟩ := r2b
    refine ⟨_, (pss_cons (ps_set (i := 3) sc_law_looks.nd rfl (Or.inl rfl) (pe_lst pa_nil)) (pss_cons (ps_for PassesOwn.never rfl (pi_range1 (by rfl) T.n_range (pa_cons (pe_ix (ix_tupK (K := K) rfl) (pv 1) pe_int (fun _ _ => rfl)) pa_nil)) (pg_name (i := 4) sc_law_looks.nd rfl (Or.inl rfl)) (pss_one (ps_expr (pe_bm PySem.F.plainAttrs_list PySem.F.slot_list_insert PySem.F.type_list_insert mt_insert (pv 3) (pa_cons (pe_call (ok_law_next T) (hr.mono (by decide)) (by rfl) T.d44.mg T.d44.fn.kp T.d44.b .nil pass0 (pa_cons (pv 0) (pa_cons (pe_op op_add (pv 4) pe_int) pa_nil))) (pa_cons (pv 4) pa_nil)))))) (pss_cons (ps_for PassesOwn.never rfl (pi_range1 (by rfl) T.n_range (pa_cons (pe_op op_add (pe_ix (ix_tupK (K := K) rfl) (pv 1) pe_int (fun _ _ => rfl)) pe_int) pa_nil)) (pg_name (i := 5) sc_law_looks.nd rfl (Or.inl rfl)) (pss_one (ps_if (pt_val (pe_call (ok_is_known T) (hr.mono (by decide)) (by rfl) T.d26.mg T.d26.fn.kp T.d26.b .nil pass0 (pa_cons (pv 1) (pa_cons (pe_callB (cr_sortI (K := K) rfl) (by rfl) T.n_sorted (by decide +kernel) (pa_cons (pe_slice (sl_listK (K := K) rfl) (pv 3) po_none (po_some (pv 5))) pa_nil)) (pa_cons (pv 2) pa_nil))))) (pss_one (ps_ret (pv 5))) pss_nil))) (pss_one (ps_ret pe_int))))), ?_⟩
    have h4 : A2 (rep K F0) [] ([] : (List Int)) := .nil
    refine ⟨(by show 0 ≤ sizeLine; decide), fun p5 n5 => ?_⟩
    have w5 : W F0 _ ((p5, .lst []) :: (a_state, .lst vs_state) :: os) := w0.new n5
    obtain ⟨c7, hm⟩ := pb_rng hm
    refine ⟨_, rfl, _, _, _, _, rfl, rfl, SqT.of (w5.same _ _ q2), rfl, _, rfl, c7.2.2.1, c7.2.2.2, ?_⟩
    refine forS (tw_rng0 (j := x_web.1)) hm (fun (g6 : (List Int) × (List Int)) σ H' => ∃ (F' : Hp) (vs6_0 : List V) (vs6_1 : List V) (o6_4 : Option V), σ = [some (.ref a_state), some (.ref a2), some (.str x_kind), some (.ref p5), o6_4, none] ∧ Same F0 F' ∧ W F' H' ((p5, .lst vs6_0) :: (a_state, .lst vs6_1) :: os) ∧ A2 (rep K F') vs6_0 g6.1 ∧ A2 (rep K F') vs6_1 g6.2) ⟨_, _, _, _, rfl, Same.refl _, w5, h4, h_state⟩ (fun _ _ _ _ => trivial) ?_ ?_
    · -- a turn
      intro b6 g6 x6 σ6 H6 H6' N6 P6 hI hy hN6 hm
      obtain ⟨F6, vs6_0, vs6_1, o6_4, rfl, s6, w6, h6_0, h6_1⟩ := hI
      replace q2 := s6 _ _ q2
      replace h3 := A2.mono s6 h3
      replace q3 := s6 _ _ q3
      replace sF := sF.trans s6
      obtain ⟨rfl, rfl⟩ := hy
      have w8 : W F6 _ ((a_state, .lst vs6_1) :: (p5, .lst vs6_0) :: os) := w6.front (pre := [_])
      refine ⟨_, rfl, .inl ⟨rfl, _, SqL.of (w6.get (pre := []))⟩, _, rfl, _, rfl, _, _, rfl, rfl, _, _, _, _, _, _, rfl, w8, h6_1, ?_⟩
      refine (post_bind hm).mono (fun y9 hm v9 vs9 F9 H9 w9 s9 r9 h9 => ?_) (fun _ z => z)
      replace q2 := s9 _ _ q2
      replace h3 := A2.mono s9 h3
      replace q3 := s9 _ _ q3
      replace h6_0 := A2.mono s9 h6_0
      replace sF := sF.trans s9
      obtain rfl : v9 = V.int y9.1 := r9
      obtain ⟨l10, z10, e10, hm⟩ := pn_ins hm
      refine ⟨_, rfl, _, _, _, _, rfl, rfl, (w9.get (pre := [_])), (line_ins h6_0 z10.1), z10.2.1, (by have := z10.2.2; omega), ?_⟩
      have h10 : A2 (rep K F9) (vs6_0.take y9.1.toNat ++ [(.int b6)] ++ vs6_0.drop y9.1.toNat) l10 := e10 ▸ A2.ins _ h6_0 rep_i
      have w11 : W F9 _ ((a_state, .lst vs9) :: (p5, .lst (vs6_0.take y9.1.toNat ++ [(.int b6)] ++ vs6_0.drop y9.1.toNat)) :: os) := w9.set (pre := [_])
      have w12 : W F9 _ ((p5, .lst (vs6_0.take y9.1.toNat ++ [(.int b6)] ++ vs6_0.drop y9.1.toNat)) :: (a_state, .lst vs9) :: os) := w11.front (pre := [_])
      exact hN6 _ (post_ok hm) _ _ ⟨_, _, _, _, rfl, (s6.trans s9), w12, h10, h9⟩
    intro g6 σ6 H6 hI hm
    obtain ⟨F6, vs6_0, vs6_1, o6_4, rfl, s6, w6, h6_0, h6_1⟩ := hI
    replace q2 := s6 _ _ q2
    replace h3 := A2.mono s6 h3
    replace q3 := s6 _ _ q3
    replace sF := sF.trans s6
    obtain ⟨c14, hm⟩ := pb_rng hm
    refine ⟨_, rfl, _, _, _, _, rfl, rfl, SqT.of (w6.same _ _ q2), rfl, _, _, rfl, rfl, _, rfl, c14.2.2.1, c14.2.2.2, ?_⟩
    refine forX (tw_rng0 (j := (x_web.1 + (1 : Int)))) hm (fun (g13 : Unit) σ H' => ∃ (F' : Hp) (o13_5 : Option V), σ = [some (.ref a_state), some (.ref a2), some (.str x_kind), some (.ref p5), o6_4, o13_5] ∧ Same F6 F' ∧ W F' H' ((p5, .lst vs6_0) :: (a_state, .lst vs6_1) :: os)) ⟨_, _, rfl, Same.refl _, w6⟩ (fun _ _ _ _ => trivial) ?_ ?_
    · -- a turn
      intro b13 g13 x13 σ13 H13 H13' N13 B13 P13 hI hy hN13 hB13 hZ13 hm
      obtain ⟨F13, o13_5, rfl, s13, w13⟩ := hI
      replace q2 := s13 _ _ q2
      replace h3 := A2.mono s13 h3
      replace q3 := s13 _ _ q3
      replace h6_0 := A2.mono s13 h6_0
      replace h6_1 := A2.mono s13 h6_1
      replace sF := sF.trans s13
      obtain ⟨rfl, rfl⟩ := hy
      have h15 : A2 (rep K F13) (cutV vs6_0 none (some b13)) (cutL g6.1 none (some b13)) := sl_cut h6_0 _ _
      refine ⟨_, rfl, _, rfl, _, rfl, _, rfl, _, _, rfl, SqL.of (w13.get (pre := [])), fun p16 n16 => ?_⟩
      have w16 : W F13 _ ((p16, .lst (cutV vs6_0 none (some b13))) :: (p5, .lst vs6_0) :: (a_state, .lst vs6_1) :: os) := w13.new n16
      have h17 : A2 (rep K F13) ((sortI (cutL g6.1 none (some b13))).map V.int) (sortI (cutL g6.1 none (some b13))) := A2.of_ints
      refine ⟨_, _, rfl, ints_q (SqL.of (w16.get (pre := []))) h15, fun p18 n18 => ?_⟩
      have w18 : W F13 _ ((p18, .lst ((sortI (cutL g6.1 none (some b13))).map V.int)) :: (p16, .lst (cutV vs6_0 none (some b13))) :: (p5, .lst vs6_0) :: (a_state, .lst vs6_1) :: os) := w16.new n18
      obtain ⟨F19, s19, w19, q19⟩ : ∃ F', Same F13 F' ∧ W F' _ ((p16, .lst (cutV vs6_0 none (some b13))) :: (p5, .lst vs6_0) :: (a_state, .lst vs6_1) :: os) ∧ F' p18 = some (.lst ((sortI (cutL g6.1 none (some b13))).map V.int)) := w18.freezeE (pre := [])
      replace q2 := s19 _ _ q2
      replace h3 := A2.mono s19 h3
      replace q3 := s19 _ _ q3
      replace h6_0 := A2.mono s19 h6_0
      replace h6_1 := A2.mono s19 h6_1
      replace h15 := A2.mono s19 h15
      replace h17 := A2.mono s19 h17
      replace sF := sF.trans s19
      refine ⟨_, rfl, _, _, _, (x_web : (Int × (Tup (Int × Int)))), _, ((sortI (cutL g6.1 none (some b13))) : (List Int)), _, rfl, w19, (rep_pair q2 rep_i (rep_tup q3 h3)), (rep_lst q19 h17), ?_⟩
      refine (post_bind hm).mono (fun y20 hm v20 F20 H20 w20 s20 r20 => ?_) (fun _ z => z)
      replace q2 := s20 _ _ q2
      replace h3 := A2.mono s20 h3
      replace q3 := s20 _ _ q3
      replace h6_0 := A2.mono s20 h6_0
      replace h6_1 := A2.mono s20 h6_1
      replace h15 := A2.mono s20 h15
      replace h17 := A2.mono s20 h17
      replace q19 := s20 _ _ q19
      replace sF := sF.trans s20
      obtain rfl : v20 = V.bl y20 := r20
      refine ⟨_, rfl, ?_⟩
      have w21 : W F20 _ ((p5, .lst vs6_0) :: (a_state, .lst vs6_1) :: os) := w20.drop (pre := [])
      refine post_ite hm (fun k22 hm => ?_) (fun k22 hm => ?_)
      · skip
        have hm := hZ13 _ (post_ok hm)
        have w23 : W F20 _ ((a_state, .lst vs6_1) :: os) := w21.drop (pre := [])
        exact ⟨_, rfl, (post_ok hm) _ _ _ _ w23 sF rep_i h6_1⟩
      · skip
        exact hN13 _ (post_ok hm) _ _ ⟨_, _, rfl, (s13.trans (s19.trans s20)), w21⟩
    intro g13 σ13 H13 hI hm
    obtain ⟨F13, o13_5, rfl, s13, w13⟩ := hI
    replace q2 := s13 _ _ q2
    replace h3 := A2.mono s13 h3
    replace q3 := s13 _ _ q3
    replace h6_0 := A2.mono s13 h6_0
    replace h6_1 := A2.mono s13 h6_1
    replace sF := sF.trans s13
    have w24 : W F13 _ ((a_state, .lst vs6_1) :: os) := w13.drop (pre := [])
    exact (post_ok hm) _ _ _ _ w24 sF rep_i h6_1
def sp_law_broadest (K : Fg) : Sp := fun vs H Q E => ∃ (F : Hp) (os : List (Addr × HO)) (v_web : V) (x_web : (Int × (Tup (Int × Int)))), vs = [v_web] ∧ W F H (os) ∧ rep K F v_web x_web ∧ Post (law_broadest x_web) (Ret K F os Q) noX
theorem sc_law_broadest : FnScope ["web", "found", "one", "other"] ["web"] (defScope s_law_broadest) := ⟨rfl, rfl, rfl, by decide +kernel, rfl, by decide +kernel, by decide +kernel⟩
theorem ok_law_broadest (T : Tx K mg A FD) : FnOk P w K mg base CX0 3 (A 50) (FD 50) ["web"] (sp_law_broadest K) := by
  refine T.d50.fn.ok sc_law_broadest (fun vs H Q E h => ?_) (fun cdv Ar outer s H vs Q E hr h => ?_)
  · obtain ⟨F, os, v_web, x_web, rfl, _⟩ := h
    rfl
  · obtain ⟨F0, os, v_web, x_web, rfl, w0, r_web, hm⟩ := h
    have sF : Same F0 F0 := Same.refl _
    obtain ⟨a1, u1, z1, rfl, q1, r1a, r1b⟩ := r_web
    obtain rfl : u1 = V.int x_web.1 := r1a
    obtain ⟨a2, vs2, rfl, q2, h2⟩ := r1b
    refine ⟨_, (pss_cons (ps_set (i := 1) sc_law_broadest.nd rfl (Or.inl rfl) pe_int1) (pss_cons (ps_for PassesOwn.never rfl (pi_range1 (by rfl) T.n_range (pa_cons (pe_ix (ix_tupK (K := K) rfl) (pv 0) pe_int (fun _ _ => rfl)) pa_nil)) (pg_name (i := 2) sc_law_broadest.nd rfl (Or.inr rfl)) (pss_one (ps_set (i := 1) sc_law_broadest.nd rfl (Or.inl rfl) (pe_callB (call_max2 rfl) (by rfl) T.n_max (by decide +kernel) (pa_cons (pv 1) (pa_cons (pe_callB (cr_maxI (K := K) rfl rfl) (by rfl) T.n_max (by decide +kernel) (pa_cons (pe_lc (own := [("other", 3)]) (g := gName 3) (by rfl) sc_law_broadest.nd (pi_range1 (by rfl) T.n_range (pa_cons (pe_ix (ix_tupK (K := K) rfl) (pv 0) pe_int (fun _ _ => rfl)) pa_nil)) (blkOk_by (own := [("other", 3)]) (N := ["web", "found", "one", "other"]) (sc := defScope s_law_broadest) (by decide +kernel)) (fun _ _ _ _ _ => (pg_name (i := 3) sc_law_broadest.nd rfl (Or.inl rfl))) (fun _ _ _ _ _ => pts_nil) (fun _ _ _ _ _ => (pe_call (ok_far_between T) (hr.mono (by decide)) (by rfl) T.d16.mg T.d16.fn.kp T.d16.b .nil pass0 (pa_cons (pv 0) (pa_cons (pv 2) (pa_cons (pv 3) pa_nil)))))) pa_nil)) pa_nil)))))) (pss_one (ps_ret (pv 1))))), ?_⟩
    obtain ⟨c4, hm⟩ := pb_rng hm
    refine ⟨trivial, _, rfl, _, _, _, _, rfl, rfl, SqT.of (w0.same _ _ q1), rfl, _, rfl, c4.2.2.1, c4.2.2.2, ?_⟩
    refine forS (tw_rng0 (j := x_web.1)) hm (fun (g3 : Int) σ H' => ∃ (F' : Hp) (o3_2 : Option V), σ = [some (.ref a1), some (.int g3), o3_2, none] ∧ Same F0 F' ∧ W F' H' (os)) ⟨_, _, rfl, Same.refl _, w0⟩ (fun _ _ _ _ => trivial) ?_ ?_
    · -- a turn
      intro b3 g3 x3 σ3 H3 H3' N3 P3 hI hy hN3 hm
      obtain ⟨F3, o3_2, rfl, s3, w3⟩ := hI
      replace q1 := s3 _ _ q1
      replace h2 := A2.mono s3 h2
      replace q2 := s3 _ _ q2
      replace sF := sF.trans s3
      obtain ⟨rfl, rfl⟩ := hy
      obtain ⟨c5, hm⟩ := pb_rng hm
      refine ⟨_, rfl, _, rfl, _, _, _, _, rfl, rfl, SqT.of (w3.same _ _ q1), rfl, _, rfl, c5.2.2.1, c5.2.2.2, fun D6 nD6 => ?_⟩
      refine lcM (K := K) (tw_rng0 (j := x_web.1)) hm w3 nD6 (fun F' H' acc s w => trivial) ?_ ?_
      · -- one turn
        intro b6 x6 F6 H6 H6' acc6 N6 P6 s6 w6 y6 hN6 hm
        replace q1 := s6 _ _ q1
        replace h2 := A2.mono s6 h2
        replace q2 := s6 _ _ q2
        replace sF := sF.trans s6
        obtain ⟨rfl, rfl⟩ := y6
        refine ⟨rfl, _, rfl, _, rfl, _, rfl, _, _, _, (x_web : (Int × (Tup (Int × Int)))), _, _, rfl, w6, (rep_pair q1 rep_i (rep_tup q2 h2)), ?_⟩
        refine (post_bind hm).mono (fun y8 hm v8 F8 H8 w8 s8 r8 => ?_) (fun _ z => z)
        replace q1 := s8 _ _ q1
        replace h2 := A2.mono s8 h2
        replace q2 := s8 _ _ q2
        replace sF := sF.trans s8
        obtain rfl : v8 = V.int y8 := r8
        exact hN6 _ (post_ok hm) _ _ _ w8 s8 rep_i
      intro us6 F6 H6 ys6 s6 w6 gg6 hm
      replace q1 := s6 _ _ q1
      replace h2 := A2.mono s6 h2
      replace q2 := s6 _ _ q2
      replace sF := sF.trans s6
      obtain ⟨t10, e10, hm⟩ := pb_max hm
      have w11 : W F6 _ (os) := w6.drop (pre := [])
      exact ⟨_, _, _, rfl, ints_q (SqL.of (w6.get (pre := []))) gg6, e10, _, _, rfl, hN3 _ (post_ok hm) _ _ ⟨_, _, rfl, (s3.trans s6), w11⟩⟩
    intro g3 σ3 H3 hI hm
    obtain ⟨F3, o3_2, rfl, s3, w3⟩ := hI
    replace q1 := s3 _ _ q1
    replace h2 := A2.mono s3 h2
    replace q2 := s3 _ _ q2
    replace sF := sF.trans s3
    exact ⟨_, rfl, (post_ok hm) _ _ _ w3 sF rep_i⟩
def sp_law (K : Fg) : Sp := fun vs H Q E => ∃ (F : Hp) (os : List (Addr × HO)) (v_script : V) (x_script : Scr), vs = [v_script] ∧ W F H (os) ∧ rep K F v_script x_script ∧ Post (law x_script) (Ret K F os Q) noX
theorem sc_law : FnScope ["script", "cell", "state", "web", "kind", "things", "asks", "plan", "table", "longest", "thing", "found", "many", "told", "turn"] ["script"] (defScope s_law) := ⟨rfl, rfl, rfl, by decide +kernel, rfl, by decide +kernel, by decide +kernel⟩
set_option maxHeartbeats 40000000 in
theorem ok_law (T : Tx K mg A FD) : FnOk P w K mg base CX0 45 (A 51) (FD 51) ["script"] (sp_law K) := by
  refine T.d51.fn.ok sc_law (fun vs H Q E h => ?_) (fun cdv Ar outer s H vs Q E hr h => ?_)
  · obtain ⟨F, os, v_script, x_script, rfl, _⟩ := h
    rfl
  · obtain ⟨F0, os, v_script, x_script, rfl, w0, r_script, hm⟩ := h
    have sF : Same F0 F0 := Same.refl _
    obtain ⟨a1, rfl, q1⟩ := r_script
    have h1 : A2 (rep K F0) (x_script.l.map V.int) x_script.l := A2.of_ints
    refine ⟨_, (pss_cons (ps_for PassesOwn.never rfl (pi_listK (K := K) rfl (pe_call (ok_law_folded T) (hr.mono (by decide)) (by rfl) T.d42.mg T.d42.fn.kp T.d42.b .nil pass0 (pa_cons (pv 0) (pa_cons pe_int pa_nil)))) (pg_name (i := 1) sc_law.nd rfl (Or.inl rfl)) (pss_cons (ps_set (i := 2) sc_law.nd rfl (Or.inl rfl) (pe_call (ok_law_state T) (hr.mono (by decide)) (by rfl) T.d43.mg T.d43.fn.kp T.d43.b .nil pass0 (pa_cons (pv 1) pa_nil))) (pss_cons (ps_asg (pe_call (ok_law_few T) (hr.mono (by decide)) (by rfl) T.d47.mg T.d47.fn.kp T.d47.b .nil pass0 (pa_cons (pv 2) (pa_cons pe_int pa_nil))) (pg_k (K := K) (t := fun K => gTup K 3 _) rfl (pg_tup (n := 3) rfl (pgs_cons (pg_name (i := 3) sc_law.nd rfl (Or.inl rfl)) (pgs_cons (pg_name (i := 4) sc_law.nd rfl (Or.inl rfl)) (pgs_cons (pg_name (i := 5) sc_law.nd rfl (Or.inl rfl)) pgs_nil)))))) (pss_cons (ps_asg (pe_call (ok_fewest_asks T) (hr.mono (by decide)) (by rfl) T.d35.mg T.d35.fn.kp T.d35.b .nil pass0 (pa_cons (pv 3) (pa_cons (pv 4) pa_nil))) (pg_k (K := K) (t := fun K => gTup K 3 _) rfl (pg_tup (n := 3) rfl (pgs_cons (pg_name (i := 6) sc_law.nd rfl (Or.inl rfl)) (pgs_cons (pg_name (i := 7) sc_law.nd rfl (Or.inl rfl)) (pgs_cons (pg_name (i := 8) sc_law.nd rfl (Or.inl rfl)) pgs_nil)))))) (pss_cons (ps_set (i := 9) sc_law.nd rfl (Or.inl rfl) pe_int1) (pss_cons (ps_for PassesOwn.never rfl (pi_listK (K := K) rfl (pv 5)) (pg_name (i := 10) sc_law.nd rfl (Or.inl rfl)) (pss_cons (ps_asg (pe_call (ok_law_gone T) (hr.mono (by decide)) (by rfl) T.d48.mg T.d48.fn.kp T.d48.b .nil pass0 (pa_cons (pv 3) (pa_cons (pv 7) (pa_cons (pv 10) pa_nil)))) (pg_k (K := K) (t := fun K => gTup K 2 _) rfl (pg_tup (n := 2) rfl (pgs_cons (pg_name (i := 11) sc_law.nd rfl (Or.inl rfl)) (pgs_cons (pg_name (i := 12) sc_law.nd rfl (Or.inl rfl)) pgs_nil))))) (pss_cons (ps_if (PW.pt (pw_or (pt_cmpR (op_neDt (K := K) rfl (Option Thing) (by decide) hr.units) (pv 11) (pv 10) (nomark _)) (pw_or1 (pt_cmp (pc_gt (pv 12) (pv 6)))))) (pss_one (ps_ret pe_bl)) pss_nil) (pss_one (ps_set (i := 9) sc_law.nd rfl (Or.inl rfl) (pe_callB (call_max2 rfl) (by rfl) T.n_max (by decide +kernel) (pa_cons (pv 9) (pa_cons (pv 12) pa_nil)))))))) (pss_cons (ps_if (PW.pt (pw_or (pt_cmp (pc_neI (pv 9) (pv 6))) (pw_or (pt_cmpR (op_neDt (K := K) rfl (Option Int) (by decide) hr.units) (pe_call (ok_plan_asks T) (hr.mono (by decide)) (by rfl) T.d39.mg T.d39.fn.kp T.d39.b .nil pass0 (pa_cons (pv 3) (pa_cons (pv 4) (pa_cons (pv 7) pa_nil)))) (pv 6) (nomark _)) (pw_or1 (pt_cmp (pc_gt (pv 6) (pe_call (ok_law_looks T) (hr.mono (by decide)) (by rfl) T.d49.mg T.d49.fn.kp T.d49.b .nil pass0 (pa_cons (pv 2) (pa_cons (pv 3) (pa_cons (pv 4) pa_nil)))))))))) (pss_one (ps_ret pe_bl)) pss_nil) (pss_cons (ps_set (i := 13) sc_law.nd rfl (Or.inl rfl) pe_int1) (pss_cons (ps_for PassesOwn.never rfl (pi_range1 (by rfl) T.n_range (pa_cons (pv 6) pa_nil)) (pg_name (i := 14) sc_law.nd rfl (Or.inl rfl)) (pss_one (ps_set (i := 13) sc_law.nd rfl (Or.inl rfl) (pe_op op_mul (pv 13) (pe_op op_add pe_int (pe_call (ok_law_broadest T) (hr.mono (by decide)) (by rfl) T.d50.mg T.d50.fn.kp T.d50.b .nil pass0 (pa_cons (pv 3) pa_nil))))))) (pss_one (ps_if (pt_cmp (pc_lt (pv 13) (pe_callB (call_lenN (K := K) rfl) (by rfl) T.n_len (by decide +kernel) (pa_cons (pv 5) pa_nil)))) (pss_one (ps_ret pe_bl)) pss_nil))))))))))) (pss_one (ps_ret pe_bl))), ?_⟩
    refine ⟨_, rfl, _, _, _, (x_script : Scr), _, rfl, w0, ⟨_, rfl, q1⟩, ?_⟩
    refine (post_bind hm).mono (fun y3 hm p3 us3 F3 H3 w3 s3 g3 => ?_) (fun _ z => z)
    replace q1 := s3.seq q1
    replace h1 := A2.mono s3 h1
    replace sF := sF.trans s3
    obtain ⟨F5, s5, w5, q5⟩ : ∃ F', Same F3 F' ∧ W F' _ (os) ∧ F' p3 = some (.lst us3) := w3.freezeE (pre := [])
    replace q1 := s5.seq q1
    replace h1 := A2.mono s5 h1
    replace g3 := A2.mono s5 g3
    replace sF := sF.trans s5
    refine ⟨_, rfl, ⟨_, SqL.of (w5.same _ _ q5)⟩, ?_⟩
    refine forX (tw_list (a := p3) g3) hm (fun (g2 : Unit) σ H' => ∃ (F' : Hp) (o2_2 : Option V) (o2_3 : Option V) (o2_4 : Option V) (o2_5 : Option V) (o2_6 : Option V) (o2_7 : Option V) (o2_8 : Option V) (o2_9 : Option V) (o2_10 : Option V) (o2_11 : Option V) (o2_12 : Option V) (o2_13 : Option V) (o2_14 : Option V) (o2_1 : Option V), σ = [some (.ref a1), o2_1, o2_2, o2_3, o2_4, o2_5, o2_6, o2_7, o2_8, o2_9, o2_10, o2_11, o2_12, o2_13, o2_14] ∧ Same F5 F' ∧ W F' H' (os)) ⟨_, _, _, _, _, _, _, _, _, _, _, _, _, _, _, rfl, Same.refl _, w5⟩ (fun g σ H' hI => by obtain ⟨F', _, _, _, _, _, _, _, _, _, _, _, _, _, _, _, s, w⟩ := hI; exact SqL.of (w.same _ _ (s _ _ q5))) ?_ ?_
    · -- a turn
      intro b2 g2 x2 σ2 H2 H2' N2 B2 P2 hI hy hN2 hB2 hZ2 hm
      obtain ⟨F2, o2_2, o2_3, o2_4, o2_5, o2_6, o2_7, o2_8, o2_9, o2_10, o2_11, o2_12, o2_13, o2_14, o2_1, rfl, s2, w2⟩ := hI
      replace q1 := s2.seq q1
      replace h1 := A2.mono s2 h1
      replace g3 := A2.mono s2 g3
      replace q5 := s2 _ _ q5
      replace sF := sF.trans s2
      obtain ⟨rfl, r6⟩ := hy
      obtain rfl : x2 = V.int b2 := r6
      refine ⟨_, rfl, _, _, _, rfl, w2, ?_⟩
      refine (post_bind hm).mono (fun y7 hm p7 us7 F7 H7 w7 s7 g7 => ?_) (fun _ z => z)
      replace h1 := A2.mono s7 h1
      replace q1 := s7.seq q1
      replace sF := sF.trans s7
      refine ⟨_, rfl, _, _, _, _, _, _, rfl, w7, g7, ?_⟩
      refine (post_bind hm).mono (fun y9 hm v9 vs9 F9 H9 w9 s9 r9 h9 => ?_) (fun _ z => z)
      replace h1 := A2.mono s9 h1
      replace q1 := s9.seq q1
      replace sF := sF.trans s9
      obtain ⟨a10, u10_0, u10_1, u10_2, rfl, q10, r10_0, r10_1, r10_2⟩ := nt3 r9
      replace r10_0 : rep K F9 u10_0 (y9.1.v.1 : (Int × (Tup (Int × Int)))) := r10_0
      obtain ⟨a11, u11, z11, rfl, q11, r11a, r11b⟩ := r10_0
      obtain rfl : u11 = V.int y9.1.v.1.1 := r11a
      obtain ⟨a12, vs12, rfl, q12, h12⟩ := r11b
      replace r10_1 : rep K F9 u10_1 (y9.1.v.2.1 : Str) := r10_1
      obtain rfl : u10_1 = V.str y9.1.v.2.1 := r10_1
      replace r10_2 : rep K F9 u10_2 (y9.1.v.2.2.1 : (List Thing)) := r10_2
      obtain ⟨a13, vs13, rfl, q13, h13⟩ := r10_2
      refine ⟨_, _, rfl, SqT.of (w9.same _ _ q10), rfl, _, _, rfl, _, _, rfl, _, _, rfl, rfl, _, rfl, _, rfl, _, _, _, (y9.1.v.1 : (Int × (Tup (Int × Int)))), _, rfl, w9, (rep_pair q11 rep_i (rep_tup q12 h12)), ?_⟩
      refine (post_bind hm).mono (fun y14 hm v14 F14 H14 w14 s14 r14 => ?_) (fun _ z => z)
      replace h1 := A2.mono s14 h1
      replace q1 := s14.seq q1
      replace q11 := s14 _ _ q11
      replace h12 := A2.mono s14 h12
      replace q12 := s14 _ _ q12
      replace h13 := A2.mono s14 h13
      replace q13 := s14 _ _ q13
      replace h9 := A2.mono s14 h9
      replace sF := sF.trans s14
      obtain ⟨a15, u15_0, u15_1, u15_2, rfl, q15, r15_0, r15_1, r15_2⟩ := nt3 r14
      replace r15_0 : rep K F14 u15_0 (y14.v.1 : Int) := r15_0
      obtain rfl : u15_0 = V.int y14.v.1 := r15_0
      replace r15_1 : rep K F14 u15_1 (y14.v.2.1 : Pl) := r15_1
      have r16 : rep K F14 u15_1 (y14.v.2.1 : Pl) := r15_1
      obtain ⟨a16, u16, t16, rfl, q16, o16, l16⟩ := pl_openN r16
      replace r15_2 : rep K F14 u15_2 (y14.v.2.2.1 : (List ((Tup Thing) × Int))) := r15_2
      obtain ⟨a17, vs17, rfl, q17, h17⟩ := r15_2
      refine ⟨_, _, rfl, SqT.of (w14.same _ _ q15), rfl, _, _, rfl, _, _, rfl, _, _, rfl, rfl, trivial, _, rfl, _, rfl, ⟨_, SqL.of (w14.same _ _ q13)⟩, ?_⟩
      refine forX (tw_list (a := a13) h13) hm (fun (g18 : Int) σ H' => ∃ (F' : Hp) (o18_11 : Option V) (o18_12 : Option V) (o18_10 : Option V), σ = [some (.ref a1), some (.int b2), some (.ref p7), some (.ref a11), some (.str y9.1.v.2.1), some (.ref a13), some (.int y14.v.1), some (.ref a16), some (.ref a17), some (.int g18), o18_10, o18_11, o18_12, o2_13, o2_14] ∧ Same F14 F' ∧ W F' H' ((p7, .lst vs9) :: os)) ⟨_, _, _, _, rfl, Same.refl _, w14⟩ (fun g σ H' hI => by obtain ⟨F', _, _, _, _, s, w⟩ := hI; exact SqL.of (w.same _ _ (s _ _ q13))) ?_ ?_
      · -- a turn
        intro b18 g18 x18 σ18 H18 H18' N18 B18 P18 hI hy hN18 hB18 hZ18 hm
        obtain ⟨F18, o18_11, o18_12, o18_10, rfl, s18, w18⟩ := hI
        replace h1 := A2.mono s18 h1
        replace q1 := s18.seq q1
        replace q11 := s18 _ _ q11
        replace h12 := A2.mono s18 h12
        replace q12 := s18 _ _ q12
        replace h13 := A2.mono s18 h13
        replace q13 := s18 _ _ q13
        replace q16 := s18 _ _ q16
        replace r16 := Rep.mono s18 r16
        replace o16 := Rep.mono s18 o16
        replace h17 := A2.mono s18 h17
        replace q17 := s18 _ _ q17
        replace h9 := A2.mono s18 h9
        replace sF := sF.trans s18
        obtain ⟨rfl, r19⟩ := hy
        replace r19 := Rep.mono s18 r19
        refine ⟨_, rfl, _, rfl, _, rfl, _, _, _, (y9.1.v.1 : (Int × (Tup (Int × Int)))), _, (y14.v.2.1 : Pl), _, (b18 : Thing), rfl, w18, (rep_pair q11 rep_i (rep_tup q12 h12)), r16, r19, ?_⟩
        refine (post_bind hm).mono (fun y21 hm v21 F21 H21 w21 s21 r21 => ?_) (fun _ z => z)
        replace h1 := A2.mono s21 h1
        replace q1 := s21.seq q1
        replace q11 := s21 _ _ q11
        replace h12 := A2.mono s21 h12
        replace q12 := s21 _ _ q12
        replace h13 := A2.mono s21 h13
        replace q13 := s21 _ _ q13
        replace q16 := s21 _ _ q16
        replace r16 := Rep.mono s21 r16
        replace o16 := Rep.mono s21 o16
        replace h17 := A2.mono s21 h17
        replace q17 := s21 _ _ q17
        replace r19 := Rep.mono s21 r19
        replace h9 := A2.mono s21 h9
        replace sF := sF.trans s21
        obtain ⟨a22, u22_0, u22_1, rfl, q22, r22_0, r22_1⟩ := nt2 r21
        replace r22_0 : rep K F21 u22_0 (y21.v.1 : (Option Thing)) := r22_0
        replace r22_1 : rep K F21 u22_1 (y21.v.2.1 : Int) := r22_1
        obtain rfl : u22_1 = V.int y21.v.2.1 := r22_1
        refine ⟨_, _, rfl, SqT.of (w21.same _ _ q22), rfl, _, _, rfl, _, _, rfl, rfl, ?_⟩
        try dsimp only
        refine stepSeq (stepIf ?_)
        refine cutT (fun c H' => c = (((!decide (y21.v.1 = (some b18))) || (decide (y14.v.1 < y21.v.2.1)))) ∧ ∃ F', Same F21 F' ∧ W F' H' ((p7, .lst vs9) :: os)) (fun Q24 q24 => ?_) (fun c24 H24 hc24 => ?_)
        · -- the ways
          refine ⟨_, rfl, _, rfl, (y21.v.1 : (Option Thing)), ((some b18) : (Option Thing)), (Rep.mono w21.same r22_0), (Rep.mono w21.same (rep_some r19)), _, rfl, ?_⟩
          refine ifB (fun k25 => ?_) (fun k25 => ?_)
          · skip
            exact q24 _ _ ⟨(by first | rfl | exact absurd k25 (by decide) | (simp [k25]; done) | ((try simp only [Bool.not_eq_true] at k25); simp only [k25, Bool.true_or, Bool.false_or, Bool.or_false, Bool.or_true, Bool.true_and, Bool.false_and, Bool.and_true, Bool.and_false])), _, Same.refl _, w21⟩
          · skip
            exact ⟨_, rfl, _, rfl, _, _, rfl, rfl, _, rfl, q24 _ _ ⟨(by first | rfl | exact absurd k25 (by decide) | (simp [k25]; done) | ((try simp only [Bool.not_eq_true] at k25); simp only [k25, Bool.true_or, Bool.false_or, Bool.or_false, Bool.or_true, Bool.true_and, Bool.false_and, Bool.and_true, Bool.and_false])), _, Same.refl _, w21⟩⟩
        obtain ⟨rfl, F24, s24, w24⟩ := hc24
        replace h1 := A2.mono s24 h1
        replace q1 := s24.seq q1
        replace q11 := s24 _ _ q11
        replace h12 := A2.mono s24 h12
        replace q12 := s24 _ _ q12
        replace h13 := A2.mono s24 h13
        replace q13 := s24 _ _ q13
        replace q16 := s24 _ _ q16
        replace r16 := Rep.mono s24 r16
        replace o16 := Rep.mono s24 o16
        replace h17 := A2.mono s24 h17
        replace q17 := s24 _ _ q17
        replace r19 := Rep.mono s24 r19
        replace r22_0 := Rep.mono s24 r22_0
        replace h9 := A2.mono s24 h9
        replace sF := sF.trans s24
        refine post_ite hm (fun k28 hm => ?_) (fun k28 hm => ?_)
        · skip
          have hm := hZ18 _ (post_ok hm)
          have hm := hZ2 _ (post_ok hm)
          have w29 : W F24 _ (os) := w24.drop (pre := [])
          exact (post_ok hm) _ _ _ w29 sF rep_b
        · skip
          exact ⟨_, rfl, _, rfl, _, _, rfl, hN18 _ (post_ok hm) _ _ ⟨_, _, _, _, rfl, (s18.trans (s21.trans s24)), w24⟩⟩
      intro g18 σ18 H18 hI hm
      obtain ⟨F18, o18_11, o18_12, o18_10, rfl, s18, w18⟩ := hI
      replace h1 := A2.mono s18 h1
      replace q1 := s18.seq q1
      replace q11 := s18 _ _ q11
      replace h12 := A2.mono s18 h12
      replace q12 := s18 _ _ q12
      replace h13 := A2.mono s18 h13
      replace q13 := s18 _ _ q13
      replace q16 := s18 _ _ q16
      replace r16 := Rep.mono s18 r16
      replace o16 := Rep.mono s18 o16
      replace h17 := A2.mono s18 h17
      replace q17 := s18 _ _ q17
      replace h9 := A2.mono s18 h9
      replace sF := sF.trans s18
      try dsimp only
      refine stepSeq (stepIf ?_)
      refine joinT hm (fun (j30 : Bool × (List Int)) c H' => c = j30.1 ∧ ∃ (F' : Hp) (vs30_0 : List V), Same F18 F' ∧ W F' H' ((p7, .lst vs30_0) :: os) ∧ A2 (rep K F') vs30_0 j30.2) ?_ ?_
      · intro Q30 P30 q30 hm
        refine ⟨_, rfl, _, rfl, _, _, rfl, rfl, _, rfl, ?_⟩
        refine post_ite hm (fun k31 hm => ?_) (fun k31 hm => ?_)
        · skip
          exact q30 _ (post_ok hm) _ _ ⟨rfl, _, _, Same.refl _, w18, h9⟩
        · skip
          refine ⟨_, rfl, _, rfl, _, rfl, _, _, _, (y9.1.v.1 : (Int × (Tup (Int × Int)))), _, _, (y14.v.2.1 : Pl), rfl, w18, (rep_pair q11 rep_i (rep_tup q12 h12)), r16, ?_⟩
          refine (post_bind hm).mono (fun y33 hm v33 F33 H33 w33 s33 r33 => ?_) (fun _ z => z)
          replace h1 := A2.mono s33 h1
          replace q1 := s33.seq q1
          replace q11 := s33 _ _ q11
          replace h12 := A2.mono s33 h12
          replace q12 := s33 _ _ q12
          replace h13 := A2.mono s33 h13
          replace q13 := s33 _ _ q13
          replace q16 := s33 _ _ q16
          replace r16 := Rep.mono s33 r16
          replace o16 := Rep.mono s33 o16
          replace h17 := A2.mono s33 h17
          replace q17 := s33 _ _ q17
          replace h9 := A2.mono s33 h9
          replace sF := sF.trans s33
          refine ⟨_, rfl, (y33 : (Option Int)), ((some y14.v.1) : (Option Int)), (Rep.mono w33.same r33), (Rep.mono w33.same (rep_some rep_i)), _, rfl, ?_⟩
          refine post_ite hm (fun k35 hm => ?_) (fun k35 hm => ?_)
          · skip
            exact q30 _ (post_ok hm) _ _ ⟨rfl, _, _, s33, w33, h9⟩
          · skip
            refine ⟨_, rfl, _, rfl, _, rfl, _, rfl, _, _, _, _, _, _, (y9.1.v.1 : (Int × (Tup (Int × Int)))), _, rfl, w33, h9, (rep_pair q11 rep_i (rep_tup q12 h12)), ?_⟩
            refine (post_bind hm).mono (fun y37 hm v37 vs37 F37 H37 w37 s37 r37 h37 => ?_) (fun _ z => z)
            replace h1 := A2.mono s37 h1
            replace q1 := s37.seq q1
            replace q11 := s37 _ _ q11
            replace h12 := A2.mono s37 h12
            replace q12 := s37 _ _ q12
            replace h13 := A2.mono s37 h13
            replace q13 := s37 _ _ q13
            replace q16 := s37 _ _ q16
            replace r16 := Rep.mono s37 r16
            replace o16 := Rep.mono s37 o16
            replace h17 := A2.mono s37 h17
            replace q17 := s37 _ _ q17
            replace r33 := Rep.mono s37 r33
            replace sF := sF.trans s37
            obtain rfl : v37 = V.int y37.1 := r37
            exact ⟨_, _, rfl, rfl, _, rfl, q30 _ (post_ok hm) _ _ ⟨rfl, _, _, (s33.trans s37), w37, h37⟩⟩
      intro j30 c30 H30 hc30 hm
      obtain ⟨rfl, F30, vs30_0, s30, w30, h30_0⟩ := hc30
      replace h1 := A2.mono s30 h1
      replace q1 := s30.seq q1
      replace q11 := s30 _ _ q11
      replace h12 := A2.mono s30 h12
      replace q12 := s30 _ _ q12
      replace h13 := A2.mono s30 h13
      replace q13 := s30 _ _ q13
      replace q16 := s30 _ _ q16
      replace r16 := Rep.mono s30 r16
      replace o16 := Rep.mono s30 o16
      replace h17 := A2.mono s30 h17
      replace q17 := s30 _ _ q17
      replace sF := sF.trans s30
      refine post_ite hm (fun k39 hm => ?_) (fun k39 hm => ?_)
      · skip
        have hm := hZ2 _ (post_ok hm)
        have w40 : W F30 _ (os) := w30.drop (pre := [])
        exact (post_ok hm) _ _ _ w40 sF rep_b
      · skip
        obtain ⟨c42, hm⟩ := pb_rng hm
        refine ⟨trivial, _, rfl, _, rfl, c42.2.2.1, c42.2.2.2, ?_⟩
        refine forS (tw_rng0 (j := y14.v.1)) hm (fun (g41 : Int) σ H' => ∃ (F' : Hp) (o41_14 : Option V), σ = [some (.ref a1), some (.int b2), some (.ref p7), some (.ref a11), some (.str y9.1.v.2.1), some (.ref a13), some (.int y14.v.1), some (.ref a16), some (.ref a17), some (.int g18), o18_10, o18_11, o18_12, some (.int g41), o41_14] ∧ Same F30 F' ∧ W F' H' ((p7, .lst vs30_0) :: os)) ⟨_, _, rfl, Same.refl _, w30⟩ (fun _ _ _ _ => trivial) ?_ ?_
        · -- a turn
          intro b41 g41 x41 σ41 H41 H41' N41 P41 hI hy hN41 hm
          obtain ⟨F41, o41_14, rfl, s41, w41⟩ := hI
          replace h1 := A2.mono s41 h1
          replace q1 := s41.seq q1
          replace q11 := s41 _ _ q11
          replace h12 := A2.mono s41 h12
          replace q12 := s41 _ _ q12
          replace h13 := A2.mono s41 h13
          replace q13 := s41 _ _ q13
          replace q16 := s41 _ _ q16
          replace r16 := Rep.mono s41 r16
          replace o16 := Rep.mono s41 o16
          replace h17 := A2.mono s41 h17
          replace q17 := s41 _ _ q17
          replace h30_0 := A2.mono s41 h30_0
          replace sF := sF.trans s41
          obtain ⟨rfl, rfl⟩ := hy
          refine ⟨_, rfl, _, rfl, _, _, _, (y9.1.v.1 : (Int × (Tup (Int × Int)))), rfl, w41, (rep_pair q11 rep_i (rep_tup q12 h12)), ?_⟩
          refine (post_bind hm).mono (fun y43 hm v43 F43 H43 w43 s43 r43 => ?_) (fun _ z => z)
          replace h1 := A2.mono s43 h1
          replace q1 := s43.seq q1
          replace q11 := s43 _ _ q11
          replace h12 := A2.mono s43 h12
          replace q12 := s43 _ _ q12
          replace h13 := A2.mono s43 h13
          replace q13 := s43 _ _ q13
          replace q16 := s43 _ _ q16
          replace r16 := Rep.mono s43 r16
          replace o16 := Rep.mono s43 o16
          replace h17 := A2.mono s43 h17
          replace q17 := s43 _ _ q17
          replace h30_0 := A2.mono s43 h30_0
          replace sF := sF.trans s43
          obtain rfl : v43 = V.int y43 := r43
          obtain ⟨c44, hm⟩ := pb_mul hm
          exact ⟨_, _, rfl, rfl, _, _, rfl, rfl, c44, hN41 _ (post_ok hm) _ _ ⟨_, _, rfl, (s41.trans s43), w43⟩⟩
        intro g41 σ41 H41 hI hm
        obtain ⟨F41, o41_14, rfl, s41, w41⟩ := hI
        replace h1 := A2.mono s41 h1
        replace q1 := s41.seq q1
        replace q11 := s41 _ _ q11
        replace h12 := A2.mono s41 h12
        replace q12 := s41 _ _ q12
        replace h13 := A2.mono s41 h13
        replace q13 := s41 _ _ q13
        replace q16 := s41 _ _ q16
        replace r16 := Rep.mono s41 r16
        replace o16 := Rep.mono s41 o16
        replace h17 := A2.mono s41 h17
        replace q17 := s41 _ _ q17
        replace h30_0 := A2.mono s41 h30_0
        replace sF := sF.trans s41
        refine ⟨_, rfl, _, rfl, _, _, _, rfl, .inl (SqL.of (w41.same _ _ q13)), h13.length, _, _, rfl, rfl, _, rfl, ?_⟩
        refine post_ite hm (fun k45 hm => ?_) (fun k45 hm => ?_)
        · skip
          have hm := hZ2 _ (post_ok hm)
          have w46 : W F41 _ (os) := w41.drop (pre := [])
          exact (post_ok hm) _ _ _ w46 sF rep_b
        · skip
          have w47 : W F41 _ (os) := w41.drop (pre := [])
          exact hN2 _ (post_ok hm) _ _ ⟨_, _, _, _, _, _, _, _, _, _, _, _, _, _, _, rfl, (s2.trans (s7.trans (s9.trans (s14.trans (s18.trans (s30.trans s41)))))), w47⟩
    intro g2 σ2 H2 hI hm
    obtain ⟨F2, o2_2, o2_3, o2_4, o2_5, o2_6, o2_7, o2_8, o2_9, o2_10, o2_11, o2_12, o2_13, o2_14, o2_1, rfl, s2, w2⟩ := hI
    replace q1 := s2.seq q1
    replace h1 := A2.mono s2 h1
    replace g3 := A2.mono s2 g3
    replace q5 := s2 _ _ q5
    replace sF := sF.trans s2
    exact (post_ok hm) _ _ _ w2 sF rep_b
end
end G
/-! MA2: webs drawn from a pool -/
namespace G
open PySem L2 Z
structure TiesOk (b : Nat) (n : Int) (ts : List (Int × Int)) : Prop where
  rg : ∀ p ∈ ts, 0 ≤ p.1 ∧ p.1 < p.2 ∧ p.2 < n
  nd : ts.Nodup
  conn : Conn n ts
  len : ts.length ≤ b
theorem TiesOk.up {b c : Nat} {n : Int} {ts : List (Int × Int)} (h : TiesOk b n ts) (hl : b ≤ c) : TiesOk c n ts := ⟨h.rg, h.nd, h.conn, Nat.le_trans h.len hl⟩
structure WebOk (n : Int) (ts : List (Int × Int)) : Prop where
  n1 : 1 ≤ n
  n60 : n ≤ 60
  rg : ∀ p ∈ ts, 0 ≤ p.1 ∧ p.1 < p.2 ∧ p.2 < n
  nd : ts.Nodup
  conn : Conn n ts
  len : ts.length ≤ 700
  srt : sortP ts = ts
theorem WebOk.rg4 {n : Int} {ts : List (Int × Int)} (h : WebOk n ts) : ∀ q ∈ ts, 0 ≤ q.1 ∧ q.1 < n ∧ 0 ≤ q.2 ∧ q.2 < n := fun q hq => by
  have := h.rg q hq
  omega
def moved (o : List Int) (p : Int × Int) : Int × Int := (min2 (o.getD p.1.toNat 0) (o.getD p.2.toNat 0), max2 (o.getD p.1.toNat 0) (o.getD p.2.toNat 0))
theorem perm_get {o : List Int} {n : Int} (h : o.Perm (rng 0 n)) (n0 : 0 ≤ n) {k : Int} (k0 : 0 ≤ k) (k1 : k < n) : ∃ x, o[k.toNat]? = some x ∧ 0 ≤ x ∧ x < n := by
  have hl := h.length_eq
  rw [rng_length] at hl
  have hk : k.toNat < o.length := by omega
  refine ⟨o[k.toNat], List.getElem?_eq_getElem hk, ?_⟩
  exact rng_mem.mp (h.mem_iff.mp (List.getElem_mem hk))
theorem perm_getD {o : List Int} {n : Int} (h : o.Perm (rng 0 n)) (n0 : 0 ≤ n) {k : Int} (k0 : 0 ≤ k) (k1 : k < n) : 0 ≤ o.getD k.toNat 0 ∧ o.getD k.toNat 0 < n := by
  obtain ⟨x, e, x0, x1⟩ := perm_get h n0 k0 k1
  rw [List.getD_eq_getElem?_getD, e]
  exact ⟨x0, x1⟩
theorem perm_inj {o : List Int} {n : Int} (h : o.Perm (rng 0 n)) (n0 : 0 ≤ n) {j k : Int} (j0 : 0 ≤ j) (j1 : j < n) (k0 : 0 ≤ k) (k1 : k < n) (e : o.getD j.toNat 0 = o.getD k.toNat 0) : j = k := by
  have hl := h.length_eq
  rw [rng_length] at hl
  have hnd : o.Nodup := (h.nodup_iff).mpr (rng_nodup 0 n)
  have hj : j.toNat < o.length := by omega
  have hk : k.toNat < o.length := by omega
  rw [List.getD_eq_getElem?_getD, List.getD_eq_getElem?_getD, List.getElem?_eq_getElem hj, List.getElem?_eq_getElem hk] at e
  have e' : o[j.toNat] = o[k.toNat] := e
  have hpw := List.pairwise_iff_getElem.mp hnd
  rcases Nat.lt_trichotomy j.toNat k.toNat with q | q | q
  · exact absurd e' (hpw _ _ hj hk q)
  · omega
  · exact absurd e'.symm (hpw _ _ hk hj q)
theorem perm_surj {o : List Int} {n : Int} (h : o.Perm (rng 0 n)) (n0 : 0 ≤ n) {x : Int} (x0 : 0 ≤ x) (x1 : x < n) : ∃ k, 0 ≤ k ∧ k < n ∧ o.getD k.toNat 0 = x := by
  have hx : x ∈ o := h.mem_iff.mpr (rng_mem.mpr ⟨x0, x1⟩)
  obtain ⟨i, hi⟩ := List.mem_iff_getElem?.mp hx
  have hl := h.length_eq
  rw [rng_length] at hl
  have hil := (List.getElem?_eq_some_iff.mp hi).1
  refine ⟨i, by omega, by omega, ?_⟩
  rw [List.getD_eq_getElem?_getD, Int.toNat_natCast, hi]
  rfl
theorem mm_cases (a b : Int) : (min2 a b = a ∧ max2 a b = b ∧ a ≤ b) ∨ (min2 a b = b ∧ max2 a b = a ∧ b ≤ a) := by
  unfold min2 max2
  by_cases h : b < a
  · rw [if_pos h, if_neg (by omega)]
    exact .inr ⟨rfl, rfl, by omega⟩
  · rw [if_neg h]
    by_cases h2 : b > a
    · rw [if_pos h2]
      exact .inl ⟨rfl, rfl, by omega⟩
    · rw [if_neg h2]
      have : a = b := by omega
      subst this
      exact .inl ⟨rfl, rfl, by omega⟩
theorem moved_inj {o : List Int} {n : Int} (h : o.Perm (rng 0 n)) (n0 : 0 ≤ n) {p q : Int × Int} (hp : 0 ≤ p.1 ∧ p.1 < p.2 ∧ p.2 < n) (hq : 0 ≤ q.1 ∧ q.1 < q.2 ∧ q.2 < n) (e : moved o p = moved o q) : p = q := by
  unfold moved at e
  injection e with e1 e2
  have i1 := fun e => perm_inj h n0 (j := p.1) (k := q.1) hp.1 (by omega) hq.1 (by omega) e
  have i2 := fun e => perm_inj h n0 (j := p.2) (k := q.2) (by omega) hp.2.2 (by omega) hq.2.2 e
  have i3 := fun e => perm_inj h n0 (j := p.1) (k := q.2) hp.1 (by omega) (by omega) hq.2.2 e
  have i4 := fun e => perm_inj h n0 (j := p.2) (k := q.1) (by omega) hp.2.2 hq.1 (by omega) e
  rcases mm_cases (o.getD p.1.toNat 0) (o.getD p.2.toNat 0) with ⟨a1, a2, _⟩ | ⟨a1, a2, _⟩ <;> rcases mm_cases (o.getD q.1.toNat 0) (o.getD q.2.toNat 0) with ⟨b1, b2, _⟩ | ⟨b1, b2, _⟩ <;> rw [a1, b1] at e1 <;> rw [a2, b2] at e2
  · exact Prod.ext (i1 e1) (i2 e2)
  · have := i3 e1
    have := i4 e2
    omega
  · have := i4 e1
    have := i3 e2
    omega
  · exact Prod.ext (i1 e2) (i2 e1)
theorem moved_ok {o : List Int} {n : Int} {ts : List (Int × Int)} (ho : o.Perm (rng 0 n)) (n0 : 1 ≤ n) (n1 : n ≤ 60) (h : TiesOk 700 n ts) : WebOk n (sortP (ts.map (moved o))) := by
  have hperm := sortP_perm (ts.map (moved o))
  refine ⟨n0, n1, fun p hp => ?_, ?_, ?_, ?_, ?_⟩
  · obtain ⟨q, hq, rfl⟩ := List.mem_map.mp (hperm.mem_iff.mp hp)
    have hr := h.rg q hq
    have r1 := perm_getD ho (by omega) (k := q.1) hr.1 (by omega)
    have r2 := perm_getD ho (by omega) (k := q.2) (by omega) hr.2.2
    have ne : o.getD q.1.toNat 0 ≠ o.getD q.2.toNat 0 := fun e => by
      have := perm_inj ho (by omega) hr.1 (by omega) (by omega) hr.2.2 e
      omega
    unfold moved
    dsimp only
    rcases mm_cases (o.getD q.1.toNat 0) (o.getD q.2.toNat 0) with ⟨a1, a2, _⟩ | ⟨a1, a2, _⟩ <;> rw [a1, a2] <;> omega
  · refine hperm.nodup_iff.mpr ?_
    refine List.Pairwise.map (R := fun p q => p ≠ q ∧ p ∈ ts ∧ q ∈ ts) _ (fun p q hpq e => hpq.1 (moved_inj ho (by omega) (h.rg p hpq.2.1) (h.rg q hpq.2.2) e)) ?_
    exact h.nd.imp_of_mem fun hp hq hne => ⟨hne, hp, hq⟩
  · intro S h0 hc
    obtain ⟨r, r0, r1, er⟩ := perm_surj ho (by omega) (x := 0) (by omega) (by omega)
    have key := h.conn.any (S := fun k => S (o.getD k.toNat 0)) r0 r1 (by show S (o.getD r.toNat 0); rw [er]; exact h0) fun p hp => by
      have hm : moved o p ∈ sortP (ts.map (moved o)) := hperm.mem_iff.mpr (List.mem_map.mpr ⟨p, hp, rfl⟩)
      have := hc _ hm
      unfold moved at this
      dsimp only at this
      rcases mm_cases (o.getD p.1.toNat 0) (o.getD p.2.toNat 0) with ⟨a1, a2, _⟩ | ⟨a1, a2, _⟩
      · rw [a1, a2] at this
        exact this
      · rw [a1, a2] at this
        exact this.symm
    intro k k0 k1
    obtain ⟨j, j0, j1, ej⟩ := perm_surj ho (by omega) k0 k1
    rw [← ej]
    exact key j j0 j1
  · rw [hperm.length_eq, List.length_map]
    exact h.len
  · exact (sortP_eq (List.Perm.refl _) (sortP_sorted _)).symm
end G
/-! MB: neighbours and fars, as the program reckons them -/
namespace G
open PySem L2 Z
/-- the places tied to one, in the ties' order -/
def nbs (ts : List (Int × Int)) (i : Int) : List Int := ts.flatMap fun p => (if p.1 = i then [p.2] else []) ++ (if p.2 = i then [p.1] else [])
theorem nbs_snoc (ts : List (Int × Int)) (x : Int × Int) (i : Int) : nbs (ts ++ [x]) i = nbs ts i ++ ((if x.1 = i then [x.2] else []) ++ (if x.2 = i then [x.1] else [])) := by
  unfold nbs
  rw [List.flatMap_append]
  simp
theorem nbs_mem {ts : List (Int × Int)} {i j : Int} : j ∈ nbs ts i ↔ Adj ts i j := by
  unfold nbs Adj
  rw [List.mem_flatMap]
  constructor
  · rintro ⟨p, hp, h⟩
    rcases List.mem_append.mp h with h | h
    · split at h
      · rename_i e
        rw [List.mem_singleton] at h
        rw [← e, h]
        exact .inl hp
      · cases h
    · split at h
      · rename_i e
        rw [List.mem_singleton] at h
        rw [← e, h]
        exact .inr hp
      · cases h
  · rintro (h | h)
    · exact ⟨_, h, List.mem_append_left _ (by simp)⟩
    · exact ⟨_, h, List.mem_append_right _ (by simp)⟩
theorem nbs_len (ts : List (Int × Int)) (i : Int) : (nbs ts i).length ≤ 2 * ts.length := by
  induction ts with
  | nil => exact Nat.le_refl _
  | cons p ts ih =>
    have e : nbs (p :: ts) i = ((if p.1 = i then [p.2] else []) ++ (if p.2 = i then [p.1] else [])) ++ nbs ts i := rfl
    rw [e, List.length_append, List.length_append, List.length_cons]
    have h1 : (if p.1 = i then [p.2] else []).length ≤ 1 := by split <;> simp
    have h2 : (if p.2 = i then [p.1] else []).length ≤ 1 := by split <;> simp
    omega
theorem map_rng_get {α : Type} {n : Int} {F : Int → α} {j : Int} (h0 : 0 ≤ j) (h1 : j < n) : ((rng 0 n).map F)[j.toNat]? = some (F j) := by
  rw [List.getElem?_map, rng_atE (by omega)]
  show some (F (0 + (j.toNat : Int))) = _
  rw [show (0 : Int) + (j.toNat : Int) = j by omega]
theorem map_rng_set {α : Type} {n : Int} {F : Int → α} {j : Int} {y : α} (h0 : 0 ≤ j) : ((rng 0 n).map F).set j.toNat y = (rng 0 n).map fun i => if i = j then y else F i := by
  apply List.ext_getElem?
  intro k
  rw [List.getElem?_set, List.getElem?_map, List.getElem?_map, List.length_map]
  by_cases hk : k < (n - 0).toNat
  · rw [rng_atE hk]
    by_cases e : j.toNat = k
    · rw [if_pos e, if_pos (by rw [rng_length]; omega)]
      show some y = some (if (0 : Int) + (k : Int) = j then y else F (0 + k))
      rw [if_pos (by omega)]
    · rw [if_neg e]
      show some (F (0 + k)) = some (if (0 : Int) + (k : Int) = j then y else F (0 + k))
      rw [if_neg (by omega)]
  · rw [List.getElem?_eq_none (by rw [rng_length]; omega)]
    by_cases e : j.toNat = k
    · rw [if_pos e, if_neg (by rw [rng_length]; omega)]; rfl
    · rw [if_neg e]
      rfl
theorem map_rng_congr {α : Type} {n : Int} {F G : Int → α} (h : ∀ i, 0 ≤ i → i < n → F i = G i) : (rng 0 n).map F = (rng 0 n).map G := List.map_congr_left fun i hi => h i (rng_mem.mp hi).1 (rng_mem.mp hi).2
theorem range_get {N : Nat} {j : Int} (h0 : 0 ≤ j) (h1 : j < N) : getI (List.range N) j = R.ok j.toNat := by
  refine getI_eq h0 ?_
  rw [List.getElem?_range (by omega)]
def nears (n : Int) (ts : List (Int × Int)) : List (List Int) := (rng 0 n).map fun i => sortI (nbs ts i)
theorem near_lists_ok {n : Int} {ts : List (Int × Int)} (n0 : 0 ≤ n) (n1 : n < 1000) (hl : ts.length < 40000) (hr : ∀ p ∈ ts, 0 ≤ p.1 ∧ p.1 < n ∧ 0 ≤ p.2 ∧ p.2 < n) : near_lists (n, ⟨ts⟩) = R.ok (nears n ts) := by
  refine po_iff ?_
  unfold near_lists
  refine po_rng (by decide) (by decide) (by show -(2 ^ 62) ≤ n; omega) (by show n < 2 ^ 62; omega) ?_
  have hN : (rng 0 n).length = n.toNat := by rw [rng_length]; omega
  refine po_bind (po_mapStA (fun pre acc s => acc = List.range pre.length ∧ s = List.replicate pre.length []) (by show (rng 0 n).length < 100000; omega) ⟨rfl, rfl⟩ fun pre acc s x post e ⟨h1, h2⟩ => ?_) fun l5 ⟨a1, a2⟩ => ?_
  · refine po_newS ⟨?_, ?_⟩
    · show acc ++ [s.length] = _
      rw [h1, h2, List.length_replicate, List.length_append, List.length_singleton, List.range_succ]
    · show s ++ [[]] = _
      rw [h2, List.length_append, List.length_singleton, List.replicate_succ']
  · rw [hN] at a1 a2
    refine po_bind (po_foldP (fun pre g => g = (rng 0 n).map fun i => nbs pre i) ?_ fun pre g x post e hg => ?_) fun g11 hg => ?_
    · rw [a2]
      apply List.ext_getElem?
      intro k
      rw [List.getElem?_replicate, List.getElem?_map]
      by_cases hk : k < n.toNat
      · rw [if_pos hk, rng_atE (by omega)]; rfl
      · rw [if_neg hk, List.getElem?_eq_none (by rw [rng_length]; omega)]; rfl
    · obtain ⟨x1, x2, x3, x4⟩ := hr x (by rw [show ts = pre ++ x :: post from e]; simp)
      have hpl : pre.length < 40000 := by
        have : ts.length = pre.length + (post.length + 1) := by rw [show ts = pre ++ x :: post from e]; simp
        omega
      have hl1 := nbs_len pre x.1
      have hl2 := nbs_len pre x.2
      rw [a1]
      refine po_getE (range_get x1 (by omega)) (po_getS (by rw [hg]; exact map_rng_get x1 x2) (po_app (by omega) (po_setS ?_)))
      rw [hg, map_rng_set x1]
      refine po_getE (range_get x3 (by omega)) (po_getS (map_rng_get x3 x4) (po_app ?_ (po_setS ?_)))
      · split
        · rw [List.length_append, List.length_singleton]; omega
        · omega
      · rw [map_rng_set x3]
        show _ = _
        refine map_rng_congr fun i i0 i1 => ?_
        rw [nbs_snoc]
        by_cases e1 : x.1 = i
        · by_cases e2 : x.2 = i
          · subst e1
            rw [e2]
            simp
          · subst e1
            rw [if_neg (fun q => e2 q.symm), if_pos rfl, if_pos rfl, if_neg e2, List.append_nil]
        · by_cases e2 : x.2 = i
          · subst e2
            rw [if_pos rfl, if_neg (fun q => e1 q.symm), if_neg e1, if_pos rfl, List.nil_append]
          · rw [if_neg (fun q => e2 q.symm), if_neg (fun q => e1 q.symm), if_neg e1, if_neg e2, List.append_nil, List.append_nil]
    · have hg' : g11 = (rng 0 n).map fun i => nbs ts i := hg
      rw [a1]
      refine po_bind (Q := fun l => l = nears n ts) (po_eq (mapG_ok (g := fun b => sortI (nbs ts (b : Nat))) (by rw [List.length_range]; omega) fun b hb => ?_) ?_) fun l h => h
      · have hb' := List.mem_range.mp hb
        refine po_iff (po_getS (xs := nbs ts (b : Nat)) ?_ rfl)
        rw [hg']
        have := map_rng_get (n := n) (F := fun i => nbs ts i) (j := (b : Int)) (by omega) (by omega)
        rw [Int.toNat_natCast] at this
        exact this
      · unfold nears
        apply List.ext_getElem?
        intro k
        rw [List.getElem?_map, List.getElem?_map]
        by_cases hk : k < n.toNat
        · rw [rng_atE (by omega), List.getElem?_range hk]
          show some (sortI (nbs ts (k : Nat))) = some (sortI (nbs ts (0 + (k : Nat))))
          rw [Int.zero_add]
        · rw [List.getElem?_eq_none (by rw [List.length_range]; omega), List.getElem?_eq_none (by rw [rng_length]; omega)]; rfl
theorem sortI_mem {xs : List Int} {x : Int} : x ∈ sortI xs ↔ x ∈ xs := (sortI_perm xs).mem_iff
end G
/-! MC: drawn webs: neighbours, fars -/
namespace G
open PySem L2 Z
theorem web_near {n : Int} {ts : List (Int × Int)} (h : WebOk n ts) : near_lists (n, ⟨ts⟩) = R.ok (nears n ts) := near_lists_ok (by have := h.n1; omega) (by have := h.n60; omega) (by have := h.len; omega) h.rg4
theorem enum_mem {α : Type} {xs : List α} {b : Int × α} (h : b ∈ enum xs) : 0 ≤ b.1 ∧ b.1 < (xs.length : Int) ∧ xs[b.1.toNat]? = some b.2 := by
  unfold enum at h
  obtain ⟨i, hi⟩ := List.mem_iff_getElem?.mp h
  rw [List.getElem?_zip_eq_some] at hi
  obtain ⟨h1, h2⟩ := hi
  have hl := (List.getElem?_eq_some_iff.mp h2).1
  rw [rng_atE (by omega)] at h1
  have e : b.1 = (i : Int) := by
    injection h1 with h1
    omega
  rw [e]
  exact ⟨by omega, by omega, by rw [Int.toNat_natCast]; exact h2⟩
theorem web_dist {n : Int} {ts : List (Int × Int)} {p : Int} (h : WebOk n ts) (p0 : 0 ≤ p) (p1 : p < n) : IsDist n ts p (dst n ts p) := conn_ex h.rg4 h.conn p0 p1
section
variable {n : Int} {ts : List (Int × Int)} (h : WebOk n ts)
include h
theorem dst_zero {p v : Int} (p0 : 0 ≤ p) (p1 : p < n) (v0 : 0 ≤ v) (v1 : v < n) : dst n ts p v = 0 ↔ v = p := by
  have d := web_dist h p0 p1
  constructor
  · intro e
    apply Classical.byContradiction
    intro hne
    obtain ⟨w, w0, w1, _, ew⟩ := d.desc v v0 v1 hne
    have := d.nn w w0 w1
    omega
  · rintro rfl
    exact d.zero
theorem dst_nn {p v : Int} (p0 : 0 ≤ p) (p1 : p < n) (v0 : 0 ≤ v) (v1 : v < n) : 0 ≤ dst n ts p v := (web_dist h p0 p1).nn v v0 v1
end
theorem fil_ite {α : Type} (l : List α) (P : α → Bool) : l.filterMap (fun b => if P b = true then some b else none) = l.filter P := by
  induction l with
  | nil => rfl
  | cons a l ih =>
    rw [List.filterMap_cons, List.filter_cons]
    cases P a
    · exact ih
    · show a :: _ = a :: _
      rw [ih]
end G
/-! MF: fars, as the program reckons them -/
namespace G
open PySem L2 Z
/-! ### fars -/
section
variable {n : Int} {ts : List (Int × Int)} {p : Int}
structure Bfs (n : Int) (ts : List (Int × Int)) (p : Int) (at_ : Nat) (line : List Int) (F : Int → Option Int) : Prop where
  le : at_ ≤ line.length
  nd : line.Nodup
  rg : ∀ v ∈ line, 0 ≤ v ∧ v < n
  mem : ∀ v, 0 ≤ v → v < n → (v ∈ line ↔ (F v).isSome = true)
  p0 : F p = some 0
  nn : ∀ v d, F v = some d → 0 ≤ d
  par : ∀ v ∈ line, v = p ∨ ∃ w ∈ line, Adj ts w v ∧ ∃ d, F w = some d ∧ F v = some (d + 1)
  mono : line.Pairwise fun a b => (F a).getD 0 ≤ (F b).getD 0
  cap : ∀ v ∈ line, ∀ u ∈ line.drop at_, (F v).getD 0 ≤ (F u).getD 0 + 1
  done : ∀ i u, i < at_ → line[i]? = some u → ∀ w, Adj ts u w → w ∈ line ∧ (F w).getD 0 ≤ (F u).getD 0 + 1
/-- within a turn: the neighbours of u that are gone through -/
structure BfsIn (n : Int) (ts : List (Int × Int)) (p : Int) (at_ : Nat) (u : Int) (pre : List Int) (line : List Int) (F : Int → Option Int) : Prop where
  b : Bfs n ts p at_ line F
  u0 : line[at_]? = some u
  ok : ∀ w ∈ pre, w ∈ line ∧ (F w).getD 0 ≤ (F u).getD 0 + 1
theorem BfsIn.add {at_ : Nat} {u w : Int} {pre line : List Int} {F : Int → Option Int} {d : Int} (h : BfsIn n ts p at_ u pre line F) (hw : Adj ts u w) (w0 : 0 ≤ w) (w1 : w < n) (hn : F w = none) (hd : F u = some d) :
    BfsIn n ts p at_ u (pre ++ [w]) (line ++ [w]) (fun v => if v = w then some (d + 1) else F v) := by
  have b := h.b
  have hu : u ∈ line := List.mem_of_getElem? h.u0
  have hat : at_ < line.length := (List.getElem?_eq_some_iff.mp h.u0).1
  have hwl : w ∉ line := fun q => by
    have := (b.mem w w0 w1).mp q
    rw [hn] at this
    cases this
  have ne : ∀ v ∈ line, v ≠ w := fun v hv e => hwl (e ▸ hv)
  have eF : ∀ v ∈ line, (if v = w then some (d + 1) else F v) = F v := fun v hv => if_neg (ne v hv)
  have eW : (if w = w then some (d + 1) else F w) = some (d + 1) := if_pos rfl
  have hpl : p ∈ line ∨ True := .inr trivial
  have hd0 := b.nn u d hd
  have hud : u ∈ line.drop at_ := by
    rw [List.mem_iff_getElem?]
    exact ⟨0, by rw [List.getElem?_drop]; exact h.u0⟩
  refine ⟨⟨?_, ?_, ?_, ?_, ?_, ?_, ?_, ?_, ?_, ?_⟩, ?_, ?_⟩
  · rw [List.length_append]; omega
  · rw [List.nodup_append]
    refine ⟨b.nd, by simp, fun a ha c hc => ?_⟩
    rw [List.mem_singleton] at hc
    rw [hc]
    exact ne a ha
  · intro v hv
    rcases List.mem_append.mp hv with hv | hv
    · exact b.rg v hv
    · rw [List.mem_singleton] at hv
      rw [hv]; exact ⟨w0, w1⟩
  · intro v v0 v1
    by_cases e : v = w
    · subst e
      simp
    · show v ∈ line ++ [w] ↔ (if v = w then some (d + 1) else F v).isSome = true
      rw [if_neg e, ← b.mem v v0 v1]
      simp [e]
  · show (if p = w then some (d + 1) else F p) = some 0
    rw [if_neg]
    · exact b.p0
    · intro e
      rw [← e, b.p0] at hn
      cases hn
  · intro v e hv
    have hv' : (if v = w then some (d + 1) else F v) = some e := hv
    by_cases q : v = w
    · rw [if_pos q] at hv'
      cases hv'
      omega
    · rw [if_neg q] at hv'
      exact b.nn v e hv'
  · intro v hv
    rcases List.mem_append.mp hv with hv | hv
    · rcases b.par v hv with e | ⟨x, hx, ha, k, h1, h2⟩
      · exact .inl e
      · refine .inr ⟨x, List.mem_append_left _ hx, ha, k, ?_, ?_⟩
        · show (if x = w then some (d + 1) else F x) = some k
          rw [eF x hx]; exact h1
        · show (if v = w then some (d + 1) else F v) = some (k + 1)
          rw [eF v hv]; exact h2
    · rw [List.mem_singleton] at hv
      subst hv
      refine .inr ⟨u, List.mem_append_left _ hu, hw, d, ?_, eW⟩
      show (if u = v then some (d + 1) else F u) = some d
      rw [eF u hu]; exact hd
  · rw [List.pairwise_append]
    refine ⟨b.mono.imp_of_mem fun {a c} ha hc q => ?_, by simp, fun a ha c hc => ?_⟩
    · show (if a = w then some (d + 1) else F a).getD 0 ≤ (if c = w then some (d + 1) else F c).getD 0
      rw [eF a ha, eF c hc]; exact q
    · rw [List.mem_singleton] at hc
      subst hc
      show (if a = c then some (d + 1) else F a).getD 0 ≤ (if c = c then some (d + 1) else F c).getD 0
      rw [eF a ha, eW]
      have := b.cap a ha u hud
      rw [hd] at this
      exact this
  · intro v hv x hx
    rw [List.drop_append_of_le_length (by omega)] at hx
    show (if v = w then some (d + 1) else F v).getD 0 ≤ (if x = w then some (d + 1) else F x).getD 0 + 1
    have key : ∀ x, x ∈ line.drop at_ → d ≤ (F x).getD 0 := by
      intro x hx
      have hs : line.drop at_ = u :: line.drop (at_ + 1) := by
        rw [List.drop_eq_getElem_cons hat]
        have := (List.getElem?_eq_some_iff.mp h.u0).2
        rw [this]
      have hm := b.mono.sublist (List.drop_sublist at_ line)
      rw [hs] at hm hx
      rcases List.mem_cons.mp hx with rfl | hx
      · rw [hd]; exact Int.le_refl _
      · have := (List.pairwise_cons.mp hm).1 x hx
        rw [hd] at this
        exact this
    have hvd : (if v = w then some (d + 1) else F v).getD 0 ≤ d + 1 := by
      rcases List.mem_append.mp hv with hv | hv
      · rw [eF v hv]
        have := b.cap v hv u hud
        rw [hd] at this
        exact this
      · rw [List.mem_singleton] at hv
        rw [if_pos hv]; exact Int.le_refl _
    rcases List.mem_append.mp hx with hx | hx
    · rw [eF x (List.mem_of_mem_drop hx)]
      have := key x hx
      omega
    · rw [List.mem_singleton] at hx
      rw [if_pos hx]
      show _ ≤ (d + 1) + 1
      omega
  · intro i x hi hx y hy
    rw [List.getElem?_append_left (by omega)] at hx
    obtain ⟨h1, h2⟩ := b.done i x hi hx y hy
    refine ⟨List.mem_append_left _ h1, ?_⟩
    show (if y = w then some (d + 1) else F y).getD 0 ≤ (if x = w then some (d + 1) else F x).getD 0 + 1
    rw [eF y h1, eF x (List.mem_of_getElem? hx)]
    exact h2
  · rw [List.getElem?_append_left hat]; exact h.u0
  · intro v hv
    show v ∈ line ++ [w] ∧ (if v = w then some (d + 1) else F v).getD 0 ≤ (if u = w then some (d + 1) else F u).getD 0 + 1
    rw [eF u hu]
    rcases List.mem_append.mp hv with hv | hv
    · obtain ⟨h1, h2⟩ := h.ok v hv
      rw [eF v h1]
      exact ⟨List.mem_append_left _ h1, h2⟩
    · rw [List.mem_singleton] at hv
      rw [if_pos hv, hd, hv]
      exact ⟨List.mem_append_right _ (List.mem_singleton_self _), Int.le_refl _⟩
theorem BfsIn.skip {at_ : Nat} {u w : Int} {pre line : List Int} {F : Int → Option Int} (h : BfsIn n ts p at_ u pre line F) (hw : (F w).isSome = true) (w0 : 0 ≤ w) (w1 : w < n) : BfsIn n ts p at_ u (pre ++ [w]) line F := by
  refine ⟨h.b, h.u0, fun v hv => ?_⟩
  rcases List.mem_append.mp hv with hv | hv
  · exact h.ok v hv
  · rw [List.mem_singleton] at hv
    subst hv
    have hl := (h.b.mem v w0 w1).mpr hw
    refine ⟨hl, h.b.cap v hl u ?_⟩
    rw [List.mem_iff_getElem?]
    exact ⟨0, by rw [List.getElem?_drop]; exact h.u0⟩
theorem BfsIn.next {at_ : Nat} {u : Int} {nb line : List Int} {F : Int → Option Int} (h : BfsIn n ts p at_ u nb line F) (hnb : ∀ w, Adj ts u w → w ∈ nb) : Bfs n ts p (at_ + 1) line F := by
  have hat : at_ < line.length := (List.getElem?_eq_some_iff.mp h.u0).1
  refine { h.b with le := hat, cap := fun v hv x hx => h.b.cap v hv x ?_, done := fun i x hi hx w hw => ?_ }
  · exact (List.drop_sublist_drop_left line (Nat.le_succ at_)).subset hx
  · by_cases e : i = at_
    · subst e
      rw [h.u0] at hx
      cases hx
      exact h.ok w (hnb w hw)
    · exact h.b.done i x (by omega) hx w hw
theorem Bfs.isDist {line : List Int} {F : Int → Option Int} (b : Bfs n ts p line.length line F) (hc : Conn n ts) (hr : ∀ q ∈ ts, 0 ≤ q.1 ∧ q.1 < n ∧ 0 ≤ q.2 ∧ q.2 < n) (p0 : 0 ≤ p) (p1 : p < n) :
    (∀ v, 0 ≤ v → v < n → (F v).isSome = true) ∧ IsDist n ts p fun v => (F v).getD 0 := by
  have hp : p ∈ line := (b.mem p p0 p1).mpr (by rw [b.p0]; rfl)
  have cl : ∀ u w, u ∈ line → Adj ts u w → w ∈ line ∧ (F w).getD 0 ≤ (F u).getD 0 + 1 := by
    intro u w hu hw
    obtain ⟨i, hi⟩ := List.mem_iff_getElem?.mp hu
    exact b.done i u (List.getElem?_eq_some_iff.mp hi).1 hi w hw
  have all : ∀ k, 0 ≤ k → k < n → k ∈ line := hc.any (S := fun k => k ∈ line) p0 p1 hp fun q hq => ⟨fun h => (cl q.1 q.2 h (.inl hq)).1, fun h => (cl q.2 q.1 h (.inr hq)).1⟩
  refine ⟨fun v v0 v1 => (b.mem v v0 v1).mp (all v v0 v1), ⟨?_, fun v v0 v1 => ?_, fun a c h => ?_, fun v v0 v1 hne => ?_⟩⟩
  · show (F p).getD 0 = 0
    rw [b.p0]; rfl
  · show 0 ≤ (F v).getD 0
    cases e : F v with
    | none => exact Int.le_refl _
    | some d => exact b.nn v d e
  · have ra : 0 ≤ a ∧ a < n := by
      rcases h with h | h
      · exact ⟨(hr _ h).1, (hr _ h).2.1⟩
      · exact ⟨(hr _ h).2.2.1, (hr _ h).2.2.2⟩
    exact (cl a c (all a ra.1 ra.2) h).2
  · rcases b.par v (all v v0 v1) with e | ⟨w, hw, ha, d, h1, h2⟩
    · exact absurd e hne
    · refine ⟨w, (b.rg w hw).1, (b.rg w hw).2, ha, ?_⟩
      show (F w).getD 0 + 1 = (F v).getD 0
      rw [h1, h2]; rfl
end
theorem fars_by_post {n : Int} {ts : List (Int × Int)} {p : Int} (n1 : n < 900) (hr : ∀ q ∈ ts, 0 ≤ q.1 ∧ q.1 < n ∧ 0 ≤ q.2 ∧ q.2 < n) (hc : Conn n ts) (p0 : 0 ≤ p) (p1 : p < n) :
    Post (fars_by (nears n ts) p) (fun l => l = ((rng 0 n).map fun v => some (dst n ts p v)) ∧ IsDist n ts p (dst n ts p)) noX := by
  unfold fars_by
  have hN : (nears n ts).length = n.toNat := by unfold nears; rw [List.length_map, rng_length]; omega
  rw [hN]
  refine po_rep (by omega) (by omega) (by decide) ?_
  have e0 : repL ([none] : List (Option Int)) (n.toNat : Nat) = (rng 0 n).map fun _ => none := by
    unfold repL
    rw [Int.toNat_natCast]
    have h1 : (rng 0 n).length = n.toNat := by rw [rng_length]; omega
    rw [← h1]
    generalize rng 0 n = l
    induction l with
    | nil => rfl
    | cons a l ih =>
      rw [List.length_cons, List.replicate_succ, List.flatten_cons, ih]
      rfl
  rw [e0]
  refine po_set p0 (by rw [List.length_map, rng_length]; omega) ?_
  rw [map_rng_set p0]
  refine po_bind (Q := fun g => g.2.2 = ((rng 0 n).map fun v => some (dst n ts p v)) ∧ IsDist n ts p (dst n ts p)) (po_while (fun g => 0 ≤ g.1 ∧ ∃ F, g.2.2 = (rng 0 n).map F ∧ Bfs n ts p g.1.toNat g.2.1 F) (fun g => n.toNat - g.1.toNat) ?_ (n := fu 1000) ?_ ?_) fun g hg => hg
  · rintro ⟨a, line, fd⟩ ⟨a0, F, e1, b⟩
    have e1' : fd = (rng 0 n).map F := e1
    have a0' : 0 ≤ a := a0
    have b' : Bfs n ts p a.toNat line F := b
    clear e1 b a0
    subst e1'
    refine ⟨fun ht => ?_, fun hf => ?_⟩
    · have ht : a < (line.length : Int) := of_decide_eq_true ht
      refine po_get a0' ht fun u hu e2 => ?_
      obtain ⟨u0, u1⟩ := b'.rg u hu
      refine po_getE (getI_eq u0 (map_rng_get u0 u1)) ?_
      have hin : BfsIn n ts p a.toNat u [] line F := ⟨b', e2, fun _ h => nomatch h⟩
      refine po_bind (po_foldP (fun pre g => ∃ F', g.2 = (rng 0 n).map F' ∧ BfsIn n ts p a.toNat u pre g.1 F') ⟨F, rfl, hin⟩ ?_) ?_
      · rintro pre ⟨ln, fd⟩ w post ew ⟨F', e3, h3⟩
        have e3' : fd = (rng 0 n).map F' := e3
        have h3' : BfsIn n ts p a.toNat u pre ln F' := h3
        clear e3 h3
        subst e3'
        have hw : w ∈ sortI (nbs ts u) := by rw [show sortI (nbs ts u) = pre ++ w :: post from ew]; simp
        have hw := nbs_mem.mp (sortI_mem.mp hw)
        have rw' : 0 ≤ w ∧ w < n := by
          rcases hw with h | h
          · exact ⟨(hr _ h).2.2.1, (hr _ h).2.2.2⟩
          · exact ⟨(hr _ h).1, (hr _ h).2.1⟩
        obtain ⟨w0, w1⟩ := rw'
        refine po_getE (getI_eq w0 (map_rng_get w0 w1)) ?_
        refine po_if (fun c => ?_) (fun c => ?_)
        · have hn : F' w = none := by
            cases e : F' w with
            | none => rfl
            | some d => rw [e] at c; cases c
          refine po_getE (getI_eq a0' h3'.u0) (po_getE (getI_eq u0 (map_rng_get u0 u1)) ?_)
          have hus := (h3'.b.mem u u0 u1).mp (List.mem_of_getElem? h3'.u0)
          obtain ⟨d, hd⟩ := Option.isSome_iff_exists.mp hus
          have hlen : ln.length ≤ n.toNat := by
            have := nodup_le h3'.b.nd (ys := rng 0 n) fun v hv => rng_mem.mpr (h3'.b.rg v hv)
            rw [rng_length] at this
            omega
          refine po_ofO hd (po_set w0 (by rw [List.length_map, rng_length]; omega) (po_app (by show ln.length < 100000; omega) ?_))
          refine ⟨_, map_rng_set w0, ?_⟩
          exact h3'.add hw w0 w1 hn hd
        · refine ⟨F', rfl, h3'.skip ?_ w0 w1⟩
          cases e : F' w with
          | none => rw [e] at c; exact absurd rfl c
          | some d => rfl
      · rintro ⟨ln, fd⟩ ⟨F', e3, h3⟩
        have h3' : BfsIn n ts p a.toNat u (sortI (nbs ts u)) ln F' := h3
        have h4 := h3'.next fun w hw => sortI_mem.mpr (nbs_mem.mpr hw)
        have hat : a.toNat < ln.length := (List.getElem?_eq_some_iff.mp h3'.u0).1
        have hlen : ln.length ≤ n.toNat := by
          have := nodup_le h3'.b.nd (ys := rng 0 n) fun v hv => rng_mem.mpr (h3'.b.rg v hv)
          rw [rng_length] at this
          omega
        refine ⟨⟨by show 0 ≤ a + 1; omega, F', e3, ?_⟩, ?_⟩
        · show Bfs n ts p (a + 1).toNat ln F'
          rw [show (a + 1).toNat = a.toNat + 1 by omega]
          exact h4
        · show n.toNat - (a + 1).toNat < n.toNat - a.toNat
          omega
    · have hf : ¬ a < (line.length : Int) := of_decide_eq_false hf
      have hle := b'.le
      have ea : a.toNat = line.length := by omega
      rw [ea] at b'
      obtain ⟨h1, h2⟩ := b'.isDist hc hr p0 p1
      refine ⟨map_rng_congr fun v v0 v1 => ?_, dst_is h2⟩
      have h3 := dst_eq h2 v v0 v1
      obtain ⟨d, hd⟩ := Option.isSome_iff_exists.mp (h1 v v0 v1)
      have h3' : (F v).getD 0 = dst n ts p v := h3
      rw [hd] at h3' ⊢
      exact congrArg some h3'
  · refine ⟨Int.le_refl 0, _, rfl, ?_⟩
    show Bfs n ts p 0 [p] (fun i => if i = p then some 0 else none)
    refine ⟨Nat.zero_le _, by simp, fun v hv => ?_, fun v v0 v1 => ?_, if_pos rfl, fun v d hv => ?_, fun v hv => ?_, by simp, fun v hv u hu => ?_, fun i u hi => absurd hi (Nat.not_lt_zero _)⟩
    · rw [List.mem_singleton] at hv
      rw [hv]; exact ⟨p0, p1⟩
    · show v ∈ [p] ↔ (if v = p then some (0 : Int) else none).isSome = true
      rw [List.mem_singleton]
      by_cases e : v = p
      · rw [if_pos e]; simp [e]
      · rw [if_neg e]; simp [e]
    · have hv' : (if v = p then some (0 : Int) else none) = some d := hv
      split at hv'
      · cases hv'; exact Int.le_refl _
      · cases hv'
    · exact .inl (List.mem_singleton.mp hv)
    · rw [List.drop_zero] at hu
      rw [List.mem_singleton] at hv hu
      subst hv hu
      show (if u = u then some (0 : Int) else none).getD 0 ≤ (if u = u then some (0 : Int) else none).getD 0 + 1
      rw [if_pos rfl]
      decide
  · rw [fu_eq]
    show n.toNat - (0 : Int).toNat < 1000
    omega
theorem fars_by_ok {n : Int} {ts : List (Int × Int)} {p : Int} (n1 : n < 900) (hr : ∀ q ∈ ts, 0 ≤ q.1 ∧ q.1 < n ∧ 0 ≤ q.2 ∧ q.2 < n) (hc : Conn n ts) (p0 : 0 ≤ p) (p1 : p < n) :
    fars_by (nears n ts) p = R.ok ((rng 0 n).map fun v => some (dst n ts p v)) := po_iff ((fars_by_post n1 hr hc p0 p1).mono (fun _ h => h.1) fun _ h => h)
theorem web_fars {n : Int} {ts : List (Int × Int)} {p : Int} (h : WebOk n ts) (p0 : 0 ≤ p) (p1 : p < n) : fars_by (nears n ts) p = R.ok ((rng 0 n).map fun v => some (dst n ts p v)) := fars_by_ok (by have := h.n60; omega) h.rg4 h.conn p0 p1
end G
/-! MD: webs made, nothing refused -/
namespace G
open PySem L2 Z
def nrm (p : Int × Int) : Int × Int := (min2 p.1 p.2, max2 p.1 p.2)
theorem made_ok {n : Int} {ts us : List (Int × Int)} (h : WebOk n ts) (hp : (us.map nrm).Perm ts) : made_web n us = R.ok (n, ⟨ts⟩) := by
  refine po_iff ?_
  unfold made_web
  have h1 := h.n1
  have h60 := h.n60
  refine po_if (fun c => ?_) fun _ => ?_
  · exfalso
    rw [decide_eq_true h1, decide_eq_true h60] at c
    exact absurd c (by decide)
  have hnd : (us.map nrm).Nodup := hp.nodup_iff.mpr h.nd
  have e1 : sorted_ties n us = R.ok ⟨ts⟩ := by
    refine po_iff ?_
    unfold sorted_ties
    refine po_bind (po_foldP (fun pre g => g = pre.map nrm) rfl fun pre g x post e hg => ?_) fun g hg => ?_
    · have hx : nrm x ∈ ts := hp.mem_iff.mp (List.mem_map.mpr ⟨x, by rw [e]; simp, rfl⟩)
      have hr := h.rg _ hx
      have hle : us.length ≤ 700 := by
        have := hp.length_eq
        rw [List.length_map] at this
        have := h.len
        omega
      have hel := congrArg List.length e
      simp at hel
      have hnin : nrm x ∉ pre.map nrm := by
        rw [e, List.map_append, List.map_cons] at hnd
        have := (List.nodup_append.mp hnd).2.2
        exact fun q => this _ q _ List.mem_cons_self rfl
      refine po_if (fun c => ?_) fun _ => po_app (by rw [hg, List.length_map]; omega) ?_
      · exfalso
        have hne : x.1 ≠ x.2 := fun e2 => by
          have : (nrm x).1 = (nrm x).2 := by
            unfold nrm min2 max2
            rw [e2]
          omega
        have c1 : ¬ (min2 x.1 x.2 < 0) := by have := hr.1; exact fun q => by unfold nrm at this; dsimp only at this; omega
        have c2 : ¬ (n ≤ max2 x.1 x.2) := by have := hr.2.2; exact fun q => by unfold nrm at this; dsimp only at this; omega
        have c3 : (min2 x.1 x.2, max2 x.1 x.2) ∉ g := by rw [hg]; exact hnin
        rw [decide_eq_false c1, decide_eq_false c2, decide_eq_false hne, inB_f.mpr c3] at c
        exact absurd c (by decide)
      · show _ = _
        rw [hg, List.map_append]
        rfl
    · show (⟨sortP g⟩ : Tup (Int × Int)) = ⟨ts⟩
      have e : sortP g = ts := by
        rw [show g = us.map nrm from hg]
        have : (sortP ts).Perm (us.map nrm) := (sortP_perm ts).trans hp.symm
        rw [← sortP_eq this (sortP_sorted ts)]
        exact h.srt
      rw [e]
  rw [e1, ok_bind, web_near h, ok_bind, web_fars h (Int.le_refl 0) (by omega), ok_bind]
  refine po_rng (by decide) (by decide) (by omega) (by omega) (po_bind (po_fold (fun _ => True) trivial fun s x _ hx => ?_) fun _ _ => rfl)
  obtain ⟨x0, x1⟩ := rng_mem.mp hx
  exact po_getE (getI_eq x0 (map_rng_get x0 x1)) trivial
end G
namespace G
open PySem L2 Z
/-! ### draws -/
def Ok2 (s : List Int) : Prop := ∃ a b, s = [a, b] ∧ 0 ≤ a ∧ 0 ≤ b ∧ b < 2147483647
theorem next_ok {s : List Int} {m : Int} (h : Ok2 s) (h0 : 0 < m) (h1 : m < 1073741824) : Post (law_next s m) (fun p => 0 ≤ p.1 ∧ p.1 < m ∧ Ok2 p.2) noX := by
  obtain ⟨a, b, rfl, ha, hb, hb2⟩ := h
  unfold law_next
  refine po_getE (x := a) rfl ?_
  refine po_if (fun c => ?_) (fun c => ?_)
  · have c' : 0 < a := of_decide_eq_true c
    refine po_getE (x := a) rfl (po_mod h0 fun r0 r1 => po_getE (x := a) rfl (po_div h0 h1 (po_set (Int.le_refl 0) (by show (0 : Int) < 2; decide) ?_)))
    exact ⟨r0, r1, _, _, rfl, Int.ediv_nonneg ha (by omega), hb, hb2⟩
  · refine po_getE (x := b) rfl (po_set (by decide) (by show (1 : Int) < 2; decide) ?_)
    refine po_getE (x := (b * 69621 + 40692) % 2147483647) rfl (po_getE (x := (b * 69621 + 40692) % 2147483647) rfl ?_)
    have h2 : 0 ≤ (b * 69621 + 40692) % 2147483647 := Int.emod_nonneg _ (by decide)
    have h3 : (b * 69621 + 40692) % 2147483647 < 2147483647 := Int.emod_lt_of_pos _ (by decide)
    exact po_mul (by left; omega) (po_mod h0 fun r0 r1 => ⟨r0, r1, _, _, rfl, ha, h2, h3⟩)
theorem cell_ok {sc : List Int} {k : Int} (h0 : 0 ≤ k) : Post (law_cell_at ⟨sc⟩ k) (fun _ => True) noX := by
  unfold law_cell_at
  refine po_if (fun c => po_get h0 (of_decide_eq_true c) fun _ _ _ => trivial) fun c => ?_
  refine po_bind (Q := fun _ => True) (po_if (fun c => ?_) fun _ => trivial) fun _ _ => trivial
  have hne : sc ≠ [] := fun e => by
    subst e
    exact absurd c (by decide)
  have hl : 0 < (sc.length : Int) := by
    have := List.length_pos_iff.mpr hne
    omega
  exact po_mod hl fun r0 r1 => po_get r0 r1 fun _ _ _ => trivial
theorem folded_ok {sc : List Int} {N : Int} (h : sc.length ≤ 63) (n0 : 0 < N) (n1 : N ≤ 100) : Post (law_folded ⟨sc⟩ N) (fun l => (l.length : Int) = N) noX := by
  unfold law_folded
  refine po_rng (by omega) (by omega) (by omega) (by omega) ?_
  have hN : ((rng 0 N).length : Int) = N := by rw [rng_length]; omega
  have hx : ∀ x ∈ rng 0 N, 0 ≤ x := fun x hx => (rng_mem.mp hx).1
  generalize hl : rng 0 N = l at hN hx ⊢
  refine po_bind (po_mapG (fun _ => True) (by omega) fun x h => po_bind (cell_ok (hx x h)) fun _ _ => po_ok trivial) fun l3 h3 => ?_
  have e : rngI N ((⟨sc⟩ : Scr).l.length : Int) = R.ok (rng N sc.length) := by
    unfold rngI
    rw [if_pos]
    exact ⟨by omega, by omega, by show _ ≤ (sc.length : Int); omega, by show (sc.length : Int) < _; omega⟩
  rw [e, ok_bind]
  have h3' : (l3.length : Int) = N := by rw [h3.1]; exact hN
  refine po_bind (po_fold (fun g => (g.length : Int) = N) h3' fun g x hg hx => ?_) fun g hg => po_ok hg
  obtain ⟨hx0, hx1⟩ := rng_mem.mp hx
  refine po_mod n0 fun r0 r1 => po_get r0 (by omega) fun _ _ _ => po_get (by omega) hx1 fun _ _ _ => po_set r0 (by omega) ?_
  show ((List.set _ _ _).length : Int) = N
  rw [List.length_set]
  exact hg
theorem state_ok (c : Int) : Post (law_state c) Ok2 noX := by
  unfold law_state
  refine po_bind (Q := fun g => 0 ≤ g) (po_if (fun k => ?_) fun _ => Int.le_refl 0) fun g hg => ?_
  · have : (10 : Int) ^ (18 : Int).toNat ≤ c := of_decide_eq_true k
    have h2 : (0 : Int) ≤ (10 : Int) ^ (18 : Int).toNat := by decide
    show 0 ≤ c
    omega
  · exact ⟨_, _, rfl, hg, Int.emod_nonneg _ (by decide), Int.emod_lt_of_pos _ (by decide)⟩
theorem place_ok {n p : Int} {t : Tup (Int × Int)} (p0 : 0 ≤ p) (p1 : p < n) : place_asked (n, t) p = R.ok () := by
  unfold place_asked
  dsimp only
  rw [decide_eq_true p0, decide_eq_true p1]
  rfl
/-- how far each place is from one -/
noncomputable def farL (n : Int) (ts : List (Int × Int)) (p : Int) : List Int := (rng 0 n).map (dst n ts p)
theorem allS_map {α : Type} (l : List α) : allS (l.map some) = R.ok l := allS_iff.mpr rfl
theorem fars_ok {n p : Int} {ts : List (Int × Int)} (h : WebOk n ts) (p0 : 0 ≤ p) (p1 : p < n) : fars_from (n, ⟨ts⟩) p = R.ok (farL n ts p) := by
  unfold fars_from
  rw [place_ok p0 p1, ok_bind, web_near h, ok_bind, web_fars h p0 p1, ok_bind]
  have e : (rng 0 n).map (fun v => some (dst n ts p v)) = ((rng 0 n).map (dst n ts p)).map some := by rw [List.map_map]; rfl
  rw [e, allS_map]
  rfl
/-- how far all places are from all -/
noncomputable def tabL (n : Int) (ts : List (Int × Int)) : List (List Int) := (rng 0 n).map fun p => (rng 0 n).map (dst n ts p)
theorem tab_get {n p : Int} {ts : List (Int × Int)} (p0 : 0 ≤ p) (p1 : p < n) : getI (tabL n ts) p = R.ok ((rng 0 n).map (dst n ts p)) := getI_eq p0 (map_rng_get p0 p1)
theorem row_get {n p v : Int} {ts : List (Int × Int)} (v0 : 0 ≤ v) (v1 : v < n) : getI ((rng 0 n).map (dst n ts p)) v = R.ok (dst n ts p v) := getI_eq v0 (map_rng_get v0 v1)
theorem table_ok {n : Int} {ts : List (Int × Int)} (h : WebOk n ts) : table_of (n, ⟨ts⟩) = R.ok (tabL n ts) := by
  have hn1 := h.n1
  have hn := h.n60
  refine po_iff ?_
  unfold table_of
  refine po_rng (by decide) (by decide) (by show -(2 ^ 62) ≤ n; omega) (by show n < 2 ^ 62; omega) ?_
  refine po_mapGE (g := fun p => (rng 0 n).map (dst n ts p)) (by show (rng 0 n).length < 100000; rw [rng_length]; omega) (fun p hp => ?_) rfl
  rw [fars_ok h (rng_mem.mp hp).1 (rng_mem.mp hp).2]
  rfl
/-- how far a thing is -/
noncomputable def farT (n : Int) (ts : List (Int × Int)) (p : Int) : Thing → Int
  | .pl i => dst n ts p i
  | .ti a b => min2 (dst n ts p a) (dst n ts p b)
def ThOk (n : Int) (ts : List (Int × Int)) : Thing → Prop
  | .pl i => 0 ≤ i ∧ i < n
  | .ti a b => (a, b) ∈ ts
def allT (n : Int) (ts : List (Int × Int)) : List Thing := mkpl (rng 0 n) ++ mkti ts
def kindT (n : Int) (ts : List (Int × Int)) (k : Str) : List Thing := if decide (k = "places") = true then mkpl (rng 0 n) else if decide (k = "ties") = true then mkti ts else allT n ts
theorem pl_mem {n : Int} {t : Thing} : t ∈ mkpl (rng 0 n) ↔ ∃ i, t = .pl i ∧ 0 ≤ i ∧ i < n := by
  unfold mkpl
  rw [List.mem_map]
  constructor
  · rintro ⟨i, hi, rfl⟩
    exact ⟨i, rfl, rng_mem.mp hi⟩
  · rintro ⟨i, rfl, hi⟩
    exact ⟨i, rng_mem.mpr hi, rfl⟩
theorem ti_mem {ts : List (Int × Int)} {t : Thing} : t ∈ mkti ts ↔ ∃ a b, t = .ti a b ∧ (a, b) ∈ ts := by
  unfold mkti
  rw [List.mem_map]
  constructor
  · rintro ⟨p, hp, rfl⟩
    exact ⟨p.1, p.2, rfl, hp⟩
  · rintro ⟨a, b, rfl, h⟩
    exact ⟨(a, b), h, rfl⟩
theorem allT_mem {n : Int} {ts : List (Int × Int)} {t : Thing} : t ∈ allT n ts ↔ ThOk n ts t := by
  unfold allT
  rw [List.mem_append, pl_mem, ti_mem]
  cases t with
  | pl i =>
    constructor
    · rintro (⟨j, e, h⟩ | ⟨a, b, e, _⟩)
      · cases e; exact h
      · cases e
    · intro h
      exact .inl ⟨i, rfl, h⟩
  | ti a b =>
    constructor
    · rintro (⟨j, e, h⟩ | ⟨c, d, e, h⟩)
      · cases e
      · cases e; exact h
    · intro h
      exact .inr ⟨a, b, rfl, h⟩
theorem kindT_ok {n : Int} {ts : List (Int × Int)} {k : Str} {t : Thing} (h : t ∈ kindT n ts k) : ThOk n ts t := by
  unfold kindT at h
  split at h
  · exact allT_mem.mp (List.mem_append_left _ h)
  · split at h
    · exact allT_mem.mp (List.mem_append_right _ h)
    · exact allT_mem.mp h
theorem allT_len {n : Int} {ts : List (Int × Int)} (n0 : 0 ≤ n) : ((allT n ts).length : Int) = n + ts.length := by
  unfold allT mkpl mkti
  rw [List.length_append, List.length_map, List.length_map, rng_length]
  omega
theorem far_by_ok {n p : Int} {ts : List (Int × Int)} {t : Thing} (h : WebOk n ts) (p0 : 0 ≤ p) (p1 : p < n) (ht : ThOk n ts t) : far_by (tabL n ts) p t = R.ok (farT n ts p t) := by
  unfold far_by
  cases t with
  | pl i =>
    show (asPl (.pl i) >>= _) = _
    rw [show asPl (.pl i) = R.ok i from rfl, ok_bind, tab_get p0 p1, ok_bind, row_get ht.1 ht.2]
    rfl
  | ti a b =>
    have hr := h.rg4 _ (show (a, b) ∈ ts from ht)
    show (asTi (.ti a b) >>= _) = _
    rw [show asTi (.ti a b) = R.ok (a, b) from rfl, ok_bind, tab_get p0 p1, ok_bind, row_get hr.1 hr.2.1, ok_bind, ok_bind, row_get hr.2.2.1 hr.2.2.2]
    rfl
theorem thing_ok {n : Int} {ts : List (Int × Int)} {t : Thing} (ht : ThOk n ts t) : thing_asked (n, ⟨ts⟩) t = R.ok () := by
  unfold thing_asked
  cases t with
  | pl i =>
    show (asPl (.pl i) >>= _) = _
    rw [show asPl (.pl i) = R.ok i from rfl, ok_bind, decide_eq_true ht.1, decide_eq_true (show i < (n, (⟨ts⟩ : Tup (Int × Int))).1 from ht.2)]
    rfl
  | ti a b =>
    show (asTi (.ti a b) >>= _) = _
    rw [show asTi (.ti a b) = R.ok (a, b) from rfl, ok_bind, inB_t.mpr (show (a, b) ∈ (n, (⟨ts⟩ : Tup (Int × Int))).2.l from ht)]
    rfl
/-- a rising list of places -/
structure LooksOk (n : Int) (ls : List Int) : Prop where
  rg : ∀ l ∈ ls, 0 ≤ l ∧ l < n
  up : ls.Pairwise (· < ·)
theorem LooksOk.len {n : Int} {ls : List Int} (h : LooksOk n ls) : ls.length ≤ n.toNat := by
  have := nodup_le (h.up.imp fun z => Int.ne_of_lt z) (ys := rng 0 n) fun v hv => rng_mem.mpr (h.rg v hv)
  rw [rng_length] at this
  omega
theorem looks_ok {n : Int} {t : Tup (Int × Int)} {ls : List Int} (h : LooksOk n ls) : looks_asked (n, t) ls = R.ok () := by
  refine po_iff ?_
  unfold looks_asked
  refine po_bind (po_fold (fun _ => True) trivial fun s x _ hx => ?_) fun _ _ => rfl
  obtain ⟨x0, x1, ex⟩ := enum_mem hx
  have hm := List.mem_of_getElem? ex
  have hr := h.rg _ hm
  refine po_bind (Q := fun j => j = false) (po_if (fun c => ?_) fun _ => ?_) fun j hj => ?_
  · rw [decide_eq_true hr.1, decide_eq_true (show x.2 < (n, t).1 from hr.2)] at c
    exact absurd c (by decide)
  · refine po_bind (Q := fun j => j = false) (po_if (fun c => ?_) fun _ => rfl) fun j hj => hj
    have c' := of_decide_eq_true c
    refine po_get (by omega) (by omega) fun y _ ey => ?_
    refine decide_eq_false ?_
    obtain ⟨i1, e1⟩ := List.getElem?_eq_some_iff.mp ey
    obtain ⟨i2, e2⟩ := List.getElem?_eq_some_iff.mp ex
    have := List.pairwise_iff_getElem.mp h.up _ _ i1 i2 (by omega)
    rw [e1, e2] at this
    omega
  · rw [hj]
    exact trivial
theorem codeOf_ok {n : Int} {ts : List (Int × Int)} {ls : List Int} {t : Thing} (h : WebOk n ts) (hl : LooksOk n ls) (ht : ThOk n ts t) : code_of (n, ⟨ts⟩) ls t = R.ok (ls.map fun l => farT n ts l t) := by
  have := hl.len
  have hn := h.n60
  unfold code_of
  rw [looks_ok hl, ok_bind, thing_ok ht, ok_bind, table_ok h, ok_bind]
  rw [mapG_ok (g := fun l => farT n ts l t) (by omega) fun l hm => by
    rw [far_by_ok h (hl.rg l hm).1 (hl.rg l hm).2 ht]
    rfl]
  rfl
theorem things_ok {n : Int} {ts : List (Int × Int)} {k : Str} (h : WebOk n ts) : things_of (n, ⟨ts⟩) k = R.ok (kindT n ts k) := by
  have hn1 := h.n1
  have hn := h.n60
  have hl := h.len
  refine po_iff ?_
  unfold things_of kindT
  refine po_listRng (by decide) (by decide) (by show -(2 ^ 62) ≤ n; omega) (by show n < 2 ^ 62; omega) (by show (n - 0).toNat ≤ 100000; omega) ?_
  by_cases e1 : decide (k = "places") = true
  · rw [if_pos e1, if_pos e1]; rfl
  · rw [if_neg e1, if_neg e1]
    by_cases e2 : decide (k = "ties") = true
    · rw [if_pos e2, if_pos e2]; rfl
    · rw [if_neg e2, if_neg e2]
      refine po_extend ?_ rfl
      show (mkpl (rng 0 n)).length + (mkti ts).length < 100000
      unfold mkpl mkti
      rw [List.length_map, List.length_map, rng_length]
      omega
/-! ### what has one code, in lists -/
section
variable {κ α : Type} [DecidableEq κ]
def kstep (ks : List κ) (k : κ) : List κ := if k ∈ ks then ks else ks ++ [k]
def keysG (c : α → κ) (ts : List α) : List κ := (ts.map c).foldl kstep []
def rowsG (c : α → κ) (ks : List κ) (ts : List α) : List (List α) := ks.map fun k => ts.filter fun t => decide (c t = k)
def likesG (c : α → κ) (ts : List α) : List (List α) := (rowsG c (keysG c ts) ts).filter fun r => decide ((1 : Int) < (r.length : Int))
theorem keysG_snoc (c : α → κ) (ts : List α) (t : α) : keysG c (ts ++ [t]) = kstep (keysG c ts) (c t) := by
  unfold keysG
  rw [List.map_append, List.foldl_append]
  rfl
theorem kstep_mem {ks : List κ} {k j : κ} : j ∈ kstep ks k ↔ j ∈ ks ∨ j = k := by
  unfold kstep
  by_cases h : k ∈ ks
  · rw [if_pos h]
    exact ⟨.inl, fun z => z.elim id fun e => e ▸ h⟩
  · rw [if_neg h]
    simp
theorem kstep_nodup {ks : List κ} {k : κ} (h : ks.Nodup) : (kstep ks k).Nodup := by
  unfold kstep
  by_cases q : k ∈ ks
  · rw [if_pos q]; exact h
  · rw [if_neg q]
    rw [List.nodup_append]
    refine ⟨h, by simp, fun a ha b hb e => ?_⟩
    simp at hb
    subst hb
    exact q (e ▸ ha)
theorem snoc_ind {α : Type} {P : List α → Prop} (h0 : P []) (hs : ∀ xs x, P xs → P (xs ++ [x])) (xs : List α) : P xs := by
  have : P xs.reverse.reverse := by
    induction xs.reverse with
    | nil => exact h0
    | cons x l ih =>
      rw [List.reverse_cons]
      exact hs _ _ ih
  rwa [List.reverse_reverse] at this
theorem keysG_mem {c : α → κ} {ts : List α} {k : κ} : k ∈ keysG c ts ↔ ∃ t ∈ ts, c t = k := by
  induction ts using snoc_ind with
  | h0 => simp [keysG]
  | hs ts t ih =>
    rw [keysG_snoc, kstep_mem, ih]
    constructor
    · rintro (⟨u, hu, e⟩ | rfl)
      · exact ⟨u, List.mem_append_left _ hu, e⟩
      · exact ⟨t, by simp, rfl⟩
    · rintro ⟨u, hu, e⟩
      rcases List.mem_append.mp hu with h | h
      · exact .inl ⟨u, h, e⟩
      · simp at h
        exact .inr (h ▸ e.symm)
theorem keysG_nodup {c : α → κ} {ts : List α} : (keysG c ts).Nodup := by
  induction ts using snoc_ind with
  | h0 => exact List.Pairwise.nil
  | hs ts t ih => rw [keysG_snoc]; exact kstep_nodup ih
theorem keysG_len {c : α → κ} {ts : List α} : (keysG c ts).length ≤ ts.length := by
  induction ts using snoc_ind with
  | h0 => exact Nat.le_refl _
  | hs ts t ih =>
    rw [keysG_snoc, List.length_append]
    unfold kstep
    split
    · omega
    · rw [List.length_append]; simp; omega
theorem fidx_mem {k : κ} : ∀ {ks : List κ}, k ∈ ks → ∃ j, fidx k ks = some j ∧ ks[j]? = some k
  | [], h => nomatch h
  | x :: xs, h => by
    by_cases e : x = k
    · exact ⟨0, by unfold fidx; rw [if_pos e], by rw [e]; rfl⟩
    · obtain ⟨j, h1, h2⟩ := fidx_mem (k := k) (ks := xs) ((List.mem_cons.mp h).resolve_left fun z => e z.symm)
      exact ⟨j + 1, by unfold fidx; rw [if_neg e, h1]; rfl, by simpa using h2⟩
/-- the rows once a new code has an empty row -/
theorem rowsG_new {c : α → κ} {ts : List α} {k : κ} (h : k ∉ keysG c ts) : rowsG c (keysG c ts ++ [k]) ts = rowsG c (keysG c ts) ts ++ [[]] := by
  unfold rowsG
  rw [List.map_append, List.map_cons, List.map_nil]
  congr 2
  rw [List.filter_eq_nil_iff]
  intro t ht e
  exact h (keysG_mem.mpr ⟨t, ht, of_decide_eq_true e⟩)
theorem rowsG_get {c : α → κ} {ks : List κ} {ts : List α} {j : Nat} {k : κ} (h : ks[j]? = some k) : (rowsG c ks ts)[j]? = some (ts.filter fun t => decide (c t = k)) := by
  unfold rowsG
  rw [List.getElem?_map, h]
  rfl
theorem rowsG_set {c : α → κ} {ks : List κ} {ts : List α} {t : α} {j : Nat} (hd : ks.Nodup) (h : ks[j]? = some (c t)) : (rowsG c ks ts).set j ((ts.filter fun u => decide (c u = c t)) ++ [t]) = rowsG c ks (ts ++ [t]) := by
  refine List.ext_getElem? fun i => ?_
  unfold rowsG
  rw [List.getElem?_set, List.getElem?_map, List.getElem?_map, List.length_map]
  obtain ⟨hj, ej⟩ := List.getElem?_eq_some_iff.mp h
  by_cases e : j = i
  · subst e
    rw [if_pos rfl, if_pos hj, h]
    simp
  · rw [if_neg e]
    cases q : ks[i]? with
    | none => rfl
    | some k =>
      have : c t ≠ k := fun z => by
        obtain ⟨hi, ei⟩ := List.getElem?_eq_some_iff.mp q
        rcases Nat.lt_or_gt_of_ne e with l | l
        · exact List.pairwise_iff_getElem.mp hd _ _ hj hi l (by rw [ej, ei, z])
        · exact List.pairwise_iff_getElem.mp hd _ _ hi hj l (by rw [ej, ei, z])
      simp [this]
theorem keysG_comp {β : Type} [DecidableEq β] {f : κ → β} (hf : ∀ a b, f a = f b → a = b) (c : α → κ) (ts : List α) : keysG (fun t => f (c t)) ts = (keysG c ts).map f := by
  induction ts using snoc_ind with
  | h0 => rfl
  | hs ts t ih =>
    rw [keysG_snoc, keysG_snoc, ih]
    unfold kstep
    by_cases h : c t ∈ keysG c ts
    · rw [if_pos h, if_pos (List.mem_map_of_mem h)]
    · rw [if_neg h, if_neg, List.map_append]
      · rfl
      · intro z
        obtain ⟨u, h1, h2⟩ := List.mem_map.mp z
        exact h (hf _ _ h2 ▸ h1)
theorem rowsG_comp {β : Type} [DecidableEq β] {f : κ → β} (hf : ∀ a b, f a = f b → a = b) (c : α → κ) (ks : List κ) (ts : List α) : rowsG (fun t => f (c t)) (ks.map f) ts = rowsG c ks ts := by
  unfold rowsG
  rw [List.map_map]
  refine List.map_congr_left fun k _ => List.filter_congr fun t _ => ?_
  by_cases e : c t = k
  · rw [decide_eq_true e, decide_eq_true (congrArg f e)]
  · rw [decide_eq_false e, decide_eq_false fun z => e (hf _ _ z)]
def mkG (i : Nat) : List κ → List (κ × Nat)
  | [] => []
  | k :: ks => (k, i) :: mkG (i + 1) ks
theorem mkG_len : ∀ (i : Nat) (ks : List κ), (mkG i ks).length = ks.length
  | _, [] => rfl
  | i, k :: ks => by show (mkG (i + 1) ks).length + 1 = _; rw [mkG_len]; rfl
theorem mkG_has {k : κ} : ∀ (i : Nat) (ks : List κ), mhas (mkG i ks) k = decide (k ∈ ks)
  | _, [] => rfl
  | i, j :: ks => by
    show (decide (j = k) || mhas (mkG (i + 1) ks) k) = _
    rw [mkG_has (i + 1) ks]
    by_cases e : j = k
    · rw [decide_eq_true e, decide_eq_true (show k ∈ j :: ks from e ▸ List.mem_cons_self)]; rfl
    · rw [decide_eq_false e, Bool.false_or]
      by_cases q : k ∈ ks
      · rw [decide_eq_true q, decide_eq_true (List.mem_cons_of_mem _ q)]
      · rw [decide_eq_false q, decide_eq_false fun z => (List.mem_cons.mp z).elim (fun w => e w.symm) q]
theorem mkG_snoc {k : κ} : ∀ (i : Nat) (ks : List κ), mkG i (ks ++ [k]) = mkG i ks ++ [(k, i + ks.length)]
  | _, [] => rfl
  | i, j :: ks => by
    show (j, i) :: mkG (i + 1) (ks ++ [k]) = (j, i) :: (mkG (i + 1) ks ++ [(k, i + (ks.length + 1))])
    rw [mkG_snoc (i + 1) ks, show i + 1 + ks.length = i + (ks.length + 1) by omega]
theorem mkG_get {k : κ} : ∀ (i : Nat) (ks : List κ), mget (mkG i ks) k = (fidx k ks).map (i + ·)
  | _, [] => rfl
  | i, j :: ks => by
    show mget ((j, i) :: mkG (i + 1) ks) k = _
    rw [mget_cons]
    unfold fidx
    by_cases e : j = k
    · rw [if_pos e, if_pos e]; rfl
    · rw [if_neg e, if_neg e, mkG_get (i + 1) ks, Option.map_map]
      cases fidx k ks with
      | none => rfl
      | some x => show some (i + 1 + x) = some (i + (x + 1)); congr 1; omega
theorem mkG_vals : ∀ (i : Nat) (ks : List κ), (mkG i ks).map (·.2) = List.range' i ks.length
  | _, [] => rfl
  | i, k :: ks => by
    show i :: (mkG (i + 1) ks).map (·.2) = List.range' i (ks.length + 1)
    rw [mkG_vals (i + 1) ks]
    rfl
end
theorem filSt_const {α β γ : Type} {f : γ → α → R (Option β × γ)} {g : α → Option β} {s : γ} : ∀ {xs : List α}, (∀ x ∈ xs, f s x = R.ok (g x, s)) → filSt f s xs = R.ok (xs.filterMap g, s)
  | [], _ => rfl
  | x :: xs, h => by
    unfold filSt
    rw [h x List.mem_cons_self, ok_bind]
    show filSt f s xs >>= _ = _
    rw [filSt_const fun y hy => h y (List.mem_cons_of_mem _ hy), ok_bind, List.filterMap_cons]
    cases g x <;> rfl
theorem mapR_some {α β : Type} {f : α → R β} {g : α → Option β} : ∀ {xs : List α}, (∀ x ∈ xs, ∃ y, g x = some y ∧ f x = R.ok y) → mapR f xs = R.ok (xs.filterMap g)
  | [], _ => rfl
  | x :: xs, h => by
    obtain ⟨y, h1, h2⟩ := h x List.mem_cons_self
    unfold mapR
    rw [h2, ok_bind, mapR_some fun y hy => h y (List.mem_cons_of_mem _ hy), List.filterMap_cons, h1]
    rfl
theorem range_pick {β γ : Type} (st : List β) (p : β → Option γ) : (List.range st.length).filterMap (fun i => st[i]?.bind p) = st.filterMap p := by
  have key : ∀ m, m ≤ st.length → (List.range m).filterMap (fun i => st[i]?.bind p) = (st.take m).filterMap p := by
    intro m
    induction m with
    | zero => intro _; rfl
    | succ m ih =>
      intro h
      have e : st[m]? = some st[m] := List.getElem?_eq_getElem (by omega)
      rw [List.range_succ, List.filterMap_append, ih (by omega), List.take_add_one, List.filterMap_append, e]
      congr 1
      simp [List.filterMap_cons, e]
  rw [key _ (Nat.le_refl _), List.take_length]
/-- the rows of two or more: their numbers, and what they hold -/
theorem pick_deref {β : Type} (st : List (List β)) : deref st ((List.range st.length).filterMap fun i => st[i]?.bind fun (r : List β) => if decide ((1 : Int) < (r.length : Int)) = true then some i else none) = R.ok (st.filter fun r => decide ((1 : Int) < (r.length : Int))) := by
  unfold deref
  rw [mapR_some (g := fun i => st[i]?)]
  · congr 1
    rw [List.filterMap_filterMap]
    have : (fun (i : Nat) => (st[i]?.bind fun (r : List β) => if decide ((1 : Int) < (r.length : Int)) = true then some i else none).bind fun i => st[i]?) = fun (i : Nat) => st[i]?.bind fun (r : List β) => if decide ((1 : Int) < (r.length : Int)) = true then some r else none := by
      funext i
      cases e : st[i]? with
      | none => rfl
      | some r =>
        show ((if decide ((1 : Int) < (r.length : Int)) = true then some i else none).bind fun i => st[i]?) = (if decide ((1 : Int) < (r.length : Int)) = true then some r else none)
        by_cases q : decide ((1 : Int) < (r.length : Int)) = true
        · rw [if_pos q, if_pos q]; exact e
        · rw [if_neg q, if_neg q]; rfl
    rw [this, range_pick st fun (r : List β) => if decide ((1 : Int) < (r.length : Int)) = true then some r else none]
    rw [fil_ite]
  · intro i hi
    obtain ⟨k, _, hk⟩ := List.mem_filterMap.mp hi
    cases e : st[k]? with
    | none => rw [e] at hk; cases hk
    | some r =>
      rw [e] at hk
      have : k = i := by
        change (if decide ((1 : Int) < (r.length : Int)) = true then some k else none) = some i at hk
        split at hk
        · exact Option.some.inj hk
        · cases hk
      subst this
      exact ⟨r, e, by unfold getS; rw [e]; rfl⟩
/-! ### a fold that leaves, by what is gone through -/
theorem po_foldXP {β α ρ : Type} {f : β → α → R (Sum ρ (Bool × β))} {s : β} {xs : List α} {X : Exn → Prop} (I : List α → β → Prop) (P : ρ → Prop) (h0 : I [] s)
    (hf : ∀ pre s x post, xs = pre ++ x :: post → I pre s → Post (f s x) (fun r => (∃ z, r = .inl z ∧ P z) ∨ ∃ s', r = .inr (true, s') ∧ I (pre ++ [x]) s') X) : Post (foldX f s xs) (fun r => (∃ z, r = .inl z ∧ P z) ∨ ∃ s', r = .inr s' ∧ I xs s') X := by
  have key : ∀ (l pre : List α) (s : β), xs = pre ++ l → I pre s → Post (foldX f s l) (fun r => (∃ z, r = .inl z ∧ P z) ∨ ∃ s', r = .inr s' ∧ I xs s') X := by
    intro l
    induction l with
    | nil =>
      intro pre s e h
      rw [List.append_nil] at e
      rw [e]
      exact .inr ⟨s, rfl, h⟩
    | cons x l ih =>
      intro pre s e h
      refine po_bind (hf pre s x l e h) fun r hr => ?_
      rcases hr with ⟨z, rfl, hz⟩ | ⟨s', rfl, hs⟩
      · exact .inl ⟨z, rfl, hz⟩
      · exact ih (pre ++ [x]) s' (by rw [e, List.append_assoc]; rfl) hs
  exact key xs [] s rfl h0
/-! the same web, its places called otherwise -/
section
variable {n : Int} {ts : List (Int × Int)} {o : List Int}
def nmO (o : List Int) (k : Int) : Int := o.getD k.toNat 0
variable (ho : o.Perm (rng 0 n)) (h : WebOk n ts)
include ho h
end
theorem nm_get {m : Int} {o : List Int} (ho : o.Perm (rng 0 m)) {x : Int} (x0 : 0 ≤ x) (x1 : x < m) : getI o x = R.ok (nmO o x) := by
  obtain ⟨y, ey, _⟩ := perm_get ho (by omega) x0 x1
  refine getI_eq x0 ?_
  unfold nmO
  rw [List.getD_eq_getElem?_getD, ey]
  rfl
/-! ### webs of the hunts' and the asks' laws: their places named by a drawn order -/
theorem few_up {ps : List (Int × Int)} {n : Int} (hn : n ≤ 26) (hd : ps.Nodup) (hr : ∀ p ∈ ps, 0 ≤ p.1 ∧ p.1 < p.2 ∧ p.2 < n) : ps.length ≤ 700 := by
  have h1 : (ps.map fun p => p.1 * 26 + p.2).Nodup := by
    refine List.pairwise_map.mpr (hd.imp_of_mem ?_)
    intro a b ha hb hne e
    have ra := hr a ha
    have rb := hr b hb
    exact hne (Prod.ext (by omega) (by omega))
  have h2 := nodup_le h1 (ys := rng 0 676) fun x hx => by
    obtain ⟨p, hp, rfl⟩ := List.mem_map.mp hx
    have := hr p hp
    exact rng_mem.mpr ⟨by omega, by omega⟩
  rw [List.length_map, rng_length] at h2
  have : ((676 : Int) - 0).toNat = 676 := by decide
  omega
structure UpOk (n : Int) (g : List (Int × Int)) : Prop where
  rg : ∀ p ∈ g, 0 ≤ p.1 ∧ p.1 < p.2 ∧ p.2 < n
  nd : g.Nodup
  dn : ∀ j, 1 ≤ j → j < n → ∃ i, 0 ≤ i ∧ i < j ∧ (i, j) ∈ g
theorem UpOk.len {n : Int} {g : List (Int × Int)} (h : UpOk n g) (hn : n ≤ 26) : g.length ≤ 700 := few_up hn h.nd h.rg
theorem UpOk.ties {n : Int} {g : List (Int × Int)} (h : UpOk n g) (hn : n ≤ 26) : TiesOk 700 n g := ⟨h.rg, h.nd, conn_tree fun k k1 kn => by
  obtain ⟨i, i0, ik, hi⟩ := h.dn k k1 kn
  exact ⟨i, i0, ik, .inl hi⟩, h.len hn⟩
theorem UpOk.add {n : Int} {g us : List (Int × Int)} (h : UpOk n g) (hr : ∀ p ∈ us, 0 ≤ p.1 ∧ p.1 < p.2 ∧ p.2 < n) (hd : us.Nodup) (hx : ∀ p ∈ us, p ∉ g) : UpOk n (g ++ us) := ⟨fun p hp => (List.mem_append.mp hp).elim (h.rg p) (hr p), by
  rw [List.nodup_append]
  exact ⟨h.nd, hd, fun a ha b hb e => hx b hb (e ▸ ha)⟩, fun j j1 jn => by
  obtain ⟨i, i0, ik, hi⟩ := h.dn j j1 jn
  exact ⟨i, i0, ik, List.mem_append_left _ hi⟩⟩
def rowP (n : Int) : List (Int × Int) := (rng 0 (n - 1)).map fun b => (b, b + 1)
def starP (n : Int) : List (Int × Int) := (rng 1 n).map fun b => (0, b)
theorem row_up {n : Int} : UpOk n (rowP n) := ⟨fun p hp => by
    obtain ⟨b, hb, rfl⟩ := List.mem_map.mp hp
    have := rng_mem.mp hb
    exact ⟨this.1, by show b < b + 1; omega, by show b + 1 < n; omega⟩, by
    refine List.pairwise_map.mpr ((rng_nodup 0 (n - 1)).imp ?_)
    intro a b hab e
    exact hab (congrArg Prod.fst e), fun j j1 jn => ⟨j - 1, by omega, by omega, List.mem_map.mpr ⟨j - 1, rng_mem.mpr ⟨by omega, by omega⟩, Prod.ext rfl (by show j - 1 + 1 = j; omega)⟩⟩⟩
theorem star_up {n : Int} : UpOk n (starP n) := ⟨fun p hp => by
    obtain ⟨b, hb, rfl⟩ := List.mem_map.mp hp
    have := rng_mem.mp hb
    exact ⟨Int.le_refl 0, by show 0 < b; omega, this.2⟩, by
    refine List.pairwise_map.mpr ((rng_nodup 1 n).imp ?_)
    intro a b hab e
    exact hab (congrArg Prod.snd e), fun j j1 jn => ⟨0, by omega, by omega, List.mem_map.mpr ⟨j, rng_mem.mpr ⟨j1, jn⟩, rfl⟩⟩⟩
theorem row_tail {n : Int} {p : Int × Int} (h : p ∈ (rowP n).drop 1) : 1 ≤ p.1 ∧ p ∈ rowP n := by
  refine ⟨?_, List.mem_of_mem_drop h⟩
  obtain ⟨i, hi⟩ := List.mem_iff_getElem?.mp h
  rw [List.getElem?_drop] at hi
  unfold rowP at hi
  rw [List.getElem?_map] at hi
  cases e : (rng 0 (n - 1))[1 + i]? with
  | none => rw [e] at hi; cases hi
  | some x =>
    rw [e] at hi
    cases hi
    have hl := (List.getElem?_eq_some_iff.mp e).1
    rw [rng_length] at hl
    rw [rng_atE hl] at e
    cases e
    show (1 : Int) ≤ 0 + ((1 + i : Nat) : Int)
    omega
theorem fan_up {n : Int} : UpOk n ((rowP n).drop 1 ++ starP n) := by
  refine ⟨fun p hp => (List.mem_append.mp hp).elim (fun z => row_up.rg p (row_tail z).2) (star_up.rg p), ?_, fun j j1 jn => ?_⟩
  · rw [List.nodup_append]
    refine ⟨List.Pairwise.drop row_up.nd, star_up.nd, fun a ha b hb e => ?_⟩
    have h1 := (row_tail ha).1
    obtain ⟨x, _, rfl⟩ := List.mem_map.mp hb
    rw [e] at h1
    have : (1 : Int) ≤ 0 := h1
    omega
  · obtain ⟨i, i0, ik, hi⟩ := star_up.dn j j1 jn
    exact ⟨i, i0, ik, List.mem_append_right _ hi⟩
theorem cut_one {α : Type} (xs : List α) : cutL xs (some (1 : Int)) none = xs.drop 1 := by
  cases xs with
  | nil => rfl
  | cons x xs =>
    unfold cutL
    have h1 : HT.sIx (x :: xs).length 0 (some (1 : Int)) = 1 := by
      unfold HT.sIx
      simp
    have h2 : HT.sIx (x :: xs).length (x :: xs).length (none : Option Int) = (x :: xs).length := rfl
    rw [h1, h2]
    simp
theorem web_named {s : List Int} {lo hi : Int} (h : Ok2 s) (l1 : 1 ≤ lo) (l2 : lo ≤ hi) (l3 : hi ≤ 26) : Post (law_web s lo hi) (fun r => ∃ n ts, r.1 = (n, ⟨ts⟩) ∧ lo ≤ n ∧ n ≤ hi ∧ WebOk n ts ∧ Ok2 r.2) noX := by
  unfold law_web
  refine po_bind (next_ok h (by omega) (by omega)) fun y3 ⟨a0, a1, h3⟩ => po_bind (next_ok h3 (by decide) (by decide)) fun y5 ⟨b0, b1, h5⟩ => ?_
  generalize hn : lo + y3.1 = n
  have n1 : 1 ≤ n := by omega
  have n2 : n ≤ 26 := by omega
  refine po_rng (by decide) (by decide) (by omega) (by omega) ?_
  refine po_mapGE (g := fun b => (b, b + 1)) (by rw [rng_length]; omega) (fun b _ => rfl) ?_
  have er : (rng 0 (n - 1)).map (fun b => (b, b + 1)) = rowP n := rfl
  rw [er]
  have lr : (rowP n).length ≤ 700 := row_up.len n2
  refine po_bind (Q := fun g => UpOk n g ∧ (y5.1 ≠ 1 → g = rowP n)) (po_if (fun c => ?_) fun c => ⟨row_up, fun _ => rfl⟩) fun g12 ⟨u12, e12⟩ => ?_
  · rw [Bool.and_eq_true] at c
    have c1 := of_decide_eq_true c.1
    have c2 := of_decide_eq_true c.2
    refine po_app (by omega) ⟨row_up.add (fun p hp => ?_) (by simp) (fun p hp z => ?_), fun z => absurd c1 z⟩
    · rw [List.mem_singleton.mp hp]
      exact ⟨by show (0 : Int) ≤ 0; omega, by show (0 : Int) < n - 1; omega, by show n - 1 < n; omega⟩
    · rw [List.mem_singleton.mp hp] at z
      obtain ⟨x, _, ex⟩ := List.mem_map.mp z
      have e1 : x = 0 := congrArg Prod.fst ex
      have e2 : x + 1 = n - 1 := congrArg Prod.snd ex
      omega
  refine po_bind (Q := fun g => UpOk n g ∧ (y5.1 = 3 → g = rowP n)) (po_if (fun c => ?_) fun c => ⟨u12, fun z => e12 (by omega)⟩) fun g22 ⟨u22, e22⟩ => ?_
  · have c1 := of_decide_eq_true c
    refine po_rng (by decide) (by decide) (by omega) (by omega) ?_
    refine po_mapGE (g := fun b => ((0 : Int), b)) (by rw [rng_length]; omega) (fun b _ => rfl) ⟨star_up, fun z => by omega⟩
  refine po_bind (Q := fun g => UpOk n g) (po_if (fun c => ?_) fun c => u22) fun g32 u32 => ?_
  · have c1 := of_decide_eq_true c
    rw [e22 c1, cut_one]
    refine po_rng (by decide) (by decide) (by omega) (by omega) ?_
    refine po_mapGE (g := fun b => ((0 : Int), b)) (by rw [rng_length]; omega) (fun b _ => rfl) ?_
    have e2 : (rng 1 n).map (fun b => ((0 : Int), b)) = starP n := rfl
    rw [e2]
    have ls : (starP n).length ≤ 700 := star_up.len n2
    have ld : ((rowP n).drop 1).length ≤ (rowP n).length := by rw [List.length_drop]; omega
    exact po_extend (by omega) fan_up
  refine po_bind (Q := fun g => UpOk n g) (po_if (fun c => ?_) fun c => u32) fun g48 u48 => ?_
  · refine po_rng (by decide) (by decide) (by omega) (by omega) ?_
    refine po_bind (po_foldP (fun pre (g : List (Int × Int)) => (∀ p ∈ g, 0 ≤ p.1 ∧ p.1 < p.2 ∧ p.2 < n ∧ p.2 ∈ pre) ∧ g.Nodup ∧ ∀ j ∈ pre, 1 ≤ j → (0, j) ∈ g) ⟨fun _ z => (nomatch z), List.nodup_nil, fun _ z => (nomatch z)⟩ ?_) ?_
    · rintro pre g x post e ⟨h1, h2, h3⟩
      obtain ⟨ep, x0, x1⟩ := rng_split e
      have hl : g.length ≤ 700 := few_up n2 h2 fun p hp => ⟨(h1 p hp).1, (h1 p hp).2.1, (h1 p hp).2.2.1⟩
      refine po_rng (by decide) (by decide) (by omega) (by omega) ?_
      refine po_mapGE (g := fun b => (b, x)) (by rw [rng_length]; omega) (fun b _ => rfl) ?_
      refine po_extend (by rw [List.length_map, rng_length]; omega) ⟨fun p hp => ?_, ?_, fun j hj j1 => ?_⟩
      · rcases List.mem_append.mp hp with hp | hp
        · have := h1 p hp
          exact ⟨this.1, this.2.1, this.2.2.1, List.mem_append_left _ this.2.2.2⟩
        · obtain ⟨b, hb, rfl⟩ := List.mem_map.mp hp
          have := rng_mem.mp hb
          exact ⟨this.1, this.2, x1, List.mem_append_right _ (List.mem_singleton.mpr rfl)⟩
      · rw [List.nodup_append]
        refine ⟨h2, List.pairwise_map.mpr ((rng_nodup 0 x).imp fun hab e => hab (congrArg Prod.fst e)), fun a ha b hb e2 => ?_⟩
        obtain ⟨c, _, rfl⟩ := List.mem_map.mp hb
        have hp := (h1 a ha).2.2.2
        rw [e2, ep] at hp
        have := (rng_mem.mp hp).2
        dsimp only at this
        omega
      · rcases List.mem_append.mp hj with hj | hj
        · exact List.mem_append_left _ (h3 j hj j1)
        · rw [List.mem_singleton.mp hj] at j1 ⊢
          exact List.mem_append_right _ (List.mem_map.mpr ⟨0, rng_mem.mpr ⟨by omega, by omega⟩, rfl⟩)
    · rintro g ⟨h1, h2, h3⟩
      exact ⟨fun p hp => ⟨(h1 p hp).1, (h1 p hp).2.1, (h1 p hp).2.2.1⟩, h2, fun j j1 jn => ⟨0, by omega, by omega, h3 j (rng_mem.mpr ⟨by omega, jn⟩) j1⟩⟩
  refine po_bind (Q := fun (g : List (Int × Int) × List Int) => UpOk n g.1 ∧ Ok2 g.2) (po_if (fun c => ?_) fun c => ⟨u48, h5⟩) fun g66 ⟨u66, h66⟩ => ?_
  · refine po_rng (by decide) (by decide) (by omega) (by omega) ?_
    refine po_bind (po_mapStA (fun pre (ys : List (Int × Int)) (s : List Int) => Ok2 s ∧ ys.map (·.2) = pre ∧ ∀ p ∈ ys, 0 ≤ p.1 ∧ p.1 < p.2) (by rw [rng_length]; omega) ⟨h5, rfl, fun _ z => (nomatch z)⟩ ?_) ?_
    · rintro pre ys s x post e ⟨q1, q2, q3⟩
      obtain ⟨ep, x0, x1⟩ := rng_split e
      refine po_bind (next_ok q1 (by omega) (by omega)) fun y ⟨y0, y1, hy⟩ => ⟨hy, ?_, fun p hp => ?_⟩
      · rw [List.map_append, q2]
        rfl
      · rcases List.mem_append.mp hp with hp | hp
        · exact q3 p hp
        · rw [List.mem_singleton.mp hp]
          exact ⟨y0, y1⟩
    · rintro l71 ⟨q1, q2, q3⟩
      have ut : UpOk n l71.1 := by
        refine ⟨fun p hp => ?_, ?_, fun j j1 jn => ?_⟩
        · have hm : p.2 ∈ rng 1 n := by rw [← q2]; exact List.mem_map.mpr ⟨p, hp, rfl⟩
          have := q3 p hp
          exact ⟨this.1, this.2, (rng_mem.mp hm).2⟩
        · have := rng_nodup 1 n
          rw [← q2] at this
          exact (List.pairwise_map.mp this).imp fun hab e => hab (congrArg Prod.snd e)
        · have hm : j ∈ l71.1.map (·.2) := by rw [q2]; exact rng_mem.mpr ⟨j1, jn⟩
          obtain ⟨p, hp, rfl⟩ := List.mem_map.mp hm
          exact ⟨p.1, (q3 p hp).1, (q3 p hp).2, hp⟩
      refine po_bind (next_ok q1 (by decide) (by decide)) fun y82 ⟨c0, c1, h82⟩ => ?_
      refine po_rng (by decide) (by decide) (by omega) (by omega) ?_
      refine po_bind (po_fold (fun (g : List Int × List (Int × Int)) => Ok2 g.1 ∧ UpOk n g.2) ⟨h82, ut⟩ ?_) fun g ⟨k1, k2⟩ => ⟨k2, k1⟩
      rintro ⟨s, g⟩ x ⟨k1, k2⟩ _
      have k2' : UpOk n g := k2
      have hl := k2'.len n2
      refine po_bind (next_ok k1 (by omega) (by omega)) fun u ⟨u0, u1, hu⟩ => po_bind (next_ok hu (by omega) (by omega)) fun v ⟨v0, v1, hv⟩ => ?_
      refine po_if (fun c => ?_) fun _ => ⟨hv, k2⟩
      rw [Bool.and_eq_true] at c
      have c1 := of_decide_eq_true c.1
      refine po_app (by show g.length < 100000; omega) ⟨hv, k2'.add (fun p hp => ?_) (by simp) fun p hp z => ?_⟩
      · rw [List.mem_singleton.mp hp]
        exact ⟨u0, c1, v1⟩
      · rw [List.mem_singleton.mp hp] at z
        have c2 := c.2
        rw [inB_t.mpr z] at c2
        cases c2
  refine po_rng (by decide) (by decide) (by omega) (by omega) ?_
  refine po_bind (po_foldP (fun pre (g : List Int × List Int) => g.1.Perm pre ∧ Ok2 g.2) ⟨List.Perm.refl _, h66⟩ ?_) ?_
  · rintro pre ⟨l, p⟩ x post e ⟨h1, h2⟩
    have h1' : l.Perm pre := h1
    have hx := rng_pre e
    obtain ⟨_, x0, x1⟩ := rng_split e
    have hl := h1'.length_eq
    refine po_bind (next_ok h2 (by omega) (by omega)) fun y ⟨y0, y1, hy⟩ => ?_
    have hi : insR l y.1 x = R.ok (l.take y.1.toNat ++ [x] ++ l.drop y.1.toNat) := by
      unfold insR
      rw [if_pos ⟨by omega, y0, by omega⟩]
    show Post (insR l y.1 x >>= _) _ _
    rw [hi, ok_bind]
    refine ⟨?_, hy⟩
    show (l.take y.1.toNat ++ [x] ++ l.drop y.1.toNat).Perm (pre ++ [x])
    have p1 : (l.take y.1.toNat ++ [x] ++ l.drop y.1.toNat).Perm (l.take y.1.toNat ++ l.drop y.1.toNat ++ [x]) := by
      rw [List.append_assoc, List.append_assoc]
      exact List.Perm.append_left _ List.perm_append_comm
    rw [List.take_append_drop] at p1
    exact p1.trans (h1'.append_right _)
  · rintro ⟨o, s'⟩ ⟨ho, hs⟩
    have ho' : o.Perm (rng 0 n) := ho
    have hl := u66.len n2
    refine po_mapGE (g := fun p => (nmO o p.1, nmO o p.2)) (by omega) (fun p hp => ?_) ?_
    · have hr := u66.rg p hp
      show (getI o p.1 >>= _) = _
      rw [nm_get ho' hr.1 (by omega), ok_bind]
      show (getI o p.2 >>= _) = _
      rw [nm_get ho' (by omega) hr.2.2, ok_bind]
    · have w := moved_ok ho' n1 (by omega) (u66.ties n2)
      rw [made_ok w (us := g66.1.map fun p => (nmO o p.1, nmO o p.2)) (by
        rw [List.map_map]
        have : (nrm ∘ fun p : Int × Int => (nmO o p.1, nmO o p.2)) = moved o := rfl
        rw [this]
        exact (sortP_perm _).symm), ok_bind]
      exact ⟨n, _, rfl, by omega, by omega, w, hs⟩
/-! ### the fars of things, and the parts of some things by them -/
theorem mget_at {κ β : Type} [DecidableEq κ] {k : κ} : ∀ {m : List (κ × β)}, mhas m k = true → ∃ (j : Nat) (v : β), m[j]? = some (k, v) ∧ mget m k = some v
  | [], h => by cases h
  | p :: m, h => by
    rw [mget_cons]
    by_cases e : p.1 = k
    · rw [if_pos e]
      exact ⟨0, p.2, by rw [← e]; rfl, rfl⟩
    · rw [if_neg e]
      have h' : mhas m k = true := by
        unfold mhas at h ⊢
        rw [List.any_cons, decide_eq_false e, Bool.false_or] at h
        exact h
      obtain ⟨j, v, h1, h2⟩ := mget_at h'
      exact ⟨j + 1, v, by simpa using h1, h2⟩
/-- a dict of numbers of lists, and what these hold -/
structure GH {κ : Type} (ks : List κ) (rows : List (List Thing)) (g : List (κ × Nat) × List (List Thing)) : Prop where
  ks : g.1.map (·.1) = ks
  nd : (g.1.map (·.2)).Nodup
  vals : g.1.map (fun p => g.2[p.2]?) = rows.map some
theorem GH.lt {κ : Type} {ks : List κ} {rows : List (List Thing)} {g : List (κ × Nat) × List (List Thing)} (h : GH ks rows g) {p : κ × Nat} (hp : p ∈ g.1) : p.2 < g.2.length := by
  have hm : g.2[p.2]? ∈ g.1.map (fun p => g.2[p.2]?) := List.mem_map.mpr ⟨p, hp, rfl⟩
  rw [h.vals] at hm
  obtain ⟨r, _, hr⟩ := List.mem_map.mp hm
  exact (List.getElem?_eq_some_iff.mp hr.symm).1
theorem GH.step {κ : Type} [DecidableEq κ] {c : Thing → κ} {pre : List Thing} {x : Thing} {g : List (κ × Nat) × List (List Thing)} (h : GH (keysG c pre) (rowsG c (keysG c pre) pre) g) (hl : pre.length < 1000) : Post (do
      let r20 ← newS g.2 ([] : (List Thing))
      let l21 ← msetdR g.1 (c x) r20.1
      let t21 ← mgetR l21 (c x)
      let x24 ← getS r20.2 t21
      let l25 ← app x24 x
      let r25 ← setS r20.2 t21 l25
      R.ok (l21, r25)) (fun g => GH (keysG c (pre ++ [x])) (rowsG c (keysG c (pre ++ [x])) (pre ++ [x])) g) noX := by
  obtain ⟨m, st⟩ := g
  have hk : m.map (·.1) = keysG c pre := h.ks
  have hv : m.map (fun p => st[p.2]?) = (rowsG c (keysG c pre) pre).map some := h.vals
  have hd : (m.map (·.2)).Nodup := h.nd
  have hml : m.length ≤ pre.length := by
    have := congrArg List.length hk
    rw [List.length_map] at this
    have := keysG_len (c := c) (ts := pre)
    omega
  have hfl : ∀ k, (pre.filter fun u => decide (c u = k)).length < 1000 := fun k => Nat.lt_of_le_of_lt (List.length_filter_le _ _) hl
  refine po_newS ?_
  refine po_msetd (by show m.length < 100000; omega) ?_
  show Post (mgetR (msetd m (c x) st.length) (c x) >>= _) _ _
  by_cases q : c x ∈ keysG c pre
  · have hm : mhas m (c x) = true := by
      rw [mhas_keys]
      unfold mkeys
      rw [hk]
      exact q
    have e1 : msetd m (c x) st.length = m := by
      unfold msetd
      rw [if_pos hm]
    rw [e1]
    obtain ⟨j, t, hj, hg⟩ := mget_at hm
    refine po_mgetE hg ?_
    have hkj : (keysG c pre)[j]? = some (c x) := by rw [← hk, List.getElem?_map, hj]; rfl
    have hrow := rowsG_get (ts := pre) (c := c) hkj
    have hst : st[t]? = some (pre.filter fun u => decide (c u = c x)) := by
      have := congrArg (fun l => l[j]?) hv
      rw [List.getElem?_map, List.getElem?_map, hj, hrow] at this
      simpa using this
    have ht := (List.getElem?_eq_some_iff.mp hst).1
    refine po_getS (by show (st ++ [[]])[t]? = _; rw [List.getElem?_append_left ht]; exact hst) ?_
    refine po_app (by have := hfl (c x); omega) (po_setS ?_)
    have ek : keysG c (pre ++ [x]) = keysG c pre := by
      rw [keysG_snoc]
      unfold kstep
      rw [if_pos q]
    rw [ek]
    refine ⟨hk, hd, ?_⟩
    rw [← rowsG_set keysG_nodup hkj]
    refine List.ext_getElem? fun i => ?_
    rw [List.getElem?_map, List.getElem?_map, List.getElem?_set]
    show (m[i]?).map (fun p => ((st ++ [[]]).set t ((pre.filter fun u => decide (c u = c x)) ++ [x]))[p.2]?) = _
    have hlen : (rowsG c (keysG c pre) pre).length = m.length := by
      have := congrArg List.length hv
      rw [List.length_map, List.length_map] at this
      exact this.symm
    by_cases e : j = i
    · subst e
      have hjl : j < m.length := (List.getElem?_eq_some_iff.mp hj).1
      rw [if_pos rfl, if_pos (by omega), hj]
      show some (((st ++ [[]]).set t _)[t]?) = _
      rw [List.getElem?_set_self (by rw [List.length_append]; omega)]
      rfl
    · rw [if_neg e]
      have hvi := congrArg (fun l => l[i]?) hv
      rw [List.getElem?_map, List.getElem?_map] at hvi
      rw [← hvi]
      cases ei : m[i]? with
      | none => rfl
      | some p =>
        have hp : p ∈ m := List.mem_of_getElem? ei
        have hpl : p.2 < st.length := h.lt hp
        have hne : t ≠ p.2 := by
          intro z
          have hi := (List.getElem?_eq_some_iff.mp ei).1
          have hjl := (List.getElem?_eq_some_iff.mp hj).1
          have a1 : (m.map (·.2))[j]? = some t := by rw [List.getElem?_map, hj]; rfl
          have a2 : (m.map (·.2))[i]? = some t := by rw [List.getElem?_map, ei, z]; rfl
          obtain ⟨b1, c1⟩ := List.getElem?_eq_some_iff.mp a1
          obtain ⟨b2, c2⟩ := List.getElem?_eq_some_iff.mp a2
          rcases Nat.lt_or_gt_of_ne e with l | l
          · exact List.pairwise_iff_getElem.mp hd _ _ b1 b2 l (by rw [c1, c2])
          · exact List.pairwise_iff_getElem.mp hd _ _ b2 b1 l (by rw [c1, c2])
        show some (((st ++ [[]]).set t _)[p.2]?) = some (st[p.2]?)
        rw [List.getElem?_set_ne hne, List.getElem?_append_left hpl]
  · have hm : mhas m (c x) = false := by
      cases z : mhas m (c x) with
      | false => rfl
      | true =>
        rw [mhas_keys] at z
        unfold mkeys at z
        rw [hk] at z
        exact absurd z q
    have e1 : msetd m (c x) st.length = m ++ [(c x, st.length)] := by
      unfold msetd
      rw [if_neg (by rw [hm]; decide), mput_new hm]
    rw [e1]
    have hg : mget (m ++ [(c x, st.length)]) (c x) = some st.length := by
      have : mget m (c x) = none := by
        have := mhas_mget m (c x)
        rw [hm] at this
        cases z : mget m (c x) with
        | none => rfl
        | some v => rw [z] at this; cases this
      rw [mget_append, this, mget_cons, if_pos rfl]
      rfl
    refine po_mgetE hg ?_
    refine po_getS (xs := []) (by show (st ++ [[]])[st.length]? = _; rw [List.getElem?_append_right (Nat.le_refl _)]; simp) ?_
    refine po_app (by decide) (po_setS ?_)
    have ek : keysG c (pre ++ [x]) = keysG c pre ++ [c x] := by
      rw [keysG_snoc]
      unfold kstep
      rw [if_neg q]
    have hf0 : (pre.filter fun u => decide (c u = c x)) = [] := by
      rw [List.filter_eq_nil_iff]
      intro t ht e
      exact q (keysG_mem.mpr ⟨t, ht, of_decide_eq_true e⟩)
    have er : rowsG c (keysG c pre ++ [c x]) (pre ++ [x]) = rowsG c (keysG c pre) pre ++ [[x]] := by
      have hn : (keysG c pre ++ [c x]).Nodup := by rw [← ek]; exact keysG_nodup
      have hj : (keysG c pre ++ [c x])[(keysG c pre).length]? = some (c x) := by
        rw [List.getElem?_append_right (Nat.le_refl _)]
        simp
      rw [← rowsG_set hn hj, rowsG_new q, hf0]
      have hl2 : (rowsG c (keysG c pre) pre).length = (keysG c pre).length := by unfold rowsG; rw [List.length_map]
      rw [← hl2, List.set_append_right _ _ (Nat.le_refl _)]
      simp
    rw [ek, er]
    refine ⟨?_, ?_, ?_⟩
    · show (m ++ [(c x, st.length)]).map (·.1) = _
      rw [List.map_append, hk]
      rfl
    · show ((m ++ [(c x, st.length)]).map (·.2)).Nodup
      rw [List.map_append, List.nodup_append]
      refine ⟨hd, by simp, fun a ha b hb e => ?_⟩
      obtain ⟨p, hp, rfl⟩ := List.mem_map.mp ha
      have hb' : b = st.length := by simpa using hb
      have hpl : p.2 < st.length := h.lt hp
      omega
    · show (m ++ [(c x, st.length)]).map (fun p => ((st ++ [[]]).set st.length ([] ++ [x]))[p.2]?) = _
      have es : (st ++ [[]]).set st.length ([] ++ [x]) = st ++ [[x]] := by
        rw [List.set_append_right _ _ (Nat.le_refl _)]
        simp
      rw [es, List.map_append, List.map_append, ← hv]
      congr 1
      · refine List.map_congr_left fun p hp => ?_
        rw [List.getElem?_append_left (h.lt hp)]
      · show [(st ++ [[x]])[st.length]?] = _
        rw [List.getElem?_append_right (Nat.le_refl _)]
        simp
theorem all_fars_ok {n : Int} {ts : List (Int × Int)} (h : WebOk n ts) : all_fars (n, ⟨ts⟩) = R.ok (tabL n ts) := by
  have hn1 := h.n1
  have hn := h.n60
  refine po_iff ?_
  unfold all_fars
  refine po_rng (by decide) (by decide) (by show -(2 ^ 62) ≤ n; omega) (by show n < 2 ^ 62; omega) ?_
  refine po_mapGE (g := fun p => (rng 0 n).map (dst n ts p)) (by show (rng 0 n).length < 100000; rw [rng_length]; omega) (fun p hp => ?_) rfl
  rw [fars_ok h (rng_mem.mp hp).1 (rng_mem.mp hp).2]
  rfl
theorem far_thing_ok {n p : Int} {ts : List (Int × Int)} {t : Thing} (h : WebOk n ts) (p0 : 0 ≤ p) (p1 : p < n) (ht : ThOk n ts t) : far_thing (tabL n ts) p t = R.ok (farT n ts p t) := by
  unfold far_thing
  cases t with
  | pl i =>
    show (asPl (.pl i) >>= _) = _
    rw [show asPl (.pl i) = R.ok i from rfl, ok_bind, tab_get p0 p1, ok_bind, row_get ht.1 ht.2]
    rfl
  | ti a b =>
    have hr := h.rg4 _ (show (a, b) ∈ ts from ht)
    show (asTi (.ti a b) >>= _) = _
    rw [show asTi (.ti a b) = R.ok (a, b) from rfl, ok_bind, tab_get p0 p1, ok_bind, row_get hr.1 hr.2.1, ok_bind, ok_bind, row_get hr.2.2.1 hr.2.2.2]
    rfl
/-- the parts of some things by how far they are, rising -/
def partsG (g : Thing → Int) (l : List Thing) : List (Int × Tup Thing) := (sortI (keysG g l)).map fun a => (a, ⟨l.filter fun t => decide (g t = a)⟩)
theorem parts_by_ok {n p : Int} {ts : List (Int × Int)} {l : List Thing} (h : WebOk n ts) (p0 : 0 ≤ p) (p1 : p < n) (hl : ∀ t ∈ l, ThOk n ts t) (hn : l.length < 1000) : parts_by (tabL n ts) ⟨l⟩ p = R.ok (partsG (farT n ts p) l) := by
  refine po_iff ?_
  unfold parts_by
  refine po_bind (po_foldP (fun pre (g : List (Int × Nat) × List (List Thing)) => GH (keysG (farT n ts p) pre) (rowsG (farT n ts p) (keysG (farT n ts p) pre) pre) g) ⟨rfl, List.Pairwise.nil, rfl⟩ ?_) ?_
  · rintro pre g x post e hg
    have e' : l = pre ++ x :: post := e
    rw [far_thing_ok h p0 p1 (hl x (by rw [e']; simp)), ok_bind]
    exact hg.step (by have := congrArg List.length e'; rw [List.length_append, List.length_cons] at this; omega)
  · rintro g hg
    have hk : g.1.map (·.1) = keysG (farT n ts p) l := hg.ks
    have hv : g.1.map (fun q => g.2[q.2]?) = (rowsG (farT n ts p) (keysG (farT n ts p) l) l).map some := hg.vals
    rw [hk]
    refine po_mapGE (g := fun a => (a, (⟨l.filter fun t => decide (farT n ts p t = a)⟩ : Tup Thing))) ?_ (fun a ha => ?_) rfl
    · rw [(sortI_perm _).length_eq]
      have := keysG_len (c := farT n ts p) (ts := l)
      omega
    · have ha' := (sortI_perm _).mem_iff.mp ha
      have hm : mhas g.1 a = true := by
        rw [mhas_keys]
        unfold mkeys
        rw [hk]
        exact ha'
      obtain ⟨j, v, hj, e⟩ := mget_at hm
      have hkj : (keysG (farT n ts p) l)[j]? = some a := by rw [← hk, List.getElem?_map, hj]; rfl
      have hst : g.2[v]? = some (l.filter fun t => decide (farT n ts p t = a)) := by
        have := congrArg (fun z => z[j]?) hv
        rw [List.getElem?_map, List.getElem?_map, hj, rowsG_get hkj] at this
        simpa using this
      refine po_iff ?_
      refine po_mgetE e (po_getS hst ?_)
      rfl
/-! ### the fewest asks, as a function -/
theorem partsG_mem {g : Thing → Int} {l : List Thing} {q : Int × Tup Thing} : q ∈ partsG g l ↔ (∃ t ∈ l, g t = q.1) ∧ q.2 = ⟨l.filter fun t => decide (g t = q.1)⟩ := by
  unfold partsG
  rw [List.mem_map]
  constructor
  · rintro ⟨a, ha, rfl⟩
    exact ⟨keysG_mem.mp ((sortI_perm _).mem_iff.mp ha), rfl⟩
  · rintro ⟨h1, h2⟩
    exact ⟨q.1, (sortI_perm _).mem_iff.mpr (keysG_mem.mpr h1), by rw [← h2]⟩
theorem partsG_sub {g : Thing → Int} {l : List Thing} {q : Int × Tup Thing} (h : q ∈ partsG g l) : q.2.l.Sublist l := by
  rw [(partsG_mem.mp h).2]
  exact List.filter_sublist
theorem partsG_ne {g : Thing → Int} {l : List Thing} {q : Int × Tup Thing} (h : q ∈ partsG g l) : q.2.l ≠ [] := by
  obtain ⟨⟨t, ht, e⟩, h2⟩ := partsG_mem.mp h
  rw [h2]
  exact List.ne_nil_of_mem (List.mem_filter.mpr ⟨ht, by rw [decide_eq_true_eq]; exact e⟩)
theorem partsG_nodup {g : Thing → Int} {l : List Thing} : ((partsG g l).map (·.1)).Nodup := by
  have e : (partsG g l).map (·.1) = sortI (keysG g l) := by
    unfold partsG
    rw [List.map_map]
    exact List.map_id _
  rw [e]
  exact ((sortI_perm _).nodup_iff).mpr keysG_nodup
theorem partsG_lt {g : Thing → Int} {l : List Thing} {q : Int × Tup Thing} (h1 : 1 < (partsG g l).length) (h : q ∈ partsG g l) : q.2.l.length < l.length := by
  obtain ⟨r, hr, hne⟩ : ∃ r ∈ partsG g l, r.1 ≠ q.1 := by
    have hd := partsG_nodup (g := g) (l := l)
    have h0 : (partsG g l)[0]? = some (partsG g l)[0] := List.getElem?_eq_getElem (by omega)
    have h1' : (partsG g l)[1]? = some (partsG g l)[1] := List.getElem?_eq_getElem h1
    have hd' := List.pairwise_iff_getElem.mp hd 0 1 (by rw [List.length_map]; omega) (by rw [List.length_map]; omega) (by omega)
    rw [List.getElem_map, List.getElem_map] at hd'
    by_cases c : (partsG g l)[0].1 = q.1
    · exact ⟨_, List.getElem_mem h1, fun z => hd' (c.trans z.symm)⟩
    · exact ⟨_, List.getElem_mem (by omega), c⟩
  obtain ⟨⟨t, ht, e⟩, _⟩ := partsG_mem.mp hr
  rw [(partsG_mem.mp h).2]
  refine List.length_filter_lt_length_iff_exists.mpr ⟨t, ht, ?_⟩
  rw [decide_eq_true_eq]
  exact fun z => hne (e.symm.trans z)
theorem partsG_len {g : Thing → Int} {l : List Thing} : (partsG g l).length ≤ l.length := by
  unfold partsG
  rw [List.length_map, (sortI_perm _).length_eq]
  exact keysG_len
def mxI (l : List Int) : Int := l.max?.getD 0
def ndStep (v : List Thing → Int) (f : Int → Thing → Int) (l : List Thing) (s : Int × Option Int) (p : Int) : Int × Option Int :=
  if 1 < (partsG (f p) l).length then
    if 1 + mxI ((partsG (f p) l).map fun q => v q.2.l) < s.1 ∨ s.2 = none then (1 + mxI ((partsG (f p) l).map fun q => v q.2.l), some p) else s
  else s
def ndB (v : List Thing → Int) (f : Int → Thing → Int) (l : List Thing) (ps : List Int) : Int × Option Int := ps.foldl (ndStep v f l) ((l.length : Int), none)
def nd (f : Int → Thing → Int) (n : Int) : Nat → List Thing → Int
  | 0, _ => 0
  | d + 1, l => if 1 < l.length then (ndB (nd f n d) f l (rng 0 n)).1 else 0
theorem ndB_congr {v w : List Thing → Int} {f : Int → Thing → Int} {l : List Thing} (h : ∀ q, q.length < l.length → v q = w q) (ps : List Int) : ndB v f l ps = ndB w f l ps := by
  have e : ndStep v f l = ndStep w f l := by
    funext s p
    unfold ndStep
    by_cases c : 1 < (partsG (f p) l).length
    · rw [if_pos c, if_pos c, List.map_congr_left (l := partsG (f p) l) (f := fun q => v q.2.l) (g := fun q => w q.2.l) fun q hq => h _ (partsG_lt c hq)]
    · rw [if_neg c, if_neg c]
  unfold ndB
  rw [e]
theorem nd_st {f : Int → Thing → Int} {n : Int} : ∀ (d d' : Nat) (l : List Thing), l.length ≤ d → l.length ≤ d' → nd f n d l = nd f n d' l
  | 0, 0, _, _, _ => rfl
  | 0, d' + 1, l, h, _ => by
    show 0 = if 1 < l.length then _ else 0
    rw [if_neg (by omega)]
  | d + 1, 0, l, _, h => by
    show (if 1 < l.length then _ else 0) = 0
    rw [if_neg (by omega)]
  | d + 1, d' + 1, l, h, h' => by
    show (if 1 < l.length then _ else 0) = if 1 < l.length then _ else 0
    rw [ndB_congr fun q hq => nd_st d d' q (by omega) (by omega)]
/-- the fewest asks for some things -/
def ndv (f : Int → Thing → Int) (n : Int) (l : List Thing) : Int := nd f n l.length l
theorem ndv_eq {f : Int → Thing → Int} {n : Int} (l : List Thing) : ndv f n l = if 1 < l.length then (ndB (ndv f n) f l (rng 0 n)).1 else 0 := by
  unfold ndv
  cases e : l.length with
  | zero => rfl
  | succ d =>
    show (if 1 < l.length then _ else 0) = _
    rw [e]
    by_cases c : 1 < d + 1
    · rw [if_pos c, if_pos c]
      rw [ndB_congr (v := nd f n d) (w := fun l => nd f n l.length l) fun q hq => nd_st d q.length q (by omega) (Nat.le_refl _)]
    · rw [if_neg c, if_neg c]
/-- the best place to ask at -/
def ndp (f : Int → Thing → Int) (n : Int) (l : List Thing) : Option Int := (ndB (ndv f n) f l (rng 0 n)).2
/-! ### Asking.need -/
def subsL : List Thing → List (List Thing)
  | [] => [[]]
  | x :: l => subsL l ++ (subsL l).map (x :: ·)
theorem subsL_len : ∀ l : List Thing, (subsL l).length = 2 ^ l.length
  | [] => rfl
  | x :: l => by
    show (subsL l ++ (subsL l).map (x :: ·)).length = 2 ^ (l.length + 1)
    rw [List.length_append, List.length_map, subsL_len l, Nat.pow_succ]
    omega
theorem subsL_mem {s l : List Thing} (h : s.Sublist l) : s ∈ subsL l := by
  induction h with
  | slnil => exact List.mem_singleton_self _
  | cons x _ ih => exact List.mem_append_left _ ih
  | cons_cons x _ ih => exact List.mem_append_right _ (List.mem_map.mpr ⟨_, ih, rfl⟩)
theorem keys_sub {ks : List (Tup Thing)} {base : List Thing} (hd : ks.Nodup) (hs : ∀ t ∈ ks, t.l.Sublist base) (hb : base.length ≤ 8) : ks.length ≤ 256 := by
  have h1 : (ks.map (·.l)).Nodup := List.pairwise_map.mpr (hd.imp fun {a b} hne e => hne (by
    cases a
    cases b
    exact congrArg Tup.mk e))
  have h2 := nodup_le h1 (ys := subsL base) fun x hx => by
    obtain ⟨t, ht, rfl⟩ := List.mem_map.mp hx
    exact subsL_mem (hs t ht)
  rw [List.length_map, subsL_len] at h2
  have h3 : 2 ^ base.length ≤ 2 ^ 8 := Nat.pow_le_pow_right (by decide) hb
  have h4 : (2 : Nat) ^ 8 = 256 := by decide
  omega
/-- what is reckoned already is right; P: what is under way -/
structure Memo (f : Int → Thing → Int) (n : Int) (base : List Thing) (P : Tup Thing → Prop) (least best : List (Tup Thing × Int)) : Prop where
  nd1 : (mkeys least).Nodup
  nd2 : (mkeys best).Nodup
  sub1 : ∀ t ∈ mkeys least, t.l.Sublist base
  sub2 : ∀ t ∈ mkeys best, t.l.Sublist base
  val : ∀ t v, mget least t = some v → v = ndv f n t.l
  bst : ∀ t ∈ mkeys least, 1 < t.l.length → mget best t = ndp f n t.l
  cl : ∀ t ∈ mkeys least, ∀ p ∈ rng 0 n, 1 < (partsG (f p) t.l).length → ∀ q ∈ partsG (f p) t.l, q.2 ∈ mkeys least
  new : ∀ t ∈ mkeys best, t ∈ mkeys least ∨ P t
  ne : ∀ t ∈ mkeys least, t.l ≠ []
theorem Memo.weak {f : Int → Thing → Int} {n : Int} {base : List Thing} {P Q : Tup Thing → Prop} {least best : List (Tup Thing × Int)} (m : Memo f n base P least best) (h : ∀ t, P t → Q t) : Memo f n base Q least best :=
  ⟨m.nd1, m.nd2, m.sub1, m.sub2, m.val, m.bst, m.cl, fun t ht => (m.new t ht).imp id (h t), m.ne⟩
theorem Memo.lenL {f : Int → Thing → Int} {n : Int} {base : List Thing} {P : Tup Thing → Prop} {least best : List (Tup Thing × Int)} (m : Memo f n base P least best) (hb : base.length ≤ 8) : least.length < 100000 := by
  have := keys_sub m.nd1 m.sub1 hb
  rw [mkeys_length] at this
  omega
theorem Memo.lenB {f : Int → Thing → Int} {n : Int} {base : List Thing} {P : Tup Thing → Prop} {least best : List (Tup Thing × Int)} (m : Memo f n base P least best) (hb : base.length ≤ 8) : best.length < 100000 := by
  have := keys_sub m.nd2 m.sub2 hb
  rw [mkeys_length] at this
  omega
theorem mkeys_put_mem {m : List (Tup Thing × Int)} {k j : Tup Thing} {v : Int} : j ∈ mkeys (mput m k v) ↔ j ∈ mkeys m ∨ j = k := by
  rw [mget_keys, mget_keys]
  constructor
  · rintro ⟨u, hu⟩
    rw [mget_mput] at hu
    by_cases c : j = k
    · exact .inr c
    · rw [if_neg c] at hu
      exact .inl ⟨u, hu⟩
  · intro hj
    by_cases c : j = k
    · exact ⟨v, by rw [mget_mput, if_pos c]⟩
    · rcases hj with ⟨u, hu⟩ | e
      · exact ⟨u, by rw [mget_mput, if_neg c]; exact hu⟩
      · exact absurd e c
/-- a best place is put for what is under way -/
theorem Memo.putB {f : Int → Thing → Int} {n : Int} {base : List Thing} {P : Tup Thing → Prop} {least best : List (Tup Thing × Int)} (m : Memo f n base P least best) {k : Tup Thing} {v : Int} (hk : k.l.Sublist base) (hP : P k) (hn : k ∉ mkeys least) : Memo f n base P least (mput best k v) :=
  ⟨m.nd1, mkeys_nodup m.nd2, m.sub1, fun t ht => (mkeys_put_mem.mp ht).elim (m.sub2 t) (fun e => e ▸ hk), m.val, fun t ht h1 => by
    rw [mget_mput, if_neg (fun e : t = k => hn (e ▸ ht))]
    exact m.bst t ht h1, m.cl, fun t ht => (mkeys_put_mem.mp ht).elim (m.new t) (fun e => .inr (e ▸ hP)), m.ne⟩
/-- what was under way is done -/
theorem Memo.putL {f : Int → Thing → Int} {n : Int} {base : List Thing} {P : Tup Thing → Prop} {least best : List (Tup Thing × Int)} {k : Tup Thing} (m : Memo f n base (fun t => P t ∨ t = k) least best) (hk : k.l.Sublist base) (hne : k.l ≠ [])
    (hb : 1 < k.l.length → mget best k = ndp f n k.l) (hc : ∀ p ∈ rng 0 n, 1 < (partsG (f p) k.l).length → ∀ q ∈ partsG (f p) k.l, q.2 ∈ mkeys least) : Memo f n base P (mput least k (ndv f n k.l)) best :=
  ⟨mkeys_nodup m.nd1, m.nd2, fun t ht => (mkeys_put_mem.mp ht).elim (m.sub1 t) (fun e => e ▸ hk), m.sub2, fun t v hv => by
    rw [mget_mput] at hv
    by_cases c : t = k
    · rw [if_pos c] at hv
      rw [c]
      exact (Option.some.inj hv).symm
    · rw [if_neg c] at hv
      exact m.val t v hv, fun t ht h1 => by
    rcases mkeys_put_mem.mp ht with h | e
    · exact m.bst t h h1
    · subst e
      exact hb h1, fun t ht p hp h1 q hq => by
    refine mkeys_put_mem.mpr (.inl ?_)
    rcases mkeys_put_mem.mp ht with h | e
    · exact m.cl t h p hp h1 q hq
    · subst e
      exact hc p hp h1 q hq, fun t ht => by
    rcases m.new t ht with h | h | h
    · exact .inl (mkeys_put_mem.mpr (.inl h))
    · exact .inr h
    · exact .inl (mkeys_put_mem.mpr (.inr h)), fun t ht => (mkeys_put_mem.mp ht).elim (m.ne t) (fun e => e ▸ hne)⟩
theorem maxL_mx {l : List Int} (h : l ≠ []) : maxL l = R.ok (mxI l) := by
  obtain ⟨m, em⟩ : ∃ m, l.max? = some m := Option.isSome_iff_exists.mp (by rw [List.isSome_max?_iff]; exact h)
  unfold maxL mxI
  rw [em]
  rfl
theorem ndB_snoc {v : List Thing → Int} {f : Int → Thing → Int} {l : List Thing} {ps : List Int} {p : Int} : ndB v f l (ps ++ [p]) = ndStep v f l (ndB v f l ps) p := by
  unfold ndB
  rw [List.foldl_append]
  rfl
theorem ndStep_no {v : List Thing → Int} {f : Int → Thing → Int} {l : List Thing} {s : Int × Option Int} {p : Int} (h : ¬1 < (partsG (f p) l).length) : ndStep v f l s p = s := by
  unfold ndStep
  rw [if_neg h]
theorem ndStep_yes {v : List Thing → Int} {f : Int → Thing → Int} {l : List Thing} {s : Int × Option Int} {p : Int} (h : 1 < (partsG (f p) l).length) : ndStep v f l s p = if 1 + mxI ((partsG (f p) l).map fun q => v q.2.l) < s.1 ∨ s.2 = none then (1 + mxI ((partsG (f p) l).map fun q => v q.2.l), some p) else s := by
  unfold ndStep
  rw [if_pos h]
theorem tabL_len {n : Int} {ts : List (Int × Int)} (n0 : 0 ≤ n) : ((tabL n ts).length : Int) = n := by
  unfold tabL
  rw [List.length_map, rng_length]
  omega
structure NeedOk (f : Int → Thing → Int) (n : Int) (base : List Thing) (P : Tup Thing → Prop) (l : List Thing) (least best : List (Tup Thing × Int)) (r : Int × List (Tup Thing × Int) × List (Tup Thing × Int)) : Prop where
  val : r.1 = ndv f n l
  memo : Memo f n base P r.2.1 r.2.2
  mem : (⟨l⟩ : Tup Thing) ∈ mkeys r.2.1
  keep : ∀ t ∈ mkeys least, t ∈ mkeys r.2.1
  way : ∀ t, P t → (t ∈ mkeys r.2.1 → t ∈ mkeys least) ∧ mget r.2.2 t = mget best t
theorem need_ok {n : Int} {ts : List (Int × Int)} {base : List Thing} (h : WebOk n ts) (hb : base.length ≤ 8) (hbt : ∀ t ∈ base, ThOk n ts t) : ∀ (d : Nat) (l : List Thing) (P : Tup Thing → Prop) (least best : List (Tup Thing × Int)), l.length ≤ d → l ≠ [] → l.Sublist base → Memo (farT n ts) n base P least best → (∀ t, P t → l.length < t.l.length) →
    Post (Asking_need d (tabL n ts, least, best, ()) ⟨l⟩) (NeedOk (farT n ts) n base P l least best) noX
  | 0, l, _, _, _, hd, hne, _, _, _ => absurd (List.eq_nil_of_length_eq_zero (by omega)) hne
  | d + 1, l, P, least, best, hd, hne, hs, m, hP => by
    have hn1 := h.n1
    have hn := h.n60
    have hll : l.length ≤ 8 := Nat.le_trans hs.length_le hb
    show Post (Asking_need_b (Asking_need d) (tabL n ts, least, best, ()) ⟨l⟩) _ _
    unfold Asking_need_b
    dsimp only
    by_cases c : mhas least (⟨l⟩ : Tup Thing) = true
    · rw [if_pos c]
      have hk := mhas_keys.mp c
      obtain ⟨v, hv⟩ := mget_keys.mp hk
      refine po_mgetE hv ?_
      exact ⟨m.val _ _ hv, m, hk, fun _ z => z, fun t _ => ⟨fun z => z, rfl⟩⟩
    · rw [if_neg c]
      have hk : (⟨l⟩ : Tup Thing) ∉ mkeys least := fun z => c (mhas_keys.mpr z)
      have hPl : ¬P ⟨l⟩ := fun z => Nat.lt_irrefl _ (hP _ z)
      have hbn : mget best (⟨l⟩ : Tup Thing) = none := by
        cases e : mget best (⟨l⟩ : Tup Thing) with
        | none => rfl
        | some v => exact ((m.new _ (mget_keys.mpr ⟨v, e⟩)).elim hk hPl).elim
      have m' : Memo (farT n ts) n base (fun t => P t ∨ t = ⟨l⟩) least best := m.weak fun t z => .inl z
      refine po_bind (Q := fun (g9 : Int × List (Tup Thing × Int) × List (Tup Thing × Int)) => g9.1 = ndv (farT n ts) n l ∧ Memo (farT n ts) n base (fun t => P t ∨ t = ⟨l⟩) g9.2.1 g9.2.2 ∧ (∀ t ∈ mkeys least, t ∈ mkeys g9.2.1) ∧ (∀ t, P t → (t ∈ mkeys g9.2.1 → t ∈ mkeys least) ∧ mget g9.2.2 t = mget best t) ∧
        (1 < l.length → mget g9.2.2 (⟨l⟩ : Tup Thing) = ndp (farT n ts) n l) ∧ (∀ p ∈ rng 0 n, 1 < (partsG (farT n ts p) l).length → ∀ q ∈ partsG (farT n ts p) l, q.2 ∈ mkeys g9.2.1)) ?_ ?_
      · by_cases c1 : 1 < l.length
        · rw [if_pos (decide_eq_true (by omega : (1 : Int) < (l.length : Int)))]
          rw [tabL_len (by omega)]
          refine po_rng (by decide) (by decide) (by show -(2 ^ 62) ≤ n; omega) (by show n < 2 ^ 62; omega) ?_
          refine po_bind (po_foldP (fun pre (g : Int × List (Tup Thing × Int) × List (Tup Thing × Int)) => g.1 = (ndB (ndv (farT n ts) n) (farT n ts) l pre).1 ∧ mget g.2.2 (⟨l⟩ : Tup Thing) = (ndB (ndv (farT n ts) n) (farT n ts) l pre).2 ∧
            Memo (farT n ts) n base (fun t => P t ∨ t = ⟨l⟩) g.2.1 g.2.2 ∧ (⟨l⟩ : Tup Thing) ∉ mkeys g.2.1 ∧ (∀ t ∈ mkeys least, t ∈ mkeys g.2.1) ∧ (∀ t, P t → (t ∈ mkeys g.2.1 → t ∈ mkeys least) ∧ mget g.2.2 t = mget best t) ∧
            (∀ p ∈ pre, 1 < (partsG (farT n ts p) l).length → ∀ q ∈ partsG (farT n ts p) l, q.2 ∈ mkeys g.2.1)) ⟨rfl, hbn, m', hk, fun _ z => z, fun t _ => ⟨fun z => z, rfl⟩, fun p z => nomatch z⟩ ?_) ?_
          · rintro pre g x post e ⟨i1, i2, i3, i4, i5, i6, i7⟩
            have hx : x ∈ rng 0 n := by rw [e]; simp
            obtain ⟨x0, x1⟩ := rng_mem.mp hx
            rw [parts_by_ok h x0 x1 (fun t ht => hbt t (hs.subset ht)) (by omega), ok_bind, ndB_snoc]
            by_cases c2 : 1 < (partsG (farT n ts x) l).length
            · rw [if_pos (decide_eq_true (by omega : (1 : Int) < ((partsG (farT n ts x) l).length : Int)))]
              rw [ndStep_yes c2]
              have hpl : (partsG (farT n ts x) l).length < 100000 := by
                unfold partsG
                rw [List.length_map, (sortI_perm _).length_eq]
                have := keysG_len (c := farT n ts x) (ts := l)
                omega
              refine po_bind (po_mapStA (fun (p2 : List (Int × Tup Thing)) (acc : List Int) (s : List (Tup Thing × Int) × List (Tup Thing × Int)) => acc = p2.map (fun q => ndv (farT n ts) n q.2.l) ∧ Memo (farT n ts) n base (fun t => P t ∨ t = ⟨l⟩) s.1 s.2 ∧
                (∀ t ∈ mkeys g.2.1, t ∈ mkeys s.1) ∧ (∀ t, (P t ∨ t = ⟨l⟩) → (t ∈ mkeys s.1 → t ∈ mkeys g.2.1) ∧ mget s.2 t = mget g.2.2 t) ∧ ∀ q ∈ p2, q.2 ∈ mkeys s.1) hpl ⟨rfl, i3, fun _ z => z, fun t _ => ⟨fun z => z, rfl⟩, fun _ z => nomatch z⟩ ?_) ?_
              · rintro p2 acc s q post2 e2 ⟨j1, j2, j3, j4, j5⟩
                have hq : q ∈ partsG (farT n ts x) l := by rw [e2]; simp
                have hlt := partsG_lt c2 hq
                refine po_bind (need_ok h hb hbt d q.2.l (fun t => P t ∨ t = ⟨l⟩) s.1 s.2 (by omega) (partsG_ne hq) ((partsG_sub hq).trans hs) j2 (fun t z => z.elim (fun z => Nat.lt_trans hlt (hP t z)) (fun z => by rw [z]; exact hlt))) fun r hr => ?_
                refine ⟨?_, hr.memo, fun t z => hr.keep t (j3 t z), fun t z => ⟨fun y => (j4 t z).1 ((hr.way t z).1 y), (hr.way t z).2.trans (j4 t z).2⟩, fun q' hq' => ?_⟩
                · rw [j1, hr.val, List.map_append]
                  rfl
                · rcases List.mem_append.mp hq' with z | z
                  · exact hr.keep _ (j5 q' z)
                  · rw [List.mem_singleton.mp z]
                    exact hr.mem
              · rintro y ⟨j1, j2, j3, j4, j5⟩
                have hne2 : y.1 ≠ [] := by
                  rw [j1]
                  intro z
                  have := congrArg List.length z
                  rw [List.length_map, List.length_nil] at this
                  omega
                rw [maxL_mx hne2, ok_bind, j1]
                have hl' : (⟨l⟩ : Tup Thing) ∉ mkeys y.2.1 := fun z => i4 ((j4 _ (.inr rfl)).1 z)
                have all : ∀ p ∈ pre ++ [x], 1 < (partsG (farT n ts p) l).length → ∀ q ∈ partsG (farT n ts p) l, q.2 ∈ mkeys y.2.1 := fun p z w q hq => by
                  rcases List.mem_append.mp z with z | z
                  · exact j3 _ (i7 p z w q hq)
                  · rw [List.mem_singleton.mp z] at hq
                    exact j5 q hq
                have e6 : mhas y.2.2 (⟨l⟩ : Tup Thing) = (ndB (ndv (farT n ts) n) (farT n ts) l pre).2.isSome := by
                  rw [mhas_mget, (j4 _ (.inr rfl)).2, i2]
                by_cases c3 : 1 + mxI ((partsG (farT n ts x) l).map fun q => ndv (farT n ts) n q.2.l) < (ndB (ndv (farT n ts) n) (farT n ts) l pre).1 ∨ (ndB (ndv (farT n ts) n) (farT n ts) l pre).2 = none
                · rw [if_pos c3]
                  rw [if_pos (by
                    rw [e6, i1, Bool.or_eq_true, decide_eq_true_eq]
                    rcases c3 with z | z
                    · exact .inl z
                    · exact .inr (by rw [z]; rfl))]
                  refine po_mput (j2.lenB hb) ?_
                  refine ⟨rfl, by rw [mget_mput, if_pos rfl], j2.putB hs (.inr rfl) hl', hl', fun t z => j3 t (i5 t z), fun t z => ⟨fun u => (i6 t z).1 ((j4 t (.inl z)).1 u), ?_⟩, fun p z w q hq => ?_⟩
                  · rw [mget_mput, if_neg (fun u : t = ⟨l⟩ => hPl (u ▸ z)), (j4 t (.inl z)).2, (i6 t z).2]
                  · exact all p z w q hq
                · rw [if_neg c3]
                  rw [if_neg (by
                    rw [e6, i1, Bool.or_eq_true, decide_eq_true_eq]
                    rintro (z | z)
                    · exact c3 (.inl z)
                    · refine c3 (.inr ?_)
                      cases w : (ndB (ndv (farT n ts) n) (farT n ts) l pre).2 with
                      | none => rfl
                      | some u => rw [w] at z; cases z)]
                  exact ⟨i1, (j4 _ (.inr rfl)).2.trans i2, j2, hl', fun t z => j3 t (i5 t z), fun t z => ⟨fun u => (i6 t z).1 ((j4 t (.inl z)).1 u), (j4 t (.inl z)).2.trans (i6 t z).2⟩, all⟩
            · rw [if_neg (by rw [decide_eq_true_eq]; omega)]
              rw [ndStep_no c2]
              exact ⟨i1, i2, i3, i4, i5, i6, fun p z w q hq => by
                rcases List.mem_append.mp z with z | z
                · exact i7 p z w q hq
                · rw [List.mem_singleton.mp z] at w
                  exact absurd w c2⟩
          · rintro g ⟨i1, i2, i3, i4, i5, i6, i7⟩
            refine ⟨?_, i3, i5, i6, fun _ => i2, i7⟩
            rw [ndv_eq, if_pos c1]
            exact i1
        · rw [if_neg (by rw [decide_eq_true_eq]; omega)]
          refine ⟨?_, m', fun _ z => z, fun t _ => ⟨fun z => z, rfl⟩, fun z => absurd z c1, fun p _ w q hq => absurd (Nat.le_trans w partsG_len) c1⟩
          rw [ndv_eq, if_neg c1]
      · rintro g ⟨i1, i2, i3, i4, i5, i6⟩
        refine po_mput (i2.lenL hb) ?_
        rw [i1]
        refine ⟨rfl, i2.putL (k := ⟨l⟩) hs hne i5 i6, mkeys_put_mem.mpr (.inr rfl), fun t z => mkeys_put_mem.mpr (.inl (i3 t z)), fun t z => ⟨fun y => ?_, (i4 t z).2⟩⟩
        rcases mkeys_put_mem.mp y with y | y
        · exact (i4 t z).1 y
        · exact absurd (y ▸ z) hPl
/-! ### what the fewest asks are -/
theorem ndB_inv {v : List Thing → Int} {f : Int → Thing → Int} {l : List Thing} (ps : List Int) : ((ndB v f l ps).2 = none → ∀ p ∈ ps, ¬1 < (partsG (f p) l).length) ∧ (∀ p, (ndB v f l ps).2 = some p → p ∈ ps ∧ 1 < (partsG (f p) l).length ∧ (ndB v f l ps).1 = 1 + mxI ((partsG (f p) l).map fun q => v q.2.l) ∧
    ∀ p' ∈ ps, 1 < (partsG (f p') l).length → (ndB v f l ps).1 ≤ 1 + mxI ((partsG (f p') l).map fun q => v q.2.l)) := by
  induction ps using snoc_ind with
  | h0 => exact ⟨fun _ _ z => (nomatch z), fun p z => (by cases z)⟩
  | hs ps x ih =>
    rw [ndB_snoc]
    obtain ⟨h1, h2⟩ := ih
    by_cases c : 1 < (partsG (f x) l).length
    · rw [ndStep_yes c]
      by_cases c3 : 1 + mxI ((partsG (f x) l).map fun q => v q.2.l) < (ndB v f l ps).1 ∨ (ndB v f l ps).2 = none
      · rw [if_pos c3]
        refine ⟨fun z => (by cases z), fun p z => ?_⟩
        obtain rfl : x = p := Option.some.inj z
        refine ⟨by simp, c, rfl, fun p' hp' c' => ?_⟩
        show 1 + mxI ((partsG (f x) l).map fun q => v q.2.l) ≤ _
        rcases List.mem_append.mp hp' with y | y
        · cases e : (ndB v f l ps).2 with
          | none => exact absurd c' (h1 e p' y)
          | some p0 =>
            have := (h2 p0 e).2.2.2 p' y c'
            rcases c3 with w | w
            · omega
            · rw [e] at w
              cases w
        · rw [List.mem_singleton.mp y]
          exact Int.le_refl _
      · rw [if_neg c3]
        refine ⟨fun z => absurd (.inr z) c3, fun p z => ?_⟩
        obtain ⟨a1, a2, a3, a4⟩ := h2 p z
        refine ⟨List.mem_append_left _ a1, a2, a3, fun p' hp' c' => ?_⟩
        rcases List.mem_append.mp hp' with y | y
        · exact a4 p' y c'
        · rw [List.mem_singleton.mp y]
          exact Int.not_lt.mp fun w => c3 (.inl w)
    · rw [ndStep_no c]
      refine ⟨fun z p hp => ?_, fun p z => ?_⟩
      · rcases List.mem_append.mp hp with y | y
        · exact h1 z p y
        · rw [List.mem_singleton.mp y]
          exact c
      · obtain ⟨a1, a2, a3, a4⟩ := h2 p z
        refine ⟨List.mem_append_left _ a1, a2, a3, fun p' hp' c' => ?_⟩
        rcases List.mem_append.mp hp' with y | y
        · exact a4 p' y c'
        · rw [List.mem_singleton.mp y] at c'
          exact absurd c' c
theorem mxI_mem {l : List Int} (h : l ≠ []) : mxI l ∈ l ∧ ∀ x ∈ l, x ≤ mxI l := by
  obtain ⟨m, em⟩ : ∃ m, l.max? = some m := Option.isSome_iff_exists.mp (by rw [List.isSome_max?_iff]; exact h)
  obtain ⟨h1, h2⟩ := List.max?_eq_some_iff.mp em
  unfold mxI
  rw [em]
  exact ⟨h1, h2⟩
/-- things that some place parts, part by part -/
def Sep (f : Int → Thing → Int) (n : Int) (l : List Thing) : Prop := ∀ x ∈ l, ∀ y ∈ l, x ≠ y → ∃ p ∈ rng 0 n, f p x ≠ f p y
theorem split_of {g : Thing → Int} {l : List Thing} {x y : Thing} (hx : x ∈ l) (hy : y ∈ l) (h : g x ≠ g y) : 1 < (partsG g l).length := by
  have e : (partsG g l).length = (keysG g l).length := by
    unfold partsG
    rw [List.length_map, (sortI_perm _).length_eq]
  rw [e]
  have h1 : g x ∈ keysG g l := keysG_mem.mpr ⟨x, hx, rfl⟩
  have h2 : g y ∈ keysG g l := keysG_mem.mpr ⟨y, hy, rfl⟩
  match hk : keysG g l, h1, h2 with
  | [], h1, _ => cases h1
  | [a], h1, h2 =>
    rw [List.mem_singleton] at h1 h2
    exact absurd (h1.trans h2.symm) h
  | _ :: _ :: _, _, _ => exact Nat.lt_of_lt_of_le (by decide : 1 < 2) (by rw [List.length_cons, List.length_cons]; omega)
theorem Sep.sub {f : Int → Thing → Int} {n : Int} {l l' : List Thing} (h : Sep f n l) (hs : ∀ x ∈ l', x ∈ l) : Sep f n l' := fun x hx y hy => h x (hs x hx) y (hs y hy)
theorem Sep.ndp {f : Int → Thing → Int} {n : Int} {l : List Thing} (h : Sep f n l) (hd : l.Nodup) (h1 : 1 < l.length) : ∃ p, ndp f n l = some p ∧ p ∈ rng 0 n ∧ 1 < (partsG (f p) l).length ∧ ndv f n l = 1 + mxI ((partsG (f p) l).map fun q => ndv f n q.2.l) ∧
    ∀ p' ∈ rng 0 n, 1 < (partsG (f p') l).length → ndv f n l ≤ 1 + mxI ((partsG (f p') l).map fun q => ndv f n q.2.l) := by
  obtain ⟨a1, a2⟩ := ndB_inv (v := ndv f n) (f := f) (l := l) (rng 0 n)
  have e : ndv f n l = (ndB (ndv f n) f l (rng 0 n)).1 := by rw [ndv_eq, if_pos h1]
  cases c : (ndB (ndv f n) f l (rng 0 n)).2 with
  | none =>
    match l, hd, h1 with
    | x :: y :: l, hd, _ =>
      have hne : x ≠ y := fun z => by
        rw [List.nodup_cons] at hd
        exact hd.1 (z ▸ List.mem_cons_self)
      obtain ⟨p, hp, hf⟩ := h x (by simp) y (by simp) hne
      exact absurd (split_of (by simp) (by simp) hf) (a1 c p hp)
    | [], _, h1 => exact absurd h1 (Nat.not_lt_zero 1)
    | [_], _, h1 => exact absurd h1 (Nat.lt_irrefl 1)
  | some p =>
    obtain ⟨b1, b2, b3, b4⟩ := a2 p c
    rw [e]
    exact ⟨p, c, b1, b2, b3, b4⟩
/-! ### the plan -/
def planG (f : Int → Thing → Int) (n : Int) : Nat → List Thing → Pl
  | 0, l => .is (l.headD (.pl 0))
  | d + 1, l => if l.length = 1 then .is (l.headD (.pl 0)) else .ask ((ndp f n l).getD 0) ((partsG (f ((ndp f n l).getD 0)) l).map fun q => (q.1, planG f n d q.2.l))
theorem plan_ok {n : Int} {ts : List (Int × Int)} {base : List Thing} {least best : List (Tup Thing × Int)} {P : Tup Thing → Prop} (h : WebOk n ts) (hb : base.length ≤ 8) (hbt : ∀ t ∈ base, ThOk n ts t) (hnd : base.Nodup) (hsep : Sep (farT n ts) n base) (m : Memo (farT n ts) n base P least best) :
    ∀ (d : Nat) (l : List Thing), l.length ≤ d → l ≠ [] → l.Sublist base → (⟨l⟩ : Tup Thing) ∈ mkeys least → Asking_plan d (tabL n ts, least, best, ()) ⟨l⟩ = R.ok (planG (farT n ts) n d l)
  | 0, l, hd, hne, _, _ => absurd (List.eq_nil_of_length_eq_zero (by omega)) hne
  | d + 1, l, hd, hne, hs, hm => by
    have hll : l.length ≤ 8 := Nat.le_trans hs.length_le hb
    show Asking_plan_b (Asking_plan d) (tabL n ts, least, best, ()) ⟨l⟩ = R.ok (if l.length = 1 then _ else _)
    unfold Asking_plan_b
    dsimp only
    by_cases c : l.length = 1
    · rw [if_pos (decide_eq_true (by omega)), if_pos c]
      match l, c with
      | [t], _ => rfl
    · have h1 : 1 < l.length := by
        have := List.length_pos_iff.mpr hne
        omega
      rw [if_neg (by rw [decide_eq_true_eq]; omega), if_neg c]
      obtain ⟨p, hp, hpr, hsp, _, _⟩ := (hsep.sub fun x hx => hs.subset hx).ndp (hnd.sublist hs) h1
      obtain ⟨p0, p1⟩ := rng_mem.mp hpr
      have e := m.bst _ hm h1
      rw [hp] at e ⊢
      show (mgetR best (⟨l⟩ : Tup Thing) >>= _) = R.ok (Pl.ask p ((partsG (farT n ts p) l).map fun q => (q.1, planG (farT n ts) n d q.2.l)))
      refine po_iff (po_mgetE e ?_)
      rw [parts_by_ok h p0 p1 (fun t ht => hbt t (hs.subset ht)) (by omega), ok_bind]
      have hpl := partsG_len (g := farT n ts p) (l := l)
      refine po_mapGE (g := fun (q : Int × Tup Thing) => (q.1, planG (farT n ts) n d q.2.l)) (by omega) (fun q hq => ?_) rfl
      have hlt := partsG_lt hsp hq
      show (Asking_plan d (tabL n ts, least, best, ()) q.2 >>= _) = _
      rw [show q.2 = (⟨q.2.l⟩ : Tup Thing) from rfl, plan_ok h hb hbt hnd hsep m d q.2.l (by omega) (partsG_ne hq) ((partsG_sub hq).trans hs) (m.cl _ hm p hpr hsp q hq)]
      rfl
theorem zip_map_self {α β : Type} (l : List α) (g : α → β) : l.zip (l.map g) = l.map fun x => (x, g x) := by
  induction l with
  | nil => rfl
  | cons x l ih => rw [List.map_cons, List.zip_cons_cons, ih, List.map_cons]
theorem ndv_one {f : Int → Thing → Int} {n : Int} {l : List Thing} (h : ¬1 < l.length) : ndv f n l = 0 := by rw [ndv_eq, if_neg h]
theorem asks_is (rc : List (List Int) → Tup Thing → Pl → R (Option Int)) (F : List (List Int)) (t : Thing) : asks_of_b rc F ⟨[t]⟩ (.is t) = R.ok (some 0) := by
  unfold asks_of_b
  have e1 : decide (((Pl.is t).lenN : Int) = 2) = true := decide_eq_true (by rfl)
  have e2 : decide ((Pl.is t).w = ("is" : Str)) = true := decide_eq_true (by rfl)
  rw [e1, if_pos rfl, e2, ok_bind, if_pos rfl, show asIs (.is t) = R.ok t from rfl, ok_bind, decide_eq_true rfl]
  rfl
theorem asks_ask (rc : List (List Int) → Tup Thing → Pl → R (Option Int)) (F : List (List Int)) (l : Tup Thing) (p : Int) (L : List (Int × Pl)) : asks_of_b rc F l (.ask p L) = plan_of_parts rc F l (.ask p L) := by
  unfold asks_of_b
  have e1 : decide (((Pl.ask p L).lenN : Int) = 2) = false := decide_eq_false (by show ¬((3 : Int) = 2); decide)
  have e2 : decide (((Pl.ask p L).lenN : Int) = 3) = true := decide_eq_true (by rfl)
  have e3 : decide ((Pl.ask p L).w = ("ask" : Str)) = true := decide_eq_true (by rfl)
  have n1 : ¬(false = true) := by decide
  rw [e1, if_neg n1, ok_bind, if_neg n1, e2, if_pos rfl, e3, ok_bind, if_pos rfl, show asAsk (.ask p L) = R.ok (p, L) from rfl, ok_bind]
  cases plan_of_parts rc F l (.ask p L) <;> rfl
theorem asks_of_ok {n : Int} {ts : List (Int × Int)} {base : List Thing} (h : WebOk n ts) (hb : base.length ≤ 8) (hbt : ∀ t ∈ base, ThOk n ts t) (hnd : base.Nodup) (hsep : Sep (farT n ts) n base) :
    ∀ (d d' : Nat) (l : List Thing), l.length ≤ d → l.length ≤ d' → l ≠ [] → l.Sublist base → asks_of d (tabL n ts) ⟨l⟩ (planG (farT n ts) n d' l) = R.ok (some (ndv (farT n ts) n l)) := by
  intro d
  induction d with
  | zero =>
    intro d' l hd _ hne _
    exact absurd (List.eq_nil_of_length_eq_zero (by omega)) hne
  | succ d ih =>
    intro d' l hd hd' hne hs
    obtain ⟨d', rfl⟩ : ∃ e, d' = e + 1 := ⟨d' - 1, by
      have := List.length_pos_iff.mpr hne
      omega⟩
    have hn1 := h.n1
    have hn := h.n60
    have hll : l.length ≤ 8 := Nat.le_trans hs.length_le hb
    show asks_of_b (asks_of d) (tabL n ts) ⟨l⟩ (if l.length = 1 then _ else _) = _
    by_cases c : l.length = 1
    · rw [if_pos c, ndv_one (by omega)]
      match l, c with
      | [t], _ =>
        exact asks_is _ _ t
    · have h1 : 1 < l.length := by
        have := List.length_pos_iff.mpr hne
        omega
      rw [if_neg c]
      obtain ⟨p, hp, hpr, hsp, hv, _⟩ := (hsep.sub fun x hx => hs.subset hx).ndp (hnd.sublist hs) h1
      obtain ⟨p0, p1⟩ := rng_mem.mp hpr
      rw [hp, hv]
      refine (asks_ask _ _ ⟨l⟩ p _).trans ?_
      have hpl := partsG_len (g := farT n ts p) (l := l)
      have key : plan_of_parts (asks_of d) (tabL n ts) ⟨l⟩ (Pl.ask p ((partsG (farT n ts p) l).map fun q => (q.1, planG (farT n ts) n d' q.2.l))) = R.ok (some (1 + mxI ((partsG (farT n ts p) l).map fun q => ndv (farT n ts) n q.2.l))) := by
        unfold plan_of_parts
        rw [show asAsk (Pl.ask p ((partsG (farT n ts p) l).map fun q => (q.1, planG (farT n ts) n d' q.2.l))) = R.ok (p, (partsG (farT n ts p) l).map fun q => (q.1, planG (farT n ts) n d' q.2.l)) from rfl, ok_bind, tabL_len (by omega)]
        refine po_iff (po_listRng (by decide) (by decide) (by show -(2 ^ 62) ≤ n; omega) (by show n < 2 ^ 62; omega) (by show (n - 0).toNat ≤ 100000; omega) ?_)
        rw [if_neg (by rw [inB_t.mpr hpr]; decide)]
        rw [parts_by_ok h p0 p1 (fun t ht => hbt t (hs.subset ht)) (by omega), ok_bind]
        rw [if_neg (by rw [decide_eq_true_eq]; omega)]
        rw [mapG_ok (g := fun (q : Int × Tup Thing) => q.1) (by omega) (fun _ _ => rfl), ok_bind]
        rw [mapG_ok (g := fun (q : Int × Pl) => q.1) (by rw [List.length_map]; omega) (fun _ _ => rfl), ok_bind, ok_bind]
        rw [List.map_map]
        rw [if_neg (by
          rw [decide_eq_true (by rfl)]
          decide)]
        rw [zip_map_self]
        rw [mapG_ok (g := fun (b : (Int × Tup Thing) × Int × Pl) => some (ndv (farT n ts) n b.1.2.l)) (by rw [List.length_map]; omega) (fun b hb' => by
          obtain ⟨q, hq, rfl⟩ := List.mem_map.mp hb'
          have hlt := partsG_lt hsp hq
          show (asks_of d (tabL n ts) ⟨q.2.l⟩ (planG (farT n ts) n d' q.2.l) >>= _) = _
          rw [ih d' q.2.l (by omega) (by omega) (partsG_ne hq) ((partsG_sub hq).trans hs)]
          rfl), ok_bind]
        have e : ((partsG (farT n ts p) l).map fun x => (x, (x.1, planG (farT n ts) n d' x.2.l))).map (fun (b : (Int × Tup Thing) × Int × Pl) => some (ndv (farT n ts) n b.1.2.l)) = ((partsG (farT n ts p) l).map fun q => ndv (farT n ts) n q.2.l).map some := by
          rw [List.map_map, List.map_map]
          rfl
        rw [e]
        rw [if_neg (fun z => by
          have := inB_t.mp z
          obtain ⟨_, _, w⟩ := List.mem_map.mp this
          cases w)]
        rw [allS_map, ok_bind, maxL_mx (fun z => by
          have := congrArg List.length z
          rw [List.length_map, List.length_nil] at this
          omega), ok_bind]
        rfl
      exact key
theorem kindT_nodup {n : Int} {ts : List (Int × Int)} {k : Str} (h : WebOk n ts) : (kindT n ts k).Nodup := by
  have h1 : (mkpl (rng 0 n)).Nodup := by
    unfold mkpl
    refine List.Pairwise.map _ (fun a b (e : a ≠ b) q => e ?_) (rng_nodup 0 n)
    injection q
  have h2 : (mkti ts).Nodup := by
    unfold mkti
    refine List.Pairwise.map _ (fun a b (e : a ≠ b) q => e ?_) h.nd
    injection q with q1 q2
    exact Prod.ext q1 q2
  unfold kindT
  split
  · exact h1
  · split
    · exact h2
    · unfold allT
      rw [List.nodup_append]
      refine ⟨h1, h2, fun a ha b hb e => ?_⟩
      obtain ⟨i, rfl, _⟩ := pl_mem.mp ha
      obtain ⟨c, d, rfl, _⟩ := ti_mem.mp hb
      cases e
/-! ### fewest_asks -/
def touch (p : Int) : Thing → Prop
  | .pl i => i = p
  | .ti a b => a = p ∨ b = p
theorem far_zero {n p : Int} {ts : List (Int × Int)} {t : Thing} (h : WebOk n ts) (p0 : 0 ≤ p) (p1 : p < n) (ht : ThOk n ts t) : farT n ts p t = 0 ↔ touch p t := by
  cases t with
  | pl i => exact dst_zero h p0 p1 ht.1 ht.2
  | ti a b =>
    have hr := h.rg4 _ (show (a, b) ∈ ts from ht)
    have za := dst_zero h p0 p1 hr.1 hr.2.1
    have zb := dst_zero h p0 p1 hr.2.2.1 hr.2.2.2
    have na := dst_nn h p0 p1 hr.1 hr.2.1
    have nb := dst_nn h p0 p1 hr.2.2.1 hr.2.2.2
    dsimp only at za zb na nb
    show min2 (dst n ts p a) (dst n ts p b) = 0 ↔ a = p ∨ b = p
    rw [← za, ← zb]
    show (if dst n ts p b < dst n ts p a then dst n ts p b else dst n ts p a) = 0 ↔ _
    by_cases c : dst n ts p b < dst n ts p a
    · rw [if_pos c]
      omega
    · rw [if_neg c]
      omega
theorem sep_all {n : Int} {ts : List (Int × Int)} (h : WebOk n ts) {l : List Thing} (hl : ∀ t ∈ l, ThOk n ts t) : Sep (farT n ts) n l := by
  intro X hX Y hY hne
  have oX := hl X hX
  have oY := hl Y hY
  have go : ∀ p, 0 ≤ p → p < n → ¬(touch p X ↔ touch p Y) → ∃ p ∈ rng 0 n, farT n ts p X ≠ farT n ts p Y := fun p p0 p1 hn => ⟨p, rng_mem.mpr ⟨p0, p1⟩, fun e => hn (by rw [← far_zero h p0 p1 oX, ← far_zero h p0 p1 oY, e])⟩
  cases X with
  | pl i =>
    cases Y with
    | pl j => exact go i oX.1 oX.2 (by show ¬(i = i ↔ j = i); exact fun z => hne (by rw [z.mp rfl]))
    | ti a b =>
      have hr := h.rg _ (show (a, b) ∈ ts from oY)
      dsimp only at hr
      by_cases c : i = a
      · exact go b (by omega) (by omega) (by show ¬(i = b ↔ (a = b ∨ b = b)); omega)
      · exact go a (by omega) (by omega) (by show ¬(i = a ↔ (a = a ∨ b = a)); omega)
  | ti a b =>
    have hr := h.rg _ (show (a, b) ∈ ts from oX)
    dsimp only at hr
    cases Y with
    | pl i =>
      by_cases c : i = a
      · exact go b (by omega) (by omega) (by show ¬((a = b ∨ b = b) ↔ i = b); omega)
      · exact go a (by omega) (by omega) (by show ¬((a = a ∨ b = a) ↔ i = a); omega)
    | ti c d =>
      have hs := h.rg _ (show (c, d) ∈ ts from oY)
      dsimp only at hs
      by_cases e : a = c ∨ a = d
      · by_cases e' : b = c ∨ b = d
        · refine absurd ?_ hne
          rw [show a = c by omega, show b = d by omega]
        · exact go b (by omega) (by omega) (by show ¬((a = b ∨ b = b) ↔ (c = b ∨ d = b)); omega)
      · exact go a (by omega) (by omega) (by show ¬((a = a ∨ b = a) ↔ (c = a ∨ d = a)); omega)
theorem few_things_ok {n : Int} {ts : List (Int × Int)} {k : Str} (h : WebOk n ts) (h7 : n ≤ 7) (h1 : 1 ≤ (kindT n ts k).length) (h8 : (kindT n ts k).length ≤ 8) : few_things (n, ⟨ts⟩) k = R.ok (kindT n ts k) := by
  unfold few_things
  rw [things_ok h, ok_bind]
  rw [if_neg (by
    dsimp only
    rw [Bool.or_eq_true, decide_eq_true_eq, decide_eq_true (by omega : (1 : Int) ≤ ((kindT n ts k).length : Int)), decide_eq_true (by omega : ((kindT n ts k).length : Int) ≤ 8)]
    rintro (z | z)
    · omega
    · exact absurd z (by decide))]
/-- the told table: sets of things that come by asking, each with its fewest asks -/
structure RowsOk (f : Int → Thing → Int) (n : Int) (l : List Thing) (rows : List (Tup Thing × Int)) : Prop where
  nd : (mkeys rows).Nodup
  sub : ∀ r ∈ rows, r.1.l.Sublist l ∧ r.1.l ≠ [] ∧ r.2 = ndv f n r.1.l
  all : (⟨l⟩ : Tup Thing) ∈ mkeys rows
  cl : ∀ t ∈ mkeys rows, ∀ p ∈ rng 0 n, 1 < (partsG (f p) t.l).length → ∀ q ∈ partsG (f p) t.l, q.2 ∈ mkeys rows
/-- what fewest_asks tells -/
structure FewOk (n : Int) (ts : List (Int × Int)) (l : List Thing) (r : Nt (Int × Pl × List (Tup Thing × Int) × Unit)) : Prop where
  asks : r.v.1 = ndv (farT n ts) n l
  plan : r.v.2.1 = planG (farT n ts) n 20 l
  rows : RowsOk (farT n ts) n l r.v.2.2.1
theorem RowsOk.perm {f : Int → Thing → Int} {n : Int} {l : List Thing} {a b : List (Tup Thing × Int)} (h : RowsOk f n l a) (hp : b.Perm a) : RowsOk f n l b := by
  have hk : (mkeys b).Perm (mkeys a) := by
    unfold mkeys
    exact hp.map _
  exact ⟨hk.nodup_iff.mpr h.nd, fun r hr => h.sub r (hp.mem_iff.mp hr), hk.mem_iff.mpr h.all, fun t ht p hp' h1 q hq => hk.mem_iff.mpr (h.cl t (hk.mem_iff.mp ht) p hp' h1 q hq)⟩
theorem rows_of {f : Int → Thing → Int} {n : Int} {l : List Thing} {P : Tup Thing → Prop} {least best : List (Tup Thing × Int)} {r : Int × List (Tup Thing × Int) × List (Tup Thing × Int)} (h : NeedOk f n l P l least best r) : RowsOk f n l ((mkeys r.2.1).map fun b => (b, (mget r.2.1 b).getD 0)) := by
  have e : mkeys ((mkeys r.2.1).map fun b => (b, (mget r.2.1 b).getD 0)) = mkeys r.2.1 := by
    show ((mkeys r.2.1).map _).map _ = _
    rw [List.map_map]
    exact List.map_id _
  refine ⟨by rw [e]; exact h.memo.nd1, fun x hx => ?_, by rw [e]; exact h.mem, by rw [e]; exact h.memo.cl⟩
  obtain ⟨t, ht, rfl⟩ := List.mem_map.mp hx
  obtain ⟨v, hv⟩ := mget_keys.mp ht
  refine ⟨h.memo.sub1 t ht, h.memo.ne t ht, ?_⟩
  show (mget r.2.1 t).getD 0 = _
  rw [hv]
  exact h.memo.val t v hv
theorem fewest_ok {n : Int} {ts : List (Int × Int)} {k : Str} (h : WebOk n ts) (h7 : n ≤ 7) (h1 : 1 ≤ (kindT n ts k).length) (h8 : (kindT n ts k).length ≤ 8) : Post (fewest_asks (n, ⟨ts⟩) k) (FewOk n ts (kindT n ts k)) noX := by
  have hok : ∀ t ∈ kindT n ts k, ThOk n ts t := fun t ht => kindT_ok ht
  have hne : kindT n ts k ≠ [] := fun z => by rw [z] at h1; exact absurd h1 (by decide)
  have hsep := sep_all h hok
  unfold fewest_asks
  rw [few_things_ok h h7 h1 h8, ok_bind]
  rw [show Asking_init (n, ⟨ts⟩) = R.ok (tabL n ts, [], [], ()) by unfold Asking_init; rw [all_fars_ok h]; rfl, ok_bind]
  have m0 : Memo (farT n ts) n (kindT n ts k) (fun _ => False) [] [] := ⟨List.Pairwise.nil, List.Pairwise.nil, fun _ z => (nomatch z), fun _ z => (nomatch z), fun _ _ z => (by cases z), fun _ z => (nomatch z), fun _ z => (nomatch z), fun _ z => (nomatch z), fun _ z => (nomatch z)⟩
  refine po_bind (need_ok h h8 hok 20 (kindT n ts k) (fun _ => False) [] [] (by omega) hne (List.Sublist.refl _) m0 (fun _ z => z.elim)) fun r hr => ?_
  have hlen := hr.memo.lenL h8
  refine po_mapGE (g := fun b => (b, ((mget r.2.1 b).getD 0))) (by rw [List.length_map]; exact hlen) (fun b hb => ?_) ?_
  · obtain ⟨v, hv⟩ := mget_keys.mp (show b ∈ mkeys r.2.1 from hb)
    refine po_iff (po_mgetE hv ?_)
    rw [hv]
    rfl
  · rw [plan_ok h h8 hok (kindT_nodup h) hsep hr.memo 20 (kindT n ts k) (by omega) hne (List.Sublist.refl _) hr.mem, ok_bind]
    rw [sortByR_ok (f := len_first) (g := fun b => (b.1.l.length : Int)) (fun _ _ => rfl), ok_bind]
    exact ⟨hr.val, rfl, (rows_of hr).perm (List.mergeSort_perm _ _)⟩
theorem plan_asks_ok {n : Int} {ts : List (Int × Int)} {k : Str} (h : WebOk n ts) (h7 : n ≤ 7) (h1 : 1 ≤ (kindT n ts k).length) (h8 : (kindT n ts k).length ≤ 8) : plan_asks (n, ⟨ts⟩) k (planG (farT n ts) n 20 (kindT n ts k)) = R.ok (some (ndv (farT n ts) n (kindT n ts k))) := by
  have hok : ∀ t ∈ kindT n ts k, ThOk n ts t := fun t ht => kindT_ok ht
  have hne : kindT n ts k ≠ [] := fun z => by rw [z] at h1; exact absurd h1 (by decide)
  unfold plan_asks
  rw [few_things_ok h h7 h1 h8, ok_bind, all_fars_ok h, ok_bind, asks_of_ok h h8 hok (kindT_nodup h) (sep_all h hok) 20 20 _ (by omega) (by omega) hne (List.Sublist.refl _)]
  rfl
/-! ### how many asks a thing takes along the plan -/
def dep (f : Int → Thing → Int) (n : Int) : Nat → List Thing → Thing → Int
  | 0, _, _ => 0
  | d + 1, l, t => if l.length = 1 then 0 else 1 + dep f n d (l.filter fun u => decide (f ((ndp f n l).getD 0) u = f ((ndp f n l).getD 0) t)) t
theorem part_of {g : Thing → Int} {l : List Thing} {t : Thing} (ht : t ∈ l) : (g t, (⟨l.filter fun u => decide (g u = g t)⟩ : Tup Thing)) ∈ partsG g l := partsG_mem.mpr ⟨⟨t, ht, rfl⟩, rfl⟩
theorem dep_ok {f : Int → Thing → Int} {n : Int} : ∀ (d : Nat) (l : List Thing), l.length ≤ d → l ≠ [] → l.Nodup → Sep f n l → (∀ t ∈ l, 0 ≤ dep f n d l t ∧ dep f n d l t < l.length ∧ dep f n d l t ≤ ndv f n l) ∧ ∃ t ∈ l, dep f n d l t = ndv f n l := by
  intro d
  induction d with
  | zero =>
    intro l hd hne
    exact absurd (List.eq_nil_of_length_eq_zero (by omega)) hne
  | succ d ih =>
    intro l hd hne hnd hs
    by_cases c : l.length = 1
    · have e : ∀ t, dep f n (d + 1) l t = 0 := fun t => by
        show (if l.length = 1 then _ else _) = _
        rw [if_pos c]
      have z := ndv_one (f := f) (n := n) (l := l) (by omega)
      refine ⟨fun t _ => by rw [e, z]; omega, ?_⟩
      match l, c with
      | [t], _ => exact ⟨t, List.mem_singleton_self t, by rw [e, z]⟩
    · have h1 : 1 < l.length := by
        have := List.length_pos_iff.mpr hne
        omega
      obtain ⟨p, hp, _, hsp, hv, _⟩ := hs.ndp hnd h1
      have e : ∀ t, dep f n (d + 1) l t = 1 + dep f n d (l.filter fun u => decide (f p u = f p t)) t := fun t => by
        show (if l.length = 1 then _ else _) = _
        rw [if_neg c, hp]
        rfl
      have ne2 : (partsG (f p) l).map (fun q => ndv f n q.2.l) ≠ [] := fun z => by
        have := congrArg List.length z
        rw [List.length_map, List.length_nil] at this
        omega
      obtain ⟨m1, m2⟩ := mxI_mem ne2
      have part : ∀ q ∈ partsG (f p) l, (∀ t ∈ q.2.l, 0 ≤ dep f n d q.2.l t ∧ dep f n d q.2.l t < q.2.l.length ∧ dep f n d q.2.l t ≤ ndv f n q.2.l) ∧ ∃ t ∈ q.2.l, dep f n d q.2.l t = ndv f n q.2.l := fun q hq => by
        have hlt := partsG_lt hsp hq
        exact ih q.2.l (by omega) (partsG_ne hq) (hnd.sublist (partsG_sub hq)) (hs.sub fun x hx => (partsG_sub hq).subset hx)
      constructor
      · intro t ht
        have hq := part_of (g := f p) ht
        have hlt := partsG_lt hsp hq
        obtain ⟨a1, a2, a3⟩ := (part _ hq).1 t (List.mem_filter.mpr ⟨ht, decide_eq_true rfl⟩)
        have a4 := m2 _ (List.mem_map.mpr ⟨_, hq, rfl⟩)
        rw [e, hv]
        dsimp only at a1 a2 a3 a4 hlt
        omega
      · obtain ⟨q, hq, eq⟩ := List.mem_map.mp m1
        obtain ⟨t, ht, et⟩ := (part q hq).2
        have h2 := (partsG_mem.mp hq).2
        refine ⟨t, (partsG_sub hq).subset ht, ?_⟩
        have ft : f p t = q.1 := by
          rw [h2] at ht
          exact of_decide_eq_true (List.mem_filter.mp ht).2
        rw [e, hv, ← eq, ← et, ft, h2]
/-! ### gone along the plan -/
theorem one_key {β : Type} {a : Int} {x : β} : ∀ {L : List (Int × β)}, (L.map (·.1)).Nodup → (a, x) ∈ L → L.filterMap (fun b => if decide (b.1 = a) = true then some b.2 else none) = [x]
  | [], _, h => by cases h
  | b :: L, hd, h => by
    rw [List.map_cons, List.nodup_cons] at hd
    by_cases c : b.1 = a
    · have hb : b = (a, x) := by
        rcases List.mem_cons.mp h with e | e
        · exact e.symm
        · exact absurd (List.mem_map.mpr ⟨_, e, rfl⟩) (c ▸ hd.1)
      rw [List.filterMap_cons_some (b := x) (by rw [hb]; exact if_pos (decide_eq_true rfl))]
      have e0 : L.filterMap (fun b => if decide (b.1 = a) = true then some b.2 else none) = [] := List.filterMap_eq_nil_iff.mpr fun y hy => if_neg (by
        rw [decide_eq_true_eq]
        exact fun z => hd.1 (List.mem_map.mpr ⟨y, hy, z.trans c.symm⟩))
      rw [e0]
    · have hb : (if decide (b.1 = a) = true then some b.2 else none) = none := if_neg (by rw [decide_eq_true_eq]; exact c)
      rw [List.filterMap_cons_none (f := fun b : Int × β => if decide (b.1 = a) = true then some b.2 else none) hb]
      rcases List.mem_cons.mp h with e | e
      · exact absurd (by rw [← e]) c
      · exact one_key hd.2 e
theorem looks_one {n p : Int} (p0 : 0 ≤ p) (p1 : p < n) (hn : n ≤ 60) : LooksOk n [p] := ⟨fun q hq => by rw [List.mem_singleton.mp hq]; exact ⟨p0, p1⟩, by simp⟩
theorem fu50 : 50 < fu 100 := by
  rw [fu_eq]
  decide +kernel
theorem gone_ok {n : Int} {ts : List (Int × Int)} {l : List Thing} {d : Nat} {t : Thing} (h : WebOk n ts) (hl : l.length ≤ 8) (hld : l.length ≤ d) (hlt : ∀ t ∈ l, ThOk n ts t) (hnd : l.Nodup) (ht : t ∈ l) :
    Post (law_gone (n, ⟨ts⟩) (planG (farT n ts) n d l) t) (fun r => r.v.1 = some t ∧ r.v.2.1 = dep (farT n ts) n d l t) noX := by
  have hn := h.n60
  have hsep := sep_all h hlt
  obtain ⟨dp0, dp1, _⟩ := (dep_ok d l hld (List.ne_nil_of_mem ht) hnd hsep).1 t ht
  unfold law_gone
  refine po_bind (po_whileX (fun (g : Int × Pl) => ∃ d' l', g.2 = planG (farT n ts) n d' l' ∧ t ∈ l' ∧ l'.length ≤ d' ∧ l'.Sublist l ∧ 0 ≤ g.1 ∧ g.1 + dep (farT n ts) n d' l' t = dep (farT n ts) n d l t) (fun g => (50 - g.1).toNat)
    (T := fun g => g.2 = .is t ∧ g.1 = dep (farT n ts) n d l t) ?_ ⟨d, l, rfl, ht, hld, List.Sublist.refl _, Int.le_refl _, by show (0 : Int) + _ = _; omega⟩ (by show (50 - (0 : Int)).toNat < fu 100; exact fu50)) ?_
  · rintro ⟨a, pl⟩ ⟨d', l', e, ht', hd', hs, a0, ae⟩
    dsimp only at e a0 ae ⊢
    subst e
    have hne := List.ne_nil_of_mem ht'
    have hpos := List.length_pos_iff.mpr hne
    have hsep' := hsep.sub fun x hx => hs.subset hx
    obtain ⟨dq0, _, _⟩ := (dep_ok d' l' hd' hne (hnd.sublist hs) hsep').1 t ht'
    obtain ⟨d', rfl⟩ : ∃ e, d' = e + 1 := ⟨d' - 1, by omega⟩
    by_cases c : l'.length = 1
    · have el : l' = [t] := by
        match l', c with
        | [u], _ => rw [List.mem_singleton.mp ht']
      have e2 : planG (farT n ts) n (d' + 1) l' = .is t := by
        rw [el]
        rfl
      have e3 : dep (farT n ts) n (d' + 1) l' t = 0 := by
        show (if l'.length = 1 then _ else _) = _
        rw [if_pos c]
      rw [e2]
      have ew : decide ((Pl.is t).w = ("ask" : Str)) = false := decide_eq_false (by show ¬(("is" : Str) = ("ask" : Str)); decide +kernel)
      rw [ew, if_neg (by decide), ok_bind]
      exact ⟨fun z => (by cases z), fun _ => ⟨rfl, by omega⟩⟩
    · obtain ⟨p, hp, hpr, hsp, _, _⟩ := hsep'.ndp (hnd.sublist hs) (by omega)
      obtain ⟨p0, p1⟩ := rng_mem.mp hpr
      have e2 : planG (farT n ts) n (d' + 1) l' = .ask p ((partsG (farT n ts p) l').map fun q => (q.1, planG (farT n ts) n d' q.2.l)) := by
        show (if l'.length = 1 then _ else _) = _
        rw [if_neg c, hp]
        rfl
      have e3 : dep (farT n ts) n (d' + 1) l' t = 1 + dep (farT n ts) n d' (l'.filter fun u => decide (farT n ts p u = farT n ts p t)) t := by
        show (if l'.length = 1 then _ else _) = _
        rw [if_neg c, hp]
        rfl
      rw [e2]
      generalize hL : (partsG (farT n ts p) l').map (fun q => (q.1, planG (farT n ts) n d' q.2.l)) = L
      have ew : decide ((Pl.ask p L).w = ("ask" : Str)) = true := decide_eq_true (by rfl)
      have hq := part_of (g := farT n ts p) ht'
      have hqlt := partsG_lt hsp hq
      have ht2 : t ∈ l'.filter fun u => decide (farT n ts p u = farT n ts p t) := List.mem_filter.mpr ⟨ht', decide_eq_true rfl⟩
      have hs2 : (l'.filter fun u => decide (farT n ts p u = farT n ts p t)).Sublist l' := List.filter_sublist
      dsimp only at hqlt
      obtain ⟨dr0, _, _⟩ := (dep_ok d' _ (by omega) (List.ne_nil_of_mem ht2) ((hnd.sublist hs).sublist hs2) (hsep'.sub fun x hx => hs2.subset hx)).1 t ht2
      have hll := hs.length_le
      rw [ew, if_pos rfl, ok_bind]
      refine ⟨fun _ => ?_, fun z => ?_⟩
      · rw [show asAsk (.ask p L) = R.ok (p, L) from rfl, ok_bind, codeOf_ok h (looks_one p0 p1 hn) (hlt t ht), ok_bind]
        rw [show getI ([p].map fun k => farT n ts k t) (0 : Int) = R.ok (farT n ts p t) from rfl, ok_bind]
        have hkey : L.filterMap (fun b => if decide (b.1 = farT n ts p t) = true then some b.2 else none) = [planG (farT n ts) n d' (l'.filter fun u => decide (farT n ts p u = farT n ts p t))] := by
          refine one_key ?_ ?_
          · rw [← hL, List.map_map]
            exact partsG_nodup
          · rw [← hL]
            exact List.mem_map.mpr ⟨_, hq, rfl⟩
        refine po_filGE (g := fun (b : Int × Pl) => if decide (b.1 = farT n ts p t) = true then some b.2 else none) ?_ (fun b _ => ?_) ?_
        · rw [← hL, List.length_map]
          have := partsG_len (g := farT n ts p) (l := l')
          omega
        · by_cases cc : decide (b.1 = farT n ts p t) = true
          · rw [if_pos cc, if_pos cc]
          · rw [if_neg cc, if_neg cc]
        · rw [hkey]
          refine ⟨_, rfl, ⟨d', _, rfl, ht2, by omega, hs2.trans hs, by show 0 ≤ a + 1; omega, by show a + 1 + _ = _; omega⟩, ?_⟩
          show (50 - (a + 1)).toNat < (50 - a).toNat
          omega
      · exact absurd z (by rw [decide_eq_false_iff_not]; omega)
  · rintro r ⟨⟨a, pl⟩, rfl, e1, e2⟩
    dsimp only at e1 e2
    subst e1
    exact ⟨rfl, e2⟩
/-! ### no more asks than looks that know all -/
theorem ndv_looks {f : Int → Thing → Int} {n : Int} : ∀ (ls : List Int) (l : List Thing), l.Nodup → Sep f n l → (∀ p ∈ ls, p ∈ rng 0 n) → (∀ x ∈ l, ∀ y ∈ l, x ≠ y → ∃ p ∈ ls, f p x ≠ f p y) → ndv f n l ≤ ls.length := by
  intro ls
  induction ls with
  | nil =>
    intro l hd _ _ h
    refine Int.le_of_eq (ndv_one fun c => ?_)
    match l, hd, c with
    | x :: y :: l, hd, _ =>
      have hne : x ≠ y := fun z => by
        rw [List.nodup_cons] at hd
        exact hd.1 (z ▸ List.mem_cons_self)
      obtain ⟨p, hp, _⟩ := h x (by simp) y (by simp) hne
      cases hp
    | [], _, h1 => exact absurd h1 (Nat.not_lt_zero 1)
    | [_], _, h1 => exact absurd h1 (Nat.lt_irrefl 1)
  | cons p ls ih =>
    intro l hd hs hr h
    by_cases c : 1 < l.length
    · obtain ⟨_, _, _, _, _, hle⟩ := hs.ndp hd c
      by_cases c2 : 1 < (partsG (f p) l).length
      · have h1 := hle p (hr p List.mem_cons_self) c2
        have ne2 : (partsG (f p) l).map (fun q => ndv f n q.2.l) ≠ [] := fun z => by
          have := congrArg List.length z
          rw [List.length_map, List.length_nil] at this
          omega
        obtain ⟨q, hq, eq⟩ := List.mem_map.mp (mxI_mem ne2).1
        have hsub := partsG_sub hq
        have h2 := ih q.2.l (hd.sublist hsub) (hs.sub fun x hx => hsub.subset hx) (fun p' hp' => hr p' (List.mem_cons_of_mem _ hp')) fun x hx y hy hne => by
          obtain ⟨p', hp', hf⟩ := h x (hsub.subset hx) y (hsub.subset hy) hne
          rcases List.mem_cons.mp hp' with e | e
          · subst e
            rw [(partsG_mem.mp hq).2] at hx hy
            exact absurd ((of_decide_eq_true (List.mem_filter.mp hx).2).trans (of_decide_eq_true (List.mem_filter.mp hy).2).symm) hf
          · exact ⟨p', e, hf⟩
        rw [List.length_cons]
        omega
      · have h2 := ih l hd hs (fun p' hp' => hr p' (List.mem_cons_of_mem _ hp')) fun x hx y hy hne => by
          obtain ⟨p', hp', hf⟩ := h x hx y hy hne
          rcases List.mem_cons.mp hp' with e | e
          · subst e
            exact absurd (split_of hx hy hf) c2
          · exact ⟨p', e, hf⟩
        rw [List.length_cons]
        omega
    · rw [ndv_one c]
      exact Int.natCast_nonneg _
/-! ### few asks tell few things apart -/
theorem len_keys {g : Thing → Int} {M : Nat} : ∀ (ks : List Int) (l : List Thing), (∀ t ∈ l, g t ∈ ks) → (∀ k ∈ ks, (l.filter fun t => decide (g t = k)).length ≤ M) → l.length ≤ ks.length * M
  | [], [], _, _ => Nat.zero_le _
  | [], t :: l, h, _ => nomatch h t List.mem_cons_self
  | k :: ks, l, h, hM => by
    have h1 := hM k List.mem_cons_self
    have h2 := len_keys ks (l.filter fun t => !decide (g t = k)) (fun t ht => by
      obtain ⟨a, b⟩ := List.mem_filter.mp ht
      rcases List.mem_cons.mp (h t a) with e | e
      · rw [e] at b
        simp at b
      · exact e) fun k' hk' => Nat.le_trans ((List.filter_sublist.filter _).length_le) (hM k' (List.mem_cons_of_mem _ hk'))
    have h3 : l.length = (l.filter fun t => decide (g t = k)).length + (l.filter fun t => !decide (g t = k)).length := by
      clear h hM h1 h2
      induction l with
      | nil => rfl
      | cons x l ih =>
        by_cases c : g x = k
        · simp [List.filter_cons, c, ih]
          omega
        · simp [List.filter_cons, c, ih]
          omega
    rw [List.length_cons, Nat.succ_mul]
    omega
theorem ndv_nn {f : Int → Thing → Int} {n : Int} {l : List Thing} (hd : l.Nodup) (hs : Sep f n l) (hne : l ≠ []) : 0 ≤ ndv f n l ∧ ndv f n l < l.length := by
  obtain ⟨h1, t, ht, e⟩ := dep_ok l.length l (Nat.le_refl _) hne hd hs
  obtain ⟨a, b, _⟩ := h1 t ht
  omega
theorem count_ok {f : Int → Thing → Int} {n : Int} {b : Nat} : ∀ (d : Nat) (l : List Thing), l.length ≤ d → l ≠ [] → l.Nodup → Sep f n l → (∀ p ∈ rng 0 n, ∀ t ∈ l, 0 ≤ f p t ∧ f p t ≤ b) → l.length ≤ (1 + b) ^ (ndv f n l).toNat := by
  intro d
  induction d with
  | zero =>
    intro l hd hne
    exact absurd (List.eq_nil_of_length_eq_zero (by omega)) hne
  | succ d ih =>
    intro l hd hne hnd hs hb
    by_cases c : 1 < l.length
    · obtain ⟨p, _, hpr, hsp, hv, _⟩ := hs.ndp hnd c
      have ne2 : (partsG (f p) l).map (fun q => ndv f n q.2.l) ≠ [] := fun z => by
        have := congrArg List.length z
        rw [List.length_map, List.length_nil] at this
        omega
      obtain ⟨m1, m2⟩ := mxI_mem ne2
      obtain ⟨q0, hq0, e0⟩ := List.mem_map.mp m1
      have s0 := partsG_sub hq0
      have nn := (ndv_nn (hnd.sublist s0) (hs.sub fun x hx => s0.subset hx) (partsG_ne hq0)).1
      rw [e0] at nn
      have hk : (keysG (f p) l).length ≤ 1 + b := by
        have := nodup_le (keysG_nodup (c := f p) (ts := l)) (ys := rng 0 (b + 1)) fun k hk => by
          obtain ⟨t, ht, e⟩ := keysG_mem.mp hk
          have := hb p hpr t ht
          exact rng_mem.mpr ⟨by omega, by omega⟩
        rw [rng_length] at this
        omega
      have hl := len_keys (g := f p) (M := (1 + b) ^ (mxI ((partsG (f p) l).map fun q => ndv f n q.2.l)).toNat) (keysG (f p) l) l (fun t ht => keysG_mem.mpr ⟨t, ht, rfl⟩) fun k hk => by
        have hq : (k, (⟨l.filter fun t => decide (f p t = k)⟩ : Tup Thing)) ∈ partsG (f p) l := partsG_mem.mpr ⟨keysG_mem.mp hk, rfl⟩
        have hlt := partsG_lt hsp hq
        have hsub := partsG_sub hq
        dsimp only at hlt hsub
        have h1 := ih (l.filter fun t => decide (f p t = k)) (by omega) (partsG_ne hq) (hnd.sublist hsub) (hs.sub fun x hx => hsub.subset hx) fun p' hp' t ht => hb p' hp' t (hsub.subset ht)
        refine Nat.le_trans h1 (Nat.pow_le_pow_right (by omega) ?_)
        exact Int.toNat_le_toNat (m2 _ (List.mem_map.mpr ⟨_, hq, rfl⟩))
      rw [hv, show (1 + mxI ((partsG (f p) l).map fun q => ndv f n q.2.l)).toNat = (mxI ((partsG (f p) l).map fun q => ndv f n q.2.l)).toNat + 1 by omega, Nat.pow_succ, Nat.mul_comm]
      exact Nat.le_trans hl (Nat.mul_le_mul_right _ hk)
    · have := List.length_pos_iff.mpr hne
      exact Nat.le_trans (by omega : l.length ≤ 1) (Nat.pow_pos (by omega))
/-! ### the law's things -/
theorem repL1 {α : Type} (xs : List α) : repL xs 1 = xs := by
  show (List.replicate 1 xs).flatten = xs
  simp
theorem repR_b {α β : Type} {xs : List α} {b : Bool} {k : List α → R β} (h : xs.length < 1000) : (repR xs (b2i b) >>= k) = k (if b = true then xs else []) := by
  unfold repR
  cases b with
  | true =>
    rw [if_pos ⟨by decide, by decide, by show xs.length * 1 < 100000; omega⟩, if_pos rfl, ok_bind]
    show k (repL xs 1) = _
    rw [repL1]
  | false =>
    rw [if_pos ⟨by decide, by decide, by show xs.length * 0 < 100000; omega⟩, if_neg (by decide), ok_bind]
    rfl
theorem law_things_k {n : Int} {ts : List (Int × Int)} {k : Str} (h : WebOk n ts) (hk : k = "places" ∨ k = "ties" ∨ k = "all") : law_things (n, ⟨ts⟩) k = R.ok (kindT n ts k) := by
  have hn1 := h.n1
  have hn := h.n60
  have hl := h.len
  refine po_iff ?_
  unfold law_things kindT
  refine po_listRng (by decide) (by decide) (by show -(2 ^ 62) ≤ n; omega) (by show n < 2 ^ 62; omega) (by show (n - 0).toNat ≤ 100000; omega) ?_
  have hr : (rng 0 n).length < 1000 := by rw [rng_length]; omega
  have hm1 : (mkpl (rng 0 n)).length = (rng 0 n).length := by unfold mkpl; rw [List.length_map]
  have hm2 : (mkti ts).length = ts.length := by unfold mkti; rw [List.length_map]
  rw [repR_b hr, repR_b (show (Tup.mk ts).l.length < 1000 from by show ts.length < 1000; omega)]
  rcases hk with rfl | rfl | rfl
  · rw [if_pos (by decide +kernel), if_neg (by decide +kernel), if_pos (by decide +kernel)]
    refine po_extend (by rw [hm1]; show (rng 0 n).length + 0 < 100000; omega) ?_
    exact List.append_nil _
  · rw [if_neg (by decide +kernel), if_pos (by decide +kernel), if_neg (by decide +kernel), if_pos (by decide +kernel)]
    refine po_extend (by show 0 + (mkti ts).length < 100000; omega) ?_
    rfl
  · rw [if_pos (by decide +kernel), if_pos (by decide +kernel), if_neg (by decide +kernel), if_neg (by decide +kernel)]
    refine po_extend (by rw [hm1]; show (rng 0 n).length + (mkti ts).length < 100000; omega) ?_
    rfl
structure CaseOk (r : Nt ((Int × Tup (Int × Int)) × Str × List Thing × Unit)) (n : Int) (ts : List (Int × Int)) (k : Str) : Prop where
  e : r = Nt.mk ((n, ⟨ts⟩), k, kindT n ts k, ())
  web : WebOk n ts
  n7 : n ≤ 7
  l1 : 1 ≤ (kindT n ts k).length
  l8 : (kindT n ts k).length ≤ 8
theorem places_len {n : Int} {ts : List (Int × Int)} : (kindT n ts ("places" : Str)).length = n.toNat := by
  unfold kindT
  rw [if_pos (by decide +kernel)]
  unfold mkpl
  rw [List.length_map, rng_length]
  omega
theorem law_few_ok {s : List Int} (h : Ok2 s) : Post (law_few s 1) (fun r => (∃ n ts k, CaseOk r.1 n ts k) ∧ Ok2 r.2) noX := by
  unfold law_few
  refine po_bind (web_named h (by decide) (by decide) (by decide)) fun y2 ⟨n, ts, e, n1, n7, hw, h2⟩ => ?_
  refine po_bind (next_ok h2 (by decide) (by decide)) fun y8 ⟨a0, a1, h8⟩ => ?_
  obtain ⟨k, hk, ek⟩ : ∃ k : Str, (k = "places" ∨ k = "ties" ∨ k = "all") ∧ getI ([("places" : Str), ("ties" : Str), ("all" : Str)] : (List Str)) y8.1 = R.ok k := by
    have : y8.1 = 0 ∨ y8.1 = 1 ∨ y8.1 = 2 := by omega
    rcases this with z | z | z <;> rw [z]
    · exact ⟨"places", .inl rfl, rfl⟩
    · exact ⟨"ties", .inr (.inl rfl), rfl⟩
    · exact ⟨"all", .inr (.inr rfl), rfl⟩
  rw [ek, ok_bind, e]
  rw [law_things_k hw hk, ok_bind]
  have hpl := places_len (n := n) (ts := ts)
  have fin : ∀ k : Str, (k = "places" ∨ k = "ties" ∨ k = "all") → 1 ≤ (kindT n ts k).length → (kindT n ts k).length ≤ 8 → Post (law_things (n, ⟨ts⟩) k >>= fun y19 => R.ok ((Nt.mk ((n, (⟨ts⟩ : Tup (Int × Int))), k, y19, ()) : Nt ((Int × Tup (Int × Int)) × Str × List Thing × Unit)), y8.2)) (fun r => (∃ n ts k, CaseOk r.1 n ts k) ∧ Ok2 r.2) noX := fun k hk l1 l8 => by
    rw [law_things_k hw hk, ok_bind]
    exact ⟨⟨n, ts, k, rfl, hw, n7, l1, l8⟩, h8⟩
  by_cases c1 : 1 ≤ (kindT n ts k).length
  · rw [if_pos (decide_eq_true (by omega)), ok_bind]
    by_cases c2 : (kindT n ts k).length ≤ 8
    · rw [decide_eq_true (by omega : ((kindT n ts k).length : Int) ≤ 8), if_neg (by decide), ok_bind]
      exact fin k hk c1 c2
    · rw [decide_eq_false (by omega : ¬((kindT n ts k).length : Int) ≤ 8), if_pos (by decide), ok_bind]
      exact fin "places" (.inl rfl) (by omega) (by omega)
  · rw [if_neg (by rw [decide_eq_true_eq]; omega), ok_bind, if_pos (by decide), ok_bind]
    exact fin "places" (.inl rfl) (by omega) (by omega)
theorem between_ok {n p v : Int} {ts : List (Int × Int)} (h : WebOk n ts) (p0 : 0 ≤ p) (p1 : p < n) (v0 : 0 ≤ v) (v1 : v < n) : far_between (n, ⟨ts⟩) p v = R.ok (dst n ts p v) := by
  unfold far_between
  rw [place_ok p0 p1, ok_bind, place_ok v0 v1, ok_bind, web_near h, ok_bind, web_fars h p0 p1, ok_bind, getI_eq v0 (map_rng_get v0 v1)]
  rfl
theorem maxL_map {n : Int} {f : Int → Int} (n1 : 1 ≤ n) : ∃ m, maxL ((rng 0 n).map f) = R.ok m ∧ (∀ v, 0 ≤ v → v < n → f v ≤ m) ∧ ∃ v, 0 ≤ v ∧ v < n ∧ f v = m := by
  have hne : (rng 0 n).map f ≠ [] := by
    intro e
    have := congrArg List.length e
    rw [List.length_map, rng_length] at this
    simp at this
    omega
  obtain ⟨m, em⟩ : ∃ m, ((rng 0 n).map f).max? = some m := Option.isSome_iff_exists.mp (by rw [List.isSome_max?_iff]; exact hne)
  obtain ⟨h1, h2⟩ := List.max?_eq_some_iff.mp em
  refine ⟨m, by unfold maxL; rw [em]; rfl, fun v v0 v1 => h2 _ (List.mem_map.mpr ⟨v, rng_mem.mpr ⟨v0, v1⟩, rfl⟩), ?_⟩
  obtain ⟨v, hv, e⟩ := List.mem_map.mp h1
  obtain ⟨v0, v1⟩ := rng_mem.mp hv
  exact ⟨v, v0, v1, e⟩
theorem max2_le (a b : Int) : a ≤ max2 a b ∧ b ≤ max2 a b ∧ (max2 a b = a ∨ max2 a b = b) := by
  unfold max2
  by_cases c : a < b
  · rw [if_pos c]
    omega
  · rw [if_neg c]
    omega
theorem broadest_ok {n M : Int} {ts : List (Int × Int)} (h : WebOk n ts) (hM : ∀ p v, 0 ≤ p → p < n → 0 ≤ v → v < n → dst n ts p v ≤ M) (M0 : 0 ≤ M) : Post (law_broadest (n, ⟨ts⟩)) (fun b => 0 ≤ b ∧ b ≤ M ∧ ∀ p v, 0 ≤ p → p < n → 0 ≤ v → v < n → dst n ts p v ≤ b) noX := by
  have hn1 := h.n1
  have hn := h.n60
  unfold law_broadest
  refine po_rng (by decide) (by decide) (by show -(2 ^ 62) ≤ n; omega) (by show n < 2 ^ 62; omega) ?_
  refine po_bind (po_foldP (fun pre (b : Int) => 0 ≤ b ∧ b ≤ M ∧ ∀ p ∈ pre, ∀ v, 0 ≤ v → v < n → dst n ts p v ≤ b) ⟨Int.le_refl _, M0, fun _ z => (nomatch z)⟩ ?_) ?_
  · rintro pre b p post e ⟨b0, bM, hb⟩
    have hp : p ∈ rng 0 n := by rw [e]; simp
    obtain ⟨p0, p1⟩ := rng_mem.mp hp
    refine po_rng (by decide) (by decide) (by show -(2 ^ 62) ≤ n; omega) (by show n < 2 ^ 62; omega) ?_
    refine po_mapGE (g := fun v => dst n ts p v) (by rw [rng_length]; omega) (fun v hv => ?_) ?_
    · rw [between_ok h p0 p1 (rng_mem.mp hv).1 (rng_mem.mp hv).2]
      rfl
    · obtain ⟨m, em, hm, v, v0, v1, ev⟩ := maxL_map (f := fun v => dst n ts p v) hn1
      rw [em, ok_bind]
      obtain ⟨x1, x2, x3⟩ := max2_le b m
      have := hM p v p0 p1 v0 v1
      refine ⟨by show 0 ≤ max2 b m; omega, by show max2 b m ≤ M; rcases x3 with z | z <;> rw [z] <;> omega, fun q hq w w0 w1 => ?_⟩
      show dst n ts q w ≤ max2 b m
      rcases List.mem_append.mp hq with z | z
      · have := hb q z w w0 w1
        omega
      · rw [List.mem_singleton.mp z]
        have := hm w w0 w1
        omega
  · rintro b ⟨b0, bM, hb⟩
    exact ⟨b0, bM, fun p v p0 p1 v0 v1 => hb p (rng_mem.mpr ⟨p0, p1⟩) v v0 v1⟩
theorem told_ok {W : Int × Tup (Int × Int)} {b : Int} (hb : law_broadest W = R.ok b) (b0 : 0 ≤ b) (b1 : b ≤ 60) : ∀ (xs : List Int) (g : Int), foldR (fun (g41 : Int) (b41 : Int) => do
      let y43 ← law_broadest W
      let t44 ← mulI g41 ((1 : Int) + y43)
      R.ok t44) g xs = R.ok (g * (1 + b) ^ xs.length)
  | [], g => by
    show R.ok g = _
    rw [List.length_nil, Int.pow_zero, Int.mul_one]
  | x :: xs, g => by
    have hm : mulI g (1 + b) = R.ok (g * (1 + b)) := by
      unfold mulI
      rw [if_pos (.inr ⟨by omega, by omega⟩)]
    have e1 : (law_broadest W >>= fun y43 => mulI g ((1 : Int) + y43) >>= fun t44 => R.ok t44) = R.ok (g * (1 + b)) := by rw [hb, ok_bind, hm, ok_bind]
    refine (congrArg (fun z => z >>= fun s => foldR (fun (g41 : Int) (b41 : Int) => law_broadest W >>= fun y43 => mulI g41 ((1 : Int) + y43) >>= fun t44 => R.ok t44) s xs) e1).trans ?_
    refine (told_ok hb b0 b1 xs (g * (1 + b))).trans ?_
    rw [List.length_cons, Int.pow_succ, Int.mul_assoc, Int.mul_comm (1 + b)]
end G
namespace G
open PySem L2 Z
/-! ### how far at the most -/
section
variable {n : Int} {ts : List (Int × Int)} (h : WebOk n ts)
include h
theorem lvl_exD {x y : Int} (x0 : 0 ≤ x) (x1 : x < n) (y0 : 0 ≤ y) (y1 : y < n) : ∀ (j : Nat), (j : Int) ≤ dst n ts x y → ∃ m, 0 ≤ m ∧ m < n ∧ dst n ts x m = dst n ts x y - j := by
  intro j
  induction j with
  | zero => exact fun _ => ⟨y, y0, y1, by omega⟩
  | succ j ih =>
    intro hj
    obtain ⟨m, m0, m1, e⟩ := ih (by omega)
    have hne : m ≠ x := fun q => by
      subst q
      have := (dst_zero h m0 m1 m0 m1).mpr rfl
      omega
    obtain ⟨z, z0, z1, _, ez⟩ := (web_dist h x0 x1).desc m m0 m1 hne
    exact ⟨z, z0, z1, by omega⟩
theorem dst_bd {v u : Int} (v0 : 0 ≤ v) (v1 : v < n) (u0 : 0 ≤ u) (u1 : u < n) : dst n ts v u < n := by
  have nn := dst_nn h v0 v1 u0 u1
  have lD : ((rng 0 n).map (dst n ts v)).length = n.toNat := by rw [List.length_map, rng_length]; omega
  have := nodup_le (rng_nodup 0 (dst n ts v u + 1)) (ys := (rng 0 n).map (dst n ts v)) fun j hj => by
    obtain ⟨j0, j1⟩ := rng_mem.mp hj
    obtain ⟨m, m0, m1, e⟩ := lvl_exD h v0 v1 u0 u1 (dst n ts v u - j).toNat (by omega)
    exact List.mem_map.mpr ⟨m, rng_mem.mpr ⟨m0, m1⟩, by omega⟩
  rw [rng_length, lD] at this
  omega
theorem far_bd {l : Int} {t : Thing} (l0 : 0 ≤ l) (l1 : l < n) (ht : ThOk n ts t) : 0 ≤ farT n ts l t ∧ farT n ts l t < n := by
  cases t with
  | pl a => exact ⟨dst_nn h l0 l1 ht.1 ht.2, dst_bd h l0 l1 ht.1 ht.2⟩
  | ti a b =>
    have hm : (a, b) ∈ ts := ht
    obtain ⟨a0, ab, bn⟩ : 0 ≤ a ∧ a < b ∧ b < n := h.rg _ hm
    have h1 := dst_nn h l0 l1 a0 (by omega)
    have h2 := dst_bd h l0 l1 a0 (show a < n by omega)
    have h3 := dst_nn h l0 l1 (show 0 ≤ b by omega) bn
    have h4 := dst_bd h l0 l1 (show 0 ≤ b by omega) bn
    show 0 ≤ min2 (dst n ts l a) (dst n ts l b) ∧ min2 (dst n ts l a) (dst n ts l b) < n
    rcases mm_cases (dst n ts l a) (dst n ts l b) with ⟨e1, _, _⟩ | ⟨e1, _, _⟩ <;> rw [e1] <;> omega
end
theorem po_foldXu {α ρ : Type} {f : Unit → α → R (Sum ρ (Bool × Unit))} {P : ρ → Prop} {N : α → Prop} {X : Exn → Prop} : ∀ {xs : List α}, (∀ b ∈ xs, Post (f () b) (fun r => (∃ z, r = .inl z ∧ P z) ∨ (r = .inr (true, ()) ∧ N b)) X) → Post (foldX f () xs) (fun r => (∃ z, r = .inl z ∧ P z) ∨ (r = .inr () ∧ ∀ b ∈ xs, N b)) X
  | [], _ => .inr ⟨rfl, fun _ h => nomatch h⟩
  | x :: xs, hf => by
    refine po_bind (hf x List.mem_cons_self) fun r hr => ?_
    rcases hr with ⟨z, rfl, hz⟩ | ⟨rfl, hn⟩
    · exact .inl ⟨z, rfl, hz⟩
    · refine Post.mono (po_foldXu fun b hb => hf b (List.mem_cons_of_mem _ hb)) (fun r hr => hr.imp id fun ⟨e, h⟩ => ⟨e, fun b hb => ?_⟩) fun _ z => z
      rcases List.mem_cons.mp hb with rfl | hb
      · exact hn
      · exact h b hb
theorem lt_of_sort {l : List Int} (h : l.Pairwise (· ≤ ·)) (n : l.Nodup) : l.Pairwise (· < ·) := by
  induction l with
  | nil => exact .nil
  | cons x l ih =>
    rw [List.pairwise_cons] at h ⊢
    rw [List.nodup_cons] at n
    exact ⟨fun y hy => by
      have := h.1 y hy
      have hne : x ≠ y := fun e => n.1 (e ▸ hy)
      omega, ih h.2 n.2⟩
namespace Kn
theorem kindT_nodup {n : Int} {ts : List (Int × Int)} (h : WebOk n ts) (k : Str) : (kindT n ts k).Nodup := G.kindT_nodup h
theorem kind_len {n : Int} {ts : List (Int × Int)} {k : Str} (h : WebOk n ts) : (kindT n ts k).length ≤ 800 := by
  have hn1 := h.n1
  have hn := h.n60
  have hl := h.len
  have : (kindT n ts k).length ≤ (allT n ts).length := by
    unfold kindT allT
    rw [List.length_append]
    split
    · omega
    · split
      · omega
      · rw [List.length_append]; omega
  have := allT_len (ts := ts) (show 0 ≤ n by omega)
  omega
noncomputable def codeT (n : Int) (ts : List (Int × Int)) (ls : List Int) (t : Thing) : List Int := ls.map fun l => farT n ts l t
noncomputable def likesL (n : Int) (ts : List (Int × Int)) (ls : List Int) (k : Str) : List (List Thing) := likesG (codeT n ts ls) (kindT n ts k)
theorem by_code_ok {n : Int} {ts : List (Int × Int)} {ls : List Int} {k : Str} (h : WebOk n ts) (hl : LooksOk n ls) : by_code (n, ⟨ts⟩) ls k = R.ok (mkG 0 (keysG (fun t => Tup.mk (codeT n ts ls t)) (kindT n ts k)), rowsG (codeT n ts ls) (keysG (codeT n ts ls) (kindT n ts k)) (kindT n ts k)) := by
  have hlen := hl.len
  have hn := h.n60
  have hk := kind_len (k := k) h
  have inj : ∀ a b : List Int, Tup.mk a = Tup.mk b → a = b := fun a b e => by injection e
  rw [← rowsG_comp inj, ← keysG_comp inj]
  refine po_iff ?_
  unfold by_code
  rw [table_ok h, ok_bind, things_ok h, ok_bind]
  generalize hc : (fun t => Tup.mk (codeT n ts ls t)) = c
  refine po_bind (po_foldP (fun pre s => s = (mkG 0 (keysG c pre), rowsG c (keysG c pre) pre)) rfl fun pre s t post hp hs => ?_) fun r hr => ?_
  · subst hs
    have ht : ThOk n ts t := kindT_ok (k := k) (by rw [hp]; simp)
    have hpl : pre.length ≤ 800 := by rw [hp, List.length_append] at hk; omega
    have hkl := keysG_len (c := c) (ts := pre)
    refine po_mapGE (g := fun l => farT n ts l t) (by omega) (fun l hm => by
      rw [far_by_ok h (hl.rg l hm).1 (hl.rg l hm).2 ht]
      rfl) ?_
    have ec : Tup.mk (ls.map fun l => farT n ts l t) = c t := by rw [← hc]; rfl
    rw [ec]
    refine po_bind (Q := fun g => g = (mkG 0 (keysG c (pre ++ [t])), rowsG c (keysG c (pre ++ [t])) pre)) (po_if (fun q => ?_) fun q => ?_) fun g hg => ?_
    · rw [mkG_has] at q
      have hm : c t ∉ keysG c pre := fun z => by rw [decide_eq_true z] at q; exact absurd q (by decide)
      rw [keysG_snoc]
      unfold kstep
      rw [if_neg hm, rowsG_new hm]
      refine po_newS (po_mput (by rw [mkG_len]; omega) ?_)
      show (_, _) = (_, _)
      rw [mput_new (by rw [mkG_has]; exact decide_eq_false hm), mkG_snoc]
      unfold rowsG
      rw [List.length_map, Nat.zero_add]
    · rw [mkG_has] at q
      have hm : c t ∈ keysG c pre := by
        by_cases z : c t ∈ keysG c pre
        · exact z
        · exfalso
          apply q
          rw [decide_eq_false z]
          rfl
      rw [keysG_snoc]
      unfold kstep
      rw [if_pos hm]
      exact rfl
    · subst hg
      have hd := keysG_nodup (c := c) (ts := pre ++ [t])
      obtain ⟨j, e1, e2⟩ := fidx_mem (k := c t) (ks := keysG c (pre ++ [t])) (keysG_mem.mpr ⟨t, by simp, rfl⟩)
      refine po_mgetE (x := j) (by rw [mkG_get, e1]; show some (0 + j) = _; rw [Nat.zero_add]) (po_getS (rowsG_get e2) (po_app ?_ (po_setS ?_)))
      · refine Nat.lt_of_le_of_lt (List.length_filter_le _ _) ?_
        omega
      · show (_, _) = (_, _)
        rw [rowsG_set hd e2]
  · subst hr
    exact rfl
theorem likes_pick {n : Int} {ts : List (Int × Int)} {ls : List Int} {k : Str} (h : WebOk n ts) : filStG (fun (g10 : (List (List Thing))) (b10 : Ix) => do
      let x14 ← getS g10 b10
      if (decide ((1 : Int) < (x14.length : Int))) = true then do
        R.ok ((some b10), g10)
      else
        R.ok (none, g10)) (rowsG (codeT n ts ls) (keysG (codeT n ts ls) (kindT n ts k)) (kindT n ts k)) ((mkG 0 (keysG (fun t => Tup.mk (codeT n ts ls t)) (kindT n ts k))).map (·.2)) =
    R.ok ((List.range (rowsG (codeT n ts ls) (keysG (codeT n ts ls) (kindT n ts k)) (kindT n ts k)).length).filterMap (fun i => (rowsG (codeT n ts ls) (keysG (codeT n ts ls) (kindT n ts k)) (kindT n ts k))[i]?.bind fun r => if decide ((1 : Int) < (r.length : Int)) = true then some i else none), rowsG (codeT n ts ls) (keysG (codeT n ts ls) (kindT n ts k)) (kindT n ts k)) := by
  have hk := kind_len (k := k) h
  have inj : ∀ a b : List Int, Tup.mk a = Tup.mk b → a = b := fun a b e => by injection e
  have hkl := keysG_len (c := codeT n ts ls) (ts := kindT n ts k)
  rw [mkG_vals, keysG_comp inj, List.length_map, ← List.range_eq_range']
  have e : (rowsG (codeT n ts ls) (keysG (codeT n ts ls) (kindT n ts k)) (kindT n ts k)).length = (keysG (codeT n ts ls) (kindT n ts k)).length := by unfold rowsG; rw [List.length_map]
  rw [e]
  unfold filStG
  rw [grd_t (decide_eq_true (by rw [List.length_range]; omega)), ok_bind]
  refine filSt_const fun i hi => ?_
  rw [List.mem_range, ← e] at hi
  unfold getS
  rw [List.getElem?_eq_getElem hi]
  show (if _ then _ else _) = _
  by_cases q : decide ((1 : Int) < (((rowsG (codeT n ts ls) (keysG (codeT n ts ls) (kindT n ts k)) (kindT n ts k))[i]).length : Int)) = true
  · rw [if_pos q]
    show _ = R.ok ((if _ then _ else _), _)
    rw [if_pos q]
  · rw [if_neg q]
    show _ = R.ok ((if _ then _ else _), _)
    rw [if_neg q]
theorem likes_by_ok {n : Int} {ts : List (Int × Int)} {ls : List Int} {k : Str} (h : WebOk n ts) (hl : LooksOk n ls) : likes_by (n, ⟨ts⟩) ls k = R.ok (likesL n ts ls k) := by
  unfold likes_by
  rw [looks_ok hl, ok_bind, by_code_ok h hl, ok_bind]
  show filStG _ (rowsG (codeT n ts ls) (keysG (codeT n ts ls) (kindT n ts k)) (kindT n ts k)) ((mkG 0 (keysG (fun t => Tup.mk (codeT n ts ls t)) (kindT n ts k))).map (·.2)) >>= _ = _
  rw [likes_pick h, ok_bind]
  show deref _ _ >>= _ = _
  rw [pick_deref, ok_bind]
  rfl
theorem is_known_ok {n : Int} {ts : List (Int × Int)} {ls : List Int} {k : Str} (h : WebOk n ts) (hl : LooksOk n ls) : is_known (n, ⟨ts⟩) ls k = R.ok (decide (likesL n ts ls k = [])) := by
  unfold is_known
  rw [likes_by_ok h hl, ok_bind]
theorem likesG_mem {κ α : Type} [DecidableEq κ] {c : α → κ} {ts : List α} {r : List α} : r ∈ likesG c ts ↔ ∃ t ∈ ts, r = ts.filter (fun u => decide (c u = c t)) ∧ 1 < r.length := by
  unfold likesG rowsG
  rw [List.mem_filter, List.mem_map]
  constructor
  · rintro ⟨⟨k, hk, rfl⟩, h2⟩
    obtain ⟨t, ht, rfl⟩ := keysG_mem.mp hk
    have := of_decide_eq_true h2
    exact ⟨t, ht, rfl, by omega⟩
  · rintro ⟨t, ht, e, h2⟩
    exact ⟨⟨c t, keysG_mem.mpr ⟨t, ht, rfl⟩, e.symm⟩, decide_eq_true (by omega)⟩
theorem two_long {α : Type} {a b : α} : ∀ {l : List α}, a ∈ l → b ∈ l → a ≠ b → 1 < l.length
  | [], h, _, _ => nomatch h
  | [x], h1, h2, hne => by
    rw [List.mem_singleton] at h1 h2
    exact absurd (h1.trans h2.symm) hne
  | _ :: _ :: _, _, _, _ => by simp
/-- two things of one code: a row has both -/
theorem likes_both {n : Int} {ts : List (Int × Int)} {ls : List Int} {k : Str} {a b : Thing} (ha : a ∈ kindT n ts k) (hb : b ∈ kindT n ts k) (hne : a ≠ b) : (∃ r ∈ likesL n ts ls k, a ∈ r ∧ b ∈ r) ↔ codeT n ts ls a = codeT n ts ls b := by
  constructor
  · rintro ⟨r, hr, h1, h2⟩
    obtain ⟨t, _, e, _⟩ := likesG_mem.mp hr
    rw [e] at h1 h2
    exact (of_decide_eq_true (List.mem_filter.mp h1).2).trans (of_decide_eq_true (List.mem_filter.mp h2).2).symm
  · intro e
    have h1 : a ∈ (kindT n ts k).filter fun u => decide (codeT n ts ls u = codeT n ts ls a) := List.mem_filter.mpr ⟨ha, decide_eq_true rfl⟩
    have h2 : b ∈ (kindT n ts k).filter fun u => decide (codeT n ts ls u = codeT n ts ls a) := List.mem_filter.mpr ⟨hb, decide_eq_true e.symm⟩
    exact ⟨_, likesG_mem.mpr ⟨a, ha, rfl, two_long h1 h2 hne⟩, h1, h2⟩
theorem known_iff {n : Int} {ts : List (Int × Int)} {ls : List Int} {k : Str} (h : WebOk n ts) : likesL n ts ls k = [] ↔ ∀ X ∈ kindT n ts k, ∀ Y ∈ kindT n ts k, X ≠ Y → codeT n ts ls X ≠ codeT n ts ls Y := by
  constructor
  · intro e X hX Y hY hne he
    obtain ⟨r, hr, _⟩ := (likes_both hX hY hne).mpr he
    rw [e] at hr
    cases hr
  · intro hd
    refine List.eq_nil_iff_forall_not_mem.mpr fun r hr => ?_
    obtain ⟨t, ht, e, hlen⟩ := likesG_mem.mp hr
    have hn : r.Nodup := e ▸ (kindT_nodup h k).filter _
    have e0 : r[0] ∈ r := List.getElem_mem (by omega)
    have e1 : r[1] ∈ r := List.getElem_mem (by omega)
    have hne : r[0] ≠ r[1] := fun z => by
      have := (List.getElem_inj hn).mp z
      omega
    have m0 : r[0] ∈ (kindT n ts k).filter (fun u => decide (codeT n ts ls u = codeT n ts ls t)) := e ▸ e0
    have m1 : r[1] ∈ (kindT n ts k).filter (fun u => decide (codeT n ts ls u = codeT n ts ls t)) := e ▸ e1
    exact hd _ (List.mem_filter.mp m0).1 _ (List.mem_filter.mp m1).1 hne ((of_decide_eq_true (List.mem_filter.mp m0).2).trans (of_decide_eq_true (List.mem_filter.mp m1).2).symm)
end Kn
open Kn
/-! ### looks put in one by one -/
theorem law_looks_ok {s : List Int} {n : Int} {ts : List (Int × Int)} {k : Str} (hs : Ok2 s) (h : WebOk n ts) (h7 : n ≤ 7) (h1 : 1 ≤ (kindT n ts k).length) (h8 : (kindT n ts k).length ≤ 8) : Post (law_looks s (n, ⟨ts⟩) k) (fun r => ndv (farT n ts) n (kindT n ts k) ≤ r.1 ∧ Ok2 r.2) noX := by
  have hn1 := h.n1
  have hok : ∀ t ∈ kindT n ts k, ThOk n ts t := fun t ht => kindT_ok ht
  have hne : kindT n ts k ≠ [] := fun z => by rw [z] at h1; exact absurd h1 (by decide)
  have hsep := sep_all h hok
  have hnd := G.kindT_nodup (k := k) h
  unfold law_looks
  refine po_rng (by decide) (by decide) (by show -(2 ^ 62) ≤ n; omega) (by show n < 2 ^ 62; omega) ?_
  refine po_bind (po_foldP (fun pre (g : List Int × List Int) => g.1.Perm pre ∧ Ok2 g.2) ⟨List.Perm.refl _, hs⟩ ?_) ?_
  · rintro pre ⟨l, p⟩ x post e ⟨h1, h2⟩
    have h1' : l.Perm pre := h1
    have hx := rng_pre e
    obtain ⟨_, x0, x1⟩ := rng_split e
    dsimp only at x1
    have hl := h1'.length_eq
    refine po_bind (next_ok h2 (by omega) (by omega)) fun y ⟨y0, y1, hy⟩ => ?_
    have hi : insR l y.1 x = R.ok (l.take y.1.toNat ++ [x] ++ l.drop y.1.toNat) := by
      unfold insR
      rw [if_pos ⟨by omega, y0, by omega⟩]
    show Post (insR l y.1 x >>= _) _ _
    rw [hi, ok_bind]
    refine ⟨?_, hy⟩
    show (l.take y.1.toNat ++ [x] ++ l.drop y.1.toNat).Perm (pre ++ [x])
    have p1 : (l.take y.1.toNat ++ [x] ++ l.drop y.1.toNat).Perm (l.take y.1.toNat ++ l.drop y.1.toNat ++ [x]) := by
      rw [List.append_assoc, List.append_assoc]
      exact List.Perm.append_left _ List.perm_append_comm
    rw [List.take_append_drop] at p1
    exact p1.trans (h1'.append_right _)
  · rintro ⟨o, s'⟩ ⟨ho, hs'⟩
    have ho' : o.Perm (rng 0 n) := ho
    have hol : o.length = n.toNat := by rw [ho'.length_eq, rng_length]; omega
    refine po_rng (by decide) (by decide) (by show -(2 ^ 62) ≤ n + 1; omega) (by show n + 1 < 2 ^ 62; omega) ?_
    refine po_bind (po_foldXu (P := fun z => ndv (farT n ts) n (kindT n ts k) ≤ z.1 ∧ Ok2 z.2) (N := fun _ => True) fun b hb => ?_) fun r hr => ?_
    · obtain ⟨b0, b1⟩ := rng_mem.mp hb
      have hc : cutL o none (some b) = o.take b.toNat := by
        have := cut_take o b.toNat
        rwa [show ((b.toNat : Nat) : Int) = b by omega] at this
      have hsub : (o.take b.toNat).Sublist o := List.take_sublist _ _
      have hnd' : (o.take b.toNat).Nodup := ((ho'.nodup_iff.mpr (rng_nodup 0 n)).sublist hsub)
      have hp := sortI_perm (o.take b.toNat)
      have hL : LooksOk n (sortI (o.take b.toNat)) := ⟨fun q hq => rng_mem.mp (ho'.mem_iff.mp (hsub.subset (hp.mem_iff.mp hq))), lt_of_sort (sortI_sorted _) (hp.symm.nodup hnd')⟩
      show Post (is_known (n, ⟨ts⟩) (sortI (cutL o none (some b))) k >>= _) _ _
      rw [hc, is_known_ok h hL, ok_bind]
      refine po_if (fun c => ?_) fun _ => .inr ⟨rfl, trivial⟩
      have hk := (known_iff h).mp (of_decide_eq_true c)
      refine .inl ⟨_, rfl, ?_, hs'⟩
      have hv := ndv_looks (f := farT n ts) (n := n) (sortI (o.take b.toNat)) (kindT n ts k) hnd hsep (fun p hp => rng_mem.mpr (hL.rg p hp)) fun X hX Y hY hXY => by
        have hc := hk X hX Y hY hXY
        apply Classical.byContradiction
        intro z
        apply hc
        unfold codeT
        refine List.map_congr_left fun p hp => ?_
        apply Classical.byContradiction
        intro zz
        exact z ⟨p, hp, zz⟩
      rw [hp.length_eq, List.length_take] at hv
      show _ ≤ b
      omega
    · rcases hr with ⟨z, rfl, hz⟩ | ⟨rfl, _⟩
      · exact hz
      · have := (ndv_nn hnd hsep hne).2
        exact ⟨by show _ ≤ (99 : Int); omega, hs'⟩
end G
namespace G
open PySem L2 Z
theorem post_ex {α : Type} {r : R α} {Q : α → Prop} (h : Post r Q noX) : ∃ a, r = R.ok a ∧ Q a := by
  cases r with
  | ok a => exact ⟨a, rfl, h⟩
  | exc e => exact h.elim
  | bad => exact h.elim
theorem law_true (ns : List Int) (h : ns.length ≤ 63) : law ⟨ns⟩ = R.ok true := by
  refine po_iff ?_
  unfold law
  refine po_bind (folded_ok h (by decide) (by decide)) fun y3 h3 => ?_
  refine po_bind (po_foldX (fun _ => True) trivial fun _ b _ hb => ?_) ?_
  · refine po_bind (state_ok b) fun y7 h7 => po_bind (law_few_ok h7) fun y9 ⟨⟨n, ts, k, hc⟩, h9⟩ => ?_
    obtain ⟨r9, s9⟩ := y9
    obtain ⟨he, w, n7, l1, l8⟩ := hc
    have he' : r9 = _ := he
    subst he'
    have hok : ∀ t ∈ kindT n ts k, ThOk n ts t := fun t ht => kindT_ok ht
    have hne : kindT n ts k ≠ [] := fun z => by rw [z] at l1; exact absurd l1 (by decide)
    have hsep := sep_all w hok
    have hnd := kindT_nodup (k := k) w
    obtain ⟨v0, v1⟩ := ndv_nn hnd hsep hne
    obtain ⟨dep1, tt, htt, dep2⟩ := dep_ok (f := farT n ts) (n := n) 20 (kindT n ts k) (by omega) hne hnd hsep
    show Post (fewest_asks (n, ⟨ts⟩) k >>= _) _ _
    refine po_bind (fewest_ok w n7 l1 l8) fun y14 h14 => ?_
    generalize hv : ndv (farT n ts) n (kindT n ts k) = v at *
    have e1 : y14.v.1 = v := by rw [← hv]; exact h14.asks
    rw [h14.plan, e1]
    show Post (foldX _ (0 : Int) (kindT n ts k) >>= _) _ _
    refine po_bind (po_foldXP (fun pre (g : Int) => 0 ≤ g ∧ g ≤ v ∧ ∀ t ∈ pre, dep (farT n ts) n 20 (kindT n ts k) t ≤ g) (fun _ => False) ⟨Int.le_refl _, v0, fun _ z => (nomatch z)⟩ ?_) ?_
    · rintro pre g t post e ⟨g0, g1, g2⟩
      have ht : t ∈ kindT n ts k := by rw [e]; simp
      refine po_bind (gone_ok (d := 20) w l8 (by omega) hok hnd ht) fun y21 ⟨q1, q2⟩ => ?_
      obtain ⟨d0, d1, d2⟩ := dep1 t ht
      rw [q1, q2]
      refine po_if (fun c => ?_) fun _ => .inr ⟨_, rfl, ?_⟩
      · exfalso
        rw [decide_eq_true rfl, Bool.or_eq_true] at c
        rcases c with c | c
        · cases c
        · rw [decide_eq_true_eq] at c
          omega
      · obtain ⟨x1, x2, x3⟩ := max2_le g (dep (farT n ts) n 20 (kindT n ts k) t)
        refine ⟨by omega, by omega, fun u hu => ?_⟩
        rcases List.mem_append.mp hu with z | z
        · have := g2 u z
          omega
        · rw [List.mem_singleton.mp z]
          exact x2
    · rintro r (⟨z, _, hz⟩ | ⟨g, rfl, g0, g1, g2⟩)
      · exact hz.elim
      have hg : g = v := by
        have := g2 tt htt
        omega
      subst hg
      show Post ((_ : R (Bool × List Int)) >>= _) _ _
      refine po_bind (Q := fun (j : Bool × List Int) => j.1 = false ∧ Ok2 j.2) ?_ ?_
      · refine po_if (fun c => ?_) fun _ => ?_
        · rw [decide_eq_true rfl] at c
          cases c
        · show Post (plan_asks (n, ⟨ts⟩) k _ >>= _) _ _
          rw [plan_asks_ok w n7 l1 l8, ok_bind, hv]
          refine po_if (fun c => ?_) fun _ => ?_
          · rw [decide_eq_true rfl] at c
            cases c
          · refine po_bind (law_looks_ok h9 w n7 l1 l8) fun y37 ⟨z1, z2⟩ => ⟨?_, z2⟩
            rw [hv] at z1
            exact decide_eq_false (by omega)
      · rintro ⟨j, s⟩ ⟨hj, hs⟩
        have hj' : j = false := hj
        subst hj'
        refine po_if (fun c => by cases c) fun _ => ?_
        refine po_rng (by decide) (by decide) (by omega) (by omega) ?_
        have hn1 := w.n1
        obtain ⟨b, eb, b0, b1, hb⟩ := post_ex (broadest_ok (M := n) w (fun p u p0 p1 u0 u1 => Int.le_of_lt (dst_bd w p0 p1 u0 u1)) (by omega))
        have hfold := told_ok (W := (n, ⟨ts⟩)) eb b0 (by omega) (rng 0 g) 1
        show Post (foldR _ (1 : Int) (rng 0 g) >>= _) _ _
        refine Post.mono (P := fun r => r = .inr (true, ())) (E := noX) ?_ (fun r hr => ⟨(), hr, trivial⟩) (fun _ z => z)
        refine (congrArg (fun z => Post (z >>= _) _ _) hfold).mpr ?_
        rw [ok_bind]
        refine po_if (fun c => ?_) fun _ => rfl
        exfalso
        have hcount := count_ok (f := farT n ts) (n := n) (b := b.toNat) _ (kindT n ts k) (Nat.le_refl _) hne hnd hsep fun p hp t ht => by
          obtain ⟨p0, p1⟩ := rng_mem.mp hp
          have := far_bd w p0 p1 (hok t ht)
          refine ⟨this.1, ?_⟩
          cases ht' : t with
          | pl i =>
            have hi : ThOk n ts (.pl i) := ht' ▸ hok t ht
            have := hb p i p0 p1 hi.1 hi.2
            show dst n ts p i ≤ _
            omega
          | ti i j =>
            have hi : ThOk n ts (.ti i j) := ht' ▸ hok t ht
            have hr := w.rg _ (show (i, j) ∈ ts from hi)
            dsimp only at hr
            have a1 := hb p i p0 p1 (by omega) (by omega)
            have a2 := hb p j p0 p1 (by omega) (by omega)
            show min2 (dst n ts p i) (dst n ts p j) ≤ _
            rcases mm_cases (dst n ts p i) (dst n ts p j) with ⟨e1, _, _⟩ | ⟨e1, _, _⟩ <;> rw [e1] <;> omega
        rw [hv] at hcount
        have c' := of_decide_eq_true c
        rw [rng_length, Int.one_mul, show (g - 0).toNat = g.toNat by omega] at c'
        have e2 : (1 + b) ^ g.toNat = (((1 + b.toNat) ^ g.toNat : Nat) : Int) := by
          rw [Int.natCast_pow]
          congr 1
          omega
        rw [e2] at c'
        have c2 : (((kindT n ts k).length : Nat) : Int) > _ := c'
        omega
  · rintro r ⟨g, rfl, _⟩
    exact rfl
end G
namespace HD
open PySem (PyData Obj Params Str)
@[reducible] noncomputable def en (P : PySem.Params) (k : PySem.Str) (t : Nat) (v : PySem.Value) : PySem.DictEntry := .mk (PyData.keyHash P k) (.str k t) v
@[reducible] noncomputable def ob (c : PySem.Value) (d : PySem.Data) : PySem.Obj := .mk c none d (Array.mk [])
@[reducible] noncomputable def fO (c : PySem.Value) (n : PySem.Str) (s : PySem.Stmt) (pm cd : PySem.Value) : PySem.Obj := .mk c none (.func (PySem.W.fnOf n n (L2.defArgs s) (L2.defBody s) (L2.defScope s) .none .none .none pm none cd .none)) (Array.mk [])
@[reducible] noncomputable def cO (n : PySem.Str) (s : PySem.Stmt) : PySem.Obj := .mk .none none (.func (.mk n n (L2.defArgs s) (.stmts (L2.defBody s)) (L2.defScope s) 0 [] .none .none .none .none none .none .none 0)) (Array.mk [])
@[reducible] noncomputable def i (x : Int) : PySem.Value := .int x 0
@[reducible] noncomputable def n (o : PySem.Obj) (x y : PySem.W.BT) : PySem.W.BT := .node o x y
@[reducible] noncomputable def l (o : PySem.Obj) : PySem.W.BT := .node o .nil .nil
noncomputable def a0 : Str := ⟨⟨[95,95,110,97,109,101,95,95]⟩⟩
noncomputable def a1 : Str := ⟨⟨[72,97,105,108,69,114,114,111,114]⟩⟩
noncomputable def a2 : Str := ⟨⟨[86,97,108,117,101,69,114,114,111,114]⟩⟩
noncomputable def a3 : Str := ⟨⟨[78,111,87,101,98]⟩⟩
noncomputable def a4 : Str := ⟨⟨[78,111,80,108,97,99,101]⟩⟩
noncomputable def a5 : Str := ⟨⟨[78,111,84,104,105,110,103]⟩⟩
noncomputable def a6 : Str := ⟨⟨[78,111,76,111,111,107,115]⟩⟩
noncomputable def a7 : Str := ⟨⟨[84,111,111,77,97,110,121]⟩⟩
noncomputable def a8 : Str := ⟨⟨[65,112,97,114,116]⟩⟩
noncomputable def a9 : Str := ⟨⟨[77,79,83,84,95,80,76,65,67,69,83,95,119,101,98,115]⟩⟩
noncomputable def a10 : Str := ⟨⟨[110,101,97,114,95,108,105,115,116,115]⟩⟩
noncomputable def a11 : Str := ⟨⟨[102,97,114,115,95,98,121]⟩⟩
noncomputable def a12 : Str := ⟨⟨[115,111,114,116,101,100,95,116,105,101,115]⟩⟩
noncomputable def a13 : Str := ⟨⟨[109,97,100,101,95,119,101,98]⟩⟩
noncomputable def a14 : Str := ⟨⟨[112,108,97,99,101,95,97,115,107,101,100]⟩⟩
noncomputable def a15 : Str := ⟨⟨[102,97,114,115,95,102,114,111,109]⟩⟩
noncomputable def a16 : Str := ⟨⟨[102,97,114,95,98,101,116,119,101,101,110]⟩⟩
noncomputable def a17 : Str := ⟨⟨[116,97,98,108,101,95,111,102]⟩⟩
noncomputable def a18 : Str := ⟨⟨[116,104,105,110,103,115,95,111,102]⟩⟩
noncomputable def a19 : Str := ⟨⟨[108,111,111,107,115,95,97,115,107,101,100]⟩⟩
noncomputable def a20 : Str := ⟨⟨[116,104,105,110,103,95,97,115,107,101,100]⟩⟩
noncomputable def a21 : Str := ⟨⟨[102,97,114,95,98,121]⟩⟩
noncomputable def a22 : Str := ⟨⟨[99,111,100,101,95,111,102]⟩⟩
noncomputable def a23 : Str := ⟨⟨[98,121,95,99,111,100,101]⟩⟩
noncomputable def a24 : Str := ⟨⟨[108,105,107,101,115,95,98,121]⟩⟩
noncomputable def a25 : Str := ⟨⟨[105,115,95,107,110,111,119,110]⟩⟩
noncomputable def a26 : Str := ⟨⟨[77,79,83,84,95,80,76,65,67,69,83,95,97,115,107,115]⟩⟩
noncomputable def a27 : Str := ⟨⟨[77,79,83,84,95,84,72,73,78,71,83]⟩⟩
noncomputable def a28 : Str := ⟨⟨[102,101,119,95,116,104,105,110,103,115]⟩⟩
noncomputable def a29 : Str := ⟨⟨[97,108,108,95,102,97,114,115]⟩⟩
noncomputable def a30 : Str := ⟨⟨[102,97,114,95,116,104,105,110,103]⟩⟩
noncomputable def a31 : Str := ⟨⟨[112,97,114,116,115,95,98,121]⟩⟩
noncomputable def a32 : Str := ⟨⟨[65,115,107,105,110,103]⟩⟩
noncomputable def a33 : Str := ⟨⟨[102,101,119,101,115,116,95,97,115,107,115]⟩⟩
noncomputable def a34 : Str := ⟨⟨[108,101,110,95,102,105,114,115,116]⟩⟩
noncomputable def a35 : Str := ⟨⟨[112,108,97,110,95,111,102,95,112,97,114,116,115]⟩⟩
noncomputable def a36 : Str := ⟨⟨[97,115,107,115,95,111,102]⟩⟩
noncomputable def a37 : Str := ⟨⟨[112,108,97,110,95,97,115,107,115]⟩⟩
noncomputable def a38 : Str := ⟨⟨[95,108,97,119,95,99,101,108,108,95,97,116]⟩⟩
noncomputable def a39 : Str := ⟨⟨[95,108,97,119,95,102,111,108,100,101,100]⟩⟩
noncomputable def a40 : Str := ⟨⟨[95,108,97,119,95,115,116,97,116,101]⟩⟩
noncomputable def a41 : Str := ⟨⟨[95,108,97,119,95,110,101,120,116]⟩⟩
noncomputable def a42 : Str := ⟨⟨[95,108,97,119,95,119,101,98]⟩⟩
noncomputable def a43 : Str := ⟨⟨[95,108,97,119,95,116,104,105,110,103,115]⟩⟩
noncomputable def a44 : Str := ⟨⟨[95,108,97,119,95,102,101,119]⟩⟩
noncomputable def a45 : Str := ⟨⟨[95,108,97,119,95,103,111,110,101]⟩⟩
noncomputable def a46 : Str := ⟨⟨[95,108,97,119,95,108,111,111,107,115]⟩⟩
noncomputable def a47 : Str := ⟨⟨[95,108,97,119,95,98,114,111,97,100,101,115,116]⟩⟩
noncomputable def a48 : Str := ⟨⟨[108,97,119]⟩⟩
noncomputable def env : PySem.Env := ⟨(.mk .module [(a0, .local),(a1, .local),(a2, .globalImplicit),(a3, .local),(a4, .local),(a5, .local),(a6, .local),(a7, .local),(a8, .local),(a9, .local),(a10, .local),(a11, .local),(a12, .local),(a13, .local),(a14, .local),(a15, .local),(a16, .local),(a17, .local),(a18, .local),(a19, .local),(a20, .local),(a21, .local),(a22, .local),(a23, .local),(a24, .local),(a25, .local),(a26, .local),(a27, .local),(a28, .local),(a29, .local),(a30, .local),(a31, .local),(a32, .local),(a33, .local),(a34, .local),(a35, .local),(a36, .local),(a37, .local),(a38, .local),(a39, .local),(a40, .local),(a41, .local),(a42, .local),(a43, .local),(a44, .local),(a45, .local),(a46, .local),(a47, .local),(a48, .local)] .false .false []), PySem.mainNs, PySem.mainNs, [], PySem.Str.empty, none, (.ref 13), (some 14), 0⟩
noncomputable abbrev q0 (P : Params) : Obj := PySem.W.boot_o_0 P
noncomputable abbrev q1 (P : Params) : Obj := PySem.W.boot_o_1 P
noncomputable abbrev q2 (P : Params) : Obj := PySem.W.boot_o_2 P
noncomputable abbrev q3 (P : Params) : Obj := PySem.W.boot_o_3 P
noncomputable abbrev q4 (P : Params) : Obj := PySem.W.boot_o_4 P
noncomputable abbrev q5 (P : Params) : Obj := PySem.W.boot_o_5 P
noncomputable abbrev q6 (P : Params) : Obj := PySem.W.boot_o_6 P
noncomputable abbrev q7 (P : Params) : Obj := PySem.W.boot_o_7 P
noncomputable abbrev q8 (P : Params) : Obj := PySem.W.boot_o_8 P
noncomputable abbrev q9 (P : Params) : Obj := PySem.W.boot_o_9 P
noncomputable abbrev q10 (P : Params) : Obj := PySem.W.boot_o_10 P
noncomputable abbrev b0 : String := PySem.W.SL.s2766695959194262286x5
noncomputable def o0 : Obj := (ob (.type b0) (.seq ⟨[]⟩ 0))
noncomputable def o1 : Obj := (ob .none (.fields ⟨[]⟩))
noncomputable abbrev b1 : String := PySem.W.SL.s5856160107412720595x4
noncomputable def a49 : Str := ⟨⟨[60,109,111,100,117,108,101,62]⟩⟩
noncomputable def a50 : Str := ⟨⟨[47,99,108,97,105,109,47,99,117,116,46,112,121]⟩⟩
noncomputable def o2 : Obj := (ob (.type b1) (.fields ⟨[(.str a49 182),(.str a49 183),(.str a50 184),(i 1),(i 0),(i 0),(i 0),(i 0),(.ref 11),(.bool .false),(i 181),(.ref 12),.none,.none,.none,.none,(i 185),(i 1),(.str a50 186)]⟩))
noncomputable abbrev b2 : String := PySem.W.SL.s658472552662922059x5
noncomputable def a51 : Str := ⟨⟨[95,95,109,97,105,110,95,95]⟩⟩
noncomputable def o3 : Obj := (.mk (.type b2) none .plain ⟨[(some (.ref 13)),(some (.ref 3)),(some (.ref 3)),none,(some (.str a51 164)),none,(some (.ref 0))]⟩)
noncomputable def hA (P : PySem.Params) : PySem.Heap := ⟨⟨[(q0 P), (q1 P), (q2 P), (q3 P), (q4 P), (q5 P), (q6 P), (q7 P), (q8 P), (q9 P), (q10 P), o0, o1, o2, o3]⟩, (.mk [] [] [] 0 [] [] .false ⟨[]⟩ [] 0 .false .false .false 0 [2000,10,10] .false 0 .true [] [] 0 .false)⟩
noncomputable def tB (P : PySem.Params) : PySem.W.BT := (n (q0 P) (n (q1 P) (n (q3 P) (l (q7 P)) (l o0)) (n (q5 P) (l (q9 P)) (l o2))) (n (q2 P) (n (q4 P) (l (q8 P)) (l o1)) (n (q6 P) (l (q10 P)) (l o3))))
noncomputable abbrev code : PySem.Code := .body (PySem.W.behindTheImports PySem.Challenge.pw_farhail_k56_whole_plans_played) env
noncomputable abbrev B : List PySem.Frame := [PySem.W.topFrame (.mk 0 0 0 0)]
theorem pre0 (w : PySem.World) : (fun os : PySem.OsState => PySem.W.Fast.tw15667345088766844465 PySem.W.Fast.tw14364793385576792824 PySem.Challenge.pw_farhail_k56_whole_plans_played w 11 (some (.ref 6)) 12 (PySem.Shared.mk (PySem.W.boot_heap w.params) (Array.mk ([] : List PySem.GenState)) PySem.W.boot_drawn PySem.W.boot_toks os) (PySem.W.topStub PySem.Challenge.pw_farhail_k56_whole_plans_played)) = fun os => some ((PySem.Shared.mk (hA w.params) (Array.mk ([] : List PySem.GenState)) (.mk 0 0 0 0) 187 os), PySem.Thread.mk (PySem.W.Fast.tw11892475500146522536 PySem.W.Fast.tw14364793385576792824 code) code (.mk 0 0 0 0) B) := by kernel_rfl
theorem pre (w : PySem.World) (os : PySem.OsState) : PySem.W.topGo PySem.treeTable PySem.Challenge.pw_farhail_k56_whole_plans_played w 11 (some (.ref 6)) 12 (PySem.Shared.mk (PySem.W.boot_heap w.params) (Array.mk ([] : List PySem.GenState)) PySem.W.boot_drawn PySem.W.boot_toks os) (PySem.W.topStub PySem.Challenge.pw_farhail_k56_whole_plans_played) = some ((PySem.Shared.mk (hA w.params) (Array.mk ([] : List PySem.GenState)) (.mk 0 0 0 0) 187 os), PySem.Thread.mk (PySem.denote PySem.treeTable code) code (.mk 0 0 0 0) B) := by rw [PySem.W.Fast.te15667345088766844465, PySem.W.Fast.te14364793385576792824, PySem.W.Fast.te11892475500146522536]; exact congrFun (pre0 w) os
theorem block0 (w : PySem.World) : (fun os : PySem.OsState => PySem.W.Fast.tw14374325043358763698 PySem.W.Fast.tw14364793385576792824 PySem.Challenge.pw_farhail_k56_whole_plans_played w 11 (some (.ref 6)) 1 1 (PySem.Shared.mk (hA w.params) (Array.mk ([] : List PySem.GenState)) (.mk 0 0 0 0) 187 os) (PySem.W.blockOf (PySem.W.behindTheImports PySem.Challenge.pw_farhail_k56_whole_plans_played) env code (.mk 0 0 0 0) B)) = fun os => some (PySem.Flow.next, (PySem.W.SharedT.mk (tB w.params) 15 (.mk [] [] [] 0 [] [] .false ⟨[]⟩ [] 0 .false .false .false 0 [2000,10,10] .false 0 .true [] [] 0 .false) (Array.mk ([] : List PySem.GenState)) (.mk 0 0 0 0) 187 os).abs, code, (.mk 0 0 0 0)) := by kernel_rfl
theorem block (w : PySem.World) (os : PySem.OsState) : PySem.W.segRun PySem.treeTable PySem.Challenge.pw_farhail_k56_whole_plans_played w 11 (some (.ref 6)) 1 1 (PySem.Shared.mk (hA w.params) (Array.mk ([] : List PySem.GenState)) (.mk 0 0 0 0) 187 os) (PySem.W.blockOf (PySem.W.behindTheImports PySem.Challenge.pw_farhail_k56_whole_plans_played) env code (.mk 0 0 0 0) B) = some (PySem.Flow.next, (PySem.W.SharedT.mk (tB w.params) 15 (.mk [] [] [] 0 [] [] .false ⟨[]⟩ [] 0 .false .false .false 0 [2000,10,10] .false 0 .true [] [] 0 .false) (Array.mk ([] : List PySem.GenState)) (.mk 0 0 0 0) 187 os).abs, code, (.mk 0 0 0 0)) := by rw [PySem.W.Fast.te14374325043358763698, PySem.W.Fast.te14364793385576792824]; exact congrFun (block0 w) os
noncomputable def a52 : Str := ⟨⟨[102,97,114,104,97,105,108,46,101,114,114,111,114,115]⟩⟩
noncomputable def sts0 : List PySem.Stmt := [(.Assign [(.Name a0 (.mk 1 0 1 8))] (.Constant (.str a52) 0 (.mk 1 11 1 27)) (.mk 1 0 1 27)), (.ClassDef a1 [(.Name a2 (.mk 2 16 2 26))] [] [(.Pass (.mk 3 4 3 8))] [] [] (.mk .class [] .false .false []) none a1 [] (.mk 2 0 3 8))]
noncomputable abbrev b3 : String := PySem.W.SL.s14018661285674007319x4
noncomputable def a53 : Str := ⟨⟨[95,95,100,111,99,95,95]⟩⟩
noncomputable def a54 : Str := ⟨⟨[95,95,112,97,99,107,97,103,101,95,95]⟩⟩
noncomputable def a55 : Str := ⟨⟨[95,95,108,111,97,100,101,114,95,95]⟩⟩
noncomputable abbrev b4 : String := PySem.W.SL.s7097527257260152453x26
noncomputable def a56 : Str := ⟨⟨[95,95,115,112,101,99,95,95]⟩⟩
noncomputable def a57 : Str := ⟨⟨[95,95,97,110,110,111,116,97,116,105,111,110,115,95,95]⟩⟩
noncomputable def a58 : Str := ⟨⟨[95,95,98,117,105,108,116,105,110,115,95,95]⟩⟩
noncomputable def a59 : Str := ⟨⟨[95,95,102,105,108,101,95,95]⟩⟩
noncomputable def a60 : Str := ⟨⟨[95,95,99,97,99,104,101,100,95,95]⟩⟩
noncomputable def o4 (P : Params) : Obj := (ob (.type b3) (.dict ⟨[(en P a0 165 (.str a52 187)),(en P a53 166 .none),(en P a54 167 .none),(en P a55 168 (.builtin b4)),(en P a56 169 .none),(en P a57 170 (.ref 6)),(en P a58 171 (.ref 4)),(en P a59 173 (.str a50 172)),(en P a60 174 .none),(en P a1 206 (.ref 24))]⟩ 10))
noncomputable def o5 : Obj := (ob .none (.fields ⟨[(i 2),(i 0),(.ref 20)]⟩))
noncomputable abbrev b5 : String := PySem.W.SL.s6070975301684473832x10
noncomputable def o6 : Obj := (ob (.type b0) (.seq ⟨[(.type b5)]⟩ 0))
noncomputable abbrev b6 : String := PySem.W.SL.s11030030927630378310x26
noncomputable abbrev b7 : String := PySem.W.SL.s10062305145149207511x16
noncomputable abbrev b8 : String := PySem.W.SL.s17162191345867700912x4
noncomputable def o7 : Obj := (ob (.type b6) (.fields ⟨[(.builtin b7),(.type b8)]⟩))
noncomputable def a61 : Str := ⟨⟨[95,95,109,111,100,117,108,101,95,95]⟩⟩
noncomputable def a62 : Str := ⟨⟨[95,95,113,117,97,108,110,97,109,101,95,95]⟩⟩
noncomputable def a63 : Str := ⟨⟨[95,95,102,105,114,115,116,108,105,110,101,110,111,95,95]⟩⟩
noncomputable def a64 : Str := ⟨⟨[95,95,115,116,97,116,105,99,95,97,116,116,114,105,98,117,116,101,115,95,95]⟩⟩
noncomputable def o8 (P : Params) : Obj := (ob (.type b3) (.dict ⟨[(en P a61 196 (.str a52 187)),(en P a62 198 (.str a1 197)),(en P a63 200 (.int 2 199)),(en P a64 201 (.ref 22))]⟩ 4))
noncomputable def o9 : Obj := (ob (.type b0) (.seq ⟨[]⟩ 0))
noncomputable def o10 : Obj := (ob .none (.fields ⟨[]⟩))
noncomputable def o11 : Obj := (ob (.type b1) (.fields ⟨[(.str a1 191),(.str a1 192),(.str a50 193),(i 2),(i 0),(i 0),(i 0),(i 0),(.ref 18),(.bool .false),(i 181),(.ref 19),.none,.none,.none,.none,(i 194),(i 2),(.str a50 195)]⟩))
noncomputable def o12 : Obj := (.mk (.type b2) none .plain ⟨[(some (.ref 20)),(some (.ref 3)),(some (.ref 17)),none,(some (.str a52 187)),none,(some (.ref 0))]⟩)
noncomputable def o13 : Obj := (ob (.type b0) (.seq ⟨[]⟩ 0))
noncomputable def a65 : Str := ⟨⟨[95,95,119,101,97,107,114,101,102,95,95]⟩⟩
noncomputable def o14 (P : Params) : Obj := (ob (.type b3) (.dict ⟨[(en P a61 196 (.str a52 187)),(en P a63 200 (.int 2 199)),(en P a64 201 (.ref 22)),(en P a65 203 (.ref 25)),(en P a53 204 .none)]⟩ 3))
noncomputable abbrev b9 : String := PySem.W.SL.s5946037652744460706x9
noncomputable abbrev b10 : String := PySem.W.SL.s4278001404047624695x13
noncomputable abbrev b11 : String := PySem.W.SL.s2742458400755230247x6
noncomputable abbrev b12 : String := PySem.W.SL.s4209523147560561109x18
noncomputable def o15 : Obj := (.mk (.type b8) none (.cls (.mk a1 [(.type b5)] [(.ref 24),(.type b5),(.type b9),(.type b10),(.type b11)] 23 a1 .true [] [] .false none .false)) ⟨[(some (.ref 15)),none,(some (.str a1 189)),(some (.str a1 197)),(some (.builtin b12)),(some (.bool .true))]⟩)
noncomputable abbrev b13 : String := PySem.W.SL.s14755015743595814543x17
noncomputable abbrev b14 : String := PySem.W.SL.s10220274742760427390x26
noncomputable def o16 : Obj := (ob (.type b13) (.fields ⟨[(.str a65 202),(.ref 24),(.builtin b14),.none]⟩))
noncomputable abbrev b15 : String := PySem.W.SL.s4290257624100764138x5
noncomputable def o17 : Obj := (ob (.type b15) (.fields ⟨[(.ref 24),(.ref 24),(.ref 24)]⟩))
noncomputable abbrev b16 : String := PySem.W.SL.s4860613602091757760x24
noncomputable def o18 : Obj := (ob (.type b6) (.fields ⟨[(.builtin b16),(.ref 24)]⟩))
noncomputable def t0 (P : PySem.Params) : PySem.W.BT := (n (q0 P) (n (q1 P) (n (o4 P) (n (q7 P) (l o6) (l (o14 P))) (n o0 (l o10) (l o18))) (n (q5 P) (n (q9 P) (l (o8 P)) (l o16)) (n o2 (l o12) .nil))) (n (q2 P) (n (q4 P) (n (q8 P) (l o7) (l o15)) (n o5 (l o11) .nil)) (n (q6 P) (n (q10 P) (l o9) (l o17)) (n o3 (l o13) .nil))))
theorem pz0 : ∀ w : PySem.World, (fun os : PySem.OsState => PySem.W.Fast.tw10110043849684766642 PySem.W.Fast.tw14364793385576792824 PySem.Challenge.pw_farhail_k56_whole_plans_played w 11 (some (.ref 6)) 1 196 (PySem.W.SharedT.mk (tB w.params) 15 (.mk [] [] [] 0 [] [] .false ⟨[]⟩ [] 0 .false .false .false 0 [2000,10,10] .false 0 .true [] [] 0 .false) (Array.mk ([] : List PySem.GenState)) (.mk 0 0 0 0) 187 os) (PySem.W.piecesOf sts0 env code (.mk 0 0 0 0) B)) = fun os => some (PySem.Flow.next, (PySem.W.SharedT.mk (t0 w.params) 28 (.mk [] [] [] 0 [] [] .false ⟨[]⟩ [] 0 .false .false .false 0 [2000,10,10] .false 0 .true [] [] 0 .false) (Array.mk ([] : List PySem.GenState)) (.mk 0 0 0 0) 207 os), code, (.mk 2 0 3 8)) := fun w => by kernel_rfl
theorem p0 (w : PySem.World) (os : PySem.OsState) : PySem.W.segRun PySem.treeTable PySem.Challenge.pw_farhail_k56_whole_plans_played w 11 (some (.ref 6)) 1 196 (PySem.W.SharedT.mk (tB w.params) 15 (.mk [] [] [] 0 [] [] .false ⟨[]⟩ [] 0 .false .false .false 0 [2000,10,10] .false 0 .true [] [] 0 .false) (Array.mk ([] : List PySem.GenState)) (.mk 0 0 0 0) 187 os).abs (PySem.W.piecesOf sts0 env code (.mk 0 0 0 0) B) = some (PySem.Flow.next, (PySem.W.SharedT.mk (t0 w.params) 28 (.mk [] [] [] 0 [] [] .false ⟨[]⟩ [] 0 .false .false .false 0 [2000,10,10] .false 0 .true [] [] 0 .false) (Array.mk ([] : List PySem.GenState)) (.mk 0 0 0 0) 207 os).abs, code, (.mk 2 0 3 8)) := PySem.W.segRun_of (by rw [PySem.W.Fast.te10110043849684766642, PySem.W.Fast.te14364793385576792824]; exact congrFun (pz0 w) os)
noncomputable def sts1 : List PySem.Stmt := [(.ClassDef a3 [(.Name a1 (.mk 4 12 4 21))] [] [(.Pass (.mk 5 4 5 8))] [] [] (.mk .class [] .false .false []) none a3 [] (.mk 4 0 5 8))]
noncomputable def o19 (P : Params) : Obj := (ob (.type b3) (.dict ⟨[(en P a0 165 (.str a52 187)),(en P a53 166 .none),(en P a54 167 .none),(en P a55 168 (.builtin b4)),(en P a56 169 .none),(en P a57 170 (.ref 6)),(en P a58 171 (.ref 4)),(en P a59 173 (.str a50 172)),(en P a60 174 .none),(en P a1 206 (.ref 24)),(en P a3 222 (.ref 37))]⟩ 11))
noncomputable def o20 : Obj := (ob .none (.fields ⟨[(i 2),(i 0),(.ref 20),(i 4),(i 0),(.ref 33)]⟩))
noncomputable def o21 : Obj := (.mk (.type b8) none (.cls (.mk a1 [(.type b5)] [(.ref 24),(.type b5),(.type b9),(.type b10),(.type b11)] 23 a1 .true [] [(.ref 37)] .false none .false)) ⟨[(some (.ref 15)),none,(some (.str a1 189)),(some (.str a1 197)),(some (.builtin b12)),(some (.bool .true))]⟩)
noncomputable def o22 : Obj := (ob (.type b0) (.seq ⟨[(.ref 24)]⟩ 0))
noncomputable def o23 : Obj := (ob (.type b6) (.fields ⟨[(.builtin b7),(.type b8)]⟩))
noncomputable def o24 (P : Params) : Obj := (ob (.type b3) (.dict ⟨[(en P a61 214 (.str a52 187)),(en P a62 216 (.str a3 215)),(en P a63 218 (.int 4 217)),(en P a64 219 (.ref 35))]⟩ 4))
noncomputable def o25 : Obj := (ob (.type b0) (.seq ⟨[]⟩ 0))
noncomputable def o26 : Obj := (ob .none (.fields ⟨[]⟩))
noncomputable def o27 : Obj := (ob (.type b1) (.fields ⟨[(.str a3 209),(.str a3 210),(.str a50 211),(i 4),(i 0),(i 0),(i 0),(i 0),(.ref 31),(.bool .false),(i 181),(.ref 32),.none,.none,.none,.none,(i 212),(i 4),(.str a50 213)]⟩))
noncomputable def o28 : Obj := (.mk (.type b2) none .plain ⟨[(some (.ref 33)),(some (.ref 3)),(some (.ref 30)),none,(some (.str a52 187)),none,(some (.ref 0))]⟩)
noncomputable def o29 : Obj := (ob (.type b0) (.seq ⟨[]⟩ 0))
noncomputable def o30 (P : Params) : Obj := (ob (.type b3) (.dict ⟨[(en P a61 214 (.str a52 187)),(en P a63 218 (.int 4 217)),(en P a64 219 (.ref 35)),(en P a53 220 .none)]⟩ 2))
noncomputable def o31 : Obj := (.mk (.type b8) none (.cls (.mk a3 [(.ref 24)] [(.ref 37),(.ref 24),(.type b5),(.type b9),(.type b10),(.type b11)] 36 a3 .true [] [] .false none .false)) ⟨[(some (.ref 28)),none,(some (.str a3 207)),(some (.str a3 215)),(some (.builtin b12)),(some (.bool .true))]⟩)
noncomputable def o32 : Obj := (ob (.type b15) (.fields ⟨[(.ref 37),(.ref 37),(.ref 37)]⟩))
noncomputable def o33 : Obj := (ob (.type b6) (.fields ⟨[(.builtin b16),(.ref 37)]⟩))
noncomputable def t1 (P : PySem.Params) : PySem.W.BT := (n (q0 P) (n (q1 P) (n (o19 P) (n (q7 P) (n o6 (l o25) .nil) (n (o14 P) (l o33) .nil)) (n o0 (n o10 (l o29) .nil) (l o18))) (n (q5 P) (n (q9 P) (n (o8 P) (l o27) .nil) (l o16)) (n o2 (n o12 (l o31) .nil) (l o23)))) (n (q2 P) (n (q4 P) (n (q8 P) (n o7 (l o26) .nil) (l o21)) (n o20 (n o11 (l (o30 P)) .nil) (l o22))) (n (q6 P) (n (q10 P) (n o9 (l o28) .nil) (l o17)) (n o3 (n o13 (l o32) .nil) (l (o24 P))))))
theorem pz1 : ∀ w : PySem.World, (fun os : PySem.OsState => PySem.W.Fast.tw10110043849684766642 PySem.W.Fast.tw14364793385576792824 PySem.Challenge.pw_farhail_k56_whole_plans_played w 11 (some (.ref 6)) 1 214 (PySem.W.SharedT.mk (t0 w.params) 28 (.mk [] [] [] 0 [] [] .false ⟨[]⟩ [] 0 .false .false .false 0 [2000,10,10] .false 0 .true [] [] 0 .false) (Array.mk ([] : List PySem.GenState)) (.mk 0 0 0 0) 207 os) (PySem.W.piecesOf sts1 env code (.mk 2 0 3 8) B)) = fun os => some (PySem.Flow.next, (PySem.W.SharedT.mk (t1 w.params) 40 (.mk [] [] [] 0 [] [] .false ⟨[]⟩ [] 0 .false .false .false 0 [2000,10,10] .false 0 .true [] [] 0 .false) (Array.mk ([] : List PySem.GenState)) (.mk 0 0 0 0) 223 os), code, (.mk 4 0 5 8)) := fun w => by kernel_rfl
theorem p1 (w : PySem.World) (os : PySem.OsState) : PySem.W.segRun PySem.treeTable PySem.Challenge.pw_farhail_k56_whole_plans_played w 11 (some (.ref 6)) 1 214 (PySem.W.SharedT.mk (t0 w.params) 28 (.mk [] [] [] 0 [] [] .false ⟨[]⟩ [] 0 .false .false .false 0 [2000,10,10] .false 0 .true [] [] 0 .false) (Array.mk ([] : List PySem.GenState)) (.mk 0 0 0 0) 207 os).abs (PySem.W.piecesOf sts1 env code (.mk 2 0 3 8) B) = some (PySem.Flow.next, (PySem.W.SharedT.mk (t1 w.params) 40 (.mk [] [] [] 0 [] [] .false ⟨[]⟩ [] 0 .false .false .false 0 [2000,10,10] .false 0 .true [] [] 0 .false) (Array.mk ([] : List PySem.GenState)) (.mk 0 0 0 0) 223 os).abs, code, (.mk 4 0 5 8)) := PySem.W.segRun_of (by rw [PySem.W.Fast.te10110043849684766642, PySem.W.Fast.te14364793385576792824]; exact congrFun (pz1 w) os)
noncomputable def sts2 : List PySem.Stmt := [(.ClassDef a4 [(.Name a1 (.mk 6 14 6 23))] [] [(.Pass (.mk 7 4 7 8))] [] [] (.mk .class [] .false .false []) none a4 [] (.mk 6 0 7 8))]
noncomputable def o34 (P : Params) : Obj := (ob (.type b3) (.dict ⟨[(en P a0 165 (.str a52 187)),(en P a53 166 .none),(en P a54 167 .none),(en P a55 168 (.builtin b4)),(en P a56 169 .none),(en P a57 170 (.ref 6)),(en P a58 171 (.ref 4)),(en P a59 173 (.str a50 172)),(en P a60 174 .none),(en P a1 206 (.ref 24)),(en P a3 222 (.ref 37)),(en P a4 238 (.ref 49))]⟩ 12))
noncomputable def o35 : Obj := (ob .none (.fields ⟨[(i 2),(i 0),(.ref 20),(i 4),(i 0),(.ref 33),(i 6),(i 0),(.ref 45)]⟩))
noncomputable def o36 : Obj := (.mk (.type b8) none (.cls (.mk a1 [(.type b5)] [(.ref 24),(.type b5),(.type b9),(.type b10),(.type b11)] 23 a1 .true [] [(.ref 37),(.ref 49)] .false none .false)) ⟨[(some (.ref 15)),none,(some (.str a1 189)),(some (.str a1 197)),(some (.builtin b12)),(some (.bool .true))]⟩)
noncomputable def o37 : Obj := (ob (.type b0) (.seq ⟨[(.ref 24)]⟩ 0))
noncomputable def o38 : Obj := (ob (.type b6) (.fields ⟨[(.builtin b7),(.type b8)]⟩))
noncomputable def o39 (P : Params) : Obj := (ob (.type b3) (.dict ⟨[(en P a61 230 (.str a52 187)),(en P a62 232 (.str a4 231)),(en P a63 234 (.int 6 233)),(en P a64 235 (.ref 47))]⟩ 4))
noncomputable def o40 : Obj := (ob (.type b0) (.seq ⟨[]⟩ 0))
noncomputable def o41 : Obj := (ob .none (.fields ⟨[]⟩))
noncomputable def o42 : Obj := (ob (.type b1) (.fields ⟨[(.str a4 225),(.str a4 226),(.str a50 227),(i 6),(i 0),(i 0),(i 0),(i 0),(.ref 43),(.bool .false),(i 181),(.ref 44),.none,.none,.none,.none,(i 228),(i 6),(.str a50 229)]⟩))
noncomputable def o43 : Obj := (.mk (.type b2) none .plain ⟨[(some (.ref 45)),(some (.ref 3)),(some (.ref 42)),none,(some (.str a52 187)),none,(some (.ref 0))]⟩)
noncomputable def o44 : Obj := (ob (.type b0) (.seq ⟨[]⟩ 0))
noncomputable def o45 (P : Params) : Obj := (ob (.type b3) (.dict ⟨[(en P a61 230 (.str a52 187)),(en P a63 234 (.int 6 233)),(en P a64 235 (.ref 47)),(en P a53 236 .none)]⟩ 2))
noncomputable def o46 : Obj := (.mk (.type b8) none (.cls (.mk a4 [(.ref 24)] [(.ref 49),(.ref 24),(.type b5),(.type b9),(.type b10),(.type b11)] 48 a4 .true [] [] .false none .false)) ⟨[(some (.ref 40)),none,(some (.str a4 223)),(some (.str a4 231)),(some (.builtin b12)),(some (.bool .true))]⟩)
noncomputable def o47 : Obj := (ob (.type b15) (.fields ⟨[(.ref 49),(.ref 49),(.ref 49)]⟩))
noncomputable def o48 : Obj := (ob (.type b6) (.fields ⟨[(.builtin b16),(.ref 49)]⟩))
noncomputable def t2 (P : PySem.Params) : PySem.W.BT := (n (q0 P) (n (q1 P) (n (o34 P) (n (q7 P) (n o6 (l o25) (l o44)) (n (o14 P) (l o33) .nil)) (n o0 (n o10 (l o29) (l o48)) (n o18 (l o40) .nil))) (n (q5 P) (n (q9 P) (n (o8 P) (l o27) (l o46)) (n o16 (l o38) .nil)) (n o2 (n o12 (l o31) .nil) (n o23 (l o42) .nil)))) (n (q2 P) (n (q4 P) (n (q8 P) (n o7 (l o26) (l (o45 P))) (n o36 (l o37) .nil)) (n o35 (n o11 (l (o30 P)) .nil) (n o22 (l o41) .nil))) (n (q6 P) (n (q10 P) (n o9 (l o28) (l o47)) (n o17 (l (o39 P)) .nil)) (n o3 (n o13 (l o32) .nil) (n (o24 P) (l o43) .nil)))))
theorem pz2 : ∀ w : PySem.World, (fun os : PySem.OsState => PySem.W.Fast.tw10110043849684766642 PySem.W.Fast.tw14364793385576792824 PySem.Challenge.pw_farhail_k56_whole_plans_played w 11 (some (.ref 6)) 1 214 (PySem.W.SharedT.mk (t1 w.params) 40 (.mk [] [] [] 0 [] [] .false ⟨[]⟩ [] 0 .false .false .false 0 [2000,10,10] .false 0 .true [] [] 0 .false) (Array.mk ([] : List PySem.GenState)) (.mk 0 0 0 0) 223 os) (PySem.W.piecesOf sts2 env code (.mk 4 0 5 8) B)) = fun os => some (PySem.Flow.next, (PySem.W.SharedT.mk (t2 w.params) 52 (.mk [] [] [] 0 [] [] .false ⟨[]⟩ [] 0 .false .false .false 0 [2000,10,10] .false 0 .true [] [] 0 .false) (Array.mk ([] : List PySem.GenState)) (.mk 0 0 0 0) 239 os), code, (.mk 6 0 7 8)) := fun w => by kernel_rfl
theorem p2 (w : PySem.World) (os : PySem.OsState) : PySem.W.segRun PySem.treeTable PySem.Challenge.pw_farhail_k56_whole_plans_played w 11 (some (.ref 6)) 1 214 (PySem.W.SharedT.mk (t1 w.params) 40 (.mk [] [] [] 0 [] [] .false ⟨[]⟩ [] 0 .false .false .false 0 [2000,10,10] .false 0 .true [] [] 0 .false) (Array.mk ([] : List PySem.GenState)) (.mk 0 0 0 0) 223 os).abs (PySem.W.piecesOf sts2 env code (.mk 4 0 5 8) B) = some (PySem.Flow.next, (PySem.W.SharedT.mk (t2 w.params) 52 (.mk [] [] [] 0 [] [] .false ⟨[]⟩ [] 0 .false .false .false 0 [2000,10,10] .false 0 .true [] [] 0 .false) (Array.mk ([] : List PySem.GenState)) (.mk 0 0 0 0) 239 os).abs, code, (.mk 6 0 7 8)) := PySem.W.segRun_of (by rw [PySem.W.Fast.te10110043849684766642, PySem.W.Fast.te14364793385576792824]; exact congrFun (pz2 w) os)
noncomputable def sts3 : List PySem.Stmt := [(.ClassDef a5 [(.Name a1 (.mk 8 14 8 23))] [] [(.Pass (.mk 9 4 9 8))] [] [] (.mk .class [] .false .false []) none a5 [] (.mk 8 0 9 8))]
noncomputable def o49 (P : Params) : Obj := (ob (.type b3) (.dict ⟨[(en P a0 165 (.str a52 187)),(en P a53 166 .none),(en P a54 167 .none),(en P a55 168 (.builtin b4)),(en P a56 169 .none),(en P a57 170 (.ref 6)),(en P a58 171 (.ref 4)),(en P a59 173 (.str a50 172)),(en P a60 174 .none),(en P a1 206 (.ref 24)),(en P a3 222 (.ref 37)),(en P a4 238 (.ref 49)),(en P a5 254 (.ref 61))]⟩ 13))
noncomputable def o50 : Obj := (ob .none (.fields ⟨[(i 2),(i 0),(.ref 20),(i 4),(i 0),(.ref 33),(i 6),(i 0),(.ref 45),(i 8),(i 0),(.ref 57)]⟩))
noncomputable def o51 : Obj := (.mk (.type b8) none (.cls (.mk a1 [(.type b5)] [(.ref 24),(.type b5),(.type b9),(.type b10),(.type b11)] 23 a1 .true [] [(.ref 37),(.ref 49),(.ref 61)] .false none .false)) ⟨[(some (.ref 15)),none,(some (.str a1 189)),(some (.str a1 197)),(some (.builtin b12)),(some (.bool .true))]⟩)
noncomputable def o52 : Obj := (ob (.type b0) (.seq ⟨[(.ref 24)]⟩ 0))
noncomputable def o53 : Obj := (ob (.type b6) (.fields ⟨[(.builtin b7),(.type b8)]⟩))
noncomputable def o54 (P : Params) : Obj := (ob (.type b3) (.dict ⟨[(en P a61 246 (.str a52 187)),(en P a62 248 (.str a5 247)),(en P a63 250 (.int 8 249)),(en P a64 251 (.ref 59))]⟩ 4))
noncomputable def o55 : Obj := (ob (.type b0) (.seq ⟨[]⟩ 0))
noncomputable def o56 : Obj := (ob .none (.fields ⟨[]⟩))
noncomputable def o57 : Obj := (ob (.type b1) (.fields ⟨[(.str a5 241),(.str a5 242),(.str a50 243),(i 8),(i 0),(i 0),(i 0),(i 0),(.ref 55),(.bool .false),(i 181),(.ref 56),.none,.none,.none,.none,(i 244),(i 8),(.str a50 245)]⟩))
noncomputable def o58 : Obj := (.mk (.type b2) none .plain ⟨[(some (.ref 57)),(some (.ref 3)),(some (.ref 54)),none,(some (.str a52 187)),none,(some (.ref 0))]⟩)
noncomputable def o59 : Obj := (ob (.type b0) (.seq ⟨[]⟩ 0))
noncomputable def o60 (P : Params) : Obj := (ob (.type b3) (.dict ⟨[(en P a61 246 (.str a52 187)),(en P a63 250 (.int 8 249)),(en P a64 251 (.ref 59)),(en P a53 252 .none)]⟩ 2))
noncomputable def o61 : Obj := (.mk (.type b8) none (.cls (.mk a5 [(.ref 24)] [(.ref 61),(.ref 24),(.type b5),(.type b9),(.type b10),(.type b11)] 60 a5 .true [] [] .false none .false)) ⟨[(some (.ref 52)),none,(some (.str a5 239)),(some (.str a5 247)),(some (.builtin b12)),(some (.bool .true))]⟩)
noncomputable def o62 : Obj := (ob (.type b15) (.fields ⟨[(.ref 61),(.ref 61),(.ref 61)]⟩))
noncomputable def o63 : Obj := (ob (.type b6) (.fields ⟨[(.builtin b16),(.ref 61)]⟩))
noncomputable def t3 (P : PySem.Params) : PySem.W.BT := (n (q0 P) (n (q1 P) (n (o49 P) (n (q7 P) (n o6 (n o25 (l o63) .nil) (l o44)) (n (o14 P) (l o33) (l o55))) (n o0 (n o10 (l o29) (l o48)) (n o18 (l o40) (l o59)))) (n (q5 P) (n (q9 P) (n (o8 P) (l o27) (l o46)) (n o16 (l o38) (l o57))) (n o2 (n o12 (l o31) (l o53)) (n o23 (l o42) (l o61))))) (n (q2 P) (n (q4 P) (n (q8 P) (n o7 (l o26) (l (o45 P))) (n o51 (l o37) (l o56))) (n o50 (n o11 (l (o30 P)) (l o52)) (n o22 (l o41) (l (o60 P))))) (n (q6 P) (n (q10 P) (n o9 (l o28) (l o47)) (n o17 (l (o39 P)) (l o58))) (n o3 (n o13 (l o32) (l (o54 P))) (n (o24 P) (l o43) (l o62))))))
theorem pz3 : ∀ w : PySem.World, (fun os : PySem.OsState => PySem.W.Fast.tw10110043849684766642 PySem.W.Fast.tw14364793385576792824 PySem.Challenge.pw_farhail_k56_whole_plans_played w 11 (some (.ref 6)) 1 214 (PySem.W.SharedT.mk (t2 w.params) 52 (.mk [] [] [] 0 [] [] .false ⟨[]⟩ [] 0 .false .false .false 0 [2000,10,10] .false 0 .true [] [] 0 .false) (Array.mk ([] : List PySem.GenState)) (.mk 0 0 0 0) 239 os) (PySem.W.piecesOf sts3 env code (.mk 6 0 7 8) B)) = fun os => some (PySem.Flow.next, (PySem.W.SharedT.mk (t3 w.params) 64 (.mk [] [] [] 0 [] [] .false ⟨[]⟩ [] 0 .false .false .false 0 [2000,10,10] .false 0 .true [] [] 0 .false) (Array.mk ([] : List PySem.GenState)) (.mk 0 0 0 0) 255 os), code, (.mk 8 0 9 8)) := fun w => by kernel_rfl
theorem p3 (w : PySem.World) (os : PySem.OsState) : PySem.W.segRun PySem.treeTable PySem.Challenge.pw_farhail_k56_whole_plans_played w 11 (some (.ref 6)) 1 214 (PySem.W.SharedT.mk (t2 w.params) 52 (.mk [] [] [] 0 [] [] .false ⟨[]⟩ [] 0 .false .false .false 0 [2000,10,10] .false 0 .true [] [] 0 .false) (Array.mk ([] : List PySem.GenState)) (.mk 0 0 0 0) 239 os).abs (PySem.W.piecesOf sts3 env code (.mk 6 0 7 8) B) = some (PySem.Flow.next, (PySem.W.SharedT.mk (t3 w.params) 64 (.mk [] [] [] 0 [] [] .false ⟨[]⟩ [] 0 .false .false .false 0 [2000,10,10] .false 0 .true [] [] 0 .false) (Array.mk ([] : List PySem.GenState)) (.mk 0 0 0 0) 255 os).abs, code, (.mk 8 0 9 8)) := PySem.W.segRun_of (by rw [PySem.W.Fast.te10110043849684766642, PySem.W.Fast.te14364793385576792824]; exact congrFun (pz3 w) os)
noncomputable def sts4 : List PySem.Stmt := [(.ClassDef a6 [(.Name a1 (.mk 10 14 10 23))] [] [(.Pass (.mk 11 4 11 8))] [] [] (.mk .class [] .false .false []) none a6 [] (.mk 10 0 11 8))]
noncomputable def o64 (P : Params) : Obj := (ob (.type b3) (.dict ⟨[(en P a0 165 (.str a52 187)),(en P a53 166 .none),(en P a54 167 .none),(en P a55 168 (.builtin b4)),(en P a56 169 .none),(en P a57 170 (.ref 6)),(en P a58 171 (.ref 4)),(en P a59 173 (.str a50 172)),(en P a60 174 .none),(en P a1 206 (.ref 24)),(en P a3 222 (.ref 37)),(en P a4 238 (.ref 49)),(en P a5 254 (.ref 61)),(en P a6 270 (.ref 73))]⟩ 14))
noncomputable def o65 : Obj := (ob .none (.fields ⟨[(i 2),(i 0),(.ref 20),(i 4),(i 0),(.ref 33),(i 6),(i 0),(.ref 45),(i 8),(i 0),(.ref 57),(i 10),(i 0),(.ref 69)]⟩))
noncomputable def o66 : Obj := (.mk (.type b8) none (.cls (.mk a1 [(.type b5)] [(.ref 24),(.type b5),(.type b9),(.type b10),(.type b11)] 23 a1 .true [] [(.ref 37),(.ref 49),(.ref 61),(.ref 73)] .false none .false)) ⟨[(some (.ref 15)),none,(some (.str a1 189)),(some (.str a1 197)),(some (.builtin b12)),(some (.bool .true))]⟩)
noncomputable def o67 : Obj := (ob (.type b0) (.seq ⟨[(.ref 24)]⟩ 0))
noncomputable def o68 : Obj := (ob (.type b6) (.fields ⟨[(.builtin b7),(.type b8)]⟩))
noncomputable def o69 (P : Params) : Obj := (ob (.type b3) (.dict ⟨[(en P a61 262 (.str a52 187)),(en P a62 264 (.str a6 263)),(en P a63 266 (.int 10 265)),(en P a64 267 (.ref 71))]⟩ 4))
noncomputable def o70 : Obj := (ob (.type b0) (.seq ⟨[]⟩ 0))
noncomputable def o71 : Obj := (ob .none (.fields ⟨[]⟩))
noncomputable def o72 : Obj := (ob (.type b1) (.fields ⟨[(.str a6 257),(.str a6 258),(.str a50 259),(i 10),(i 0),(i 0),(i 0),(i 0),(.ref 67),(.bool .false),(i 181),(.ref 68),.none,.none,.none,.none,(i 260),(i 10),(.str a50 261)]⟩))
noncomputable def o73 : Obj := (.mk (.type b2) none .plain ⟨[(some (.ref 69)),(some (.ref 3)),(some (.ref 66)),none,(some (.str a52 187)),none,(some (.ref 0))]⟩)
noncomputable def o74 : Obj := (ob (.type b0) (.seq ⟨[]⟩ 0))
noncomputable def o75 (P : Params) : Obj := (ob (.type b3) (.dict ⟨[(en P a61 262 (.str a52 187)),(en P a63 266 (.int 10 265)),(en P a64 267 (.ref 71)),(en P a53 268 .none)]⟩ 2))
noncomputable def o76 : Obj := (.mk (.type b8) none (.cls (.mk a6 [(.ref 24)] [(.ref 73),(.ref 24),(.type b5),(.type b9),(.type b10),(.type b11)] 72 a6 .true [] [] .false none .false)) ⟨[(some (.ref 64)),none,(some (.str a6 255)),(some (.str a6 263)),(some (.builtin b12)),(some (.bool .true))]⟩)
noncomputable def o77 : Obj := (ob (.type b15) (.fields ⟨[(.ref 73),(.ref 73),(.ref 73)]⟩))
noncomputable def o78 : Obj := (ob (.type b6) (.fields ⟨[(.builtin b16),(.ref 73)]⟩))
noncomputable def t4 (P : PySem.Params) : PySem.W.BT := (n (q0 P) (n (q1 P) (n (o64 P) (n (q7 P) (n o6 (n o25 (l o63) .nil) (l o44)) (n (o14 P) (n o33 (l o74) .nil) (l o55))) (n o0 (n o10 (n o29 (l o70) .nil) (l o48)) (n o18 (n o40 (l o78) .nil) (l o59)))) (n (q5 P) (n (q9 P) (n (o8 P) (n o27 (l o68) .nil) (l o46)) (n o16 (n o38 (l o76) .nil) (l o57))) (n o2 (n o12 (n o31 (l o72) .nil) (l o53)) (n o23 (l o42) (l o61))))) (n (q2 P) (n (q4 P) (n (q8 P) (n o7 (n o26 (l o67) .nil) (l (o45 P))) (n o66 (n o37 (l (o75 P)) .nil) (l o56))) (n o65 (n o11 (n (o30 P) (l o71) .nil) (l o52)) (n o22 (l o41) (l (o60 P))))) (n (q6 P) (n (q10 P) (n o9 (n o28 (l (o69 P)) .nil) (l o47)) (n o17 (n (o39 P) (l o77) .nil) (l o58))) (n o3 (n o13 (n o32 (l o73) .nil) (l (o54 P))) (n (o24 P) (l o43) (l o62))))))
theorem pz4 : ∀ w : PySem.World, (fun os : PySem.OsState => PySem.W.Fast.tw10110043849684766642 PySem.W.Fast.tw14364793385576792824 PySem.Challenge.pw_farhail_k56_whole_plans_played w 11 (some (.ref 6)) 1 214 (PySem.W.SharedT.mk (t3 w.params) 64 (.mk [] [] [] 0 [] [] .false ⟨[]⟩ [] 0 .false .false .false 0 [2000,10,10] .false 0 .true [] [] 0 .false) (Array.mk ([] : List PySem.GenState)) (.mk 0 0 0 0) 255 os) (PySem.W.piecesOf sts4 env code (.mk 8 0 9 8) B)) = fun os => some (PySem.Flow.next, (PySem.W.SharedT.mk (t4 w.params) 76 (.mk [] [] [] 0 [] [] .false ⟨[]⟩ [] 0 .false .false .false 0 [2000,10,10] .false 0 .true [] [] 0 .false) (Array.mk ([] : List PySem.GenState)) (.mk 0 0 0 0) 271 os), code, (.mk 10 0 11 8)) := fun w => by kernel_rfl
theorem p4 (w : PySem.World) (os : PySem.OsState) : PySem.W.segRun PySem.treeTable PySem.Challenge.pw_farhail_k56_whole_plans_played w 11 (some (.ref 6)) 1 214 (PySem.W.SharedT.mk (t3 w.params) 64 (.mk [] [] [] 0 [] [] .false ⟨[]⟩ [] 0 .false .false .false 0 [2000,10,10] .false 0 .true [] [] 0 .false) (Array.mk ([] : List PySem.GenState)) (.mk 0 0 0 0) 255 os).abs (PySem.W.piecesOf sts4 env code (.mk 8 0 9 8) B) = some (PySem.Flow.next, (PySem.W.SharedT.mk (t4 w.params) 76 (.mk [] [] [] 0 [] [] .false ⟨[]⟩ [] 0 .false .false .false 0 [2000,10,10] .false 0 .true [] [] 0 .false) (Array.mk ([] : List PySem.GenState)) (.mk 0 0 0 0) 271 os).abs, code, (.mk 10 0 11 8)) := PySem.W.segRun_of (by rw [PySem.W.Fast.te10110043849684766642, PySem.W.Fast.te14364793385576792824]; exact congrFun (pz4 w) os)
noncomputable def sts5 : List PySem.Stmt := [(.ClassDef a7 [(.Name a1 (.mk 12 14 12 23))] [] [(.Pass (.mk 13 4 13 8))] [] [] (.mk .class [] .false .false []) none a7 [] (.mk 12 0 13 8))]
noncomputable def o79 (P : Params) : Obj := (ob (.type b3) (.dict ⟨[(en P a0 165 (.str a52 187)),(en P a53 166 .none),(en P a54 167 .none),(en P a55 168 (.builtin b4)),(en P a56 169 .none),(en P a57 170 (.ref 6)),(en P a58 171 (.ref 4)),(en P a59 173 (.str a50 172)),(en P a60 174 .none),(en P a1 206 (.ref 24)),(en P a3 222 (.ref 37)),(en P a4 238 (.ref 49)),(en P a5 254 (.ref 61)),(en P a6 270 (.ref 73)),(en P a7 286 (.ref 85))]⟩ 15))
noncomputable def o80 : Obj := (ob .none (.fields ⟨[(i 2),(i 0),(.ref 20),(i 4),(i 0),(.ref 33),(i 6),(i 0),(.ref 45),(i 8),(i 0),(.ref 57),(i 10),(i 0),(.ref 69),(i 12),(i 0),(.ref 81)]⟩))
noncomputable def o81 : Obj := (.mk (.type b8) none (.cls (.mk a1 [(.type b5)] [(.ref 24),(.type b5),(.type b9),(.type b10),(.type b11)] 23 a1 .true [] [(.ref 37),(.ref 49),(.ref 61),(.ref 73),(.ref 85)] .false none .false)) ⟨[(some (.ref 15)),none,(some (.str a1 189)),(some (.str a1 197)),(some (.builtin b12)),(some (.bool .true))]⟩)
noncomputable def o82 : Obj := (ob (.type b0) (.seq ⟨[(.ref 24)]⟩ 0))
noncomputable def o83 : Obj := (ob (.type b6) (.fields ⟨[(.builtin b7),(.type b8)]⟩))
noncomputable def o84 (P : Params) : Obj := (ob (.type b3) (.dict ⟨[(en P a61 278 (.str a52 187)),(en P a62 280 (.str a7 279)),(en P a63 282 (.int 12 281)),(en P a64 283 (.ref 83))]⟩ 4))
noncomputable def o85 : Obj := (ob (.type b0) (.seq ⟨[]⟩ 0))
noncomputable def o86 : Obj := (ob .none (.fields ⟨[]⟩))
noncomputable def o87 : Obj := (ob (.type b1) (.fields ⟨[(.str a7 273),(.str a7 274),(.str a50 275),(i 12),(i 0),(i 0),(i 0),(i 0),(.ref 79),(.bool .false),(i 181),(.ref 80),.none,.none,.none,.none,(i 276),(i 12),(.str a50 277)]⟩))
noncomputable def o88 : Obj := (.mk (.type b2) none .plain ⟨[(some (.ref 81)),(some (.ref 3)),(some (.ref 78)),none,(some (.str a52 187)),none,(some (.ref 0))]⟩)
noncomputable def o89 : Obj := (ob (.type b0) (.seq ⟨[]⟩ 0))
noncomputable def o90 (P : Params) : Obj := (ob (.type b3) (.dict ⟨[(en P a61 278 (.str a52 187)),(en P a63 282 (.int 12 281)),(en P a64 283 (.ref 83)),(en P a53 284 .none)]⟩ 2))
noncomputable def o91 : Obj := (.mk (.type b8) none (.cls (.mk a7 [(.ref 24)] [(.ref 85),(.ref 24),(.type b5),(.type b9),(.type b10),(.type b11)] 84 a7 .true [] [] .false none .false)) ⟨[(some (.ref 76)),none,(some (.str a7 271)),(some (.str a7 279)),(some (.builtin b12)),(some (.bool .true))]⟩)
noncomputable def o92 : Obj := (ob (.type b15) (.fields ⟨[(.ref 85),(.ref 85),(.ref 85)]⟩))
noncomputable def o93 : Obj := (ob (.type b6) (.fields ⟨[(.builtin b16),(.ref 85)]⟩))
noncomputable def t5 (P : PySem.Params) : PySem.W.BT := (n (q0 P) (n (q1 P) (n (o79 P) (n (q7 P) (n o6 (n o25 (l o63) .nil) (n o44 (l o85) .nil)) (n (o14 P) (n o33 (l o74) .nil) (n o55 (l o93) .nil))) (n o0 (n o10 (n o29 (l o70) .nil) (n o48 (l o89) .nil)) (n o18 (n o40 (l o78) .nil) (l o59)))) (n (q5 P) (n (q9 P) (n (o8 P) (n o27 (l o68) .nil) (n o46 (l o87) .nil)) (n o16 (n o38 (l o76) .nil) (l o57))) (n o2 (n o12 (n o31 (l o72) .nil) (n o53 (l o91) .nil)) (n o23 (n o42 (l o83) .nil) (l o61))))) (n (q2 P) (n (q4 P) (n (q8 P) (n o7 (n o26 (l o67) .nil) (n (o45 P) (l o86) .nil)) (n o81 (n o37 (l (o75 P)) .nil) (l o56))) (n o80 (n o11 (n (o30 P) (l o71) .nil) (n o52 (l (o90 P)) .nil)) (n o22 (n o41 (l o82) .nil) (l (o60 P))))) (n (q6 P) (n (q10 P) (n o9 (n o28 (l (o69 P)) .nil) (n o47 (l o88) .nil)) (n o17 (n (o39 P) (l o77) .nil) (l o58))) (n o3 (n o13 (n o32 (l o73) .nil) (n (o54 P) (l o92) .nil)) (n (o24 P) (n o43 (l (o84 P)) .nil) (l o62))))))
theorem pz5 : ∀ w : PySem.World, (fun os : PySem.OsState => PySem.W.Fast.tw10110043849684766642 PySem.W.Fast.tw14364793385576792824 PySem.Challenge.pw_farhail_k56_whole_plans_played w 11 (some (.ref 6)) 1 214 (PySem.W.SharedT.mk (t4 w.params) 76 (.mk [] [] [] 0 [] [] .false ⟨[]⟩ [] 0 .false .false .false 0 [2000,10,10] .false 0 .true [] [] 0 .false) (Array.mk ([] : List PySem.GenState)) (.mk 0 0 0 0) 271 os) (PySem.W.piecesOf sts5 env code (.mk 10 0 11 8) B)) = fun os => some (PySem.Flow.next, (PySem.W.SharedT.mk (t5 w.params) 88 (.mk [] [] [] 0 [] [] .false ⟨[]⟩ [] 0 .false .false .false 0 [2000,10,10] .false 0 .true [] [] 0 .false) (Array.mk ([] : List PySem.GenState)) (.mk 0 0 0 0) 287 os), code, (.mk 12 0 13 8)) := fun w => by kernel_rfl
theorem p5 (w : PySem.World) (os : PySem.OsState) : PySem.W.segRun PySem.treeTable PySem.Challenge.pw_farhail_k56_whole_plans_played w 11 (some (.ref 6)) 1 214 (PySem.W.SharedT.mk (t4 w.params) 76 (.mk [] [] [] 0 [] [] .false ⟨[]⟩ [] 0 .false .false .false 0 [2000,10,10] .false 0 .true [] [] 0 .false) (Array.mk ([] : List PySem.GenState)) (.mk 0 0 0 0) 271 os).abs (PySem.W.piecesOf sts5 env code (.mk 10 0 11 8) B) = some (PySem.Flow.next, (PySem.W.SharedT.mk (t5 w.params) 88 (.mk [] [] [] 0 [] [] .false ⟨[]⟩ [] 0 .false .false .false 0 [2000,10,10] .false 0 .true [] [] 0 .false) (Array.mk ([] : List PySem.GenState)) (.mk 0 0 0 0) 287 os).abs, code, (.mk 12 0 13 8)) := PySem.W.segRun_of (by rw [PySem.W.Fast.te10110043849684766642, PySem.W.Fast.te14364793385576792824]; exact congrFun (pz5 w) os)
noncomputable def a66 : Str := ⟨⟨[95,95,105,110,105,116,95,95]⟩⟩
noncomputable def a67 : Str := ⟨⟨[112,108,97,99,101]⟩⟩
noncomputable def a68 : Str := ⟨⟨[102,97,114,104,97,105,108,46,119,101,98,115]⟩⟩
noncomputable def sts6 : List PySem.Stmt := [(.ClassDef a8 [(.Name a1 (.mk 14 12 14 21))] [] [(.FunctionDef a66 (L2.defArgs (L2.inClass (G.top 7) 0)) (L2.defBody (L2.inClass (G.top 7) 0)) [] none [] (L2.defScope (L2.inClass (G.top 7) 0)) none a66 (.mk 16 4 18 26))] [] [] (.mk .class [(a66, .local)] .false .false []) none a8 [a67] (.mk 14 0 18 26)), (.Assign [(.Name a0 (.mk 19 0 19 8))] (.Constant (.str a68) 0 (.mk 19 11 19 25)) (.mk 19 0 19 25)), (.Assign [(.Name a9 (.mk 20 0 20 16))] (.Constant (.int 60) 0 (.mk 20 19 20 21)) (.mk 20 0 20 21)), (.FunctionDef a10 (L2.defArgs (G.top 10)) (L2.defBody (G.top 10)) [] none [] (L2.defScope (G.top 10)) none a10 (.mk 21 0 26 41)), (.FunctionDef a11 (L2.defArgs (G.top 11)) (L2.defBody (G.top 11)) [] none [] (L2.defScope (G.top 11)) none a11 (.mk 27 0 38 16)), (.FunctionDef a12 (L2.defArgs (G.top 12)) (L2.defBody (G.top 12)) [] none [] (L2.defScope (G.top 12)) none a12 (.mk 39 0 46 31)), (.FunctionDef a13 (L2.defArgs (G.top 13)) (L2.defBody (G.top 13)) [] none [] (L2.defScope (G.top 13)) none a13 (.mk 47 0 55 14))]
noncomputable def c0 (P : PySem.Params) (t : List PySem.DictEntry) : List PySem.DictEntry := (en P a9 315 (.int 60 314))::(en P a10 321 (.ref 111))::(en P a11 333 (.ref 118))::(en P a12 345 (.ref 125))::(en P a13 356 (.ref 132))::t
noncomputable def c1 (P : PySem.Params) (t : List PySem.DictEntry) : List PySem.DictEntry := (en P a60 174 .none)::(en P a1 206 (.ref 24))::(en P a3 222 (.ref 37))::(en P a4 238 (.ref 49))::(en P a5 254 (.ref 61))::(en P a6 270 (.ref 73))::(en P a7 286 (.ref 85))::(en P a8 311 (.ref 104))::t
noncomputable def c2 (P : PySem.Params) (t : List PySem.DictEntry) : List PySem.DictEntry := (en P a0 165 (.str a68 312))::(en P a53 166 .none)::(en P a54 167 .none)::(en P a55 168 (.builtin b4))::(en P a56 169 .none)::(en P a57 170 (.ref 6))::(en P a58 171 (.ref 4))::(en P a59 173 (.str a50 172))::t
noncomputable def o94 (P : Params) : Obj := (ob (.type b3) (.dict ⟨(c2 P (c1 P (c0 P [])))⟩ 21))
noncomputable def c3 (t : List PySem.Value) : List PySem.Value := (.ref 131)::t
noncomputable def c4 (t : List PySem.Value) : List PySem.Value := (i 27)::(i 0)::(.ref 117)::(i 39)::(i 0)::(.ref 124)::(i 47)::(i 0)::t
noncomputable def c5 (t : List PySem.Value) : List PySem.Value := (i 0)::(.ref 81)::(i 14)::(i 0)::(.ref 93)::(i 21)::(i 0)::(.ref 110)::t
noncomputable def c6 (t : List PySem.Value) : List PySem.Value := (.ref 45)::(i 8)::(i 0)::(.ref 57)::(i 10)::(i 0)::(.ref 69)::(i 12)::t
noncomputable def c7 (t : List PySem.Value) : List PySem.Value := (i 2)::(i 0)::(.ref 20)::(i 4)::(i 0)::(.ref 33)::(i 6)::(i 0)::t
noncomputable def o95 : Obj := (ob .none (.fields ⟨(c7 (c6 (c5 (c4 (c3 [])))))⟩))
noncomputable def o96 : Obj := (.mk (.type b8) none (.cls (.mk a1 [(.type b5)] [(.ref 24),(.type b5),(.type b9),(.type b10),(.type b11)] 23 a1 .true [] [(.ref 37),(.ref 49),(.ref 61),(.ref 73),(.ref 85),(.ref 104)] .false none .false)) ⟨[(some (.ref 15)),none,(some (.str a1 189)),(some (.str a1 197)),(some (.builtin b12)),(some (.bool .true))]⟩)
noncomputable def o97 : Obj := (ob (.type b0) (.seq ⟨[(.ref 24)]⟩ 0))
noncomputable def o98 : Obj := (ob (.type b6) (.fields ⟨[(.builtin b7),(.type b8)]⟩))
noncomputable def o99 (P : Params) : Obj := (ob (.type b3) (.dict ⟨[(en P a61 294 (.str a52 187)),(en P a62 296 (.str a8 295)),(en P a63 298 (.int 14 297)),(en P a66 306 (.ref 101)),(en P a64 308 (.ref 102))]⟩ 5))
noncomputable def o100 : Obj := (ob (.type b0) (.seq ⟨[]⟩ 0))
noncomputable def o101 : Obj := (ob .none (.fields ⟨[(i 16),(i 4),(.ref 100)]⟩))
noncomputable def o102 : Obj := (ob (.type b1) (.fields ⟨[(.str a8 289),(.str a8 290),(.str a50 291),(i 14),(i 0),(i 0),(i 0),(i 0),(.ref 91),(.bool .false),(i 181),(.ref 92),.none,.none,.none,.none,(i 292),(i 14),(.str a50 293)]⟩))
noncomputable def o103 : Obj := (.mk (.type b2) none .plain ⟨[(some (.ref 93)),(some (.ref 3)),(some (.ref 90)),none,(some (.str a52 187)),none,(some (.ref 0))]⟩)
noncomputable def o104 : Obj := (ob (.type b0) (.seq ⟨[]⟩ 0))
noncomputable def o105 : Obj := (ob .none (.fields ⟨[]⟩))
noncomputable def a69 : Str := ⟨⟨[115,101,108,102]⟩⟩
noncomputable def o106 : Obj := (ob (.type b0) (.seq ⟨[(.str a69 302),(.str a67 303)]⟩ 0))
noncomputable def o107 : Obj := (ob (.type b0) (.seq ⟨[]⟩ 0))
noncomputable def a70 : Str := ⟨⟨[65,112,97,114,116,46,95,95,105,110,105,116,95,95]⟩⟩
noncomputable def o108 : Obj := (.mk .none none (.func (.mk a66 a70 (L2.defArgs (L2.inClass (G.top 7) 0)) (.stmts (L2.defBody (L2.inClass (G.top 7) 0))) (L2.defScope (L2.inClass (G.top 7) 0)) 0 [] .none .none .none .none none .none .none 0)) ⟨[]⟩)
noncomputable def o109 : Obj := (ob (.type b1) (.fields ⟨[(.str a66 299),(.str a70 300),(.str a50 301),(i 16),(i 2),(i 0),(i 0),(i 3),(.ref 95),(.bool .true),(i 181),(.ref 96),.none,(.ref 97),(.ref 98),(.ref 99),(i 304),(i 16),(.str a50 305)]⟩))
noncomputable abbrev b17 : String := PySem.W.SL.s7174869446012820540x8
noncomputable def o110 : Obj := (.mk (.type b17) none (.func (PySem.W.fnOf a66 a70 (L2.defArgs (L2.inClass (G.top 7) 0)) (L2.defBody (L2.inClass (G.top 7) 0)) (L2.defScope (L2.inClass (G.top 7) 0)) .none .none .none (.str a52 187) none (.ref 100) .none)) ⟨[]⟩)
noncomputable def o111 : Obj := (ob (.type b0) (.seq ⟨[(.str a67 307)]⟩ 0))
noncomputable def o112 (P : Params) : Obj := (ob (.type b3) (.dict ⟨[(en P a61 294 (.str a52 187)),(en P a63 298 (.int 14 297)),(en P a66 306 (.ref 101)),(en P a64 308 (.ref 102)),(en P a53 309 .none)]⟩ 2))
noncomputable def o113 : Obj := (.mk (.type b8) none (.cls (.mk a8 [(.ref 24)] [(.ref 104),(.ref 24),(.type b5),(.type b9),(.type b10),(.type b11)] 103 a8 .true [] [] .false none .false)) ⟨[(some (.ref 88)),none,(some (.str a8 287)),(some (.str a8 295)),(some (.builtin b12)),(some (.bool .true))]⟩)
noncomputable def o114 : Obj := (ob (.type b15) (.fields ⟨[(.ref 104),(.ref 104),(.ref 104)]⟩))
noncomputable def o115 : Obj := (ob (.type b6) (.fields ⟨[(.builtin b16),(.ref 104)]⟩))
noncomputable def o116 : Obj := (ob (.type b0) (.seq ⟨[]⟩ 0))
noncomputable def o117 : Obj := (ob .none (.fields ⟨[]⟩))
noncomputable def o118 : Obj := (cO a10 (G.top 10))
noncomputable def o119 : Obj := (ob (.type b1) (.fields ⟨[(.str a10 316),(.str a10 317),(.str a50 318),(i 21),(i 1),(i 0),(i 0),(i 3),(.ref 107),(.bool .true),(i 181),(.ref 108),.none,.none,.none,(.ref 109),(i 319),(i 21),(.str a50 320)]⟩))
noncomputable def o120 : Obj := (fO (.type b17) a10 (G.top 10) (.str a68 312) (.ref 110))
noncomputable def o121 : Obj := (ob (.type b0) (.seq ⟨[]⟩ 0))
noncomputable def o122 : Obj := (ob .none (.fields ⟨[]⟩))
noncomputable def a71 : Str := ⟨⟨[110,101,97,114]⟩⟩
noncomputable def a72 : Str := ⟨⟨[102,111,117,110,100]⟩⟩
noncomputable def a73 : Str := ⟨⟨[108,105,110,101]⟩⟩
noncomputable def a74 : Str := ⟨⟨[97,116]⟩⟩
noncomputable def a75 : Str := ⟨⟨[111,116,104,101,114]⟩⟩
noncomputable def o123 : Obj := (ob (.type b0) (.seq ⟨[(.str a71 325),(.str a67 326),(.str a72 327),(.str a73 328),(.str a74 329),(.str a75 330)]⟩ 0))
noncomputable def o124 : Obj := (ob (.type b0) (.seq ⟨[]⟩ 0))
noncomputable def o125 : Obj := (cO a11 (G.top 11))
noncomputable def o126 : Obj := (ob (.type b1) (.fields ⟨[(.str a11 322),(.str a11 323),(.str a50 324),(i 27),(i 2),(i 0),(i 0),(i 3),(.ref 112),(.bool .true),(i 181),(.ref 113),.none,(.ref 114),(.ref 115),(.ref 116),(i 331),(i 27),(.str a50 332)]⟩))
noncomputable def o127 : Obj := (fO (.type b17) a11 (G.top 11) (.str a68 312) (.ref 117))
noncomputable def o128 : Obj := (ob (.type b0) (.seq ⟨[]⟩ 0))
noncomputable def o129 : Obj := (ob .none (.fields ⟨[]⟩))
noncomputable def a76 : Str := ⟨⟨[109,97,110,121]⟩⟩
noncomputable def a77 : Str := ⟨⟨[116,105,101,115]⟩⟩
noncomputable def a78 : Str := ⟨⟨[111,110,101]⟩⟩
noncomputable def a79 : Str := ⟨⟨[116,105,101]⟩⟩
noncomputable def o130 : Obj := (ob (.type b0) (.seq ⟨[(.str a76 337),(.str a77 338),(.str a72 339),(.str a78 340),(.str a75 341),(.str a79 342)]⟩ 0))
noncomputable def o131 : Obj := (ob (.type b0) (.seq ⟨[]⟩ 0))
noncomputable def o132 : Obj := (cO a12 (G.top 12))
noncomputable def o133 : Obj := (ob (.type b1) (.fields ⟨[(.str a12 334),(.str a12 335),(.str a50 336),(i 39),(i 2),(i 0),(i 0),(i 3),(.ref 119),(.bool .true),(i 181),(.ref 120),.none,(.ref 121),(.ref 122),(.ref 123),(i 343),(i 39),(.str a50 344)]⟩))
noncomputable def o134 : Obj := (fO (.type b17) a12 (G.top 12) (.str a68 312) (.ref 124))
noncomputable def o135 : Obj := (ob (.type b0) (.seq ⟨[]⟩ 0))
noncomputable def o136 : Obj := (ob .none (.fields ⟨[]⟩))
noncomputable def a80 : Str := ⟨⟨[119,101,98]⟩⟩
noncomputable def a81 : Str := ⟨⟨[102,97,114,115]⟩⟩
noncomputable def o137 : Obj := (ob (.type b0) (.seq ⟨[(.str a76 349),(.str a77 350),(.str a80 351),(.str a81 352),(.str a67 353)]⟩ 0))
noncomputable def o138 : Obj := (ob (.type b0) (.seq ⟨[]⟩ 0))
noncomputable def o139 : Obj := (cO a13 (G.top 13))
noncomputable def o140 : Obj := (ob (.type b1) (.fields ⟨[(.str a13 346),(.str a13 347),(.str a50 348),(i 47),(i 2),(i 0),(i 0),(i 3),(.ref 126),(.bool .true),(i 181),(.ref 127),.none,(.ref 128),(.ref 129),(.ref 130),(i 354),(i 47),(.str a50 355)]⟩))
noncomputable def o141 : Obj := (fO (.type b17) a13 (G.top 13) (.str a68 312) (.ref 131))
noncomputable def t6 (P : PySem.Params) : PySem.W.BT := (n (q0 P) (n (q1 P) (n (o94 P) (n (q7 P) (n o6 (n o25 (n o63 (l o136) .nil) (l o104)) (n o44 (l o85) (l o120))) (n (o14 P) (n o33 (l o74) (l (o112 P))) (n o55 (l o93) (l o128)))) (n o0 (n o10 (n o29 (n o70 (l o140) .nil) (l o108)) (n o48 (l o89) (l o124))) (n o18 (n o40 (l o78) (l o116)) (n o59 (l o100) (l o132))))) (n (q5 P) (n (q9 P) (n (o8 P) (n o27 (n o68 (l o138) .nil) (l o106)) (n o46 (l o87) (l o122))) (n o16 (n o38 (l o76) (l o114)) (n o57 (l o98) (l o130)))) (n o2 (n o12 (n o31 (l o72) (l o110)) (n o53 (l o91) (l o126))) (n o23 (n o42 (l o83) (l o118)) (n o61 (l o102) (l o134)))))) (n (q2 P) (n (q4 P) (n (q8 P) (n o7 (n o26 (n o67 (l o137) .nil) (l o105)) (n (o45 P) (l o86) (l o121))) (n o96 (n o37 (l (o75 P)) (l o113)) (n o56 (l o97) (l o129)))) (n o95 (n o11 (n (o30 P) (n o71 (l o141) .nil) (l o109)) (n o52 (l (o90 P)) (l o125))) (n o22 (n o41 (l o82) (l o117)) (n (o60 P) (l o101) (l o133))))) (n (q6 P) (n (q10 P) (n o9 (n o28 (n (o69 P) (l o139) .nil) (l o107)) (n o47 (l o88) (l o123))) (n o17 (n (o39 P) (l o77) (l o115)) (n o58 (l (o99 P)) (l o131)))) (n o3 (n o13 (n o32 (l o73) (l o111)) (n (o54 P) (l o92) (l o127))) (n (o24 P) (n o43 (l (o84 P)) (l o119)) (n o62 (l o103) (l o135)))))))
theorem pz6 : ∀ w : PySem.World, (fun os : PySem.OsState => PySem.W.Fast.tw10110043849684766642 PySem.W.Fast.tw14364793385576792824 PySem.Challenge.pw_farhail_k56_whole_plans_played w 11 (some (.ref 6)) 1 391 (PySem.W.SharedT.mk (t5 w.params) 88 (.mk [] [] [] 0 [] [] .false ⟨[]⟩ [] 0 .false .false .false 0 [2000,10,10] .false 0 .true [] [] 0 .false) (Array.mk ([] : List PySem.GenState)) (.mk 0 0 0 0) 287 os) (PySem.W.piecesOf sts6 env code (.mk 12 0 13 8) B)) = fun os => some (PySem.Flow.next, (PySem.W.SharedT.mk (t6 w.params) 133 (.mk [] [] [] 0 [] [] .false ⟨[]⟩ [] 0 .false .false .false 0 [2000,10,10] .false 0 .true [] [] 0 .false) (Array.mk ([] : List PySem.GenState)) (.mk 0 0 0 0) 357 os), code, (.mk 47 0 55 14)) := fun w => by kernel_rfl
theorem p6 (w : PySem.World) (os : PySem.OsState) : PySem.W.segRun PySem.treeTable PySem.Challenge.pw_farhail_k56_whole_plans_played w 11 (some (.ref 6)) 1 391 (PySem.W.SharedT.mk (t5 w.params) 88 (.mk [] [] [] 0 [] [] .false ⟨[]⟩ [] 0 .false .false .false 0 [2000,10,10] .false 0 .true [] [] 0 .false) (Array.mk ([] : List PySem.GenState)) (.mk 0 0 0 0) 287 os).abs (PySem.W.piecesOf sts6 env code (.mk 12 0 13 8) B) = some (PySem.Flow.next, (PySem.W.SharedT.mk (t6 w.params) 133 (.mk [] [] [] 0 [] [] .false ⟨[]⟩ [] 0 .false .false .false 0 [2000,10,10] .false 0 .true [] [] 0 .false) (Array.mk ([] : List PySem.GenState)) (.mk 0 0 0 0) 357 os).abs, code, (.mk 47 0 55 14)) := PySem.W.segRun_of (by rw [PySem.W.Fast.te10110043849684766642, PySem.W.Fast.te14364793385576792824]; exact congrFun (pz6 w) os)
noncomputable def a82 : Str := ⟨⟨[102,97,114,104,97,105,108,46,99,111,100,101,115]⟩⟩
noncomputable def a83 : Str := ⟨⟨[102,97,114,104,97,105,108,46,97,115,107,115]⟩⟩
noncomputable def sts7 : List PySem.Stmt := [(.FunctionDef a14 (L2.defArgs (G.top 14)) (L2.defBody (G.top 14)) [] none [] (L2.defScope (G.top 14)) none a14 (.mk 56 0 58 33)), (.FunctionDef a15 (L2.defArgs (G.top 15)) (L2.defBody (G.top 15)) [] none [] (L2.defScope (G.top 15)) none a15 (.mk 59 0 61 42)), (.FunctionDef a16 (L2.defArgs (G.top 16)) (L2.defBody (G.top 16)) [] none [] (L2.defScope (G.top 16)) none a16 (.mk 62 0 65 47)), (.Assign [(.Name a0 (.mk 66 0 66 8))] (.Constant (.str a82) 0 (.mk 66 11 66 26)) (.mk 66 0 66 26)), (.FunctionDef a17 (L2.defArgs (G.top 18)) (L2.defBody (G.top 18)) [] none [] (L2.defScope (G.top 18)) none a17 (.mk 67 0 68 61)), (.FunctionDef a18 (L2.defArgs (G.top 19)) (L2.defBody (G.top 19)) [] none [] (L2.defScope (G.top 19)) none a18 (.mk 69 0 75 32)), (.FunctionDef a19 (L2.defArgs (G.top 20)) (L2.defBody (G.top 20)) [] none [] (L2.defScope (G.top 20)) none a19 (.mk 76 0 79 53)), (.FunctionDef a20 (L2.defArgs (G.top 21)) (L2.defBody (G.top 21)) [] none [] (L2.defScope (G.top 21)) none a20 (.mk 80 0 85 42)), (.FunctionDef a21 (L2.defArgs (G.top 22)) (L2.defBody (G.top 22)) [] none [] (L2.defScope (G.top 22)) none a21 (.mk 86 0 89 60)), (.FunctionDef a22 (L2.defArgs (G.top 23)) (L2.defBody (G.top 23)) [] none [] (L2.defScope (G.top 23)) none a22 (.mk 90 0 94 57)), (.FunctionDef a23 (L2.defArgs (G.top 24)) (L2.defBody (G.top 24)) [] none [] (L2.defScope (G.top 24)) none a23 (.mk 95 0 103 16)), (.FunctionDef a24 (L2.defArgs (G.top 25)) (L2.defBody (G.top 25)) [] none [] (L2.defScope (G.top 25)) none a24 (.mk 104 0 106 87)), (.FunctionDef a25 (L2.defArgs (G.top 26)) (L2.defBody (G.top 26)) [] none [] (L2.defScope (G.top 26)) none a25 (.mk 107 0 108 43)), (.Assign [(.Name a0 (.mk 109 0 109 8))] (.Constant (.str a83) 0 (.mk 109 11 109 25)) (.mk 109 0 109 25)), (.Assign [(.Name a26 (.mk 110 0 110 16))] (.Constant (.int 7) 0 (.mk 110 19 110 20)) (.mk 110 0 110 20)), (.Assign [(.Name a27 (.mk 111 0 111 11))] (.Constant (.int 8) 0 (.mk 111 14 111 15)) (.mk 111 0 111 15))]
noncomputable def c8 (P : PySem.Params) (t : List PySem.DictEntry) : List PySem.DictEntry := (en P a25 452 (.ref 208))::(en P a26 456 (.int 7 455))::(en P a27 458 (.int 8 457))::t
noncomputable def c9 (P : PySem.Params) (t : List PySem.DictEntry) : List PySem.DictEntry := (en P a17 389 (.ref 158))::(en P a18 398 (.ref 165))::(en P a19 408 (.ref 172))::(en P a20 416 (.ref 179))::(en P a21 425 (.ref 186))::(en P a22 431 (.ref 191))::(en P a23 437 (.ref 196))::(en P a24 443 (.ref 201))::t
noncomputable def c10 (P : PySem.Params) (t : List PySem.DictEntry) : List PySem.DictEntry := (en P a9 315 (.int 60 314))::(en P a10 321 (.ref 111))::(en P a11 333 (.ref 118))::(en P a12 345 (.ref 125))::(en P a13 356 (.ref 132))::(en P a14 364 (.ref 139))::(en P a15 372 (.ref 146))::(en P a16 381 (.ref 153))::t
noncomputable def c11 (P : PySem.Params) (t : List PySem.DictEntry) : List PySem.DictEntry := (en P a0 165 (.str a83 453))::(en P a53 166 .none)::(en P a54 167 .none)::(en P a55 168 (.builtin b4))::(en P a56 169 .none)::(en P a57 170 (.ref 6))::(en P a58 171 (.ref 4))::(en P a59 173 (.str a50 172))::t
noncomputable def o142 (P : Params) : Obj := (ob (.type b3) (.dict ⟨(c11 P (c1 P (c10 P (c9 P (c8 P [])))))⟩ 35))
noncomputable def c12 (t : List PySem.Value) : List PySem.Value := (i 0)::(.ref 200)::(i 107)::(i 0)::(.ref 207)::t
noncomputable def c13 (t : List PySem.Value) : List PySem.Value := (.ref 185)::(i 90)::(i 0)::(.ref 190)::(i 95)::(i 0)::(.ref 195)::(i 104)::t
noncomputable def c14 (t : List PySem.Value) : List PySem.Value := (i 76)::(i 0)::(.ref 171)::(i 80)::(i 0)::(.ref 178)::(i 86)::(i 0)::t
noncomputable def c15 (t : List PySem.Value) : List PySem.Value := (i 0)::(.ref 152)::(i 67)::(i 0)::(.ref 157)::(i 69)::(i 0)::(.ref 164)::t
noncomputable def c16 (t : List PySem.Value) : List PySem.Value := (.ref 131)::(i 56)::(i 0)::(.ref 138)::(i 59)::(i 0)::(.ref 145)::(i 62)::t
noncomputable def o143 : Obj := (ob .none (.fields ⟨(c7 (c6 (c5 (c4 (c16 (c15 (c14 (c13 (c12 [])))))))))⟩))
noncomputable def o144 : Obj := (ob (.type b0) (.seq ⟨[]⟩ 0))
noncomputable def o145 : Obj := (ob .none (.fields ⟨[]⟩))
noncomputable def o146 : Obj := (ob (.type b0) (.seq ⟨[(.str a80 360),(.str a67 361)]⟩ 0))
noncomputable def o147 : Obj := (ob (.type b0) (.seq ⟨[]⟩ 0))
noncomputable def o148 : Obj := (cO a14 (G.top 14))
noncomputable def o149 : Obj := (ob (.type b1) (.fields ⟨[(.str a14 357),(.str a14 358),(.str a50 359),(i 56),(i 2),(i 0),(i 0),(i 3),(.ref 133),(.bool .true),(i 181),(.ref 134),.none,(.ref 135),(.ref 136),(.ref 137),(i 362),(i 56),(.str a50 363)]⟩))
noncomputable def o150 : Obj := (fO (.type b17) a14 (G.top 14) (.str a68 312) (.ref 138))
noncomputable def o151 : Obj := (ob (.type b0) (.seq ⟨[]⟩ 0))
noncomputable def o152 : Obj := (ob .none (.fields ⟨[]⟩))
noncomputable def o153 : Obj := (ob (.type b0) (.seq ⟨[(.str a80 368),(.str a67 369)]⟩ 0))
noncomputable def o154 : Obj := (ob (.type b0) (.seq ⟨[]⟩ 0))
noncomputable def o155 : Obj := (cO a15 (G.top 15))
noncomputable def o156 : Obj := (ob (.type b1) (.fields ⟨[(.str a15 365),(.str a15 366),(.str a50 367),(i 59),(i 2),(i 0),(i 0),(i 3),(.ref 140),(.bool .true),(i 181),(.ref 141),.none,(.ref 142),(.ref 143),(.ref 144),(i 370),(i 59),(.str a50 371)]⟩))
noncomputable def o157 : Obj := (fO (.type b17) a15 (G.top 15) (.str a68 312) (.ref 145))
noncomputable def o158 : Obj := (ob (.type b0) (.seq ⟨[]⟩ 0))
noncomputable def o159 : Obj := (ob .none (.fields ⟨[]⟩))
noncomputable def o160 : Obj := (ob (.type b0) (.seq ⟨[(.str a80 376),(.str a78 377),(.str a75 378)]⟩ 0))
noncomputable def o161 : Obj := (ob (.type b0) (.seq ⟨[]⟩ 0))
noncomputable def o162 : Obj := (cO a16 (G.top 16))
noncomputable def o163 : Obj := (ob (.type b1) (.fields ⟨[(.str a16 373),(.str a16 374),(.str a50 375),(i 62),(i 3),(i 0),(i 0),(i 3),(.ref 147),(.bool .true),(i 181),(.ref 148),.none,(.ref 149),(.ref 150),(.ref 151),(i 379),(i 62),(.str a50 380)]⟩))
noncomputable def o164 : Obj := (fO (.type b17) a16 (G.top 16) (.str a68 312) (.ref 152))
noncomputable def o165 : Obj := (ob (.type b0) (.seq ⟨[]⟩ 0))
noncomputable def o166 : Obj := (ob .none (.fields ⟨[]⟩))
noncomputable def o167 : Obj := (cO a17 (G.top 18))
noncomputable def o168 : Obj := (ob (.type b1) (.fields ⟨[(.str a17 384),(.str a17 385),(.str a50 386),(i 67),(i 1),(i 0),(i 0),(i 3),(.ref 154),(.bool .true),(i 181),(.ref 155),.none,.none,.none,(.ref 156),(i 387),(i 67),(.str a50 388)]⟩))
noncomputable def o169 : Obj := (fO (.type b17) a17 (G.top 18) (.str a82 382) (.ref 157))
noncomputable def o170 : Obj := (ob (.type b0) (.seq ⟨[]⟩ 0))
noncomputable def o171 : Obj := (ob .none (.fields ⟨[]⟩))
noncomputable def a84 : Str := ⟨⟨[107,105,110,100]⟩⟩
noncomputable def a85 : Str := ⟨⟨[112,108,97,99,101,115]⟩⟩
noncomputable def o172 : Obj := (ob (.type b0) (.seq ⟨[(.str a80 393),(.str a84 394),(.str a85 395)]⟩ 0))
noncomputable def o173 : Obj := (ob (.type b0) (.seq ⟨[]⟩ 0))
noncomputable def o174 : Obj := (cO a18 (G.top 19))
noncomputable def o175 : Obj := (ob (.type b1) (.fields ⟨[(.str a18 390),(.str a18 391),(.str a50 392),(i 69),(i 2),(i 0),(i 0),(i 3),(.ref 159),(.bool .true),(i 181),(.ref 160),.none,(.ref 161),(.ref 162),(.ref 163),(i 396),(i 69),(.str a50 397)]⟩))
noncomputable def o176 : Obj := (fO (.type b17) a18 (G.top 19) (.str a82 382) (.ref 164))
noncomputable def o177 : Obj := (ob (.type b0) (.seq ⟨[]⟩ 0))
noncomputable def o178 : Obj := (ob .none (.fields ⟨[]⟩))
noncomputable def a86 : Str := ⟨⟨[108,111,111,107,115]⟩⟩
noncomputable def a87 : Str := ⟨⟨[108,111,111,107]⟩⟩
noncomputable def o179 : Obj := (ob (.type b0) (.seq ⟨[(.str a80 402),(.str a86 403),(.str a74 404),(.str a87 405)]⟩ 0))
noncomputable def o180 : Obj := (ob (.type b0) (.seq ⟨[]⟩ 0))
noncomputable def o181 : Obj := (cO a19 (G.top 20))
noncomputable def o182 : Obj := (ob (.type b1) (.fields ⟨[(.str a19 399),(.str a19 400),(.str a50 401),(i 76),(i 2),(i 0),(i 0),(i 3),(.ref 166),(.bool .true),(i 181),(.ref 167),.none,(.ref 168),(.ref 169),(.ref 170),(i 406),(i 76),(.str a50 407)]⟩))
noncomputable def o183 : Obj := (fO (.type b17) a19 (G.top 20) (.str a82 382) (.ref 171))
noncomputable def o184 : Obj := (ob (.type b0) (.seq ⟨[]⟩ 0))
noncomputable def o185 : Obj := (ob .none (.fields ⟨[]⟩))
noncomputable def a88 : Str := ⟨⟨[116,104,105,110,103]⟩⟩
noncomputable def o186 : Obj := (ob (.type b0) (.seq ⟨[(.str a80 412),(.str a88 413)]⟩ 0))
noncomputable def o187 : Obj := (ob (.type b0) (.seq ⟨[]⟩ 0))
noncomputable def o188 : Obj := (cO a20 (G.top 21))
noncomputable def o189 : Obj := (ob (.type b1) (.fields ⟨[(.str a20 409),(.str a20 410),(.str a50 411),(i 80),(i 2),(i 0),(i 0),(i 3),(.ref 173),(.bool .true),(i 181),(.ref 174),.none,(.ref 175),(.ref 176),(.ref 177),(i 414),(i 80),(.str a50 415)]⟩))
noncomputable def o190 : Obj := (fO (.type b17) a20 (G.top 21) (.str a82 382) (.ref 178))
noncomputable def o191 : Obj := (ob (.type b0) (.seq ⟨[]⟩ 0))
noncomputable def o192 : Obj := (ob .none (.fields ⟨[]⟩))
noncomputable def a89 : Str := ⟨⟨[116,97,98,108,101]⟩⟩
noncomputable def o193 : Obj := (ob (.type b0) (.seq ⟨[(.str a89 420),(.str a87 421),(.str a88 422)]⟩ 0))
noncomputable def o194 : Obj := (ob (.type b0) (.seq ⟨[]⟩ 0))
noncomputable def o195 : Obj := (cO a21 (G.top 22))
noncomputable def o196 : Obj := (ob (.type b1) (.fields ⟨[(.str a21 417),(.str a21 418),(.str a50 419),(i 86),(i 3),(i 0),(i 0),(i 3),(.ref 180),(.bool .true),(i 181),(.ref 181),.none,(.ref 182),(.ref 183),(.ref 184),(i 423),(i 86),(.str a50 424)]⟩))
noncomputable def o197 : Obj := (fO (.type b17) a21 (G.top 22) (.str a82 382) (.ref 185))
noncomputable def o198 : Obj := (ob (.type b0) (.seq ⟨[]⟩ 0))
noncomputable def o199 : Obj := (ob .none (.fields ⟨[]⟩))
noncomputable def o200 : Obj := (cO a22 (G.top 23))
noncomputable def o201 : Obj := (ob (.type b1) (.fields ⟨[(.str a22 426),(.str a22 427),(.str a50 428),(i 90),(i 3),(i 0),(i 0),(i 3),(.ref 187),(.bool .true),(i 181),(.ref 188),.none,.none,.none,(.ref 189),(i 429),(i 90),(.str a50 430)]⟩))
noncomputable def o202 : Obj := (fO (.type b17) a22 (G.top 23) (.str a82 382) (.ref 190))
noncomputable def o203 : Obj := (ob (.type b0) (.seq ⟨[]⟩ 0))
noncomputable def o204 : Obj := (ob .none (.fields ⟨[]⟩))
noncomputable def o205 : Obj := (cO a23 (G.top 24))
noncomputable def o206 : Obj := (ob (.type b1) (.fields ⟨[(.str a23 432),(.str a23 433),(.str a50 434),(i 95),(i 3),(i 0),(i 0),(i 3),(.ref 192),(.bool .true),(i 181),(.ref 193),.none,.none,.none,(.ref 194),(i 435),(i 95),(.str a50 436)]⟩))
noncomputable def o207 : Obj := (fO (.type b17) a23 (G.top 24) (.str a82 382) (.ref 195))
noncomputable def o208 : Obj := (ob (.type b0) (.seq ⟨[]⟩ 0))
noncomputable def o209 : Obj := (ob .none (.fields ⟨[]⟩))
noncomputable def o210 : Obj := (cO a24 (G.top 25))
noncomputable def o211 : Obj := (ob (.type b1) (.fields ⟨[(.str a24 438),(.str a24 439),(.str a50 440),(i 104),(i 3),(i 0),(i 0),(i 3),(.ref 197),(.bool .true),(i 181),(.ref 198),.none,.none,.none,(.ref 199),(i 441),(i 104),(.str a50 442)]⟩))
noncomputable def o212 : Obj := (fO (.type b17) a24 (G.top 25) (.str a82 382) (.ref 200))
noncomputable def o213 : Obj := (ob (.type b0) (.seq ⟨[]⟩ 0))
noncomputable def o214 : Obj := (ob .none (.fields ⟨[]⟩))
noncomputable def o215 : Obj := (ob (.type b0) (.seq ⟨[(.str a80 447),(.str a86 448),(.str a84 449)]⟩ 0))
noncomputable def o216 : Obj := (ob (.type b0) (.seq ⟨[]⟩ 0))
noncomputable def o217 : Obj := (cO a25 (G.top 26))
noncomputable def o218 : Obj := (ob (.type b1) (.fields ⟨[(.str a25 444),(.str a25 445),(.str a50 446),(i 107),(i 3),(i 0),(i 0),(i 3),(.ref 202),(.bool .true),(i 181),(.ref 203),.none,(.ref 204),(.ref 205),(.ref 206),(i 450),(i 107),(.str a50 451)]⟩))
noncomputable def o219 : Obj := (fO (.type b17) a25 (G.top 26) (.str a82 382) (.ref 207))
noncomputable def t7 (P : PySem.Params) : PySem.W.BT := (n (q0 P) (n (q1 P) (n (o142 P) (n (q7 P) (n o6 (n o25 (n o63 (l o136) (l o202)) (n o104 (l o170) .nil)) (n o44 (n o85 (l o154) (l o218)) (n o120 (l o186) .nil))) (n (o14 P) (n o33 (n o74 (l o146) (l o210)) (n (o112 P) (l o178) .nil)) (n o55 (n o93 (l o162) .nil) (n o128 (l o194) .nil)))) (n o0 (n o10 (n o29 (n o70 (l o140) (l o206)) (n o108 (l o174) .nil)) (n o48 (n o89 (l o158) .nil) (n o124 (l o190) .nil))) (n o18 (n o40 (n o78 (l o150) (l o214)) (n o116 (l o182) .nil)) (n o59 (n o100 (l o166) .nil) (n o132 (l o198) .nil))))) (n (q5 P) (n (q9 P) (n (o8 P) (n o27 (n o68 (l o138) (l o204)) (n o106 (l o172) .nil)) (n o46 (n o87 (l o156) .nil) (n o122 (l o188) .nil))) (n o16 (n o38 (n o76 (l o148) (l o212)) (n o114 (l o180) .nil)) (n o57 (n o98 (l o164) .nil) (n o130 (l o196) .nil)))) (n o2 (n o12 (n o31 (n o72 (l o144) (l o208)) (n o110 (l o176) .nil)) (n o53 (n o91 (l o160) .nil) (n o126 (l o192) .nil))) (n o23 (n o42 (n o83 (l o152) (l o216)) (n o118 (l o184) .nil)) (n o61 (n o102 (l o168) .nil) (n o134 (l o200) .nil)))))) (n (q2 P) (n (q4 P) (n (q8 P) (n o7 (n o26 (n o67 (l o137) (l o203)) (n o105 (l o171) .nil)) (n (o45 P) (n o86 (l o155) (l o219)) (n o121 (l o187) .nil))) (n o96 (n o37 (n (o75 P) (l o147) (l o211)) (n o113 (l o179) .nil)) (n o56 (n o97 (l o163) .nil) (n o129 (l o195) .nil)))) (n o143 (n o11 (n (o30 P) (n o71 (l o141) (l o207)) (n o109 (l o175) .nil)) (n o52 (n (o90 P) (l o159) .nil) (n o125 (l o191) .nil))) (n o22 (n o41 (n o82 (l o151) (l o215)) (n o117 (l o183) .nil)) (n (o60 P) (n o101 (l o167) .nil) (n o133 (l o199) .nil))))) (n (q6 P) (n (q10 P) (n o9 (n o28 (n (o69 P) (l o139) (l o205)) (n o107 (l o173) .nil)) (n o47 (n o88 (l o157) .nil) (n o123 (l o189) .nil))) (n o17 (n (o39 P) (n o77 (l o149) (l o213)) (n o115 (l o181) .nil)) (n o58 (n (o99 P) (l o165) .nil) (n o131 (l o197) .nil)))) (n o3 (n o13 (n o32 (n o73 (l o145) (l o209)) (n o111 (l o177) .nil)) (n (o54 P) (n o92 (l o161) .nil) (n o127 (l o193) .nil))) (n (o24 P) (n o43 (n (o84 P) (l o153) (l o217)) (n o119 (l o185) .nil)) (n o62 (n o103 (l o169) .nil) (n o135 (l o201) .nil)))))))
theorem pz7 : ∀ w : PySem.World, (fun os : PySem.OsState => PySem.W.Fast.tw10110043849684766642 PySem.W.Fast.tw14364793385576792824 PySem.Challenge.pw_farhail_k56_whole_plans_played w 11 (some (.ref 6)) 1 387 (PySem.W.SharedT.mk (t6 w.params) 133 (.mk [] [] [] 0 [] [] .false ⟨[]⟩ [] 0 .false .false .false 0 [2000,10,10] .false 0 .true [] [] 0 .false) (Array.mk ([] : List PySem.GenState)) (.mk 0 0 0 0) 357 os) (PySem.W.piecesOf sts7 env code (.mk 47 0 55 14) B)) = fun os => some (PySem.Flow.next, (PySem.W.SharedT.mk (t7 w.params) 209 (.mk [] [] [] 0 [] [] .false ⟨[]⟩ [] 0 .false .false .false 0 [2000,10,10] .false 0 .true [] [] 0 .false) (Array.mk ([] : List PySem.GenState)) (.mk 0 0 0 0) 459 os), code, (.mk 111 0 111 11)) := fun w => by kernel_rfl
theorem p7 (w : PySem.World) (os : PySem.OsState) : PySem.W.segRun PySem.treeTable PySem.Challenge.pw_farhail_k56_whole_plans_played w 11 (some (.ref 6)) 1 387 (PySem.W.SharedT.mk (t6 w.params) 133 (.mk [] [] [] 0 [] [] .false ⟨[]⟩ [] 0 .false .false .false 0 [2000,10,10] .false 0 .true [] [] 0 .false) (Array.mk ([] : List PySem.GenState)) (.mk 0 0 0 0) 357 os).abs (PySem.W.piecesOf sts7 env code (.mk 47 0 55 14) B) = some (PySem.Flow.next, (PySem.W.SharedT.mk (t7 w.params) 209 (.mk [] [] [] 0 [] [] .false ⟨[]⟩ [] 0 .false .false .false 0 [2000,10,10] .false 0 .true [] [] 0 .false) (Array.mk ([] : List PySem.GenState)) (.mk 0 0 0 0) 459 os).abs, code, (.mk 111 0 111 11)) := PySem.W.segRun_of (by rw [PySem.W.Fast.te10110043849684766642, PySem.W.Fast.te14364793385576792824]; exact congrFun (pz7 w) os)
noncomputable def a90 : Str := ⟨⟨[110,101,101,100]⟩⟩
noncomputable def a91 : Str := ⟨⟨[112,108,97,110]⟩⟩
noncomputable def a92 : Str := ⟨⟨[98,101,115,116]⟩⟩
noncomputable def a93 : Str := ⟨⟨[108,101,97,115,116]⟩⟩
noncomputable def sts8 : List PySem.Stmt := [(.FunctionDef a28 (L2.defArgs (G.top 30)) (L2.defBody (G.top 30)) [] none [] (L2.defScope (G.top 30)) none a28 (.mk 112 0 116 17)), (.FunctionDef a29 (L2.defArgs (G.top 31)) (L2.defBody (G.top 31)) [] none [] (L2.defScope (G.top 31)) none a29 (.mk 117 0 118 61)), (.FunctionDef a30 (L2.defArgs (G.top 32)) (L2.defBody (G.top 32)) [] none [] (L2.defScope (G.top 32)) none a30 (.mk 119 0 122 29)), (.FunctionDef a31 (L2.defArgs (G.top 33)) (L2.defBody (G.top 33)) [] none [] (L2.defScope (G.top 33)) none a31 (.mk 123 0 127 71)), (.ClassDef a32 [] [] [(.FunctionDef a66 (L2.defArgs (L2.inClass (G.top 34) 0)) (L2.defBody (L2.inClass (G.top 34) 0)) [] none [] (L2.defScope (L2.inClass (G.top 34) 0)) none a66 (.mk 130 4 133 22)), (.FunctionDef a90 (L2.defArgs (L2.inClass (G.top 34) 1)) (L2.defBody (L2.inClass (G.top 34) 1)) [] none [] (L2.defScope (L2.inClass (G.top 34) 1)) none a90 (.mk 135 4 148 21)), (.FunctionDef a91 (L2.defArgs (L2.inClass (G.top 34) 2)) (L2.defBody (L2.inClass (G.top 34) 2)) [] none [] (L2.defScope (L2.inClass (G.top 34) 2)) none a91 (.mk 150 4 155 91))] [] [] (.mk .class [(a66, .local),(a90, .local),(a91, .local)] .false .false []) none a32 [a92,a81,a93] (.mk 128 0 155 91))]
noncomputable def c17 (P : PySem.Params) (t : List PySem.DictEntry) : List PySem.DictEntry := (en P a25 452 (.ref 208))::(en P a26 456 (.int 7 455))::(en P a27 458 (.int 8 457))::(en P a28 467 (.ref 215))::(en P a29 473 (.ref 220))::(en P a30 482 (.ref 227))::(en P a31 488 (.ref 232))::(en P a32 531 (.ref 259))::t
noncomputable def o220 (P : Params) : Obj := (ob (.type b3) (.dict ⟨(c11 P (c1 P (c10 P (c9 P (c17 P [])))))⟩ 40))
noncomputable def c18 (t : List PySem.Value) : List PySem.Value := (.ref 231)::(i 128)::(i 0)::(.ref 238)::t
noncomputable def c19 (t : List PySem.Value) : List PySem.Value := (i 117)::(i 0)::(.ref 219)::(i 119)::(i 0)::(.ref 226)::(i 123)::(i 0)::t
noncomputable def c20 (t : List PySem.Value) : List PySem.Value := (i 0)::(.ref 200)::(i 107)::(i 0)::(.ref 207)::(i 112)::(i 0)::(.ref 214)::t
noncomputable def o221 : Obj := (ob .none (.fields ⟨(c7 (c6 (c5 (c4 (c16 (c15 (c14 (c13 (c20 (c19 (c18 [])))))))))))⟩))
noncomputable def o222 : Obj := (ob (.type b0) (.seq ⟨[]⟩ 0))
noncomputable def o223 : Obj := (ob .none (.fields ⟨[]⟩))
noncomputable def a94 : Str := ⟨⟨[116,104,105,110,103,115]⟩⟩
noncomputable def o224 : Obj := (ob (.type b0) (.seq ⟨[(.str a80 462),(.str a84 463),(.str a94 464)]⟩ 0))
noncomputable def o225 : Obj := (ob (.type b0) (.seq ⟨[]⟩ 0))
noncomputable def o226 : Obj := (cO a28 (G.top 30))
noncomputable def o227 : Obj := (ob (.type b1) (.fields ⟨[(.str a28 459),(.str a28 460),(.str a50 461),(i 112),(i 2),(i 0),(i 0),(i 3),(.ref 209),(.bool .true),(i 181),(.ref 210),.none,(.ref 211),(.ref 212),(.ref 213),(i 465),(i 112),(.str a50 466)]⟩))
noncomputable def o228 : Obj := (fO (.type b17) a28 (G.top 30) (.str a83 453) (.ref 214))
noncomputable def o229 : Obj := (ob (.type b0) (.seq ⟨[]⟩ 0))
noncomputable def o230 : Obj := (ob .none (.fields ⟨[]⟩))
noncomputable def o231 : Obj := (cO a29 (G.top 31))
noncomputable def o232 : Obj := (ob (.type b1) (.fields ⟨[(.str a29 468),(.str a29 469),(.str a50 470),(i 117),(i 1),(i 0),(i 0),(i 3),(.ref 216),(.bool .true),(i 181),(.ref 217),.none,.none,.none,(.ref 218),(i 471),(i 117),(.str a50 472)]⟩))
noncomputable def o233 : Obj := (fO (.type b17) a29 (G.top 31) (.str a83 453) (.ref 219))
noncomputable def o234 : Obj := (ob (.type b0) (.seq ⟨[]⟩ 0))
noncomputable def o235 : Obj := (ob .none (.fields ⟨[]⟩))
noncomputable def o236 : Obj := (ob (.type b0) (.seq ⟨[(.str a81 477),(.str a67 478),(.str a88 479)]⟩ 0))
noncomputable def o237 : Obj := (ob (.type b0) (.seq ⟨[]⟩ 0))
noncomputable def o238 : Obj := (cO a30 (G.top 32))
noncomputable def o239 : Obj := (ob (.type b1) (.fields ⟨[(.str a30 474),(.str a30 475),(.str a50 476),(i 119),(i 3),(i 0),(i 0),(i 3),(.ref 221),(.bool .true),(i 181),(.ref 222),.none,(.ref 223),(.ref 224),(.ref 225),(i 480),(i 119),(.str a50 481)]⟩))
noncomputable def o240 : Obj := (fO (.type b17) a30 (G.top 32) (.str a83 453) (.ref 226))
noncomputable def o241 : Obj := (ob (.type b0) (.seq ⟨[]⟩ 0))
noncomputable def o242 : Obj := (ob .none (.fields ⟨[]⟩))
noncomputable def o243 : Obj := (cO a31 (G.top 33))
noncomputable def o244 : Obj := (ob (.type b1) (.fields ⟨[(.str a31 483),(.str a31 484),(.str a50 485),(i 123),(i 3),(i 0),(i 0),(i 3),(.ref 228),(.bool .true),(i 181),(.ref 229),.none,.none,.none,(.ref 230),(i 486),(i 123),(.str a50 487)]⟩))
noncomputable def o245 : Obj := (fO (.type b17) a31 (G.top 33) (.str a83 453) (.ref 231))
noncomputable def o246 : Obj := (ob (.type b0) (.seq ⟨[]⟩ 0))
noncomputable def o247 : Obj := (ob (.type b6) (.fields ⟨[(.builtin b7),(.type b8)]⟩))
noncomputable def o248 (P : Params) : Obj := (ob (.type b3) (.dict ⟨[(en P a61 496 (.str a83 453)),(en P a62 498 (.str a32 497)),(en P a63 500 (.int 128 499)),(en P a66 508 (.ref 246)),(en P a90 514 (.ref 251)),(en P a91 520 (.ref 256)),(en P a64 524 (.ref 257))]⟩ 7))
noncomputable def o249 : Obj := (ob (.type b0) (.seq ⟨[]⟩ 0))
noncomputable def o250 : Obj := (ob .none (.fields ⟨[(i 130),(i 4),(.ref 245),(i 135),(i 4),(.ref 250),(i 150),(i 4),(.ref 255)]⟩))
noncomputable def o251 : Obj := (ob (.type b1) (.fields ⟨[(.str a32 491),(.str a32 492),(.str a50 493),(i 128),(i 0),(i 0),(i 0),(i 0),(.ref 236),(.bool .false),(i 181),(.ref 237),.none,.none,.none,.none,(i 494),(i 128),(.str a50 495)]⟩))
noncomputable def o252 : Obj := (.mk (.type b2) none .plain ⟨[(some (.ref 238)),(some (.ref 3)),(some (.ref 235)),none,(some (.str a83 453)),none,(some (.ref 0))]⟩)
noncomputable def o253 : Obj := (ob (.type b0) (.seq ⟨[]⟩ 0))
noncomputable def o254 : Obj := (ob .none (.fields ⟨[]⟩))
noncomputable def o255 : Obj := (ob (.type b0) (.seq ⟨[(.str a69 504),(.str a80 505)]⟩ 0))
noncomputable def o256 : Obj := (ob (.type b0) (.seq ⟨[]⟩ 0))
noncomputable def a95 : Str := ⟨⟨[65,115,107,105,110,103,46,95,95,105,110,105,116,95,95]⟩⟩
noncomputable def o257 : Obj := (.mk .none none (.func (.mk a66 a95 (L2.defArgs (L2.inClass (G.top 34) 0)) (.stmts (L2.defBody (L2.inClass (G.top 34) 0))) (L2.defScope (L2.inClass (G.top 34) 0)) 0 [] .none .none .none .none none .none .none 0)) ⟨[]⟩)
noncomputable def o258 : Obj := (ob (.type b1) (.fields ⟨[(.str a66 501),(.str a95 502),(.str a50 503),(i 130),(i 2),(i 0),(i 0),(i 3),(.ref 240),(.bool .true),(i 181),(.ref 241),.none,(.ref 242),(.ref 243),(.ref 244),(i 506),(i 130),(.str a50 507)]⟩))
noncomputable def o259 : Obj := (.mk (.type b17) none (.func (PySem.W.fnOf a66 a95 (L2.defArgs (L2.inClass (G.top 34) 0)) (L2.defBody (L2.inClass (G.top 34) 0)) (L2.defScope (L2.inClass (G.top 34) 0)) .none .none .none (.str a83 453) none (.ref 245) .none)) ⟨[]⟩)
noncomputable def o260 : Obj := (ob (.type b0) (.seq ⟨[]⟩ 0))
noncomputable def o261 : Obj := (ob .none (.fields ⟨[]⟩))
noncomputable def a96 : Str := ⟨⟨[65,115,107,105,110,103,46,110,101,101,100]⟩⟩
noncomputable def o262 : Obj := (.mk .none none (.func (.mk a90 a96 (L2.defArgs (L2.inClass (G.top 34) 1)) (.stmts (L2.defBody (L2.inClass (G.top 34) 1))) (L2.defScope (L2.inClass (G.top 34) 1)) 0 [] .none .none .none .none none .none .none 0)) ⟨[]⟩)
noncomputable def o263 : Obj := (ob (.type b1) (.fields ⟨[(.str a90 509),(.str a96 510),(.str a50 511),(i 135),(i 2),(i 0),(i 0),(i 3),(.ref 247),(.bool .true),(i 181),(.ref 248),.none,.none,.none,(.ref 249),(i 512),(i 135),(.str a50 513)]⟩))
noncomputable def o264 : Obj := (.mk (.type b17) none (.func (PySem.W.fnOf a90 a96 (L2.defArgs (L2.inClass (G.top 34) 1)) (L2.defBody (L2.inClass (G.top 34) 1)) (L2.defScope (L2.inClass (G.top 34) 1)) .none .none .none (.str a83 453) none (.ref 250) .none)) ⟨[]⟩)
noncomputable def o265 : Obj := (ob (.type b0) (.seq ⟨[]⟩ 0))
noncomputable def o266 : Obj := (ob .none (.fields ⟨[]⟩))
noncomputable def a97 : Str := ⟨⟨[65,115,107,105,110,103,46,112,108,97,110]⟩⟩
noncomputable def o267 : Obj := (.mk .none none (.func (.mk a91 a97 (L2.defArgs (L2.inClass (G.top 34) 2)) (.stmts (L2.defBody (L2.inClass (G.top 34) 2))) (L2.defScope (L2.inClass (G.top 34) 2)) 0 [] .none .none .none .none none .none .none 0)) ⟨[]⟩)
noncomputable def o268 : Obj := (ob (.type b1) (.fields ⟨[(.str a91 515),(.str a97 516),(.str a50 517),(i 150),(i 2),(i 0),(i 0),(i 3),(.ref 252),(.bool .true),(i 181),(.ref 253),.none,.none,.none,(.ref 254),(i 518),(i 150),(.str a50 519)]⟩))
noncomputable def o269 : Obj := (.mk (.type b17) none (.func (PySem.W.fnOf a91 a97 (L2.defArgs (L2.inClass (G.top 34) 2)) (L2.defBody (L2.inClass (G.top 34) 2)) (L2.defScope (L2.inClass (G.top 34) 2)) .none .none .none (.str a83 453) none (.ref 255) .none)) ⟨[]⟩)
noncomputable def o270 : Obj := (ob (.type b0) (.seq ⟨[(.str a92 521),(.str a81 522),(.str a93 523)]⟩ 0))
noncomputable def a98 : Str := ⟨⟨[95,95,100,105,99,116,95,95]⟩⟩
noncomputable def o271 (P : Params) : Obj := (ob (.type b3) (.dict ⟨[(en P a61 496 (.str a83 453)),(en P a63 500 (.int 128 499)),(en P a66 508 (.ref 246)),(en P a90 514 (.ref 251)),(en P a91 520 (.ref 256)),(en P a64 524 (.ref 257)),(en P a98 526 (.ref 260)),(en P a65 528 (.ref 261)),(en P a53 529 .none)]⟩ 4))
noncomputable abbrev b18 : String := PySem.W.SL.s11443829558043349243x14
noncomputable def o272 : Obj := (.mk (.type b8) none (.cls (.mk a32 [(.type b11)] [(.ref 259),(.type b11)] 258 a32 .true [] [] .false none .false)) ⟨[none,none,(some (.str a32 489)),(some (.str a32 497)),(some (.builtin b18)),(some (.bool .true))]⟩)
noncomputable abbrev b19 : String := PySem.W.SL.s6511155373996960695x17
noncomputable abbrev b20 : String := PySem.W.SL.s12411053484034534018x21
noncomputable def o273 : Obj := (ob (.type b13) (.fields ⟨[(.str a98 525),(.ref 259),(.builtin b19),(.builtin b20)]⟩))
noncomputable def o274 : Obj := (ob (.type b13) (.fields ⟨[(.str a65 527),(.ref 259),(.builtin b14),.none]⟩))
noncomputable def o275 : Obj := (ob (.type b15) (.fields ⟨[(.ref 259),(.ref 259),(.ref 259)]⟩))
noncomputable def o276 : Obj := (ob (.type b6) (.fields ⟨[(.builtin b16),(.ref 259)]⟩))
noncomputable def t8 (P : PySem.Params) : PySem.W.BT := (n (q0 P) (n (q1 P) (n (o220 P) (n (q7 P) (n o6 (n o25 (n o63 (n o136 (l o268) .nil) (l o202)) (n o104 (l o170) (l o236))) (n o44 (n o85 (l o154) (l o218)) (n o120 (l o186) (l o252)))) (n (o14 P) (n o33 (n o74 (n o146 (l o276) .nil) (l o210)) (n (o112 P) (l o178) (l o244))) (n o55 (n o93 (l o162) (l o228)) (n o128 (l o194) (l o260))))) (n o0 (n o10 (n o29 (n o70 (n o140 (l o272) .nil) (l o206)) (n o108 (l o174) (l o240))) (n o48 (n o89 (l o158) (l o224)) (n o124 (l o190) (l o256)))) (n o18 (n o40 (n o78 (l o150) (l o214)) (n o116 (l o182) (l (o248 P)))) (n o59 (n o100 (l o166) (l o232)) (n o132 (l o198) (l o264)))))) (n (q5 P) (n (q9 P) (n (o8 P) (n o27 (n o68 (n o138 (l o270) .nil) (l o204)) (n o106 (l o172) (l o238))) (n o46 (n o87 (l o156) (l o222)) (n o122 (l o188) (l o254)))) (n o16 (n o38 (n o76 (l o148) (l o212)) (n o114 (l o180) (l o246))) (n o57 (n o98 (l o164) (l o230)) (n o130 (l o196) (l o262))))) (n o2 (n o12 (n o31 (n o72 (n o144 (l o274) .nil) (l o208)) (n o110 (l o176) (l o242))) (n o53 (n o91 (l o160) (l o226)) (n o126 (l o192) (l o258)))) (n o23 (n o42 (n o83 (l o152) (l o216)) (n o118 (l o184) (l o250))) (n o61 (n o102 (l o168) (l o234)) (n o134 (l o200) (l o266))))))) (n (q2 P) (n (q4 P) (n (q8 P) (n o7 (n o26 (n o67 (n o137 (l o269) .nil) (l o203)) (n o105 (l o171) (l o237))) (n (o45 P) (n o86 (l o155) (l o219)) (n o121 (l o187) (l o253)))) (n o96 (n o37 (n (o75 P) (l o147) (l o211)) (n o113 (l o179) (l o245))) (n o56 (n o97 (l o163) (l o229)) (n o129 (l o195) (l o261))))) (n o221 (n o11 (n (o30 P) (n o71 (n o141 (l o273) .nil) (l o207)) (n o109 (l o175) (l o241))) (n o52 (n (o90 P) (l o159) (l o225)) (n o125 (l o191) (l o257)))) (n o22 (n o41 (n o82 (l o151) (l o215)) (n o117 (l o183) (l o249))) (n (o60 P) (n o101 (l o167) (l o233)) (n o133 (l o199) (l o265)))))) (n (q6 P) (n (q10 P) (n o9 (n o28 (n (o69 P) (n o139 (l (o271 P)) .nil) (l o205)) (n o107 (l o173) (l o239))) (n o47 (n o88 (l o157) (l o223)) (n o123 (l o189) (l o255)))) (n o17 (n (o39 P) (n o77 (l o149) (l o213)) (n o115 (l o181) (l o247))) (n o58 (n (o99 P) (l o165) (l o231)) (n o131 (l o197) (l o263))))) (n o3 (n o13 (n o32 (n o73 (n o145 (l o275) .nil) (l o209)) (n o111 (l o177) (l o243))) (n (o54 P) (n o92 (l o161) (l o227)) (n o127 (l o193) (l o259)))) (n (o24 P) (n o43 (n (o84 P) (l o153) (l o217)) (n o119 (l o185) (l o251))) (n o62 (n o103 (l o169) (l o235)) (n o135 (l o201) (l o267))))))))
theorem pz8 : ∀ w : PySem.World, (fun os : PySem.OsState => PySem.W.Fast.tw10110043849684766642 PySem.W.Fast.tw14364793385576792824 PySem.Challenge.pw_farhail_k56_whole_plans_played w 11 (some (.ref 6)) 1 395 (PySem.W.SharedT.mk (t7 w.params) 209 (.mk [] [] [] 0 [] [] .false ⟨[]⟩ [] 0 .false .false .false 0 [2000,10,10] .false 0 .true [] [] 0 .false) (Array.mk ([] : List PySem.GenState)) (.mk 0 0 0 0) 459 os) (PySem.W.piecesOf sts8 env code (.mk 111 0 111 11) B)) = fun os => some (PySem.Flow.next, (PySem.W.SharedT.mk (t8 w.params) 264 (.mk [] [] [] 0 [] [] .false ⟨[]⟩ [] 0 .false .false .false 0 [2000,10,10] .false 0 .true [] [] 0 .false) (Array.mk ([] : List PySem.GenState)) (.mk 0 0 0 0) 532 os), code, (.mk 128 0 155 91)) := fun w => by kernel_rfl
theorem p8 (w : PySem.World) (os : PySem.OsState) : PySem.W.segRun PySem.treeTable PySem.Challenge.pw_farhail_k56_whole_plans_played w 11 (some (.ref 6)) 1 395 (PySem.W.SharedT.mk (t7 w.params) 209 (.mk [] [] [] 0 [] [] .false ⟨[]⟩ [] 0 .false .false .false 0 [2000,10,10] .false 0 .true [] [] 0 .false) (Array.mk ([] : List PySem.GenState)) (.mk 0 0 0 0) 459 os).abs (PySem.W.piecesOf sts8 env code (.mk 111 0 111 11) B) = some (PySem.Flow.next, (PySem.W.SharedT.mk (t8 w.params) 264 (.mk [] [] [] 0 [] [] .false ⟨[]⟩ [] 0 .false .false .false 0 [2000,10,10] .false 0 .true [] [] 0 .false) (Array.mk ([] : List PySem.GenState)) (.mk 0 0 0 0) 532 os).abs, code, (.mk 128 0 155 91)) := PySem.W.segRun_of (by rw [PySem.W.Fast.te10110043849684766642, PySem.W.Fast.te14364793385576792824]; exact congrFun (pz8 w) os)
noncomputable def a99 : Str := ⟨⟨[108,97,119,95,102,97,114,104,97,105,108,95,107,53,54,95,119,104,111,108,101,95,112,108,97,110,115,95,112,108,97,121,101,100]⟩⟩
noncomputable def sts9 : List PySem.Stmt := [(.FunctionDef a33 (L2.defArgs (G.top 35)) (L2.defBody (G.top 35)) [] none [] (L2.defScope (G.top 35)) none a33 (.mk 156 0 161 68)), (.FunctionDef a34 (L2.defArgs (G.top 36)) (L2.defBody (G.top 36)) [] none [] (L2.defScope (G.top 36)) none a34 (.mk 162 0 163 22)), (.FunctionDef a35 (L2.defArgs (G.top 37)) (L2.defBody (G.top 37)) [] none [] (L2.defScope (G.top 37)) none a35 (.mk 164 0 173 25)), (.FunctionDef a36 (L2.defArgs (G.top 38)) (L2.defBody (G.top 38)) [] none [] (L2.defScope (G.top 38)) none a36 (.mk 174 0 179 15)), (.FunctionDef a37 (L2.defArgs (G.top 39)) (L2.defBody (G.top 39)) [] none [] (L2.defScope (G.top 39)) none a37 (.mk 180 0 182 47)), (.Assign [(.Name a0 (.mk 183 0 183 8))] (.Constant (.str a99) 0 (.mk 183 11 183 47)) (.mk 183 0 183 47)), (.FunctionDef a38 (L2.defArgs (G.top 41)) (L2.defBody (G.top 41)) [] none [] (L2.defScope (G.top 41)) none a38 (.mk 184 0 190 33)), (.FunctionDef a39 (L2.defArgs (G.top 42)) (L2.defBody (G.top 42)) [] none [] (L2.defScope (G.top 42)) none a39 (.mk 191 0 196 16)), (.FunctionDef a40 (L2.defArgs (G.top 43)) (L2.defBody (G.top 43)) [] none [] (L2.defScope (G.top 43)) none a40 (.mk 197 0 201 64)), (.FunctionDef a41 (L2.defArgs (G.top 44)) (L2.defBody (G.top 44)) [] none [] (L2.defScope (G.top 44)) none a41 (.mk 202 0 208 55)), (.FunctionDef a42 (L2.defArgs (G.top 45)) (L2.defBody (G.top 45)) [] none [] (L2.defScope (G.top 45)) none a42 (.mk 209 0 232 78)), (.FunctionDef a43 (L2.defArgs (G.top 46)) (L2.defBody (G.top 46)) [] none [] (L2.defScope (G.top 46)) none a43 (.mk 233 0 235 78)), (.FunctionDef a44 (L2.defArgs (G.top 47)) (L2.defBody (G.top 47)) [] none [] (L2.defScope (G.top 47)) none a44 (.mk 236 0 241 46)), (.FunctionDef a45 (L2.defArgs (G.top 48)) (L2.defBody (G.top 48)) [] none [] (L2.defScope (G.top 48)) none a45 (.mk 242 0 251 26))]
noncomputable def c21 (P : PySem.Params) (t : List PySem.DictEntry) : List PySem.DictEntry := (en P a41 603 (.ref 320))::(en P a42 609 (.ref 325))::(en P a43 618 (.ref 332))::(en P a44 628 (.ref 339))::(en P a45 634 (.ref 344))::t
noncomputable def c22 (P : PySem.Params) (t : List PySem.DictEntry) : List PySem.DictEntry := (en P a33 537 (.ref 268))::(en P a34 544 (.ref 275))::(en P a35 550 (.ref 280))::(en P a36 559 (.ref 287))::(en P a37 569 (.ref 294))::(en P a38 580 (.ref 301))::(en P a39 586 (.ref 306))::(en P a40 594 (.ref 313))::t
noncomputable def c23 (P : PySem.Params) (t : List PySem.DictEntry) : List PySem.DictEntry := (en P a0 165 (.str a99 570))::(en P a53 166 .none)::(en P a54 167 .none)::(en P a55 168 (.builtin b4))::(en P a56 169 .none)::(en P a57 170 (.ref 6))::(en P a58 171 (.ref 4))::(en P a59 173 (.str a50 172))::t
noncomputable def o277 (P : Params) : Obj := (ob (.type b3) (.dict ⟨(c23 P (c1 P (c10 P (c9 P (c17 P (c22 P (c21 P [])))))))⟩ 53))
noncomputable def c24 (t : List PySem.Value) : List PySem.Value := (i 242)::(i 0)::(.ref 343)::t
noncomputable def c25 (t : List PySem.Value) : List PySem.Value := (i 0)::(.ref 324)::(i 233)::(i 0)::(.ref 331)::(i 236)::(i 0)::(.ref 338)::t
noncomputable def c26 (t : List PySem.Value) : List PySem.Value := (.ref 305)::(i 197)::(i 0)::(.ref 312)::(i 202)::(i 0)::(.ref 319)::(i 209)::t
noncomputable def c27 (t : List PySem.Value) : List PySem.Value := (i 180)::(i 0)::(.ref 293)::(i 184)::(i 0)::(.ref 300)::(i 191)::(i 0)::t
noncomputable def c28 (t : List PySem.Value) : List PySem.Value := (i 0)::(.ref 274)::(i 164)::(i 0)::(.ref 279)::(i 174)::(i 0)::(.ref 286)::t
noncomputable def c29 (t : List PySem.Value) : List PySem.Value := (.ref 231)::(i 128)::(i 0)::(.ref 238)::(i 156)::(i 0)::(.ref 267)::(i 162)::t
noncomputable def o278 : Obj := (ob .none (.fields ⟨(c7 (c6 (c5 (c4 (c16 (c15 (c14 (c13 (c20 (c19 (c29 (c28 (c27 (c26 (c25 (c24 []))))))))))))))))⟩))
noncomputable def o279 : Obj := (ob (.type b0) (.seq ⟨[]⟩ 0))
noncomputable def o280 : Obj := (ob .none (.fields ⟨[]⟩))
noncomputable def o281 : Obj := (cO a33 (G.top 35))
noncomputable def o282 : Obj := (ob (.type b1) (.fields ⟨[(.str a33 532),(.str a33 533),(.str a50 534),(i 156),(i 2),(i 0),(i 0),(i 3),(.ref 264),(.bool .true),(i 181),(.ref 265),.none,.none,.none,(.ref 266),(i 535),(i 156),(.str a50 536)]⟩))
noncomputable def o283 : Obj := (fO (.type b17) a33 (G.top 35) (.str a83 453) (.ref 267))
noncomputable def o284 : Obj := (ob (.type b0) (.seq ⟨[]⟩ 0))
noncomputable def o285 : Obj := (ob .none (.fields ⟨[]⟩))
noncomputable def a100 : Str := ⟨⟨[114,111,119]⟩⟩
noncomputable def o286 : Obj := (ob (.type b0) (.seq ⟨[(.str a100 541)]⟩ 0))
noncomputable def o287 : Obj := (ob (.type b0) (.seq ⟨[]⟩ 0))
noncomputable def o288 : Obj := (cO a34 (G.top 36))
noncomputable def o289 : Obj := (ob (.type b1) (.fields ⟨[(.str a34 538),(.str a34 539),(.str a50 540),(i 162),(i 1),(i 0),(i 0),(i 3),(.ref 269),(.bool .true),(i 181),(.ref 270),.none,(.ref 271),(.ref 272),(.ref 273),(i 542),(i 162),(.str a50 543)]⟩))
noncomputable def o290 : Obj := (fO (.type b17) a34 (G.top 36) (.str a83 453) (.ref 274))
noncomputable def o291 : Obj := (ob (.type b0) (.seq ⟨[]⟩ 0))
noncomputable def o292 : Obj := (ob .none (.fields ⟨[]⟩))
noncomputable def o293 : Obj := (cO a35 (G.top 37))
noncomputable def o294 : Obj := (ob (.type b1) (.fields ⟨[(.str a35 545),(.str a35 546),(.str a50 547),(i 164),(i 3),(i 0),(i 0),(i 3),(.ref 276),(.bool .true),(i 181),(.ref 277),.none,.none,.none,(.ref 278),(i 548),(i 164),(.str a50 549)]⟩))
noncomputable def o295 : Obj := (fO (.type b17) a35 (G.top 37) (.str a83 453) (.ref 279))
noncomputable def o296 : Obj := (ob (.type b0) (.seq ⟨[]⟩ 0))
noncomputable def o297 : Obj := (ob .none (.fields ⟨[]⟩))
noncomputable def o298 : Obj := (ob (.type b0) (.seq ⟨[(.str a81 554),(.str a94 555),(.str a91 556)]⟩ 0))
noncomputable def o299 : Obj := (ob (.type b0) (.seq ⟨[]⟩ 0))
noncomputable def o300 : Obj := (cO a36 (G.top 38))
noncomputable def o301 : Obj := (ob (.type b1) (.fields ⟨[(.str a36 551),(.str a36 552),(.str a50 553),(i 174),(i 3),(i 0),(i 0),(i 3),(.ref 281),(.bool .true),(i 181),(.ref 282),.none,(.ref 283),(.ref 284),(.ref 285),(i 557),(i 174),(.str a50 558)]⟩))
noncomputable def o302 : Obj := (fO (.type b17) a36 (G.top 38) (.str a83 453) (.ref 286))
noncomputable def o303 : Obj := (ob (.type b0) (.seq ⟨[]⟩ 0))
noncomputable def o304 : Obj := (ob .none (.fields ⟨[]⟩))
noncomputable def o305 : Obj := (ob (.type b0) (.seq ⟨[(.str a80 563),(.str a84 564),(.str a91 565),(.str a94 566)]⟩ 0))
noncomputable def o306 : Obj := (ob (.type b0) (.seq ⟨[]⟩ 0))
noncomputable def o307 : Obj := (cO a37 (G.top 39))
noncomputable def o308 : Obj := (ob (.type b1) (.fields ⟨[(.str a37 560),(.str a37 561),(.str a50 562),(i 180),(i 3),(i 0),(i 0),(i 3),(.ref 288),(.bool .true),(i 181),(.ref 289),.none,(.ref 290),(.ref 291),(.ref 292),(i 567),(i 180),(.str a50 568)]⟩))
noncomputable def o309 : Obj := (fO (.type b17) a37 (G.top 39) (.str a83 453) (.ref 293))
noncomputable def o310 : Obj := (ob (.type b0) (.seq ⟨[]⟩ 0))
noncomputable def o311 : Obj := (ob .none (.fields ⟨[]⟩))
noncomputable def a101 : Str := ⟨⟨[115,99,114,105,112,116]⟩⟩
noncomputable def a102 : Str := ⟨⟨[107]⟩⟩
noncomputable def a103 : Str := ⟨⟨[99,101,108,108]⟩⟩
noncomputable def o312 : Obj := (ob (.type b0) (.seq ⟨[(.str a101 575),(.str a102 576),(.str a103 577)]⟩ 0))
noncomputable def o313 : Obj := (ob (.type b0) (.seq ⟨[]⟩ 0))
noncomputable def o314 : Obj := (cO a38 (G.top 41))
noncomputable def o315 : Obj := (ob (.type b1) (.fields ⟨[(.str a38 572),(.str a38 573),(.str a50 574),(i 184),(i 2),(i 0),(i 0),(i 3),(.ref 295),(.bool .true),(i 181),(.ref 296),.none,(.ref 297),(.ref 298),(.ref 299),(i 578),(i 184),(.str a50 579)]⟩))
noncomputable def o316 : Obj := (fO (.type b17) a38 (G.top 41) (.str a99 570) (.ref 300))
noncomputable def o317 : Obj := (ob (.type b0) (.seq ⟨[]⟩ 0))
noncomputable def o318 : Obj := (ob .none (.fields ⟨[]⟩))
noncomputable def o319 : Obj := (cO a39 (G.top 42))
noncomputable def o320 : Obj := (ob (.type b1) (.fields ⟨[(.str a39 581),(.str a39 582),(.str a50 583),(i 191),(i 2),(i 0),(i 0),(i 3),(.ref 302),(.bool .true),(i 181),(.ref 303),.none,.none,.none,(.ref 304),(i 584),(i 191),(.str a50 585)]⟩))
noncomputable def o321 : Obj := (fO (.type b17) a39 (G.top 42) (.str a99 570) (.ref 305))
noncomputable def o322 : Obj := (ob (.type b0) (.seq ⟨[]⟩ 0))
noncomputable def o323 : Obj := (ob .none (.fields ⟨[]⟩))
noncomputable def a104 : Str := ⟨⟨[108,101,102,116]⟩⟩
noncomputable def o324 : Obj := (ob (.type b0) (.seq ⟨[(.str a103 590),(.str a104 591)]⟩ 0))
noncomputable def o325 : Obj := (ob (.type b0) (.seq ⟨[]⟩ 0))
noncomputable def o326 : Obj := (cO a40 (G.top 43))
noncomputable def o327 : Obj := (ob (.type b1) (.fields ⟨[(.str a40 587),(.str a40 588),(.str a50 589),(i 197),(i 1),(i 0),(i 0),(i 3),(.ref 307),(.bool .true),(i 181),(.ref 308),.none,(.ref 309),(.ref 310),(.ref 311),(i 592),(i 197),(.str a50 593)]⟩))
noncomputable def o328 : Obj := (fO (.type b17) a40 (G.top 43) (.str a99 570) (.ref 312))
noncomputable def o329 : Obj := (ob (.type b0) (.seq ⟨[]⟩ 0))
noncomputable def o330 : Obj := (ob .none (.fields ⟨[]⟩))
noncomputable def a105 : Str := ⟨⟨[115,116,97,116,101]⟩⟩
noncomputable def o331 : Obj := (ob (.type b0) (.seq ⟨[(.str a105 598),(.str a76 599),(.str a72 600)]⟩ 0))
noncomputable def o332 : Obj := (ob (.type b0) (.seq ⟨[]⟩ 0))
noncomputable def o333 : Obj := (cO a41 (G.top 44))
noncomputable def o334 : Obj := (ob (.type b1) (.fields ⟨[(.str a41 595),(.str a41 596),(.str a50 597),(i 202),(i 2),(i 0),(i 0),(i 3),(.ref 314),(.bool .true),(i 181),(.ref 315),.none,(.ref 316),(.ref 317),(.ref 318),(i 601),(i 202),(.str a50 602)]⟩))
noncomputable def o335 : Obj := (fO (.type b17) a41 (G.top 44) (.str a99 570) (.ref 319))
noncomputable def o336 : Obj := (ob (.type b0) (.seq ⟨[]⟩ 0))
noncomputable def o337 : Obj := (ob .none (.fields ⟨[]⟩))
noncomputable def o338 : Obj := (cO a42 (G.top 45))
noncomputable def o339 : Obj := (ob (.type b1) (.fields ⟨[(.str a42 604),(.str a42 605),(.str a50 606),(i 209),(i 3),(i 0),(i 0),(i 3),(.ref 321),(.bool .true),(i 181),(.ref 322),.none,.none,.none,(.ref 323),(i 607),(i 209),(.str a50 608)]⟩))
noncomputable def o340 : Obj := (fO (.type b17) a42 (G.top 45) (.str a99 570) (.ref 324))
noncomputable def o341 : Obj := (ob (.type b0) (.seq ⟨[]⟩ 0))
noncomputable def o342 : Obj := (ob .none (.fields ⟨[]⟩))
noncomputable def o343 : Obj := (ob (.type b0) (.seq ⟨[(.str a80 613),(.str a84 614),(.str a85 615)]⟩ 0))
noncomputable def o344 : Obj := (ob (.type b0) (.seq ⟨[]⟩ 0))
noncomputable def o345 : Obj := (cO a43 (G.top 46))
noncomputable def o346 : Obj := (ob (.type b1) (.fields ⟨[(.str a43 610),(.str a43 611),(.str a50 612),(i 233),(i 2),(i 0),(i 0),(i 3),(.ref 326),(.bool .true),(i 181),(.ref 327),.none,(.ref 328),(.ref 329),(.ref 330),(i 616),(i 233),(.str a50 617)]⟩))
noncomputable def o347 : Obj := (fO (.type b17) a43 (G.top 46) (.str a99 570) (.ref 331))
noncomputable def o348 : Obj := (ob (.type b0) (.seq ⟨[]⟩ 0))
noncomputable def o349 : Obj := (ob .none (.fields ⟨[]⟩))
noncomputable def o350 : Obj := (ob (.type b0) (.seq ⟨[(.str a105 622),(.str a93 623),(.str a80 624),(.str a84 625)]⟩ 0))
noncomputable def o351 : Obj := (ob (.type b0) (.seq ⟨[]⟩ 0))
noncomputable def o352 : Obj := (cO a44 (G.top 47))
noncomputable def o353 : Obj := (ob (.type b1) (.fields ⟨[(.str a44 619),(.str a44 620),(.str a50 621),(i 236),(i 2),(i 0),(i 0),(i 3),(.ref 333),(.bool .true),(i 181),(.ref 334),.none,(.ref 335),(.ref 336),(.ref 337),(i 626),(i 236),(.str a50 627)]⟩))
noncomputable def o354 : Obj := (fO (.type b17) a44 (G.top 47) (.str a99 570) (.ref 338))
noncomputable def o355 : Obj := (ob (.type b0) (.seq ⟨[]⟩ 0))
noncomputable def o356 : Obj := (ob .none (.fields ⟨[]⟩))
noncomputable def o357 : Obj := (cO a45 (G.top 48))
noncomputable def o358 : Obj := (ob (.type b1) (.fields ⟨[(.str a45 629),(.str a45 630),(.str a50 631),(i 242),(i 3),(i 0),(i 0),(i 3),(.ref 340),(.bool .true),(i 181),(.ref 341),.none,.none,.none,(.ref 342),(i 632),(i 242),(.str a50 633)]⟩))
noncomputable def o359 : Obj := (fO (.type b17) a45 (G.top 48) (.str a99 570) (.ref 343))
noncomputable def t9 (P : PySem.Params) : PySem.W.BT := (n (q0 P) (n (q1 P) (n (o277 P) (n (q7 P) (n o6 (n o25 (n o63 (n o136 (l o268) .nil) (n o202 (l o334) .nil)) (n o104 (n o170 (l o302) .nil) (l o236))) (n o44 (n o85 (n o154 (l o286) .nil) (n o218 (l o350) .nil)) (n o120 (n o186 (l o318) .nil) (l o252)))) (n (o14 P) (n o33 (n o74 (n o146 (l o276) .nil) (n o210 (l o342) .nil)) (n (o112 P) (n o178 (l o310) .nil) (l o244))) (n o55 (n o93 (n o162 (l o294) .nil) (n o228 (l o358) .nil)) (n o128 (n o194 (l o326) .nil) (l o260))))) (n o0 (n o10 (n o29 (n o70 (n o140 (l o272) .nil) (n o206 (l o338) .nil)) (n o108 (n o174 (l o306) .nil) (l o240))) (n o48 (n o89 (n o158 (l o290) .nil) (n o224 (l o354) .nil)) (n o124 (n o190 (l o322) .nil) (l o256)))) (n o18 (n o40 (n o78 (n o150 (l o282) .nil) (n o214 (l o346) .nil)) (n o116 (n o182 (l o314) .nil) (l (o248 P)))) (n o59 (n o100 (n o166 (l o298) .nil) (l o232)) (n o132 (n o198 (l o330) .nil) (l o264)))))) (n (q5 P) (n (q9 P) (n (o8 P) (n o27 (n o68 (n o138 (l o270) .nil) (n o204 (l o336) .nil)) (n o106 (n o172 (l o304) .nil) (l o238))) (n o46 (n o87 (n o156 (l o288) .nil) (n o222 (l o352) .nil)) (n o122 (n o188 (l o320) .nil) (l o254)))) (n o16 (n o38 (n o76 (n o148 (l o280) .nil) (n o212 (l o344) .nil)) (n o114 (n o180 (l o312) .nil) (l o246))) (n o57 (n o98 (n o164 (l o296) .nil) (l o230)) (n o130 (n o196 (l o328) .nil) (l o262))))) (n o2 (n o12 (n o31 (n o72 (n o144 (l o274) .nil) (n o208 (l o340) .nil)) (n o110 (n o176 (l o308) .nil) (l o242))) (n o53 (n o91 (n o160 (l o292) .nil) (n o226 (l o356) .nil)) (n o126 (n o192 (l o324) .nil) (l o258)))) (n o23 (n o42 (n o83 (n o152 (l o284) .nil) (n o216 (l o348) .nil)) (n o118 (n o184 (l o316) .nil) (l o250))) (n o61 (n o102 (n o168 (l o300) .nil) (l o234)) (n o134 (n o200 (l o332) .nil) (l o266))))))) (n (q2 P) (n (q4 P) (n (q8 P) (n o7 (n o26 (n o67 (n o137 (l o269) .nil) (n o203 (l o335) .nil)) (n o105 (n o171 (l o303) .nil) (l o237))) (n (o45 P) (n o86 (n o155 (l o287) .nil) (n o219 (l o351) .nil)) (n o121 (n o187 (l o319) .nil) (l o253)))) (n o96 (n o37 (n (o75 P) (n o147 (l o279) .nil) (n o211 (l o343) .nil)) (n o113 (n o179 (l o311) .nil) (l o245))) (n o56 (n o97 (n o163 (l o295) .nil) (n o229 (l o359) .nil)) (n o129 (n o195 (l o327) .nil) (l o261))))) (n o278 (n o11 (n (o30 P) (n o71 (n o141 (l o273) .nil) (n o207 (l o339) .nil)) (n o109 (n o175 (l o307) .nil) (l o241))) (n o52 (n (o90 P) (n o159 (l o291) .nil) (n o225 (l o355) .nil)) (n o125 (n o191 (l o323) .nil) (l o257)))) (n o22 (n o41 (n o82 (n o151 (l o283) .nil) (n o215 (l o347) .nil)) (n o117 (n o183 (l o315) .nil) (l o249))) (n (o60 P) (n o101 (n o167 (l o299) .nil) (l o233)) (n o133 (n o199 (l o331) .nil) (l o265)))))) (n (q6 P) (n (q10 P) (n o9 (n o28 (n (o69 P) (n o139 (l (o271 P)) .nil) (n o205 (l o337) .nil)) (n o107 (n o173 (l o305) .nil) (l o239))) (n o47 (n o88 (n o157 (l o289) .nil) (n o223 (l o353) .nil)) (n o123 (n o189 (l o321) .nil) (l o255)))) (n o17 (n (o39 P) (n o77 (n o149 (l o281) .nil) (n o213 (l o345) .nil)) (n o115 (n o181 (l o313) .nil) (l o247))) (n o58 (n (o99 P) (n o165 (l o297) .nil) (l o231)) (n o131 (n o197 (l o329) .nil) (l o263))))) (n o3 (n o13 (n o32 (n o73 (n o145 (l o275) .nil) (n o209 (l o341) .nil)) (n o111 (n o177 (l o309) .nil) (l o243))) (n (o54 P) (n o92 (n o161 (l o293) .nil) (n o227 (l o357) .nil)) (n o127 (n o193 (l o325) .nil) (l o259)))) (n (o24 P) (n o43 (n (o84 P) (n o153 (l o285) .nil) (n o217 (l o349) .nil)) (n o119 (n o185 (l o317) .nil) (l o251))) (n o62 (n o103 (n o169 (l o301) .nil) (l o235)) (n o135 (n o201 (l o333) .nil) (l o267))))))))
theorem pz9 : ∀ w : PySem.World, (fun os : PySem.OsState => PySem.W.Fast.tw10110043849684766642 PySem.W.Fast.tw14364793385576792824 PySem.Challenge.pw_farhail_k56_whole_plans_played w 11 (some (.ref 6)) 1 387 (PySem.W.SharedT.mk (t8 w.params) 264 (.mk [] [] [] 0 [] [] .false ⟨[]⟩ [] 0 .false .false .false 0 [2000,10,10] .false 0 .true [] [] 0 .false) (Array.mk ([] : List PySem.GenState)) (.mk 0 0 0 0) 532 os) (PySem.W.piecesOf sts9 env code (.mk 128 0 155 91) B)) = fun os => some (PySem.Flow.next, (PySem.W.SharedT.mk (t9 w.params) 345 (.mk [] [] [] 0 [] [] .false ⟨[]⟩ [] 0 .false .false .false 0 [2000,10,10] .false 0 .true [] [] 0 .false) (Array.mk ([] : List PySem.GenState)) (.mk 0 0 0 0) 635 os), code, (.mk 242 0 251 26)) := fun w => by kernel_rfl
theorem p9 (w : PySem.World) (os : PySem.OsState) : PySem.W.segRun PySem.treeTable PySem.Challenge.pw_farhail_k56_whole_plans_played w 11 (some (.ref 6)) 1 387 (PySem.W.SharedT.mk (t8 w.params) 264 (.mk [] [] [] 0 [] [] .false ⟨[]⟩ [] 0 .false .false .false 0 [2000,10,10] .false 0 .true [] [] 0 .false) (Array.mk ([] : List PySem.GenState)) (.mk 0 0 0 0) 532 os).abs (PySem.W.piecesOf sts9 env code (.mk 128 0 155 91) B) = some (PySem.Flow.next, (PySem.W.SharedT.mk (t9 w.params) 345 (.mk [] [] [] 0 [] [] .false ⟨[]⟩ [] 0 .false .false .false 0 [2000,10,10] .false 0 .true [] [] 0 .false) (Array.mk ([] : List PySem.GenState)) (.mk 0 0 0 0) 635 os).abs, code, (.mk 242 0 251 26)) := PySem.W.segRun_of (by rw [PySem.W.Fast.te10110043849684766642, PySem.W.Fast.te14364793385576792824]; exact congrFun (pz9 w) os)
noncomputable def sts10 : List PySem.Stmt := [(.FunctionDef a46 (L2.defArgs (G.top 49)) (L2.defBody (G.top 49)) [] none [] (L2.defScope (G.top 49)) none a46 (.mk 252 0 259 13)), (.FunctionDef a47 (L2.defArgs (G.top 50)) (L2.defBody (G.top 50)) [] none [] (L2.defScope (G.top 50)) none a47 (.mk 260 0 264 16)), (.FunctionDef a48 (L2.defArgs (G.top 51)) (L2.defBody (G.top 51)) [] none [] (L2.defScope (G.top 51)) none a48 (.mk 265 0 283 15))]
noncomputable def c30 (P : PySem.Params) (t : List PySem.DictEntry) : List PySem.DictEntry := (en P a41 603 (.ref 320))::(en P a42 609 (.ref 325))::(en P a43 618 (.ref 332))::(en P a44 628 (.ref 339))::(en P a45 634 (.ref 344))::(en P a46 646 (.ref 351))::(en P a47 652 (.ref 356))::(en P a48 673 (.ref 363))::t
noncomputable def o360 (P : Params) : Obj := (ob (.type b3) (.dict ⟨(c23 P (c1 P (c10 P (c9 P (c17 P (c22 P (c30 P [])))))))⟩ 56))
noncomputable def c31 (t : List PySem.Value) : List PySem.Value := (.ref 355)::(i 265)::(i 0)::(.ref 362)::t
noncomputable def c32 (t : List PySem.Value) : List PySem.Value := (i 242)::(i 0)::(.ref 343)::(i 252)::(i 0)::(.ref 350)::(i 260)::(i 0)::t
noncomputable def o361 : Obj := (ob .none (.fields ⟨(c7 (c6 (c5 (c4 (c16 (c15 (c14 (c13 (c20 (c19 (c29 (c28 (c27 (c26 (c25 (c32 (c31 [])))))))))))))))))⟩))
noncomputable def o362 : Obj := (ob (.type b0) (.seq ⟨[]⟩ 0))
noncomputable def o363 : Obj := (ob .none (.fields ⟨[]⟩))
noncomputable def a106 : Str := ⟨⟨[111,114,100,101,114]⟩⟩
noncomputable def o364 : Obj := (ob (.type b0) (.seq ⟨[(.str a105 638),(.str a80 639),(.str a84 640),(.str a106 641),(.str a67 642),(.str a76 643)]⟩ 0))
noncomputable def o365 : Obj := (ob (.type b0) (.seq ⟨[]⟩ 0))
noncomputable def o366 : Obj := (cO a46 (G.top 49))
noncomputable def o367 : Obj := (ob (.type b1) (.fields ⟨[(.str a46 635),(.str a46 636),(.str a50 637),(i 252),(i 3),(i 0),(i 0),(i 3),(.ref 345),(.bool .true),(i 181),(.ref 346),.none,(.ref 347),(.ref 348),(.ref 349),(i 644),(i 252),(.str a50 645)]⟩))
noncomputable def o368 : Obj := (fO (.type b17) a46 (G.top 49) (.str a99 570) (.ref 350))
noncomputable def o369 : Obj := (ob (.type b0) (.seq ⟨[]⟩ 0))
noncomputable def o370 : Obj := (ob .none (.fields ⟨[]⟩))
noncomputable def o371 : Obj := (cO a47 (G.top 50))
noncomputable def o372 : Obj := (ob (.type b1) (.fields ⟨[(.str a47 647),(.str a47 648),(.str a50 649),(i 260),(i 1),(i 0),(i 0),(i 3),(.ref 352),(.bool .true),(i 181),(.ref 353),.none,.none,.none,(.ref 354),(i 650),(i 260),(.str a50 651)]⟩))
noncomputable def o373 : Obj := (fO (.type b17) a47 (G.top 50) (.str a99 570) (.ref 355))
noncomputable def o374 : Obj := (ob (.type b0) (.seq ⟨[]⟩ 0))
noncomputable def o375 : Obj := (ob .none (.fields ⟨[]⟩))
noncomputable def a107 : Str := ⟨⟨[97,115,107,115]⟩⟩
noncomputable def a108 : Str := ⟨⟨[108,111,110,103,101,115,116]⟩⟩
noncomputable def a109 : Str := ⟨⟨[116,111,108,100]⟩⟩
noncomputable def a110 : Str := ⟨⟨[116,117,114,110]⟩⟩
noncomputable def o376 : Obj := (ob (.type b0) (.seq ⟨[(.str a101 656),(.str a103 657),(.str a105 658),(.str a80 659),(.str a84 660),(.str a94 661),(.str a107 662),(.str a91 663),(.str a89 664),(.str a108 665),(.str a88 666),(.str a72 667),(.str a76 668),(.str a109 669),(.str a110 670)]⟩ 0))
noncomputable def o377 : Obj := (ob (.type b0) (.seq ⟨[]⟩ 0))
noncomputable def o378 : Obj := (cO a48 (G.top 51))
noncomputable def o379 : Obj := (ob (.type b1) (.fields ⟨[(.str a48 653),(.str a48 654),(.str a50 655),(i 265),(i 1),(i 0),(i 0),(i 3),(.ref 357),(.bool .true),(i 181),(.ref 358),.none,(.ref 359),(.ref 360),(.ref 361),(i 671),(i 265),(.str a50 672)]⟩))
noncomputable def o380 : Obj := (fO (.type b17) a48 (G.top 51) (.str a99 570) (.ref 362))
noncomputable def t10 (P : PySem.Params) : PySem.W.BT := (n (q0 P) (n (q1 P) (n (o360 P) (n (q7 P) (n o6 (n o25 (n o63 (n o136 (l o268) .nil) (n o202 (l o334) .nil)) (n o104 (n o170 (l o302) .nil) (n o236 (l o368) .nil))) (n o44 (n o85 (n o154 (l o286) .nil) (n o218 (l o350) .nil)) (n o120 (n o186 (l o318) .nil) (l o252)))) (n (o14 P) (n o33 (n o74 (n o146 (l o276) .nil) (n o210 (l o342) .nil)) (n (o112 P) (n o178 (l o310) .nil) (n o244 (l o376) .nil))) (n o55 (n o93 (n o162 (l o294) .nil) (n o228 (l o358) .nil)) (n o128 (n o194 (l o326) .nil) (l o260))))) (n o0 (n o10 (n o29 (n o70 (n o140 (l o272) .nil) (n o206 (l o338) .nil)) (n o108 (n o174 (l o306) .nil) (n o240 (l o372) .nil))) (n o48 (n o89 (n o158 (l o290) .nil) (n o224 (l o354) .nil)) (n o124 (n o190 (l o322) .nil) (l o256)))) (n o18 (n o40 (n o78 (n o150 (l o282) .nil) (n o214 (l o346) .nil)) (n o116 (n o182 (l o314) .nil) (n (o248 P) (l o380) .nil))) (n o59 (n o100 (n o166 (l o298) .nil) (n o232 (l o364) .nil)) (n o132 (n o198 (l o330) .nil) (l o264)))))) (n (q5 P) (n (q9 P) (n (o8 P) (n o27 (n o68 (n o138 (l o270) .nil) (n o204 (l o336) .nil)) (n o106 (n o172 (l o304) .nil) (n o238 (l o370) .nil))) (n o46 (n o87 (n o156 (l o288) .nil) (n o222 (l o352) .nil)) (n o122 (n o188 (l o320) .nil) (l o254)))) (n o16 (n o38 (n o76 (n o148 (l o280) .nil) (n o212 (l o344) .nil)) (n o114 (n o180 (l o312) .nil) (n o246 (l o378) .nil))) (n o57 (n o98 (n o164 (l o296) .nil) (n o230 (l o362) .nil)) (n o130 (n o196 (l o328) .nil) (l o262))))) (n o2 (n o12 (n o31 (n o72 (n o144 (l o274) .nil) (n o208 (l o340) .nil)) (n o110 (n o176 (l o308) .nil) (n o242 (l o374) .nil))) (n o53 (n o91 (n o160 (l o292) .nil) (n o226 (l o356) .nil)) (n o126 (n o192 (l o324) .nil) (l o258)))) (n o23 (n o42 (n o83 (n o152 (l o284) .nil) (n o216 (l o348) .nil)) (n o118 (n o184 (l o316) .nil) (l o250))) (n o61 (n o102 (n o168 (l o300) .nil) (n o234 (l o366) .nil)) (n o134 (n o200 (l o332) .nil) (l o266))))))) (n (q2 P) (n (q4 P) (n (q8 P) (n o7 (n o26 (n o67 (n o137 (l o269) .nil) (n o203 (l o335) .nil)) (n o105 (n o171 (l o303) .nil) (n o237 (l o369) .nil))) (n (o45 P) (n o86 (n o155 (l o287) .nil) (n o219 (l o351) .nil)) (n o121 (n o187 (l o319) .nil) (l o253)))) (n o96 (n o37 (n (o75 P) (n o147 (l o279) .nil) (n o211 (l o343) .nil)) (n o113 (n o179 (l o311) .nil) (n o245 (l o377) .nil))) (n o56 (n o97 (n o163 (l o295) .nil) (n o229 (l o359) .nil)) (n o129 (n o195 (l o327) .nil) (l o261))))) (n o361 (n o11 (n (o30 P) (n o71 (n o141 (l o273) .nil) (n o207 (l o339) .nil)) (n o109 (n o175 (l o307) .nil) (n o241 (l o373) .nil))) (n o52 (n (o90 P) (n o159 (l o291) .nil) (n o225 (l o355) .nil)) (n o125 (n o191 (l o323) .nil) (l o257)))) (n o22 (n o41 (n o82 (n o151 (l o283) .nil) (n o215 (l o347) .nil)) (n o117 (n o183 (l o315) .nil) (l o249))) (n (o60 P) (n o101 (n o167 (l o299) .nil) (n o233 (l o365) .nil)) (n o133 (n o199 (l o331) .nil) (l o265)))))) (n (q6 P) (n (q10 P) (n o9 (n o28 (n (o69 P) (n o139 (l (o271 P)) .nil) (n o205 (l o337) .nil)) (n o107 (n o173 (l o305) .nil) (n o239 (l o371) .nil))) (n o47 (n o88 (n o157 (l o289) .nil) (n o223 (l o353) .nil)) (n o123 (n o189 (l o321) .nil) (l o255)))) (n o17 (n (o39 P) (n o77 (n o149 (l o281) .nil) (n o213 (l o345) .nil)) (n o115 (n o181 (l o313) .nil) (n o247 (l o379) .nil))) (n o58 (n (o99 P) (n o165 (l o297) .nil) (n o231 (l o363) .nil)) (n o131 (n o197 (l o329) .nil) (l o263))))) (n o3 (n o13 (n o32 (n o73 (n o145 (l o275) .nil) (n o209 (l o341) .nil)) (n o111 (n o177 (l o309) .nil) (n o243 (l o375) .nil))) (n (o54 P) (n o92 (n o161 (l o293) .nil) (n o227 (l o357) .nil)) (n o127 (n o193 (l o325) .nil) (l o259)))) (n (o24 P) (n o43 (n (o84 P) (n o153 (l o285) .nil) (n o217 (l o349) .nil)) (n o119 (n o185 (l o317) .nil) (l o251))) (n o62 (n o103 (n o169 (l o301) .nil) (n o235 (l o367) .nil)) (n o135 (n o201 (l o333) .nil) (l o267))))))))
theorem pz10 : ∀ w : PySem.World, (fun os : PySem.OsState => PySem.W.Fast.tw10110043849684766642 PySem.W.Fast.tw14364793385576792824 PySem.Challenge.pw_farhail_k56_whole_plans_played w 11 (some (.ref 6)) 1 104 (PySem.W.SharedT.mk (t9 w.params) 345 (.mk [] [] [] 0 [] [] .false ⟨[]⟩ [] 0 .false .false .false 0 [2000,10,10] .false 0 .true [] [] 0 .false) (Array.mk ([] : List PySem.GenState)) (.mk 0 0 0 0) 635 os) (PySem.W.piecesOf sts10 env code (.mk 242 0 251 26) B)) = fun os => some (PySem.Flow.next, (PySem.W.SharedT.mk (t10 w.params) 364 (.mk [] [] [] 0 [] [] .false ⟨[]⟩ [] 0 .false .false .false 0 [2000,10,10] .false 0 .true [] [] 0 .false) (Array.mk ([] : List PySem.GenState)) (.mk 0 0 0 0) 674 os), code, (.mk 265 0 283 15)) := fun w => by kernel_rfl
theorem p10 (w : PySem.World) (os : PySem.OsState) : PySem.W.segRun PySem.treeTable PySem.Challenge.pw_farhail_k56_whole_plans_played w 11 (some (.ref 6)) 1 104 (PySem.W.SharedT.mk (t9 w.params) 345 (.mk [] [] [] 0 [] [] .false ⟨[]⟩ [] 0 .false .false .false 0 [2000,10,10] .false 0 .true [] [] 0 .false) (Array.mk ([] : List PySem.GenState)) (.mk 0 0 0 0) 635 os).abs (PySem.W.piecesOf sts10 env code (.mk 242 0 251 26) B) = some (PySem.Flow.next, (PySem.W.SharedT.mk (t10 w.params) 364 (.mk [] [] [] 0 [] [] .false ⟨[]⟩ [] 0 .false .false .false 0 [2000,10,10] .false 0 .true [] [] 0 .false) (Array.mk ([] : List PySem.GenState)) (.mk 0 0 0 0) 674 os).abs, code, (.mk 265 0 283 15)) := PySem.W.segRun_of (by rw [PySem.W.Fast.te10110043849684766642, PySem.W.Fast.te14364793385576792824]; exact congrFun (pz10 w) os)
noncomputable def hF (P : PySem.Params) : PySem.Heap := ⟨⟨[(q0 P), (q1 P), (q2 P), (o360 P), (q4 P), (q5 P), (q6 P), (q7 P), (q8 P), (q9 P), (q10 P), o0, o361, o2, o3, o6, o7, (o8 P), o9, o10, o11, o12, o13, (o14 P), o96, o16, o17, o18, o22, o23, (o24 P), o25, o26, o27, o28, o29, (o30 P), o31, o32, o33, o37, o38, (o39 P), o40, o41, o42, o43, o44, (o45 P), o46, o47, o48, o52, o53, (o54 P), o55, o56, o57, o58, o59, (o60 P), o61, o62, o63, o67, o68, (o69 P), o70, o71, o72, o73, o74, (o75 P), o76, o77, o78, o82, o83, (o84 P), o85, o86, o87, o88, o89, (o90 P), o91, o92, o93, o97, o98, (o99 P), o100, o101, o102, o103, o104, o105, o106, o107, o108, o109, o110, o111, (o112 P), o113, o114, o115, o116, o117, o118, o119, o120, o121, o122, o123, o124, o125, o126, o127, o128, o129, o130, o131, o132, o133, o134, o135, o136, o137, o138, o139, o140, o141, o144, o145, o146, o147, o148, o149, o150, o151, o152, o153, o154, o155, o156, o157, o158, o159, o160, o161, o162, o163, o164, o165, o166, o167, o168, o169, o170, o171, o172, o173, o174, o175, o176, o177, o178, o179, o180, o181, o182, o183, o184, o185, o186, o187, o188, o189, o190, o191, o192, o193, o194, o195, o196, o197, o198, o199, o200, o201, o202, o203, o204, o205, o206, o207, o208, o209, o210, o211, o212, o213, o214, o215, o216, o217, o218, o219, o222, o223, o224, o225, o226, o227, o228, o229, o230, o231, o232, o233, o234, o235, o236, o237, o238, o239, o240, o241, o242, o243, o244, o245, o246, o247, (o248 P), o249, o250, o251, o252, o253, o254, o255, o256, o257, o258, o259, o260, o261, o262, o263, o264, o265, o266, o267, o268, o269, o270, (o271 P), o272, o273, o274, o275, o276, o279, o280, o281, o282, o283, o284, o285, o286, o287, o288, o289, o290, o291, o292, o293, o294, o295, o296, o297, o298, o299, o300, o301, o302, o303, o304, o305, o306, o307, o308, o309, o310, o311, o312, o313, o314, o315, o316, o317, o318, o319, o320, o321, o322, o323, o324, o325, o326, o327, o328, o329, o330, o331, o332, o333, o334, o335, o336, o337, o338, o339, o340, o341, o342, o343, o344, o345, o346, o347, o348, o349, o350, o351, o352, o353, o354, o355, o356, o357, o358, o359, o362, o363, o364, o365, o366, o367, o368, o369, o370, o371, o372, o373, o374, o375, o376, o377, o378, o379, o380]⟩, (.mk [] [] [] 0 [] [] .false ⟨[]⟩ [] 0 .false .false .false 0 [2000,10,10] .false 0 .true [] [] 0 .false)⟩
theorem fin0 (w : PySem.World) : (fun os : PySem.OsState => PySem.W.Fast.tw14082659384304107361 PySem.W.Fast.tw14364793385576792824 PySem.Challenge.pw_farhail_k56_whole_plans_played w 11 (some (.ref 6)) 2 (PySem.W.SharedT.mk (t10 w.params) 364 (.mk [] [] [] 0 [] [] .false ⟨[]⟩ [] 0 .false .false .false 0 [2000,10,10] .false 0 .true [] [] 0 .false) (Array.mk ([] : List PySem.GenState)) (.mk 0 0 0 0) 674 os).abs (PySem.Thread.mk (PySem.W.doneF PySem.Flow.next) code (.mk 265 0 283 15) B)) = fun os => some (PySem.Shared.mk (hF w.params) (Array.mk ([] : List PySem.GenState)) (.mk 0 0 0 0) 674 os) := by kernel_rfl
theorem fin (w : PySem.World) (os : PySem.OsState) : PySem.W.topRun PySem.treeTable PySem.Challenge.pw_farhail_k56_whole_plans_played w 11 (some (.ref 6)) 2 (PySem.W.SharedT.mk (t10 w.params) 364 (.mk [] [] [] 0 [] [] .false ⟨[]⟩ [] 0 .false .false .false 0 [2000,10,10] .false 0 .true [] [] 0 .false) (Array.mk ([] : List PySem.GenState)) (.mk 0 0 0 0) 674 os).abs (PySem.W.restOf [] env code (.mk 265 0 283 15) B) = some (PySem.Shared.mk (hF w.params) (Array.mk ([] : List PySem.GenState)) (.mk 0 0 0 0) 674 os) := by rw [show PySem.W.restOf [] env code (.mk 265 0 283 15) B = (PySem.Thread.mk (PySem.W.doneF PySem.Flow.next) code (.mk 265 0 283 15) B) by kernel_rfl, PySem.W.Fast.te14082659384304107361, PySem.W.Fast.te14364793385576792824]; exact congrFun (fin0 w) os
theorem parts : PySem.W.behindTheImports PySem.Challenge.pw_farhail_k56_whole_plans_played = (sts0 ++ (sts1 ++ (sts2 ++ (sts3 ++ (sts4 ++ (sts5 ++ (sts6 ++ (sts7 ++ (sts8 ++ (sts9 ++ (sts10 ++ []))))))))))) := by kernel_rfl
noncomputable abbrev SF (w : PySem.World) (os : PySem.OsState) : PySem.Shared := (PySem.Shared.mk (hF w.params) (Array.mk ([] : List PySem.GenState)) (.mk 0 0 0 0) 674 os)
theorem with_parts {tb : String → Option PySem.Builtin} {p : PySem.Program} {w : PySem.World} {n₀ : Nat} {a : Option PySem.Value} {N : Nat} {s : PySem.Shared} {r : Option PySem.Shared} {b b' : List PySem.Stmt} {e : PySem.Env} {c : PySem.Code} {q : PySem.Pos} {F : List PySem.Frame} (h : b = b') (k : PySem.W.topRun tb p w n₀ a N s (PySem.W.restOf b' e c q F) = r) : PySem.W.topRun tb p w n₀ a N s (PySem.W.restOf b e c q F) = r := by rw [h]; exact k
theorem run (w : PySem.World) (os : PySem.OsState) : PySem.W.topRun PySem.treeTable PySem.Challenge.pw_farhail_k56_whole_plans_played w 11 (some (.ref 6)) (12 + (1 + (196 + (214 + (214 + (214 + (214 + (214 + (391 + (387 + (395 + (387 + (104 + 2))))))))))))) (PySem.Shared.mk (PySem.W.boot_heap w.params) (Array.mk ([] : List PySem.GenState)) PySem.W.boot_drawn PySem.W.boot_toks os) (PySem.W.topStub PySem.Challenge.pw_farhail_k56_whole_plans_played) = some (PySem.Shared.mk (hF w.params) (Array.mk ([] : List PySem.GenState)) (.mk 0 0 0 0) 674 os) := PySem.W.go_top (pre w os) (PySem.W.piece_block (block w os) (with_parts parts (PySem.W.piece_app (p0 w os) (PySem.W.piece_app (p1 w os) (PySem.W.piece_app (p2 w os) (PySem.W.piece_app (p3 w os) (PySem.W.piece_app (p4 w os) (PySem.W.piece_app (p5 w os) (PySem.W.piece_app (p6 w os) (PySem.W.piece_app (p7 w os) (PySem.W.piece_app (p8 w os) (PySem.W.piece_app (p9 w os) (PySem.W.piece_app (p10 w os) (fin w os))))))))))))))
theorem opens : ∀ w : PySem.World, (PySem.W.fencedOpening PySem.treeTable PySem.Challenge.pw_farhail_k56_whole_plans_played w 5964).map (fun s => (s.heap, s.gens, s.drawn, s.toks)) = some (PySem.W.boot_heap w.params, Array.mk [], PySem.W.boot_drawn, PySem.W.boot_toks) := PySem.W.boot_open (by kernel_rfl) (by kernel_rfl) (fun s => by kernel_rfl)
theorem size : ∀ w : PySem.World, ((PySem.W.boot_heap w.params).isNs PySem.mainGlobals && (Array.mk [] : Array PySem.GenState).size == 0, (PySem.W.boot_heap w.params).objs.size, (PySem.W.boot_heap w.params).nsMap PySem.mainGlobals "__annotations__") = (true, 11, (some (.ref 6))) := fun w => by kernel_rfl
noncomputable def K : PySem.Params → PySem.W.Frag := fun P => (nat_lit 2, (ob .none (.dict ⟨[]⟩ 0))) :: (nat_lit 3, (ob (.type "dict") (.dict ⟨[(.mk (PyData.keyHash P "__name__") (.str "__name__" 165) (.str "law_farhail_k56_whole_plans_played" 570)),(.mk (PyData.keyHash P "__doc__") (.str "__doc__" 166) .none),(.mk (PyData.keyHash P "__package__") (.str "__package__" 167) .none),(.mk (PyData.keyHash P "__loader__") (.str "__loader__" 168) (.builtin "__main__.__loader__#opaque")),(.mk (PyData.keyHash P "__spec__") (.str "__spec__" 169) .none),(.mk (PyData.keyHash P "__annotations__") (.str "__annotations__" 170) (.ref 6)),(.mk (PyData.keyHash P "__builtins__") (.str "__builtins__" 171) (.ref 4)),(.mk (PyData.keyHash P "__file__") (.str "__file__" 173) (.str "/claim/cut.py" 172)),(.mk (PyData.keyHash P "__cached__") (.str "__cached__" 174) .none),(.mk (PyData.keyHash P "HailError") (.str "HailError" 206) (.ref 24)),(.mk (PyData.keyHash P "NoWeb") (.str "NoWeb" 222) (.ref 37)),(.mk (PyData.keyHash P "NoPlace") (.str "NoPlace" 238) (.ref 49)),(.mk (PyData.keyHash P "NoThing") (.str "NoThing" 254) (.ref 61)),(.mk (PyData.keyHash P "NoLooks") (.str "NoLooks" 270) (.ref 73)),(.mk (PyData.keyHash P "TooMany") (.str "TooMany" 286) (.ref 85)),(.mk (PyData.keyHash P "Apart") (.str "Apart" 311) (.ref 104)),(.mk (PyData.keyHash P "MOST_PLACES_webs") (.str "MOST_PLACES_webs" 315) (.int 60 314)),(.mk (PyData.keyHash P "near_lists") (.str "near_lists" 321) (.ref 111)),(.mk (PyData.keyHash P "fars_by") (.str "fars_by" 333) (.ref 118)),(.mk (PyData.keyHash P "sorted_ties") (.str "sorted_ties" 345) (.ref 125)),(.mk (PyData.keyHash P "made_web") (.str "made_web" 356) (.ref 132)),(.mk (PyData.keyHash P "place_asked") (.str "place_asked" 364) (.ref 139)),(.mk (PyData.keyHash P "fars_from") (.str "fars_from" 372) (.ref 146)),(.mk (PyData.keyHash P "far_between") (.str "far_between" 381) (.ref 153)),(.mk (PyData.keyHash P "table_of") (.str "table_of" 389) (.ref 158)),(.mk (PyData.keyHash P "things_of") (.str "things_of" 398) (.ref 165)),(.mk (PyData.keyHash P "looks_asked") (.str "looks_asked" 408) (.ref 172)),(.mk (PyData.keyHash P "thing_asked") (.str "thing_asked" 416) (.ref 179)),(.mk (PyData.keyHash P "far_by") (.str "far_by" 425) (.ref 186)),(.mk (PyData.keyHash P "code_of") (.str "code_of" 431) (.ref 191)),(.mk (PyData.keyHash P "by_code") (.str "by_code" 437) (.ref 196)),(.mk (PyData.keyHash P "likes_by") (.str "likes_by" 443) (.ref 201)),(.mk (PyData.keyHash P "is_known") (.str "is_known" 452) (.ref 208)),(.mk (PyData.keyHash P "MOST_PLACES_asks") (.str "MOST_PLACES_asks" 456) (.int 7 455)),(.mk (PyData.keyHash P "MOST_THINGS") (.str "MOST_THINGS" 458) (.int 8 457)),(.mk (PyData.keyHash P "few_things") (.str "few_things" 467) (.ref 215)),(.mk (PyData.keyHash P "all_fars") (.str "all_fars" 473) (.ref 220)),(.mk (PyData.keyHash P "far_thing") (.str "far_thing" 482) (.ref 227)),(.mk (PyData.keyHash P "parts_by") (.str "parts_by" 488) (.ref 232)),(.mk (PyData.keyHash P "Asking") (.str "Asking" 531) (.ref 259)),(.mk (PyData.keyHash P "fewest_asks") (.str "fewest_asks" 537) (.ref 268)),(.mk (PyData.keyHash P "len_first") (.str "len_first" 544) (.ref 275)),(.mk (PyData.keyHash P "plan_of_parts") (.str "plan_of_parts" 550) (.ref 280)),(.mk (PyData.keyHash P "asks_of") (.str "asks_of" 559) (.ref 287)),(.mk (PyData.keyHash P "plan_asks") (.str "plan_asks" 569) (.ref 294)),(.mk (PyData.keyHash P "_law_cell_at") (.str "_law_cell_at" 580) (.ref 301)),(.mk (PyData.keyHash P "_law_folded") (.str "_law_folded" 586) (.ref 306)),(.mk (PyData.keyHash P "_law_state") (.str "_law_state" 594) (.ref 313)),(.mk (PyData.keyHash P "_law_next") (.str "_law_next" 603) (.ref 320)),(.mk (PyData.keyHash P "_law_web") (.str "_law_web" 609) (.ref 325)),(.mk (PyData.keyHash P "_law_things") (.str "_law_things" 618) (.ref 332)),(.mk (PyData.keyHash P "_law_few") (.str "_law_few" 628) (.ref 339)),(.mk (PyData.keyHash P "_law_gone") (.str "_law_gone" 634) (.ref 344)),(.mk (PyData.keyHash P "_law_looks") (.str "_law_looks" 646) (.ref 351)),(.mk (PyData.keyHash P "_law_broadest") (.str "_law_broadest" 652) (.ref 356)),(.mk (PyData.keyHash P "law") (.str "law" 673) (.ref 363))]⟩ 56))) :: (nat_lit 15, (ob (.type "tuple") (.seq ⟨[(.type "ValueError")]⟩ 0))) :: (nat_lit 22, (ob (.type "tuple") (.seq ⟨[]⟩ 0))) :: (nat_lit 23, (ob (.type "dict") (.dict ⟨[(.mk (PyData.keyHash P "__module__") (.str "__module__" 196) (.str "farhail.errors" 187)),(.mk (PyData.keyHash P "__firstlineno__") (.str "__firstlineno__" 200) (.int 2 199)),(.mk (PyData.keyHash P "__static_attributes__") (.str "__static_attributes__" 201) (.ref 22)),(.mk (PyData.keyHash P "__weakref__") (.str "__weakref__" 203) (.ref 25)),(.mk (PyData.keyHash P "__doc__") (.str "__doc__" 204) .none)]⟩ 3))) :: (nat_lit 24, (.mk (.type "type") none (.cls (.mk "HailError" [(.type "ValueError")] [(.ref 24),(.type "ValueError"),(.type "Exception"),(.type "BaseException"),(.type "object")] 23 "HailError" .true [] [(.ref 37),(.ref 49),(.ref 61),(.ref 73),(.ref 85),(.ref 104)] .false none .false)) ⟨[(some (.ref 15)),none,(some (.str "HailError" 189)),(some (.str "HailError" 197)),(some (.builtin "ValueError.__new__")),(some (.bool .true))]⟩)) :: (nat_lit 25, (ob (.type "getset_descriptor") (.fields ⟨[(.str "__weakref__" 202),(.ref 24),(.builtin "ExceptionGroup.__weakref__"),.none]⟩))) :: (nat_lit 28, (ob (.type "tuple") (.seq ⟨[(.ref 24)]⟩ 0))) :: (nat_lit 35, (ob (.type "tuple") (.seq ⟨[]⟩ 0))) :: (nat_lit 36, (ob (.type "dict") (.dict ⟨[(.mk (PyData.keyHash P "__module__") (.str "__module__" 214) (.str "farhail.errors" 187)),(.mk (PyData.keyHash P "__firstlineno__") (.str "__firstlineno__" 218) (.int 4 217)),(.mk (PyData.keyHash P "__static_attributes__") (.str "__static_attributes__" 219) (.ref 35)),(.mk (PyData.keyHash P "__doc__") (.str "__doc__" 220) .none)]⟩ 2))) :: (nat_lit 37, (.mk (.type "type") none (.cls (.mk "NoWeb" [(.ref 24)] [(.ref 37),(.ref 24),(.type "ValueError"),(.type "Exception"),(.type "BaseException"),(.type "object")] 36 "NoWeb" .true [] [] .false none .false)) ⟨[(some (.ref 28)),none,(some (.str "NoWeb" 207)),(some (.str "NoWeb" 215)),(some (.builtin "ValueError.__new__")),(some (.bool .true))]⟩)) :: (nat_lit 40, (ob (.type "tuple") (.seq ⟨[(.ref 24)]⟩ 0))) :: (nat_lit 47, (ob (.type "tuple") (.seq ⟨[]⟩ 0))) :: (nat_lit 48, (ob (.type "dict") (.dict ⟨[(.mk (PyData.keyHash P "__module__") (.str "__module__" 230) (.str "farhail.errors" 187)),(.mk (PyData.keyHash P "__firstlineno__") (.str "__firstlineno__" 234) (.int 6 233)),(.mk (PyData.keyHash P "__static_attributes__") (.str "__static_attributes__" 235) (.ref 47)),(.mk (PyData.keyHash P "__doc__") (.str "__doc__" 236) .none)]⟩ 2))) :: (nat_lit 49, (.mk (.type "type") none (.cls (.mk "NoPlace" [(.ref 24)] [(.ref 49),(.ref 24),(.type "ValueError"),(.type "Exception"),(.type "BaseException"),(.type "object")] 48 "NoPlace" .true [] [] .false none .false)) ⟨[(some (.ref 40)),none,(some (.str "NoPlace" 223)),(some (.str "NoPlace" 231)),(some (.builtin "ValueError.__new__")),(some (.bool .true))]⟩)) :: (nat_lit 52, (ob (.type "tuple") (.seq ⟨[(.ref 24)]⟩ 0))) :: (nat_lit 59, (ob (.type "tuple") (.seq ⟨[]⟩ 0))) :: (nat_lit 60, (ob (.type "dict") (.dict ⟨[(.mk (PyData.keyHash P "__module__") (.str "__module__" 246) (.str "farhail.errors" 187)),(.mk (PyData.keyHash P "__firstlineno__") (.str "__firstlineno__" 250) (.int 8 249)),(.mk (PyData.keyHash P "__static_attributes__") (.str "__static_attributes__" 251) (.ref 59)),(.mk (PyData.keyHash P "__doc__") (.str "__doc__" 252) .none)]⟩ 2))) :: (nat_lit 61, (.mk (.type "type") none (.cls (.mk "NoThing" [(.ref 24)] [(.ref 61),(.ref 24),(.type "ValueError"),(.type "Exception"),(.type "BaseException"),(.type "object")] 60 "NoThing" .true [] [] .false none .false)) ⟨[(some (.ref 52)),none,(some (.str "NoThing" 239)),(some (.str "NoThing" 247)),(some (.builtin "ValueError.__new__")),(some (.bool .true))]⟩)) :: (nat_lit 64, (ob (.type "tuple") (.seq ⟨[(.ref 24)]⟩ 0))) :: (nat_lit 71, (ob (.type "tuple") (.seq ⟨[]⟩ 0))) :: (nat_lit 72, (ob (.type "dict") (.dict ⟨[(.mk (PyData.keyHash P "__module__") (.str "__module__" 262) (.str "farhail.errors" 187)),(.mk (PyData.keyHash P "__firstlineno__") (.str "__firstlineno__" 266) (.int 10 265)),(.mk (PyData.keyHash P "__static_attributes__") (.str "__static_attributes__" 267) (.ref 71)),(.mk (PyData.keyHash P "__doc__") (.str "__doc__" 268) .none)]⟩ 2))) :: (nat_lit 73, (.mk (.type "type") none (.cls (.mk "NoLooks" [(.ref 24)] [(.ref 73),(.ref 24),(.type "ValueError"),(.type "Exception"),(.type "BaseException"),(.type "object")] 72 "NoLooks" .true [] [] .false none .false)) ⟨[(some (.ref 64)),none,(some (.str "NoLooks" 255)),(some (.str "NoLooks" 263)),(some (.builtin "ValueError.__new__")),(some (.bool .true))]⟩)) :: (nat_lit 76, (ob (.type "tuple") (.seq ⟨[(.ref 24)]⟩ 0))) :: (nat_lit 83, (ob (.type "tuple") (.seq ⟨[]⟩ 0))) :: (nat_lit 84, (ob (.type "dict") (.dict ⟨[(.mk (PyData.keyHash P "__module__") (.str "__module__" 278) (.str "farhail.errors" 187)),(.mk (PyData.keyHash P "__firstlineno__") (.str "__firstlineno__" 282) (.int 12 281)),(.mk (PyData.keyHash P "__static_attributes__") (.str "__static_attributes__" 283) (.ref 83)),(.mk (PyData.keyHash P "__doc__") (.str "__doc__" 284) .none)]⟩ 2))) :: (nat_lit 85, (.mk (.type "type") none (.cls (.mk "TooMany" [(.ref 24)] [(.ref 85),(.ref 24),(.type "ValueError"),(.type "Exception"),(.type "BaseException"),(.type "object")] 84 "TooMany" .true [] [] .false none .false)) ⟨[(some (.ref 76)),none,(some (.str "TooMany" 271)),(some (.str "TooMany" 279)),(some (.builtin "ValueError.__new__")),(some (.bool .true))]⟩)) :: (nat_lit 88, (ob (.type "tuple") (.seq ⟨[(.ref 24)]⟩ 0))) :: (nat_lit 95, (ob (.type "tuple") (.seq ⟨[]⟩ 0))) :: (nat_lit 97, (ob (.type "tuple") (.seq ⟨[(.str "self" 302),(.str "place" 303)]⟩ 0))) :: (nat_lit 98, (ob (.type "tuple") (.seq ⟨[]⟩ 0))) :: (nat_lit 100, (ob (.type "code") (.fields ⟨[(.str "__init__" 299),(.str "Apart.__init__" 300),(.str "/claim/cut.py" 301),(.int 16 0),(.int 2 0),(.int 0 0),(.int 0 0),(.int 3 0),(.ref 95),(.bool .true),(.int 181 0),(.ref 96),.none,(.ref 97),(.ref 98),(.ref 99),(.int 304 0),(.int 16 0),(.str "/claim/cut.py" 305)]⟩))) :: (nat_lit 101, (.mk (.type "function") none (.func (PySem.W.fnOf "__init__" "Apart.__init__" (L2.defArgs (L2.inClass (G.top 7) 0)) (L2.defBody (L2.inClass (G.top 7) 0)) (L2.defScope (L2.inClass (G.top 7) 0)) .none .none .none (.str "farhail.errors" 187) none (.ref 100) .none)) ⟨[]⟩)) :: (nat_lit 102, (ob (.type "tuple") (.seq ⟨[(.str "place" 307)]⟩ 0))) :: (nat_lit 103, (ob (.type "dict") (.dict ⟨[(.mk (PyData.keyHash P "__module__") (.str "__module__" 294) (.str "farhail.errors" 187)),(.mk (PyData.keyHash P "__firstlineno__") (.str "__firstlineno__" 298) (.int 14 297)),(.mk (PyData.keyHash P "__init__") (.str "__init__" 306) (.ref 101)),(.mk (PyData.keyHash P "__static_attributes__") (.str "__static_attributes__" 308) (.ref 102)),(.mk (PyData.keyHash P "__doc__") (.str "__doc__" 309) .none)]⟩ 2))) :: (nat_lit 104, (.mk (.type "type") none (.cls (.mk "Apart" [(.ref 24)] [(.ref 104),(.ref 24),(.type "ValueError"),(.type "Exception"),(.type "BaseException"),(.type "object")] 103 "Apart" .true [] [] .false none .false)) ⟨[(some (.ref 88)),none,(some (.str "Apart" 287)),(some (.str "Apart" 295)),(some (.builtin "ValueError.__new__")),(some (.bool .true))]⟩)) :: (nat_lit 107, (ob (.type "tuple") (.seq ⟨[]⟩ 0))) :: (nat_lit 110, (ob (.type "code") (.fields ⟨[(.str "near_lists" 316),(.str "near_lists" 317),(.str "/claim/cut.py" 318),(.int 21 0),(.int 1 0),(.int 0 0),(.int 0 0),(.int 3 0),(.ref 107),(.bool .true),(.int 181 0),(.ref 108),.none,.none,.none,(.ref 109),(.int 319 0),(.int 21 0),(.str "/claim/cut.py" 320)]⟩))) :: (nat_lit 111, (fO (.type "function") "near_lists" (G.top 10) (.str "farhail.webs" 312) (.ref 110))) :: (nat_lit 112, (ob (.type "tuple") (.seq ⟨[]⟩ 0))) :: (nat_lit 114, (ob (.type "tuple") (.seq ⟨[(.str "near" 325),(.str "place" 326),(.str "found" 327),(.str "line" 328),(.str "at" 329),(.str "other" 330)]⟩ 0))) :: (nat_lit 115, (ob (.type "tuple") (.seq ⟨[]⟩ 0))) :: (nat_lit 117, (ob (.type "code") (.fields ⟨[(.str "fars_by" 322),(.str "fars_by" 323),(.str "/claim/cut.py" 324),(.int 27 0),(.int 2 0),(.int 0 0),(.int 0 0),(.int 3 0),(.ref 112),(.bool .true),(.int 181 0),(.ref 113),.none,(.ref 114),(.ref 115),(.ref 116),(.int 331 0),(.int 27 0),(.str "/claim/cut.py" 332)]⟩))) :: (nat_lit 118, (fO (.type "function") "fars_by" (G.top 11) (.str "farhail.webs" 312) (.ref 117))) :: (nat_lit 119, (ob (.type "tuple") (.seq ⟨[]⟩ 0))) :: (nat_lit 121, (ob (.type "tuple") (.seq ⟨[(.str "many" 337),(.str "ties" 338),(.str "found" 339),(.str "one" 340),(.str "other" 341),(.str "tie" 342)]⟩ 0))) :: (nat_lit 122, (ob (.type "tuple") (.seq ⟨[]⟩ 0))) :: (nat_lit 124, (ob (.type "code") (.fields ⟨[(.str "sorted_ties" 334),(.str "sorted_ties" 335),(.str "/claim/cut.py" 336),(.int 39 0),(.int 2 0),(.int 0 0),(.int 0 0),(.int 3 0),(.ref 119),(.bool .true),(.int 181 0),(.ref 120),.none,(.ref 121),(.ref 122),(.ref 123),(.int 343 0),(.int 39 0),(.str "/claim/cut.py" 344)]⟩))) :: (nat_lit 125, (fO (.type "function") "sorted_ties" (G.top 12) (.str "farhail.webs" 312) (.ref 124))) :: (nat_lit 126, (ob (.type "tuple") (.seq ⟨[]⟩ 0))) :: (nat_lit 128, (ob (.type "tuple") (.seq ⟨[(.str "many" 349),(.str "ties" 350),(.str "web" 351),(.str "fars" 352),(.str "place" 353)]⟩ 0))) :: (nat_lit 129, (ob (.type "tuple") (.seq ⟨[]⟩ 0))) :: (nat_lit 131, (ob (.type "code") (.fields ⟨[(.str "made_web" 346),(.str "made_web" 347),(.str "/claim/cut.py" 348),(.int 47 0),(.int 2 0),(.int 0 0),(.int 0 0),(.int 3 0),(.ref 126),(.bool .true),(.int 181 0),(.ref 127),.none,(.ref 128),(.ref 129),(.ref 130),(.int 354 0),(.int 47 0),(.str "/claim/cut.py" 355)]⟩))) :: (nat_lit 132, (fO (.type "function") "made_web" (G.top 13) (.str "farhail.webs" 312) (.ref 131))) :: (nat_lit 133, (ob (.type "tuple") (.seq ⟨[]⟩ 0))) :: (nat_lit 135, (ob (.type "tuple") (.seq ⟨[(.str "web" 360),(.str "place" 361)]⟩ 0))) :: (nat_lit 136, (ob (.type "tuple") (.seq ⟨[]⟩ 0))) :: (nat_lit 138, (ob (.type "code") (.fields ⟨[(.str "place_asked" 357),(.str "place_asked" 358),(.str "/claim/cut.py" 359),(.int 56 0),(.int 2 0),(.int 0 0),(.int 0 0),(.int 3 0),(.ref 133),(.bool .true),(.int 181 0),(.ref 134),.none,(.ref 135),(.ref 136),(.ref 137),(.int 362 0),(.int 56 0),(.str "/claim/cut.py" 363)]⟩))) :: (nat_lit 139, (fO (.type "function") "place_asked" (G.top 14) (.str "farhail.webs" 312) (.ref 138))) :: (nat_lit 140, (ob (.type "tuple") (.seq ⟨[]⟩ 0))) :: (nat_lit 142, (ob (.type "tuple") (.seq ⟨[(.str "web" 368),(.str "place" 369)]⟩ 0))) :: (nat_lit 143, (ob (.type "tuple") (.seq ⟨[]⟩ 0))) :: (nat_lit 145, (ob (.type "code") (.fields ⟨[(.str "fars_from" 365),(.str "fars_from" 366),(.str "/claim/cut.py" 367),(.int 59 0),(.int 2 0),(.int 0 0),(.int 0 0),(.int 3 0),(.ref 140),(.bool .true),(.int 181 0),(.ref 141),.none,(.ref 142),(.ref 143),(.ref 144),(.int 370 0),(.int 59 0),(.str "/claim/cut.py" 371)]⟩))) :: (nat_lit 146, (fO (.type "function") "fars_from" (G.top 15) (.str "farhail.webs" 312) (.ref 145))) :: (nat_lit 147, (ob (.type "tuple") (.seq ⟨[]⟩ 0))) :: (nat_lit 149, (ob (.type "tuple") (.seq ⟨[(.str "web" 376),(.str "one" 377),(.str "other" 378)]⟩ 0))) :: (nat_lit 150, (ob (.type "tuple") (.seq ⟨[]⟩ 0))) :: (nat_lit 152, (ob (.type "code") (.fields ⟨[(.str "far_between" 373),(.str "far_between" 374),(.str "/claim/cut.py" 375),(.int 62 0),(.int 3 0),(.int 0 0),(.int 0 0),(.int 3 0),(.ref 147),(.bool .true),(.int 181 0),(.ref 148),.none,(.ref 149),(.ref 150),(.ref 151),(.int 379 0),(.int 62 0),(.str "/claim/cut.py" 380)]⟩))) :: (nat_lit 153, (fO (.type "function") "far_between" (G.top 16) (.str "farhail.webs" 312) (.ref 152))) :: (nat_lit 154, (ob (.type "tuple") (.seq ⟨[]⟩ 0))) :: (nat_lit 157, (ob (.type "code") (.fields ⟨[(.str "table_of" 384),(.str "table_of" 385),(.str "/claim/cut.py" 386),(.int 67 0),(.int 1 0),(.int 0 0),(.int 0 0),(.int 3 0),(.ref 154),(.bool .true),(.int 181 0),(.ref 155),.none,.none,.none,(.ref 156),(.int 387 0),(.int 67 0),(.str "/claim/cut.py" 388)]⟩))) :: (nat_lit 158, (fO (.type "function") "table_of" (G.top 18) (.str "farhail.codes" 382) (.ref 157))) :: (nat_lit 159, (ob (.type "tuple") (.seq ⟨[]⟩ 0))) :: (nat_lit 161, (ob (.type "tuple") (.seq ⟨[(.str "web" 393),(.str "kind" 394),(.str "places" 395)]⟩ 0))) :: (nat_lit 162, (ob (.type "tuple") (.seq ⟨[]⟩ 0))) :: (nat_lit 164, (ob (.type "code") (.fields ⟨[(.str "things_of" 390),(.str "things_of" 391),(.str "/claim/cut.py" 392),(.int 69 0),(.int 2 0),(.int 0 0),(.int 0 0),(.int 3 0),(.ref 159),(.bool .true),(.int 181 0),(.ref 160),.none,(.ref 161),(.ref 162),(.ref 163),(.int 396 0),(.int 69 0),(.str "/claim/cut.py" 397)]⟩))) :: (nat_lit 165, (fO (.type "function") "things_of" (G.top 19) (.str "farhail.codes" 382) (.ref 164))) :: (nat_lit 166, (ob (.type "tuple") (.seq ⟨[]⟩ 0))) :: (nat_lit 168, (ob (.type "tuple") (.seq ⟨[(.str "web" 402),(.str "looks" 403),(.str "at" 404),(.str "look" 405)]⟩ 0))) :: (nat_lit 169, (ob (.type "tuple") (.seq ⟨[]⟩ 0))) :: (nat_lit 171, (ob (.type "code") (.fields ⟨[(.str "looks_asked" 399),(.str "looks_asked" 400),(.str "/claim/cut.py" 401),(.int 76 0),(.int 2 0),(.int 0 0),(.int 0 0),(.int 3 0),(.ref 166),(.bool .true),(.int 181 0),(.ref 167),.none,(.ref 168),(.ref 169),(.ref 170),(.int 406 0),(.int 76 0),(.str "/claim/cut.py" 407)]⟩))) :: (nat_lit 172, (fO (.type "function") "looks_asked" (G.top 20) (.str "farhail.codes" 382) (.ref 171))) :: (nat_lit 173, (ob (.type "tuple") (.seq ⟨[]⟩ 0))) :: (nat_lit 175, (ob (.type "tuple") (.seq ⟨[(.str "web" 412),(.str "thing" 413)]⟩ 0))) :: (nat_lit 176, (ob (.type "tuple") (.seq ⟨[]⟩ 0))) :: (nat_lit 178, (ob (.type "code") (.fields ⟨[(.str "thing_asked" 409),(.str "thing_asked" 410),(.str "/claim/cut.py" 411),(.int 80 0),(.int 2 0),(.int 0 0),(.int 0 0),(.int 3 0),(.ref 173),(.bool .true),(.int 181 0),(.ref 174),.none,(.ref 175),(.ref 176),(.ref 177),(.int 414 0),(.int 80 0),(.str "/claim/cut.py" 415)]⟩))) :: (nat_lit 179, (fO (.type "function") "thing_asked" (G.top 21) (.str "farhail.codes" 382) (.ref 178))) :: (nat_lit 180, (ob (.type "tuple") (.seq ⟨[]⟩ 0))) :: (nat_lit 182, (ob (.type "tuple") (.seq ⟨[(.str "table" 420),(.str "look" 421),(.str "thing" 422)]⟩ 0))) :: (nat_lit 183, (ob (.type "tuple") (.seq ⟨[]⟩ 0))) :: (nat_lit 185, (ob (.type "code") (.fields ⟨[(.str "far_by" 417),(.str "far_by" 418),(.str "/claim/cut.py" 419),(.int 86 0),(.int 3 0),(.int 0 0),(.int 0 0),(.int 3 0),(.ref 180),(.bool .true),(.int 181 0),(.ref 181),.none,(.ref 182),(.ref 183),(.ref 184),(.int 423 0),(.int 86 0),(.str "/claim/cut.py" 424)]⟩))) :: (nat_lit 186, (fO (.type "function") "far_by" (G.top 22) (.str "farhail.codes" 382) (.ref 185))) :: (nat_lit 187, (ob (.type "tuple") (.seq ⟨[]⟩ 0))) :: (nat_lit 190, (ob (.type "code") (.fields ⟨[(.str "code_of" 426),(.str "code_of" 427),(.str "/claim/cut.py" 428),(.int 90 0),(.int 3 0),(.int 0 0),(.int 0 0),(.int 3 0),(.ref 187),(.bool .true),(.int 181 0),(.ref 188),.none,.none,.none,(.ref 189),(.int 429 0),(.int 90 0),(.str "/claim/cut.py" 430)]⟩))) :: (nat_lit 191, (fO (.type "function") "code_of" (G.top 23) (.str "farhail.codes" 382) (.ref 190))) :: (nat_lit 192, (ob (.type "tuple") (.seq ⟨[]⟩ 0))) :: (nat_lit 195, (ob (.type "code") (.fields ⟨[(.str "by_code" 432),(.str "by_code" 433),(.str "/claim/cut.py" 434),(.int 95 0),(.int 3 0),(.int 0 0),(.int 0 0),(.int 3 0),(.ref 192),(.bool .true),(.int 181 0),(.ref 193),.none,.none,.none,(.ref 194),(.int 435 0),(.int 95 0),(.str "/claim/cut.py" 436)]⟩))) :: (nat_lit 196, (fO (.type "function") "by_code" (G.top 24) (.str "farhail.codes" 382) (.ref 195))) :: (nat_lit 197, (ob (.type "tuple") (.seq ⟨[]⟩ 0))) :: (nat_lit 200, (ob (.type "code") (.fields ⟨[(.str "likes_by" 438),(.str "likes_by" 439),(.str "/claim/cut.py" 440),(.int 104 0),(.int 3 0),(.int 0 0),(.int 0 0),(.int 3 0),(.ref 197),(.bool .true),(.int 181 0),(.ref 198),.none,.none,.none,(.ref 199),(.int 441 0),(.int 104 0),(.str "/claim/cut.py" 442)]⟩))) :: (nat_lit 201, (fO (.type "function") "likes_by" (G.top 25) (.str "farhail.codes" 382) (.ref 200))) :: (nat_lit 202, (ob (.type "tuple") (.seq ⟨[]⟩ 0))) :: (nat_lit 204, (ob (.type "tuple") (.seq ⟨[(.str "web" 447),(.str "looks" 448),(.str "kind" 449)]⟩ 0))) :: (nat_lit 205, (ob (.type "tuple") (.seq ⟨[]⟩ 0))) :: (nat_lit 207, (ob (.type "code") (.fields ⟨[(.str "is_known" 444),(.str "is_known" 445),(.str "/claim/cut.py" 446),(.int 107 0),(.int 3 0),(.int 0 0),(.int 0 0),(.int 3 0),(.ref 202),(.bool .true),(.int 181 0),(.ref 203),.none,(.ref 204),(.ref 205),(.ref 206),(.int 450 0),(.int 107 0),(.str "/claim/cut.py" 451)]⟩))) :: (nat_lit 208, (fO (.type "function") "is_known" (G.top 26) (.str "farhail.codes" 382) (.ref 207))) :: (nat_lit 209, (ob (.type "tuple") (.seq ⟨[]⟩ 0))) :: (nat_lit 211, (ob (.type "tuple") (.seq ⟨[(.str "web" 462),(.str "kind" 463),(.str "things" 464)]⟩ 0))) :: (nat_lit 212, (ob (.type "tuple") (.seq ⟨[]⟩ 0))) :: (nat_lit 214, (ob (.type "code") (.fields ⟨[(.str "few_things" 459),(.str "few_things" 460),(.str "/claim/cut.py" 461),(.int 112 0),(.int 2 0),(.int 0 0),(.int 0 0),(.int 3 0),(.ref 209),(.bool .true),(.int 181 0),(.ref 210),.none,(.ref 211),(.ref 212),(.ref 213),(.int 465 0),(.int 112 0),(.str "/claim/cut.py" 466)]⟩))) :: (nat_lit 215, (fO (.type "function") "few_things" (G.top 30) (.str "farhail.asks" 453) (.ref 214))) :: (nat_lit 216, (ob (.type "tuple") (.seq ⟨[]⟩ 0))) :: (nat_lit 219, (ob (.type "code") (.fields ⟨[(.str "all_fars" 468),(.str "all_fars" 469),(.str "/claim/cut.py" 470),(.int 117 0),(.int 1 0),(.int 0 0),(.int 0 0),(.int 3 0),(.ref 216),(.bool .true),(.int 181 0),(.ref 217),.none,.none,.none,(.ref 218),(.int 471 0),(.int 117 0),(.str "/claim/cut.py" 472)]⟩))) :: (nat_lit 220, (fO (.type "function") "all_fars" (G.top 31) (.str "farhail.asks" 453) (.ref 219))) :: (nat_lit 221, (ob (.type "tuple") (.seq ⟨[]⟩ 0))) :: (nat_lit 223, (ob (.type "tuple") (.seq ⟨[(.str "fars" 477),(.str "place" 478),(.str "thing" 479)]⟩ 0))) :: (nat_lit 224, (ob (.type "tuple") (.seq ⟨[]⟩ 0))) :: (nat_lit 226, (ob (.type "code") (.fields ⟨[(.str "far_thing" 474),(.str "far_thing" 475),(.str "/claim/cut.py" 476),(.int 119 0),(.int 3 0),(.int 0 0),(.int 0 0),(.int 3 0),(.ref 221),(.bool .true),(.int 181 0),(.ref 222),.none,(.ref 223),(.ref 224),(.ref 225),(.int 480 0),(.int 119 0),(.str "/claim/cut.py" 481)]⟩))) :: (nat_lit 227, (fO (.type "function") "far_thing" (G.top 32) (.str "farhail.asks" 453) (.ref 226))) :: (nat_lit 228, (ob (.type "tuple") (.seq ⟨[]⟩ 0))) :: (nat_lit 231, (ob (.type "code") (.fields ⟨[(.str "parts_by" 483),(.str "parts_by" 484),(.str "/claim/cut.py" 485),(.int 123 0),(.int 3 0),(.int 0 0),(.int 0 0),(.int 3 0),(.ref 228),(.bool .true),(.int 181 0),(.ref 229),.none,.none,.none,(.ref 230),(.int 486 0),(.int 123 0),(.str "/claim/cut.py" 487)]⟩))) :: (nat_lit 232, (fO (.type "function") "parts_by" (G.top 33) (.str "farhail.asks" 453) (.ref 231))) :: (nat_lit 240, (ob (.type "tuple") (.seq ⟨[]⟩ 0))) :: (nat_lit 242, (ob (.type "tuple") (.seq ⟨[(.str "self" 504),(.str "web" 505)]⟩ 0))) :: (nat_lit 243, (ob (.type "tuple") (.seq ⟨[]⟩ 0))) :: (nat_lit 245, (ob (.type "code") (.fields ⟨[(.str "__init__" 501),(.str "Asking.__init__" 502),(.str "/claim/cut.py" 503),(.int 130 0),(.int 2 0),(.int 0 0),(.int 0 0),(.int 3 0),(.ref 240),(.bool .true),(.int 181 0),(.ref 241),.none,(.ref 242),(.ref 243),(.ref 244),(.int 506 0),(.int 130 0),(.str "/claim/cut.py" 507)]⟩))) :: (nat_lit 246, (.mk (.type "function") none (.func (PySem.W.fnOf "__init__" "Asking.__init__" (L2.defArgs (L2.inClass (G.top 34) 0)) (L2.defBody (L2.inClass (G.top 34) 0)) (L2.defScope (L2.inClass (G.top 34) 0)) .none .none .none (.str "farhail.asks" 453) none (.ref 245) .none)) ⟨[]⟩)) :: (nat_lit 247, (ob (.type "tuple") (.seq ⟨[]⟩ 0))) :: (nat_lit 250, (ob (.type "code") (.fields ⟨[(.str "need" 509),(.str "Asking.need" 510),(.str "/claim/cut.py" 511),(.int 135 0),(.int 2 0),(.int 0 0),(.int 0 0),(.int 3 0),(.ref 247),(.bool .true),(.int 181 0),(.ref 248),.none,.none,.none,(.ref 249),(.int 512 0),(.int 135 0),(.str "/claim/cut.py" 513)]⟩))) :: (nat_lit 251, (.mk (.type "function") none (.func (PySem.W.fnOf "need" "Asking.need" (L2.defArgs (L2.inClass (G.top 34) 1)) (L2.defBody (L2.inClass (G.top 34) 1)) (L2.defScope (L2.inClass (G.top 34) 1)) .none .none .none (.str "farhail.asks" 453) none (.ref 250) .none)) ⟨[]⟩)) :: (nat_lit 252, (ob (.type "tuple") (.seq ⟨[]⟩ 0))) :: (nat_lit 255, (ob (.type "code") (.fields ⟨[(.str "plan" 515),(.str "Asking.plan" 516),(.str "/claim/cut.py" 517),(.int 150 0),(.int 2 0),(.int 0 0),(.int 0 0),(.int 3 0),(.ref 252),(.bool .true),(.int 181 0),(.ref 253),.none,.none,.none,(.ref 254),(.int 518 0),(.int 150 0),(.str "/claim/cut.py" 519)]⟩))) :: (nat_lit 256, (.mk (.type "function") none (.func (PySem.W.fnOf "plan" "Asking.plan" (L2.defArgs (L2.inClass (G.top 34) 2)) (L2.defBody (L2.inClass (G.top 34) 2)) (L2.defScope (L2.inClass (G.top 34) 2)) .none .none .none (.str "farhail.asks" 453) none (.ref 255) .none)) ⟨[]⟩)) :: (nat_lit 257, (ob (.type "tuple") (.seq ⟨[(.str "best" 521),(.str "fars" 522),(.str "least" 523)]⟩ 0))) :: (nat_lit 258, (ob (.type "dict") (.dict ⟨[(.mk (PyData.keyHash P "__module__") (.str "__module__" 496) (.str "farhail.asks" 453)),(.mk (PyData.keyHash P "__firstlineno__") (.str "__firstlineno__" 500) (.int 128 499)),(.mk (PyData.keyHash P "__init__") (.str "__init__" 508) (.ref 246)),(.mk (PyData.keyHash P "need") (.str "need" 514) (.ref 251)),(.mk (PyData.keyHash P "plan") (.str "plan" 520) (.ref 256)),(.mk (PyData.keyHash P "__static_attributes__") (.str "__static_attributes__" 524) (.ref 257)),(.mk (PyData.keyHash P "__dict__") (.str "__dict__" 526) (.ref 260)),(.mk (PyData.keyHash P "__weakref__") (.str "__weakref__" 528) (.ref 261)),(.mk (PyData.keyHash P "__doc__") (.str "__doc__" 529) .none)]⟩ 4))) :: (nat_lit 259, (.mk (.type "type") none (.cls (.mk "Asking" [(.type "object")] [(.ref 259),(.type "object")] 258 "Asking" .true [] [] .false none .false)) ⟨[none,none,(some (.str "Asking" 489)),(some (.str "Asking" 497)),(some (.builtin "object.__new__")),(some (.bool .true))]⟩)) :: (nat_lit 260, (ob (.type "getset_descriptor") (.fields ⟨[(.str "__dict__" 525),(.ref 259),(.builtin "function.__dict__"),(.builtin "function.__dict__#set")]⟩))) :: (nat_lit 261, (ob (.type "getset_descriptor") (.fields ⟨[(.str "__weakref__" 527),(.ref 259),(.builtin "ExceptionGroup.__weakref__"),.none]⟩))) :: (nat_lit 264, (ob (.type "tuple") (.seq ⟨[]⟩ 0))) :: (nat_lit 267, (ob (.type "code") (.fields ⟨[(.str "fewest_asks" 532),(.str "fewest_asks" 533),(.str "/claim/cut.py" 534),(.int 156 0),(.int 2 0),(.int 0 0),(.int 0 0),(.int 3 0),(.ref 264),(.bool .true),(.int 181 0),(.ref 265),.none,.none,.none,(.ref 266),(.int 535 0),(.int 156 0),(.str "/claim/cut.py" 536)]⟩))) :: (nat_lit 268, (fO (.type "function") "fewest_asks" (G.top 35) (.str "farhail.asks" 453) (.ref 267))) :: (nat_lit 269, (ob (.type "tuple") (.seq ⟨[]⟩ 0))) :: (nat_lit 271, (ob (.type "tuple") (.seq ⟨[(.str "row" 541)]⟩ 0))) :: (nat_lit 272, (ob (.type "tuple") (.seq ⟨[]⟩ 0))) :: (nat_lit 274, (ob (.type "code") (.fields ⟨[(.str "len_first" 538),(.str "len_first" 539),(.str "/claim/cut.py" 540),(.int 162 0),(.int 1 0),(.int 0 0),(.int 0 0),(.int 3 0),(.ref 269),(.bool .true),(.int 181 0),(.ref 270),.none,(.ref 271),(.ref 272),(.ref 273),(.int 542 0),(.int 162 0),(.str "/claim/cut.py" 543)]⟩))) :: (nat_lit 275, (fO (.type "function") "len_first" (G.top 36) (.str "farhail.asks" 453) (.ref 274))) :: (nat_lit 276, (ob (.type "tuple") (.seq ⟨[]⟩ 0))) :: (nat_lit 279, (ob (.type "code") (.fields ⟨[(.str "plan_of_parts" 545),(.str "plan_of_parts" 546),(.str "/claim/cut.py" 547),(.int 164 0),(.int 3 0),(.int 0 0),(.int 0 0),(.int 3 0),(.ref 276),(.bool .true),(.int 181 0),(.ref 277),.none,.none,.none,(.ref 278),(.int 548 0),(.int 164 0),(.str "/claim/cut.py" 549)]⟩))) :: (nat_lit 280, (fO (.type "function") "plan_of_parts" (G.top 37) (.str "farhail.asks" 453) (.ref 279))) :: (nat_lit 281, (ob (.type "tuple") (.seq ⟨[]⟩ 0))) :: (nat_lit 283, (ob (.type "tuple") (.seq ⟨[(.str "fars" 554),(.str "things" 555),(.str "plan" 556)]⟩ 0))) :: (nat_lit 284, (ob (.type "tuple") (.seq ⟨[]⟩ 0))) :: (nat_lit 286, (ob (.type "code") (.fields ⟨[(.str "asks_of" 551),(.str "asks_of" 552),(.str "/claim/cut.py" 553),(.int 174 0),(.int 3 0),(.int 0 0),(.int 0 0),(.int 3 0),(.ref 281),(.bool .true),(.int 181 0),(.ref 282),.none,(.ref 283),(.ref 284),(.ref 285),(.int 557 0),(.int 174 0),(.str "/claim/cut.py" 558)]⟩))) :: (nat_lit 287, (fO (.type "function") "asks_of" (G.top 38) (.str "farhail.asks" 453) (.ref 286))) :: (nat_lit 288, (ob (.type "tuple") (.seq ⟨[]⟩ 0))) :: (nat_lit 290, (ob (.type "tuple") (.seq ⟨[(.str "web" 563),(.str "kind" 564),(.str "plan" 565),(.str "things" 566)]⟩ 0))) :: (nat_lit 291, (ob (.type "tuple") (.seq ⟨[]⟩ 0))) :: (nat_lit 293, (ob (.type "code") (.fields ⟨[(.str "plan_asks" 560),(.str "plan_asks" 561),(.str "/claim/cut.py" 562),(.int 180 0),(.int 3 0),(.int 0 0),(.int 0 0),(.int 3 0),(.ref 288),(.bool .true),(.int 181 0),(.ref 289),.none,(.ref 290),(.ref 291),(.ref 292),(.int 567 0),(.int 180 0),(.str "/claim/cut.py" 568)]⟩))) :: (nat_lit 294, (fO (.type "function") "plan_asks" (G.top 39) (.str "farhail.asks" 453) (.ref 293))) :: (nat_lit 295, (ob (.type "tuple") (.seq ⟨[]⟩ 0))) :: (nat_lit 297, (ob (.type "tuple") (.seq ⟨[(.str "script" 575),(.str "k" 576),(.str "cell" 577)]⟩ 0))) :: (nat_lit 298, (ob (.type "tuple") (.seq ⟨[]⟩ 0))) :: (nat_lit 300, (ob (.type "code") (.fields ⟨[(.str "_law_cell_at" 572),(.str "_law_cell_at" 573),(.str "/claim/cut.py" 574),(.int 184 0),(.int 2 0),(.int 0 0),(.int 0 0),(.int 3 0),(.ref 295),(.bool .true),(.int 181 0),(.ref 296),.none,(.ref 297),(.ref 298),(.ref 299),(.int 578 0),(.int 184 0),(.str "/claim/cut.py" 579)]⟩))) :: (nat_lit 301, (fO (.type "function") "_law_cell_at" (G.top 41) (.str "law_farhail_k56_whole_plans_played" 570) (.ref 300))) :: (nat_lit 302, (ob (.type "tuple") (.seq ⟨[]⟩ 0))) :: (nat_lit 305, (ob (.type "code") (.fields ⟨[(.str "_law_folded" 581),(.str "_law_folded" 582),(.str "/claim/cut.py" 583),(.int 191 0),(.int 2 0),(.int 0 0),(.int 0 0),(.int 3 0),(.ref 302),(.bool .true),(.int 181 0),(.ref 303),.none,.none,.none,(.ref 304),(.int 584 0),(.int 191 0),(.str "/claim/cut.py" 585)]⟩))) :: (nat_lit 306, (fO (.type "function") "_law_folded" (G.top 42) (.str "law_farhail_k56_whole_plans_played" 570) (.ref 305))) :: (nat_lit 307, (ob (.type "tuple") (.seq ⟨[]⟩ 0))) :: (nat_lit 309, (ob (.type "tuple") (.seq ⟨[(.str "cell" 590),(.str "left" 591)]⟩ 0))) :: (nat_lit 310, (ob (.type "tuple") (.seq ⟨[]⟩ 0))) :: (nat_lit 312, (ob (.type "code") (.fields ⟨[(.str "_law_state" 587),(.str "_law_state" 588),(.str "/claim/cut.py" 589),(.int 197 0),(.int 1 0),(.int 0 0),(.int 0 0),(.int 3 0),(.ref 307),(.bool .true),(.int 181 0),(.ref 308),.none,(.ref 309),(.ref 310),(.ref 311),(.int 592 0),(.int 197 0),(.str "/claim/cut.py" 593)]⟩))) :: (nat_lit 313, (fO (.type "function") "_law_state" (G.top 43) (.str "law_farhail_k56_whole_plans_played" 570) (.ref 312))) :: (nat_lit 314, (ob (.type "tuple") (.seq ⟨[]⟩ 0))) :: (nat_lit 316, (ob (.type "tuple") (.seq ⟨[(.str "state" 598),(.str "many" 599),(.str "found" 600)]⟩ 0))) :: (nat_lit 317, (ob (.type "tuple") (.seq ⟨[]⟩ 0))) :: (nat_lit 319, (ob (.type "code") (.fields ⟨[(.str "_law_next" 595),(.str "_law_next" 596),(.str "/claim/cut.py" 597),(.int 202 0),(.int 2 0),(.int 0 0),(.int 0 0),(.int 3 0),(.ref 314),(.bool .true),(.int 181 0),(.ref 315),.none,(.ref 316),(.ref 317),(.ref 318),(.int 601 0),(.int 202 0),(.str "/claim/cut.py" 602)]⟩))) :: (nat_lit 320, (fO (.type "function") "_law_next" (G.top 44) (.str "law_farhail_k56_whole_plans_played" 570) (.ref 319))) :: (nat_lit 321, (ob (.type "tuple") (.seq ⟨[]⟩ 0))) :: (nat_lit 324, (ob (.type "code") (.fields ⟨[(.str "_law_web" 604),(.str "_law_web" 605),(.str "/claim/cut.py" 606),(.int 209 0),(.int 3 0),(.int 0 0),(.int 0 0),(.int 3 0),(.ref 321),(.bool .true),(.int 181 0),(.ref 322),.none,.none,.none,(.ref 323),(.int 607 0),(.int 209 0),(.str "/claim/cut.py" 608)]⟩))) :: (nat_lit 325, (fO (.type "function") "_law_web" (G.top 45) (.str "law_farhail_k56_whole_plans_played" 570) (.ref 324))) :: (nat_lit 326, (ob (.type "tuple") (.seq ⟨[]⟩ 0))) :: (nat_lit 328, (ob (.type "tuple") (.seq ⟨[(.str "web" 613),(.str "kind" 614),(.str "places" 615)]⟩ 0))) :: (nat_lit 329, (ob (.type "tuple") (.seq ⟨[]⟩ 0))) :: (nat_lit 331, (ob (.type "code") (.fields ⟨[(.str "_law_things" 610),(.str "_law_things" 611),(.str "/claim/cut.py" 612),(.int 233 0),(.int 2 0),(.int 0 0),(.int 0 0),(.int 3 0),(.ref 326),(.bool .true),(.int 181 0),(.ref 327),.none,(.ref 328),(.ref 329),(.ref 330),(.int 616 0),(.int 233 0),(.str "/claim/cut.py" 617)]⟩))) :: (nat_lit 332, (fO (.type "function") "_law_things" (G.top 46) (.str "law_farhail_k56_whole_plans_played" 570) (.ref 331))) :: (nat_lit 333, (ob (.type "tuple") (.seq ⟨[]⟩ 0))) :: (nat_lit 335, (ob (.type "tuple") (.seq ⟨[(.str "state" 622),(.str "least" 623),(.str "web" 624),(.str "kind" 625)]⟩ 0))) :: (nat_lit 336, (ob (.type "tuple") (.seq ⟨[]⟩ 0))) :: (nat_lit 338, (ob (.type "code") (.fields ⟨[(.str "_law_few" 619),(.str "_law_few" 620),(.str "/claim/cut.py" 621),(.int 236 0),(.int 2 0),(.int 0 0),(.int 0 0),(.int 3 0),(.ref 333),(.bool .true),(.int 181 0),(.ref 334),.none,(.ref 335),(.ref 336),(.ref 337),(.int 626 0),(.int 236 0),(.str "/claim/cut.py" 627)]⟩))) :: (nat_lit 339, (fO (.type "function") "_law_few" (G.top 47) (.str "law_farhail_k56_whole_plans_played" 570) (.ref 338))) :: (nat_lit 340, (ob (.type "tuple") (.seq ⟨[]⟩ 0))) :: (nat_lit 343, (ob (.type "code") (.fields ⟨[(.str "_law_gone" 629),(.str "_law_gone" 630),(.str "/claim/cut.py" 631),(.int 242 0),(.int 3 0),(.int 0 0),(.int 0 0),(.int 3 0),(.ref 340),(.bool .true),(.int 181 0),(.ref 341),.none,.none,.none,(.ref 342),(.int 632 0),(.int 242 0),(.str "/claim/cut.py" 633)]⟩))) :: (nat_lit 344, (fO (.type "function") "_law_gone" (G.top 48) (.str "law_farhail_k56_whole_plans_played" 570) (.ref 343))) :: (nat_lit 345, (ob (.type "tuple") (.seq ⟨[]⟩ 0))) :: (nat_lit 347, (ob (.type "tuple") (.seq ⟨[(.str "state" 638),(.str "web" 639),(.str "kind" 640),(.str "order" 641),(.str "place" 642),(.str "many" 643)]⟩ 0))) :: (nat_lit 348, (ob (.type "tuple") (.seq ⟨[]⟩ 0))) :: (nat_lit 350, (ob (.type "code") (.fields ⟨[(.str "_law_looks" 635),(.str "_law_looks" 636),(.str "/claim/cut.py" 637),(.int 252 0),(.int 3 0),(.int 0 0),(.int 0 0),(.int 3 0),(.ref 345),(.bool .true),(.int 181 0),(.ref 346),.none,(.ref 347),(.ref 348),(.ref 349),(.int 644 0),(.int 252 0),(.str "/claim/cut.py" 645)]⟩))) :: (nat_lit 351, (fO (.type "function") "_law_looks" (G.top 49) (.str "law_farhail_k56_whole_plans_played" 570) (.ref 350))) :: (nat_lit 352, (ob (.type "tuple") (.seq ⟨[]⟩ 0))) :: (nat_lit 355, (ob (.type "code") (.fields ⟨[(.str "_law_broadest" 647),(.str "_law_broadest" 648),(.str "/claim/cut.py" 649),(.int 260 0),(.int 1 0),(.int 0 0),(.int 0 0),(.int 3 0),(.ref 352),(.bool .true),(.int 181 0),(.ref 353),.none,.none,.none,(.ref 354),(.int 650 0),(.int 260 0),(.str "/claim/cut.py" 651)]⟩))) :: (nat_lit 356, (fO (.type "function") "_law_broadest" (G.top 50) (.str "law_farhail_k56_whole_plans_played" 570) (.ref 355))) :: (nat_lit 357, (ob (.type "tuple") (.seq ⟨[]⟩ 0))) :: (nat_lit 359, (ob (.type "tuple") (.seq ⟨[(.str "script" 656),(.str "cell" 657),(.str "state" 658),(.str "web" 659),(.str "kind" 660),(.str "things" 661),(.str "asks" 662),(.str "plan" 663),(.str "table" 664),(.str "longest" 665),(.str "thing" 666),(.str "found" 667),(.str "many" 668),(.str "told" 669),(.str "turn" 670)]⟩ 0))) :: (nat_lit 360, (ob (.type "tuple") (.seq ⟨[]⟩ 0))) :: (nat_lit 362, (ob (.type "code") (.fields ⟨[(.str "law" 653),(.str "law" 654),(.str "/claim/cut.py" 655),(.int 265 0),(.int 1 0),(.int 0 0),(.int 0 0),(.int 3 0),(.ref 357),(.bool .true),(.int 181 0),(.ref 358),.none,(.ref 359),(.ref 360),(.ref 361),(.int 671 0),(.int 265 0),(.str "/claim/cut.py" 672)]⟩))) :: (nat_lit 363, (fO (.type "function") "law" (G.top 51) (.str "law_farhail_k56_whole_plans_played" 570) (.ref 362))) :: []
noncomputable abbrev as : List PySem.Addr := nat_lit 2 :: nat_lit 3 :: nat_lit 15 :: nat_lit 22 :: nat_lit 23 :: nat_lit 24 :: nat_lit 25 :: nat_lit 28 :: nat_lit 35 :: nat_lit 36 :: nat_lit 37 :: nat_lit 40 :: nat_lit 47 :: nat_lit 48 :: nat_lit 49 :: nat_lit 52 :: nat_lit 59 :: nat_lit 60 :: nat_lit 61 :: nat_lit 64 :: nat_lit 71 :: nat_lit 72 :: nat_lit 73 :: nat_lit 76 :: nat_lit 83 :: nat_lit 84 :: nat_lit 85 :: nat_lit 88 :: nat_lit 95 :: nat_lit 97 :: nat_lit 98 :: nat_lit 100 :: nat_lit 101 :: nat_lit 102 :: nat_lit 103 :: nat_lit 104 :: nat_lit 107 :: nat_lit 110 :: nat_lit 111 :: nat_lit 112 :: nat_lit 114 :: nat_lit 115 :: nat_lit 117 :: nat_lit 118 :: nat_lit 119 :: nat_lit 121 :: nat_lit 122 :: nat_lit 124 :: nat_lit 125 :: nat_lit 126 :: nat_lit 128 :: nat_lit 129 :: nat_lit 131 :: nat_lit 132 :: nat_lit 133 :: nat_lit 135 :: nat_lit 136 :: nat_lit 138 :: nat_lit 139 :: nat_lit 140 :: nat_lit 142 :: nat_lit 143 :: nat_lit 145 :: nat_lit 146 :: nat_lit 147 :: nat_lit 149 :: nat_lit 150 :: nat_lit 152 :: nat_lit 153 :: nat_lit 154 :: nat_lit 157 :: nat_lit 158 :: nat_lit 159 :: nat_lit 161 :: nat_lit 162 :: nat_lit 164 :: nat_lit 165 :: nat_lit 166 :: nat_lit 168 :: nat_lit 169 :: nat_lit 171 :: nat_lit 172 :: nat_lit 173 :: nat_lit 175 :: nat_lit 176 :: nat_lit 178 :: nat_lit 179 :: nat_lit 180 :: nat_lit 182 :: nat_lit 183 :: nat_lit 185 :: nat_lit 186 :: nat_lit 187 :: nat_lit 190 :: nat_lit 191 :: nat_lit 192 :: nat_lit 195 :: nat_lit 196 :: nat_lit 197 :: nat_lit 200 :: nat_lit 201 :: nat_lit 202 :: nat_lit 204 :: nat_lit 205 :: nat_lit 207 :: nat_lit 208 :: nat_lit 209 :: nat_lit 211 :: nat_lit 212 :: nat_lit 214 :: nat_lit 215 :: nat_lit 216 :: nat_lit 219 :: nat_lit 220 :: nat_lit 221 :: nat_lit 223 :: nat_lit 224 :: nat_lit 226 :: nat_lit 227 :: nat_lit 228 :: nat_lit 231 :: nat_lit 232 :: nat_lit 240 :: nat_lit 242 :: nat_lit 243 :: nat_lit 245 :: nat_lit 246 :: nat_lit 247 :: nat_lit 250 :: nat_lit 251 :: nat_lit 252 :: nat_lit 255 :: nat_lit 256 :: nat_lit 257 :: nat_lit 258 :: nat_lit 259 :: nat_lit 260 :: nat_lit 261 :: nat_lit 264 :: nat_lit 267 :: nat_lit 268 :: nat_lit 269 :: nat_lit 271 :: nat_lit 272 :: nat_lit 274 :: nat_lit 275 :: nat_lit 276 :: nat_lit 279 :: nat_lit 280 :: nat_lit 281 :: nat_lit 283 :: nat_lit 284 :: nat_lit 286 :: nat_lit 287 :: nat_lit 288 :: nat_lit 290 :: nat_lit 291 :: nat_lit 293 :: nat_lit 294 :: nat_lit 295 :: nat_lit 297 :: nat_lit 298 :: nat_lit 300 :: nat_lit 301 :: nat_lit 302 :: nat_lit 305 :: nat_lit 306 :: nat_lit 307 :: nat_lit 309 :: nat_lit 310 :: nat_lit 312 :: nat_lit 313 :: nat_lit 314 :: nat_lit 316 :: nat_lit 317 :: nat_lit 319 :: nat_lit 320 :: nat_lit 321 :: nat_lit 324 :: nat_lit 325 :: nat_lit 326 :: nat_lit 328 :: nat_lit 329 :: nat_lit 331 :: nat_lit 332 :: nat_lit 333 :: nat_lit 335 :: nat_lit 336 :: nat_lit 338 :: nat_lit 339 :: nat_lit 340 :: nat_lit 343 :: nat_lit 344 :: nat_lit 345 :: nat_lit 347 :: nat_lit 348 :: nat_lit 350 :: nat_lit 351 :: nat_lit 352 :: nat_lit 355 :: nat_lit 356 :: nat_lit 357 :: nat_lit 359 :: nat_lit 360 :: nat_lit 362 :: nat_lit 363 :: []
noncomputable def view : PySem.Program := { PySem.Challenge.pw_farhail_k56_whole_plans_played with main := { PySem.Challenge.pw_farhail_k56_whole_plans_played.main with body := [G.top 51] } }
noncomputable def loose : List PySem.Str := [a1, a3, a4, a5, a6, a7, a8, a9, a10, a11, a12, a13, a14, a15, a16, a17, a18, a19, a20, a21, a22, a23, a24, a25, a26, a27, a28, a29, a30, a31, a32, a33, a34, a35, a36, a37, a38, a39, a40, a41, a42, a43, a44, a45, a46, a47]
noncomputable def the : PySem.DefRec := ⟨"law", L2.defArgs (G.top 51), L2.defBody (G.top 51), L2.defScope (G.top 51), (.mk 265 0 283 15)⟩
noncomputable abbrev N : Nat := 5964
theorem as_eq : ∀ P, as = (K P).map (·.1) := fun P => by kernel_rfl
noncomputable abbrev hook : PySem.W.Hook := PySem.W.kHook K as as_eq
noncomputable abbrev Xt : PySem.Shared → Bool := fun s => PySem.W.xlAt view [] s && PySem.W.recOk PySem.Challenge.rw_farhail_k56_whole_plans_played.row.toRowW.records s
noncomputable abbrev mods := PySem.importedModules PySem.Challenge.pw_farhail_k56_whole_plans_played.main.body
theorem look1 (w : PySem.World) : (fun os : PySem.OsState => PySem.W.staticsOk mods (PySem.W.boot_heap w.params) (hF w.params) && PySem.W.namesBound PySem.Challenge.pw_farhail_k56_whole_plans_played (hF w.params) && PySem.W.gensDone (SF w os) && PySem.W.laidKept (PySem.W.boot_heap w.params) (hF w.params)) = fun _ => true := by kernel_rfl
theorem look3 (w : PySem.World) : (fun os => hook.obs (SF w os)) = fun _ => hook.val w := by kernel_rfl
theorem look2 (w : PySem.World) : (fun os => PySem.W.openSeen view loose mods Xt true (SF w os)) = fun _ => PySem.W.openGood view loose := by kernel_rfl
theorem left : PySem.W.LeftO PySem.Challenge.rw_farhail_k56_whole_plans_played.row.toRowW.prog view loose Xt hook.obs hook.val N :=
  PySem.W.LeftO.of_pieces opens size run (by decide +kernel) fun w => funext fun os => Prod.ext (congrFun (look1 w) os) (Prod.ext (congrFun (look2 w) os) (congrFun (look3 w) os))
open PySem PySem.W PyProof.Rows in
set_option maxHeartbeats 0 in
theorem whole (hc : WalkO view loose (XL view []) (PySem.W.kHook K as as_eq).says PySem.Challenge.rw_farhail_k56_whole_plans_played.row.toRowW the [] (fun f vs => PySem.call f vs)) : PySem.Challenge.rw_farhail_k56_whole_plans_played.Holds := by
  w_on; o_law
  refine PySem.W.holds_open (r := PySem.Challenge.rw_farhail_k56_whole_plans_played.row) (q := view) (loose := loose) (Xt := Xt) (XP := PySem.W.XL view []) (Yf := hook.obs) (Ya := hook.val) (YP := hook.says) (d := the) (kwd := []) (N := N) left hook.of hook.keeps (fun s e => xl_of s (Bool.and_eq_true_iff.mp e).1) XL.keeps (by kernel_rfl) (by kernel_rfl) (by kernel_rfl) (fun s e => recFacts_of (Bool.and_eq_true_iff.mp e).2) (by rfl) (by first | assumption | decide +kernel) (by decide +kernel) ⟨rfl, rfl, rfl, rfl, rfl, by decide +kernel⟩ ?hw hc
  case hw => w_witness2
end HD
namespace G
open PySem L2 Z
open Rep (rep)
theorem us1 : ∀ {us : List Value}, us.length = 1 → ∃ a0, us = [a0]
  | [a0], _ => ⟨a0, rfl⟩
theorem us2 : ∀ {us : List Value}, us.length = 2 → ∃ a0 a1, us = [a0, a1]
  | [a0, a1], _ => ⟨a0, a1, rfl⟩
theorem us3 : ∀ {us : List Value}, us.length = 3 → ∃ a0 a1 a2, us = [a0, a1, a2]
  | [a0, a1, a2], _ => ⟨a0, a1, a2, rfl⟩
theorem dn_mk {K : Fg} {h : Heap} {mg : Str → Option Value} (X : K.In h) (G : h.Ns mainGlobals mg) {x y : Str} {st : Stmt} {ps : List Str} {f : Addr} {od an : Option Addr} {sl : Array (Option Value)} {oc kV dc pm cd ct : Value}
    (a : PySem.W.nsIn K mainGlobals x = some (some (.ref f))) (l : K.lookup f = some ⟨oc, od, .func (PySem.W.fnOf y y (defArgs st) (defBody st) (defScope st) .none kV dc pm an cd ct), sl⟩) (c : PySem.W.codeIn K cd y = true) (k : PySem.W.keepIn K (.ref f) = true)
    (b : ∀ (kV doc pm : Value) (an : Option Addr) (cdv ct : Value) (us : List Value), us.length = ps.length → bindArgs (PySem.W.fnOf y y (defArgs st) (defBody st) (defScope st) .none kV doc pm an cdv ct) ⟨us, []⟩ = pure (ps.zip us)) :
    Dn K mg x y st ps f (PySem.W.fnOf y y (defArgs st) (defBody st) (defScope st) .none kV dc pm an cd ct) := ⟨fun_mk l c k, PySem.W.mg_of X G a, (fun_mk l c k).binds b⟩
theorem all_mk {l : PySem.W.OpenLaw} {w : World} {K : PySem.W.Frag} {h : Heap} {mg : Str → Option Value} {fa : Addr} (X : K.In h) (G : h.Ns mainGlobals mg) (hfa : mg "law" = some (.ref fa))
    {f10 : Addr} {od10 an10 : Option Addr} {sl10 : Array (Option Value)} {oc10 kV10 dc10 pm10 cd10 ct10 : Value}
    {f11 : Addr} {od11 an11 : Option Addr} {sl11 : Array (Option Value)} {oc11 kV11 dc11 pm11 cd11 ct11 : Value}
    {f12 : Addr} {od12 an12 : Option Addr} {sl12 : Array (Option Value)} {oc12 kV12 dc12 pm12 cd12 ct12 : Value}
    {f13 : Addr} {od13 an13 : Option Addr} {sl13 : Array (Option Value)} {oc13 kV13 dc13 pm13 cd13 ct13 : Value}
    {f14 : Addr} {od14 an14 : Option Addr} {sl14 : Array (Option Value)} {oc14 kV14 dc14 pm14 cd14 ct14 : Value}
    {f15 : Addr} {od15 an15 : Option Addr} {sl15 : Array (Option Value)} {oc15 kV15 dc15 pm15 cd15 ct15 : Value}
    {f16 : Addr} {od16 an16 : Option Addr} {sl16 : Array (Option Value)} {oc16 kV16 dc16 pm16 cd16 ct16 : Value}
    {f18 : Addr} {od18 an18 : Option Addr} {sl18 : Array (Option Value)} {oc18 kV18 dc18 pm18 cd18 ct18 : Value}
    {f19 : Addr} {od19 an19 : Option Addr} {sl19 : Array (Option Value)} {oc19 kV19 dc19 pm19 cd19 ct19 : Value}
    {f20 : Addr} {od20 an20 : Option Addr} {sl20 : Array (Option Value)} {oc20 kV20 dc20 pm20 cd20 ct20 : Value}
    {f21 : Addr} {od21 an21 : Option Addr} {sl21 : Array (Option Value)} {oc21 kV21 dc21 pm21 cd21 ct21 : Value}
    {f22 : Addr} {od22 an22 : Option Addr} {sl22 : Array (Option Value)} {oc22 kV22 dc22 pm22 cd22 ct22 : Value}
    {f23 : Addr} {od23 an23 : Option Addr} {sl23 : Array (Option Value)} {oc23 kV23 dc23 pm23 cd23 ct23 : Value}
    {f24 : Addr} {od24 an24 : Option Addr} {sl24 : Array (Option Value)} {oc24 kV24 dc24 pm24 cd24 ct24 : Value}
    {f25 : Addr} {od25 an25 : Option Addr} {sl25 : Array (Option Value)} {oc25 kV25 dc25 pm25 cd25 ct25 : Value}
    {f26 : Addr} {od26 an26 : Option Addr} {sl26 : Array (Option Value)} {oc26 kV26 dc26 pm26 cd26 ct26 : Value}
    {f30 : Addr} {od30 an30 : Option Addr} {sl30 : Array (Option Value)} {oc30 kV30 dc30 pm30 cd30 ct30 : Value}
    {f31 : Addr} {od31 an31 : Option Addr} {sl31 : Array (Option Value)} {oc31 kV31 dc31 pm31 cd31 ct31 : Value}
    {f32 : Addr} {od32 an32 : Option Addr} {sl32 : Array (Option Value)} {oc32 kV32 dc32 pm32 cd32 ct32 : Value}
    {f33 : Addr} {od33 an33 : Option Addr} {sl33 : Array (Option Value)} {oc33 kV33 dc33 pm33 cd33 ct33 : Value}
    {f35 : Addr} {od35 an35 : Option Addr} {sl35 : Array (Option Value)} {oc35 kV35 dc35 pm35 cd35 ct35 : Value}
    {f36 : Addr} {od36 an36 : Option Addr} {sl36 : Array (Option Value)} {oc36 kV36 dc36 pm36 cd36 ct36 : Value}
    {f37 : Addr} {od37 an37 : Option Addr} {sl37 : Array (Option Value)} {oc37 kV37 dc37 pm37 cd37 ct37 : Value}
    {f38 : Addr} {od38 an38 : Option Addr} {sl38 : Array (Option Value)} {oc38 kV38 dc38 pm38 cd38 ct38 : Value}
    {f39 : Addr} {od39 an39 : Option Addr} {sl39 : Array (Option Value)} {oc39 kV39 dc39 pm39 cd39 ct39 : Value}
    {f41 : Addr} {od41 an41 : Option Addr} {sl41 : Array (Option Value)} {oc41 kV41 dc41 pm41 cd41 ct41 : Value}
    {f42 : Addr} {od42 an42 : Option Addr} {sl42 : Array (Option Value)} {oc42 kV42 dc42 pm42 cd42 ct42 : Value}
    {f43 : Addr} {od43 an43 : Option Addr} {sl43 : Array (Option Value)} {oc43 kV43 dc43 pm43 cd43 ct43 : Value}
    {f44 : Addr} {od44 an44 : Option Addr} {sl44 : Array (Option Value)} {oc44 kV44 dc44 pm44 cd44 ct44 : Value}
    {f45 : Addr} {od45 an45 : Option Addr} {sl45 : Array (Option Value)} {oc45 kV45 dc45 pm45 cd45 ct45 : Value}
    {f46 : Addr} {od46 an46 : Option Addr} {sl46 : Array (Option Value)} {oc46 kV46 dc46 pm46 cd46 ct46 : Value}
    {f47 : Addr} {od47 an47 : Option Addr} {sl47 : Array (Option Value)} {oc47 kV47 dc47 pm47 cd47 ct47 : Value}
    {f48 : Addr} {od48 an48 : Option Addr} {sl48 : Array (Option Value)} {oc48 kV48 dc48 pm48 cd48 ct48 : Value}
    {f49 : Addr} {od49 an49 : Option Addr} {sl49 : Array (Option Value)} {oc49 kV49 dc49 pm49 cd49 ct49 : Value}
    {f50 : Addr} {od50 an50 : Option Addr} {sl50 : Array (Option Value)} {oc50 kV50 dc50 pm50 cd50 ct50 : Value}
    {f51 : Addr} {od51 an51 : Option Addr} {sl51 : Array (Option Value)} {oc51 kV51 dc51 pm51 cd51 ct51 : Value}
    {f35000 : Addr} {od35000 an35000 : Option Addr} {sl35000 : Array (Option Value)} {oc35000 kV35000 dc35000 pm35000 cd35000 ct35000 : Value}
    {f35001 : Addr} {od35001 an35001 : Option Addr} {sl35001 : Array (Option Value)} {oc35001 kV35001 dc35001 pm35001 cd35001 ct35001 : Value}
    {f35002 : Addr} {od35002 an35002 : Option Addr} {sl35002 : Array (Option Value)} {oc35002 kV35002 dc35002 pm35002 cd35002 ct35002 : Value}
    {g3 : Addr}
    {g6 : Addr}
    {g34 : Addr}
    {tk_MOST_PLACES_asks : Tok}
    {tk_MOST_PLACES_webs : Tok}
    {tk_MOST_THINGS : Tok}
    (a10 : PySem.W.nsIn K mainGlobals "near_lists" = some (some (.ref f10))) (l10 : K.lookup f10 = some ⟨oc10, od10, .func (PySem.W.fnOf "near_lists" "near_lists" (defArgs s_near_lists) (defBody s_near_lists) (defScope s_near_lists) .none kV10 dc10 pm10 an10 cd10 ct10), sl10⟩) (c10 : PySem.W.codeIn K cd10 "near_lists" = true) (k10 : PySem.W.keepIn K (.ref f10) = true)
    (a11 : PySem.W.nsIn K mainGlobals "fars_by" = some (some (.ref f11))) (l11 : K.lookup f11 = some ⟨oc11, od11, .func (PySem.W.fnOf "fars_by" "fars_by" (defArgs s_fars_by) (defBody s_fars_by) (defScope s_fars_by) .none kV11 dc11 pm11 an11 cd11 ct11), sl11⟩) (c11 : PySem.W.codeIn K cd11 "fars_by" = true) (k11 : PySem.W.keepIn K (.ref f11) = true)
    (a12 : PySem.W.nsIn K mainGlobals "sorted_ties" = some (some (.ref f12))) (l12 : K.lookup f12 = some ⟨oc12, od12, .func (PySem.W.fnOf "sorted_ties" "sorted_ties" (defArgs s_sorted_ties) (defBody s_sorted_ties) (defScope s_sorted_ties) .none kV12 dc12 pm12 an12 cd12 ct12), sl12⟩) (c12 : PySem.W.codeIn K cd12 "sorted_ties" = true) (k12 : PySem.W.keepIn K (.ref f12) = true)
    (a13 : PySem.W.nsIn K mainGlobals "made_web" = some (some (.ref f13))) (l13 : K.lookup f13 = some ⟨oc13, od13, .func (PySem.W.fnOf "made_web" "made_web" (defArgs s_made_web) (defBody s_made_web) (defScope s_made_web) .none kV13 dc13 pm13 an13 cd13 ct13), sl13⟩) (c13 : PySem.W.codeIn K cd13 "made_web" = true) (k13 : PySem.W.keepIn K (.ref f13) = true)
    (a14 : PySem.W.nsIn K mainGlobals "place_asked" = some (some (.ref f14))) (l14 : K.lookup f14 = some ⟨oc14, od14, .func (PySem.W.fnOf "place_asked" "place_asked" (defArgs s_place_asked) (defBody s_place_asked) (defScope s_place_asked) .none kV14 dc14 pm14 an14 cd14 ct14), sl14⟩) (c14 : PySem.W.codeIn K cd14 "place_asked" = true) (k14 : PySem.W.keepIn K (.ref f14) = true)
    (a15 : PySem.W.nsIn K mainGlobals "fars_from" = some (some (.ref f15))) (l15 : K.lookup f15 = some ⟨oc15, od15, .func (PySem.W.fnOf "fars_from" "fars_from" (defArgs s_fars_from) (defBody s_fars_from) (defScope s_fars_from) .none kV15 dc15 pm15 an15 cd15 ct15), sl15⟩) (c15 : PySem.W.codeIn K cd15 "fars_from" = true) (k15 : PySem.W.keepIn K (.ref f15) = true)
    (a16 : PySem.W.nsIn K mainGlobals "far_between" = some (some (.ref f16))) (l16 : K.lookup f16 = some ⟨oc16, od16, .func (PySem.W.fnOf "far_between" "far_between" (defArgs s_far_between) (defBody s_far_between) (defScope s_far_between) .none kV16 dc16 pm16 an16 cd16 ct16), sl16⟩) (c16 : PySem.W.codeIn K cd16 "far_between" = true) (k16 : PySem.W.keepIn K (.ref f16) = true)
    (a18 : PySem.W.nsIn K mainGlobals "table_of" = some (some (.ref f18))) (l18 : K.lookup f18 = some ⟨oc18, od18, .func (PySem.W.fnOf "table_of" "table_of" (defArgs s_table_of) (defBody s_table_of) (defScope s_table_of) .none kV18 dc18 pm18 an18 cd18 ct18), sl18⟩) (c18 : PySem.W.codeIn K cd18 "table_of" = true) (k18 : PySem.W.keepIn K (.ref f18) = true)
    (a19 : PySem.W.nsIn K mainGlobals "things_of" = some (some (.ref f19))) (l19 : K.lookup f19 = some ⟨oc19, od19, .func (PySem.W.fnOf "things_of" "things_of" (defArgs s_things_of) (defBody s_things_of) (defScope s_things_of) .none kV19 dc19 pm19 an19 cd19 ct19), sl19⟩) (c19 : PySem.W.codeIn K cd19 "things_of" = true) (k19 : PySem.W.keepIn K (.ref f19) = true)
    (a20 : PySem.W.nsIn K mainGlobals "looks_asked" = some (some (.ref f20))) (l20 : K.lookup f20 = some ⟨oc20, od20, .func (PySem.W.fnOf "looks_asked" "looks_asked" (defArgs s_looks_asked) (defBody s_looks_asked) (defScope s_looks_asked) .none kV20 dc20 pm20 an20 cd20 ct20), sl20⟩) (c20 : PySem.W.codeIn K cd20 "looks_asked" = true) (k20 : PySem.W.keepIn K (.ref f20) = true)
    (a21 : PySem.W.nsIn K mainGlobals "thing_asked" = some (some (.ref f21))) (l21 : K.lookup f21 = some ⟨oc21, od21, .func (PySem.W.fnOf "thing_asked" "thing_asked" (defArgs s_thing_asked) (defBody s_thing_asked) (defScope s_thing_asked) .none kV21 dc21 pm21 an21 cd21 ct21), sl21⟩) (c21 : PySem.W.codeIn K cd21 "thing_asked" = true) (k21 : PySem.W.keepIn K (.ref f21) = true)
    (a22 : PySem.W.nsIn K mainGlobals "far_by" = some (some (.ref f22))) (l22 : K.lookup f22 = some ⟨oc22, od22, .func (PySem.W.fnOf "far_by" "far_by" (defArgs s_far_by) (defBody s_far_by) (defScope s_far_by) .none kV22 dc22 pm22 an22 cd22 ct22), sl22⟩) (c22 : PySem.W.codeIn K cd22 "far_by" = true) (k22 : PySem.W.keepIn K (.ref f22) = true)
    (a23 : PySem.W.nsIn K mainGlobals "code_of" = some (some (.ref f23))) (l23 : K.lookup f23 = some ⟨oc23, od23, .func (PySem.W.fnOf "code_of" "code_of" (defArgs s_code_of) (defBody s_code_of) (defScope s_code_of) .none kV23 dc23 pm23 an23 cd23 ct23), sl23⟩) (c23 : PySem.W.codeIn K cd23 "code_of" = true) (k23 : PySem.W.keepIn K (.ref f23) = true)
    (a24 : PySem.W.nsIn K mainGlobals "by_code" = some (some (.ref f24))) (l24 : K.lookup f24 = some ⟨oc24, od24, .func (PySem.W.fnOf "by_code" "by_code" (defArgs s_by_code) (defBody s_by_code) (defScope s_by_code) .none kV24 dc24 pm24 an24 cd24 ct24), sl24⟩) (c24 : PySem.W.codeIn K cd24 "by_code" = true) (k24 : PySem.W.keepIn K (.ref f24) = true)
    (a25 : PySem.W.nsIn K mainGlobals "likes_by" = some (some (.ref f25))) (l25 : K.lookup f25 = some ⟨oc25, od25, .func (PySem.W.fnOf "likes_by" "likes_by" (defArgs s_likes_by) (defBody s_likes_by) (defScope s_likes_by) .none kV25 dc25 pm25 an25 cd25 ct25), sl25⟩) (c25 : PySem.W.codeIn K cd25 "likes_by" = true) (k25 : PySem.W.keepIn K (.ref f25) = true)
    (a26 : PySem.W.nsIn K mainGlobals "is_known" = some (some (.ref f26))) (l26 : K.lookup f26 = some ⟨oc26, od26, .func (PySem.W.fnOf "is_known" "is_known" (defArgs s_is_known) (defBody s_is_known) (defScope s_is_known) .none kV26 dc26 pm26 an26 cd26 ct26), sl26⟩) (c26 : PySem.W.codeIn K cd26 "is_known" = true) (k26 : PySem.W.keepIn K (.ref f26) = true)
    (a30 : PySem.W.nsIn K mainGlobals "few_things" = some (some (.ref f30))) (l30 : K.lookup f30 = some ⟨oc30, od30, .func (PySem.W.fnOf "few_things" "few_things" (defArgs s_few_things) (defBody s_few_things) (defScope s_few_things) .none kV30 dc30 pm30 an30 cd30 ct30), sl30⟩) (c30 : PySem.W.codeIn K cd30 "few_things" = true) (k30 : PySem.W.keepIn K (.ref f30) = true)
    (a31 : PySem.W.nsIn K mainGlobals "all_fars" = some (some (.ref f31))) (l31 : K.lookup f31 = some ⟨oc31, od31, .func (PySem.W.fnOf "all_fars" "all_fars" (defArgs s_all_fars) (defBody s_all_fars) (defScope s_all_fars) .none kV31 dc31 pm31 an31 cd31 ct31), sl31⟩) (c31 : PySem.W.codeIn K cd31 "all_fars" = true) (k31 : PySem.W.keepIn K (.ref f31) = true)
    (a32 : PySem.W.nsIn K mainGlobals "far_thing" = some (some (.ref f32))) (l32 : K.lookup f32 = some ⟨oc32, od32, .func (PySem.W.fnOf "far_thing" "far_thing" (defArgs s_far_thing) (defBody s_far_thing) (defScope s_far_thing) .none kV32 dc32 pm32 an32 cd32 ct32), sl32⟩) (c32 : PySem.W.codeIn K cd32 "far_thing" = true) (k32 : PySem.W.keepIn K (.ref f32) = true)
    (a33 : PySem.W.nsIn K mainGlobals "parts_by" = some (some (.ref f33))) (l33 : K.lookup f33 = some ⟨oc33, od33, .func (PySem.W.fnOf "parts_by" "parts_by" (defArgs s_parts_by) (defBody s_parts_by) (defScope s_parts_by) .none kV33 dc33 pm33 an33 cd33 ct33), sl33⟩) (c33 : PySem.W.codeIn K cd33 "parts_by" = true) (k33 : PySem.W.keepIn K (.ref f33) = true)
    (a35 : PySem.W.nsIn K mainGlobals "fewest_asks" = some (some (.ref f35))) (l35 : K.lookup f35 = some ⟨oc35, od35, .func (PySem.W.fnOf "fewest_asks" "fewest_asks" (defArgs s_fewest_asks) (defBody s_fewest_asks) (defScope s_fewest_asks) .none kV35 dc35 pm35 an35 cd35 ct35), sl35⟩) (c35 : PySem.W.codeIn K cd35 "fewest_asks" = true) (k35 : PySem.W.keepIn K (.ref f35) = true)
    (a36 : PySem.W.nsIn K mainGlobals "len_first" = some (some (.ref f36))) (l36 : K.lookup f36 = some ⟨oc36, od36, .func (PySem.W.fnOf "len_first" "len_first" (defArgs s_len_first) (defBody s_len_first) (defScope s_len_first) .none kV36 dc36 pm36 an36 cd36 ct36), sl36⟩) (c36 : PySem.W.codeIn K cd36 "len_first" = true) (k36 : PySem.W.keepIn K (.ref f36) = true)
    (a37 : PySem.W.nsIn K mainGlobals "plan_of_parts" = some (some (.ref f37))) (l37 : K.lookup f37 = some ⟨oc37, od37, .func (PySem.W.fnOf "plan_of_parts" "plan_of_parts" (defArgs s_plan_of_parts) (defBody s_plan_of_parts) (defScope s_plan_of_parts) .none kV37 dc37 pm37 an37 cd37 ct37), sl37⟩) (c37 : PySem.W.codeIn K cd37 "plan_of_parts" = true) (k37 : PySem.W.keepIn K (.ref f37) = true)
    (a38 : PySem.W.nsIn K mainGlobals "asks_of" = some (some (.ref f38))) (l38 : K.lookup f38 = some ⟨oc38, od38, .func (PySem.W.fnOf "asks_of" "asks_of" (defArgs s_asks_of) (defBody s_asks_of) (defScope s_asks_of) .none kV38 dc38 pm38 an38 cd38 ct38), sl38⟩) (c38 : PySem.W.codeIn K cd38 "asks_of" = true) (k38 : PySem.W.keepIn K (.ref f38) = true)
    (a39 : PySem.W.nsIn K mainGlobals "plan_asks" = some (some (.ref f39))) (l39 : K.lookup f39 = some ⟨oc39, od39, .func (PySem.W.fnOf "plan_asks" "plan_asks" (defArgs s_plan_asks) (defBody s_plan_asks) (defScope s_plan_asks) .none kV39 dc39 pm39 an39 cd39 ct39), sl39⟩) (c39 : PySem.W.codeIn K cd39 "plan_asks" = true) (k39 : PySem.W.keepIn K (.ref f39) = true)
    (a41 : PySem.W.nsIn K mainGlobals "_law_cell_at" = some (some (.ref f41))) (l41 : K.lookup f41 = some ⟨oc41, od41, .func (PySem.W.fnOf "_law_cell_at" "_law_cell_at" (defArgs s_law_cell_at) (defBody s_law_cell_at) (defScope s_law_cell_at) .none kV41 dc41 pm41 an41 cd41 ct41), sl41⟩) (c41 : PySem.W.codeIn K cd41 "_law_cell_at" = true) (k41 : PySem.W.keepIn K (.ref f41) = true)
    (a42 : PySem.W.nsIn K mainGlobals "_law_folded" = some (some (.ref f42))) (l42 : K.lookup f42 = some ⟨oc42, od42, .func (PySem.W.fnOf "_law_folded" "_law_folded" (defArgs s_law_folded) (defBody s_law_folded) (defScope s_law_folded) .none kV42 dc42 pm42 an42 cd42 ct42), sl42⟩) (c42 : PySem.W.codeIn K cd42 "_law_folded" = true) (k42 : PySem.W.keepIn K (.ref f42) = true)
    (a43 : PySem.W.nsIn K mainGlobals "_law_state" = some (some (.ref f43))) (l43 : K.lookup f43 = some ⟨oc43, od43, .func (PySem.W.fnOf "_law_state" "_law_state" (defArgs s_law_state) (defBody s_law_state) (defScope s_law_state) .none kV43 dc43 pm43 an43 cd43 ct43), sl43⟩) (c43 : PySem.W.codeIn K cd43 "_law_state" = true) (k43 : PySem.W.keepIn K (.ref f43) = true)
    (a44 : PySem.W.nsIn K mainGlobals "_law_next" = some (some (.ref f44))) (l44 : K.lookup f44 = some ⟨oc44, od44, .func (PySem.W.fnOf "_law_next" "_law_next" (defArgs s_law_next) (defBody s_law_next) (defScope s_law_next) .none kV44 dc44 pm44 an44 cd44 ct44), sl44⟩) (c44 : PySem.W.codeIn K cd44 "_law_next" = true) (k44 : PySem.W.keepIn K (.ref f44) = true)
    (a45 : PySem.W.nsIn K mainGlobals "_law_web" = some (some (.ref f45))) (l45 : K.lookup f45 = some ⟨oc45, od45, .func (PySem.W.fnOf "_law_web" "_law_web" (defArgs s_law_web) (defBody s_law_web) (defScope s_law_web) .none kV45 dc45 pm45 an45 cd45 ct45), sl45⟩) (c45 : PySem.W.codeIn K cd45 "_law_web" = true) (k45 : PySem.W.keepIn K (.ref f45) = true)
    (a46 : PySem.W.nsIn K mainGlobals "_law_things" = some (some (.ref f46))) (l46 : K.lookup f46 = some ⟨oc46, od46, .func (PySem.W.fnOf "_law_things" "_law_things" (defArgs s_law_things) (defBody s_law_things) (defScope s_law_things) .none kV46 dc46 pm46 an46 cd46 ct46), sl46⟩) (c46 : PySem.W.codeIn K cd46 "_law_things" = true) (k46 : PySem.W.keepIn K (.ref f46) = true)
    (a47 : PySem.W.nsIn K mainGlobals "_law_few" = some (some (.ref f47))) (l47 : K.lookup f47 = some ⟨oc47, od47, .func (PySem.W.fnOf "_law_few" "_law_few" (defArgs s_law_few) (defBody s_law_few) (defScope s_law_few) .none kV47 dc47 pm47 an47 cd47 ct47), sl47⟩) (c47 : PySem.W.codeIn K cd47 "_law_few" = true) (k47 : PySem.W.keepIn K (.ref f47) = true)
    (a48 : PySem.W.nsIn K mainGlobals "_law_gone" = some (some (.ref f48))) (l48 : K.lookup f48 = some ⟨oc48, od48, .func (PySem.W.fnOf "_law_gone" "_law_gone" (defArgs s_law_gone) (defBody s_law_gone) (defScope s_law_gone) .none kV48 dc48 pm48 an48 cd48 ct48), sl48⟩) (c48 : PySem.W.codeIn K cd48 "_law_gone" = true) (k48 : PySem.W.keepIn K (.ref f48) = true)
    (a49 : PySem.W.nsIn K mainGlobals "_law_looks" = some (some (.ref f49))) (l49 : K.lookup f49 = some ⟨oc49, od49, .func (PySem.W.fnOf "_law_looks" "_law_looks" (defArgs s_law_looks) (defBody s_law_looks) (defScope s_law_looks) .none kV49 dc49 pm49 an49 cd49 ct49), sl49⟩) (c49 : PySem.W.codeIn K cd49 "_law_looks" = true) (k49 : PySem.W.keepIn K (.ref f49) = true)
    (a50 : PySem.W.nsIn K mainGlobals "_law_broadest" = some (some (.ref f50))) (l50 : K.lookup f50 = some ⟨oc50, od50, .func (PySem.W.fnOf "_law_broadest" "_law_broadest" (defArgs s_law_broadest) (defBody s_law_broadest) (defScope s_law_broadest) .none kV50 dc50 pm50 an50 cd50 ct50), sl50⟩) (c50 : PySem.W.codeIn K cd50 "_law_broadest" = true) (k50 : PySem.W.keepIn K (.ref f50) = true)
    (a51 : PySem.W.nsIn K mainGlobals "law" = some (some (.ref f51))) (l51 : K.lookup f51 = some ⟨oc51, od51, .func (PySem.W.fnOf "law" "law" (defArgs s_law) (defBody s_law) (defScope s_law) .none kV51 dc51 pm51 an51 cd51 ct51), sl51⟩) (c51 : PySem.W.codeIn K cd51 "law" = true) (k51 : PySem.W.keepIn K (.ref f51) = true)
    (a35000 : PySem.W.findIn K (.ref g34) "__init__" = some (some (.ref f35000))) (i35000 : PySem.W.isFn K (.ref f35000) = true) (l35000 : K.lookup f35000 = some ⟨oc35000, od35000, .func (PySem.W.fnOf "__init__" "Asking.__init__" (defArgs s_Asking_init) (defBody s_Asking_init) (defScope s_Asking_init) .none kV35000 dc35000 pm35000 an35000 cd35000 ct35000), sl35000⟩) (c35000 : PySem.W.codeIn K cd35000 "Asking.__init__" = true) (k35000 : PySem.W.keepIn K (.ref f35000) = true)
    (a35001 : PySem.W.findIn K (.ref g34) "need" = some (some (.ref f35001))) (i35001 : PySem.W.isFn K (.ref f35001) = true) (l35001 : K.lookup f35001 = some ⟨oc35001, od35001, .func (PySem.W.fnOf "need" "Asking.need" (defArgs s_Asking_need) (defBody s_Asking_need) (defScope s_Asking_need) .none kV35001 dc35001 pm35001 an35001 cd35001 ct35001), sl35001⟩) (c35001 : PySem.W.codeIn K cd35001 "Asking.need" = true) (k35001 : PySem.W.keepIn K (.ref f35001) = true)
    (a35002 : PySem.W.findIn K (.ref g34) "plan" = some (some (.ref f35002))) (i35002 : PySem.W.isFn K (.ref f35002) = true) (l35002 : K.lookup f35002 = some ⟨oc35002, od35002, .func (PySem.W.fnOf "plan" "Asking.plan" (defArgs s_Asking_plan) (defBody s_Asking_plan) (defScope s_Asking_plan) .none kV35002 dc35002 pm35002 an35002 cd35002 ct35002), sl35002⟩) (c35002 : PySem.W.codeIn K cd35002 "Asking.plan" = true) (k35002 : PySem.W.keepIn K (.ref f35002) = true)
    (ns_NoPlace : PySem.W.nsIn K mainGlobals "NoPlace" = some (some (.ref g3)))
    (ns_TooMany : PySem.W.nsIn K mainGlobals "TooMany" = some (some (.ref g6)))
    (ns_Asking : PySem.W.nsIn K mainGlobals "Asking" = some (some (.ref g34)))
    (xc_TooMany : PySem.W.excIn K g6 [.type "ValueError", .type "Exception", .type "BaseException", .type "object"] "ValueError.__new__" = true)
    (kp_TooMany : PySem.W.keepIn K (.ref g6) = true)
    (b_TooMany : PySem.W.subIn K (.ref g6) (.type "BaseException") = some true)
    (t_TooMany : PySem.W.typeIn K (.ref g6) = some (.type "type"))
    (hg_TooMany : PySem.W.findIn K (.ref g6) "__getattribute__" = some (some (.builtin "BaseException.__getattribute__")))
    (hk_TooMany : PySem.W.findIn K (.ref g6) "__getattr__" = some none)
    (hd_TooMany : PySem.W.hasDictIn K g6 = true)
    (ha_TooMany : PySem.W.findIn K (.ref g6) "__class__" = some (some (.builtin "object.__class__")))
    (hm_TooMany : PySem.W.mroIn K g6 (.type "object") = some true)
    (xc_NoPlace : PySem.W.excIn K g3 [.type "ValueError", .type "Exception", .type "BaseException", .type "object"] "ValueError.__new__" = true)
    (kp_NoPlace : PySem.W.keepIn K (.ref g3) = true)
    (b_NoPlace : PySem.W.subIn K (.ref g3) (.type "BaseException") = some true)
    (t_NoPlace : PySem.W.typeIn K (.ref g3) = some (.type "type"))
    (hg_NoPlace : PySem.W.findIn K (.ref g3) "__getattribute__" = some (some (.builtin "BaseException.__getattribute__")))
    (hk_NoPlace : PySem.W.findIn K (.ref g3) "__getattr__" = some none)
    (hd_NoPlace : PySem.W.hasDictIn K g3 = true)
    (ha_NoPlace : PySem.W.findIn K (.ref g3) "__class__" = some (some (.builtin "object.__class__")))
    (hm_NoPlace : PySem.W.mroIn K g3 (.type "object") = some true)
    (op_Asking : PySem.W.plainGet K g34 Str.empty = true)
    (oh_Asking : PySem.W.hasDictIn K g34 = true)
    (oo_Asking : PySem.W.plainOver K g34 = true)
    (os_Asking : PySem.W.findIn K (.ref g34) "__setattr__" = some (some (.builtin "object.__setattr__")))
    (om_Asking : PySem.W.makesIn K g34 = true)
    (ok_Asking : PySem.W.keepIn K (.ref g34) = true)
    (of_Asking_fars : PySem.W.findIn K (.ref g34) "fars" = some none)
    (of_Asking_least : PySem.W.findIn K (.ref g34) "least" = some none)
    (of_Asking_best : PySem.W.findIn K (.ref g34) "best" = some none)
    (hn_ : PySem.W.specialIn K (.builtin "object.__class__") "__get__" = some (some (.builtin "getset_descriptor.__get__")))
    (ht_ : PySem.W.takesIn K (.builtin "object.__class__") = some true)
    (kc_MOST_PLACES_asks : PySem.W.nsIn K mainGlobals "MOST_PLACES_asks" = some (some (.int 7 tk_MOST_PLACES_asks)))
    (kc_MOST_PLACES_webs : PySem.W.nsIn K mainGlobals "MOST_PLACES_webs" = some (some (.int 60 tk_MOST_PLACES_webs)))
    (kc_MOST_THINGS : PySem.W.nsIn K mainGlobals "MOST_THINGS" = some (some (.int 8 tk_MOST_THINGS)))
    (z_enumerate : PySem.W.nsIn K mainGlobals "enumerate" = some none)
    (z_int : PySem.W.nsIn K mainGlobals "int" = some none)
    (z_isinstance : PySem.W.nsIn K mainGlobals "isinstance" = some none)
    (z_len : PySem.W.nsIn K mainGlobals "len" = some none)
    (z_list : PySem.W.nsIn K mainGlobals "list" = some none)
    (z_max : PySem.W.nsIn K mainGlobals "max" = some none)
    (z_min : PySem.W.nsIn K mainGlobals "min" = some none)
    (z_range : PySem.W.nsIn K mainGlobals "range" = some none)
    (z_sorted : PySem.W.nsIn K mainGlobals "sorted" = some none)
    (z_tuple : PySem.W.nsIn K mainGlobals "tuple" = some none)
    (z_zip : PySem.W.nsIn K mainGlobals "zip" = some none) :
    ∃ fd : FuncData, (∀ (s : Shared) (v : Value), BindsTo s fd ⟨[v], []⟩ [("script", v)]) ∧ ∀ base : Heap, K.In base → base.Ns mainGlobals mg → FnOk l.prog w K mg base CX0 45 fa fd ["script"] (sp_law K) := by
  have e := hfa.symm.trans (PySem.W.mg_of X G a51)
  cases e
  let A : Nat → Addr := fun i => match i with | 10 => f10 | 11 => f11 | 12 => f12 | 13 => f13 | 14 => f14 | 15 => f15 | 16 => f16 | 18 => f18 | 19 => f19 | 20 => f20 | 21 => f21 | 22 => f22 | 23 => f23 | 24 => f24 | 25 => f25 | 26 => f26 | 30 => f30 | 31 => f31 | 32 => f32 | 33 => f33 | 35 => f35 | 36 => f36 | 37 => f37 | 38 => f38 | 39 => f39 | 41 => f41 | 42 => f42 | 43 => f43 | 44 => f44 | 45 => f45 | 46 => f46 | 47 => f47 | 48 => f48 | 49 => f49 | 50 => f50 | 51 => fa | 35000 => f35000 | 35001 => f35001 | 35002 => f35002 | 3 => g3 | 6 => g6 | 34 => g34 | _ => fa
  let FD : Nat → FuncData := fun i => match i with | 10 => (PySem.W.fnOf "near_lists" "near_lists" (defArgs s_near_lists) (defBody s_near_lists) (defScope s_near_lists) .none kV10 dc10 pm10 an10 cd10 ct10) | 11 => (PySem.W.fnOf "fars_by" "fars_by" (defArgs s_fars_by) (defBody s_fars_by) (defScope s_fars_by) .none kV11 dc11 pm11 an11 cd11 ct11) | 12 => (PySem.W.fnOf "sorted_ties" "sorted_ties" (defArgs s_sorted_ties) (defBody s_sorted_ties) (defScope s_sorted_ties) .none kV12 dc12 pm12 an12 cd12 ct12) | 13 => (PySem.W.fnOf "made_web" "made_web" (defArgs s_made_web) (defBody s_made_web) (defScope s_made_web) .none kV13 dc13 pm13 an13 cd13 ct13) | 14 => (PySem.W.fnOf "place_asked" "place_asked" (defArgs s_place_asked) (defBody s_place_asked) (defScope s_place_asked) .none kV14 dc14 pm14 an14 cd14 ct14) | 15 => (PySem.W.fnOf "fars_from" "fars_from" (defArgs s_fars_from) (defBody s_fars_from) (defScope s_fars_from) .none kV15 dc15 pm15 an15 cd15 ct15) | 16 => (PySem.W.fnOf "far_between" "far_between" (defArgs s_far_between) (defBody s_far_between) (defScope s_far_between) .none kV16 dc16 pm16 an16 cd16 ct16) | 18 => (PySem.W.fnOf "table_of" "table_of" (defArgs s_table_of) (defBody s_table_of) (defScope s_table_of) .none kV18 dc18 pm18 an18 cd18 ct18) | 19 => (PySem.W.fnOf "things_of" "things_of" (defArgs s_things_of) (defBody s_things_of) (defScope s_things_of) .none kV19 dc19 pm19 an19 cd19 ct19) | 20 => (PySem.W.fnOf "looks_asked" "looks_asked" (defArgs s_looks_asked) (defBody s_looks_asked) (defScope s_looks_asked) .none kV20 dc20 pm20 an20 cd20 ct20) | 21 => (PySem.W.fnOf "thing_asked" "thing_asked" (defArgs s_thing_asked) (defBody s_thing_asked) (defScope s_thing_asked) .none kV21 dc21 pm21 an21 cd21 ct21) | 22 => (PySem.W.fnOf "far_by" "far_by" (defArgs s_far_by) (defBody s_far_by) (defScope s_far_by) .none kV22 dc22 pm22 an22 cd22 ct22) | 23 => (PySem.W.fnOf "code_of" "code_of" (defArgs s_code_of) (defBody s_code_of) (defScope s_code_of) .none kV23 dc23 pm23 an23 cd23 ct23) | 24 => (PySem.W.fnOf "by_code" "by_code" (defArgs s_by_code) (defBody s_by_code) (defScope s_by_code) .none kV24 dc24 pm24 an24 cd24 ct24) | 25 => (PySem.W.fnOf "likes_by" "likes_by" (defArgs s_likes_by) (defBody s_likes_by) (defScope s_likes_by) .none kV25 dc25 pm25 an25 cd25 ct25) | 26 => (PySem.W.fnOf "is_known" "is_known" (defArgs s_is_known) (defBody s_is_known) (defScope s_is_known) .none kV26 dc26 pm26 an26 cd26 ct26) | 30 => (PySem.W.fnOf "few_things" "few_things" (defArgs s_few_things) (defBody s_few_things) (defScope s_few_things) .none kV30 dc30 pm30 an30 cd30 ct30) | 31 => (PySem.W.fnOf "all_fars" "all_fars" (defArgs s_all_fars) (defBody s_all_fars) (defScope s_all_fars) .none kV31 dc31 pm31 an31 cd31 ct31) | 32 => (PySem.W.fnOf "far_thing" "far_thing" (defArgs s_far_thing) (defBody s_far_thing) (defScope s_far_thing) .none kV32 dc32 pm32 an32 cd32 ct32) | 33 => (PySem.W.fnOf "parts_by" "parts_by" (defArgs s_parts_by) (defBody s_parts_by) (defScope s_parts_by) .none kV33 dc33 pm33 an33 cd33 ct33) | 35 => (PySem.W.fnOf "fewest_asks" "fewest_asks" (defArgs s_fewest_asks) (defBody s_fewest_asks) (defScope s_fewest_asks) .none kV35 dc35 pm35 an35 cd35 ct35) | 36 => (PySem.W.fnOf "len_first" "len_first" (defArgs s_len_first) (defBody s_len_first) (defScope s_len_first) .none kV36 dc36 pm36 an36 cd36 ct36) | 37 => (PySem.W.fnOf "plan_of_parts" "plan_of_parts" (defArgs s_plan_of_parts) (defBody s_plan_of_parts) (defScope s_plan_of_parts) .none kV37 dc37 pm37 an37 cd37 ct37) | 38 => (PySem.W.fnOf "asks_of" "asks_of" (defArgs s_asks_of) (defBody s_asks_of) (defScope s_asks_of) .none kV38 dc38 pm38 an38 cd38 ct38) | 39 => (PySem.W.fnOf "plan_asks" "plan_asks" (defArgs s_plan_asks) (defBody s_plan_asks) (defScope s_plan_asks) .none kV39 dc39 pm39 an39 cd39 ct39) | 41 => (PySem.W.fnOf "_law_cell_at" "_law_cell_at" (defArgs s_law_cell_at) (defBody s_law_cell_at) (defScope s_law_cell_at) .none kV41 dc41 pm41 an41 cd41 ct41) | 42 => (PySem.W.fnOf "_law_folded" "_law_folded" (defArgs s_law_folded) (defBody s_law_folded) (defScope s_law_folded) .none kV42 dc42 pm42 an42 cd42 ct42) | 43 => (PySem.W.fnOf "_law_state" "_law_state" (defArgs s_law_state) (defBody s_law_state) (defScope s_law_state) .none kV43 dc43 pm43 an43 cd43 ct43) | 44 => (PySem.W.fnOf "_law_next" "_law_next" (defArgs s_law_next) (defBody s_law_next) (defScope s_law_next) .none kV44 dc44 pm44 an44 cd44 ct44) | 45 => (PySem.W.fnOf "_law_web" "_law_web" (defArgs s_law_web) (defBody s_law_web) (defScope s_law_web) .none kV45 dc45 pm45 an45 cd45 ct45) | 46 => (PySem.W.fnOf "_law_things" "_law_things" (defArgs s_law_things) (defBody s_law_things) (defScope s_law_things) .none kV46 dc46 pm46 an46 cd46 ct46) | 47 => (PySem.W.fnOf "_law_few" "_law_few" (defArgs s_law_few) (defBody s_law_few) (defScope s_law_few) .none kV47 dc47 pm47 an47 cd47 ct47) | 48 => (PySem.W.fnOf "_law_gone" "_law_gone" (defArgs s_law_gone) (defBody s_law_gone) (defScope s_law_gone) .none kV48 dc48 pm48 an48 cd48 ct48) | 49 => (PySem.W.fnOf "_law_looks" "_law_looks" (defArgs s_law_looks) (defBody s_law_looks) (defScope s_law_looks) .none kV49 dc49 pm49 an49 cd49 ct49) | 50 => (PySem.W.fnOf "_law_broadest" "_law_broadest" (defArgs s_law_broadest) (defBody s_law_broadest) (defScope s_law_broadest) .none kV50 dc50 pm50 an50 cd50 ct50) | 51 => (PySem.W.fnOf "law" "law" (defArgs s_law) (defBody s_law) (defScope s_law) .none kV51 dc51 pm51 an51 cd51 ct51) | 35000 => (PySem.W.fnOf "__init__" "Asking.__init__" (defArgs s_Asking_init) (defBody s_Asking_init) (defScope s_Asking_init) .none kV35000 dc35000 pm35000 an35000 cd35000 ct35000) | 35001 => (PySem.W.fnOf "need" "Asking.need" (defArgs s_Asking_need) (defBody s_Asking_need) (defScope s_Asking_need) .none kV35001 dc35001 pm35001 an35001 cd35001 ct35001) | 35002 => (PySem.W.fnOf "plan" "Asking.plan" (defArgs s_Asking_plan) (defBody s_Asking_plan) (defScope s_Asking_plan) .none kV35002 dc35002 pm35002 an35002 cd35002 ct35002) | _ => (PySem.W.fnOf "law" "law" (defArgs s_law) (defBody s_law) (defScope s_law) .none kV51 dc51 pm51 an51 cd51 ct51)
  have T : Tx K mg A FD := {
    d10 := dn_mk (st := s_near_lists) (ps := ["web"]) X G a10 l10 c10 k10 fun _ _ _ _ _ _ us hl => by (obtain ⟨_, rfl⟩ := us1 hl; rfl)
    d11 := dn_mk (st := s_fars_by) (ps := ["near", "place"]) X G a11 l11 c11 k11 fun _ _ _ _ _ _ us hl => by (obtain ⟨_, _, rfl⟩ := us2 hl; rfl)
    d12 := dn_mk (st := s_sorted_ties) (ps := ["many", "ties"]) X G a12 l12 c12 k12 fun _ _ _ _ _ _ us hl => by (obtain ⟨_, _, rfl⟩ := us2 hl; rfl)
    d13 := dn_mk (st := s_made_web) (ps := ["many", "ties"]) X G a13 l13 c13 k13 fun _ _ _ _ _ _ us hl => by (obtain ⟨_, _, rfl⟩ := us2 hl; rfl)
    d14 := dn_mk (st := s_place_asked) (ps := ["web", "place"]) X G a14 l14 c14 k14 fun _ _ _ _ _ _ us hl => by (obtain ⟨_, _, rfl⟩ := us2 hl; rfl)
    d15 := dn_mk (st := s_fars_from) (ps := ["web", "place"]) X G a15 l15 c15 k15 fun _ _ _ _ _ _ us hl => by (obtain ⟨_, _, rfl⟩ := us2 hl; rfl)
    d16 := dn_mk (st := s_far_between) (ps := ["web", "one", "other"]) X G a16 l16 c16 k16 fun _ _ _ _ _ _ us hl => by (obtain ⟨_, _, _, rfl⟩ := us3 hl; rfl)
    d18 := dn_mk (st := s_table_of) (ps := ["web"]) X G a18 l18 c18 k18 fun _ _ _ _ _ _ us hl => by (obtain ⟨_, rfl⟩ := us1 hl; rfl)
    d19 := dn_mk (st := s_things_of) (ps := ["web", "kind"]) X G a19 l19 c19 k19 fun _ _ _ _ _ _ us hl => by (obtain ⟨_, _, rfl⟩ := us2 hl; rfl)
    d20 := dn_mk (st := s_looks_asked) (ps := ["web", "looks"]) X G a20 l20 c20 k20 fun _ _ _ _ _ _ us hl => by (obtain ⟨_, _, rfl⟩ := us2 hl; rfl)
    d21 := dn_mk (st := s_thing_asked) (ps := ["web", "thing"]) X G a21 l21 c21 k21 fun _ _ _ _ _ _ us hl => by (obtain ⟨_, _, rfl⟩ := us2 hl; rfl)
    d22 := dn_mk (st := s_far_by) (ps := ["table", "look", "thing"]) X G a22 l22 c22 k22 fun _ _ _ _ _ _ us hl => by (obtain ⟨_, _, _, rfl⟩ := us3 hl; rfl)
    d23 := dn_mk (st := s_code_of) (ps := ["web", "looks", "thing"]) X G a23 l23 c23 k23 fun _ _ _ _ _ _ us hl => by (obtain ⟨_, _, _, rfl⟩ := us3 hl; rfl)
    d24 := dn_mk (st := s_by_code) (ps := ["web", "looks", "kind"]) X G a24 l24 c24 k24 fun _ _ _ _ _ _ us hl => by (obtain ⟨_, _, _, rfl⟩ := us3 hl; rfl)
    d25 := dn_mk (st := s_likes_by) (ps := ["web", "looks", "kind"]) X G a25 l25 c25 k25 fun _ _ _ _ _ _ us hl => by (obtain ⟨_, _, _, rfl⟩ := us3 hl; rfl)
    d26 := dn_mk (st := s_is_known) (ps := ["web", "looks", "kind"]) X G a26 l26 c26 k26 fun _ _ _ _ _ _ us hl => by (obtain ⟨_, _, _, rfl⟩ := us3 hl; rfl)
    d30 := dn_mk (st := s_few_things) (ps := ["web", "kind"]) X G a30 l30 c30 k30 fun _ _ _ _ _ _ us hl => by (obtain ⟨_, _, rfl⟩ := us2 hl; rfl)
    d31 := dn_mk (st := s_all_fars) (ps := ["web"]) X G a31 l31 c31 k31 fun _ _ _ _ _ _ us hl => by (obtain ⟨_, rfl⟩ := us1 hl; rfl)
    d32 := dn_mk (st := s_far_thing) (ps := ["fars", "place", "thing"]) X G a32 l32 c32 k32 fun _ _ _ _ _ _ us hl => by (obtain ⟨_, _, _, rfl⟩ := us3 hl; rfl)
    d33 := dn_mk (st := s_parts_by) (ps := ["fars", "things", "place"]) X G a33 l33 c33 k33 fun _ _ _ _ _ _ us hl => by (obtain ⟨_, _, _, rfl⟩ := us3 hl; rfl)
    d35 := dn_mk (st := s_fewest_asks) (ps := ["web", "kind"]) X G a35 l35 c35 k35 fun _ _ _ _ _ _ us hl => by (obtain ⟨_, _, rfl⟩ := us2 hl; rfl)
    d36 := dn_mk (st := s_len_first) (ps := ["row"]) X G a36 l36 c36 k36 fun _ _ _ _ _ _ us hl => by (obtain ⟨_, rfl⟩ := us1 hl; rfl)
    d37 := dn_mk (st := s_plan_of_parts) (ps := ["fars", "things", "plan"]) X G a37 l37 c37 k37 fun _ _ _ _ _ _ us hl => by (obtain ⟨_, _, _, rfl⟩ := us3 hl; rfl)
    d38 := dn_mk (st := s_asks_of) (ps := ["fars", "things", "plan"]) X G a38 l38 c38 k38 fun _ _ _ _ _ _ us hl => by (obtain ⟨_, _, _, rfl⟩ := us3 hl; rfl)
    d39 := dn_mk (st := s_plan_asks) (ps := ["web", "kind", "plan"]) X G a39 l39 c39 k39 fun _ _ _ _ _ _ us hl => by (obtain ⟨_, _, _, rfl⟩ := us3 hl; rfl)
    d41 := dn_mk (st := s_law_cell_at) (ps := ["script", "k"]) X G a41 l41 c41 k41 fun _ _ _ _ _ _ us hl => by (obtain ⟨_, _, rfl⟩ := us2 hl; rfl)
    d42 := dn_mk (st := s_law_folded) (ps := ["script", "many"]) X G a42 l42 c42 k42 fun _ _ _ _ _ _ us hl => by (obtain ⟨_, _, rfl⟩ := us2 hl; rfl)
    d43 := dn_mk (st := s_law_state) (ps := ["cell"]) X G a43 l43 c43 k43 fun _ _ _ _ _ _ us hl => by (obtain ⟨_, rfl⟩ := us1 hl; rfl)
    d44 := dn_mk (st := s_law_next) (ps := ["state", "many"]) X G a44 l44 c44 k44 fun _ _ _ _ _ _ us hl => by (obtain ⟨_, _, rfl⟩ := us2 hl; rfl)
    d45 := dn_mk (st := s_law_web) (ps := ["state", "least", "most"]) X G a45 l45 c45 k45 fun _ _ _ _ _ _ us hl => by (obtain ⟨_, _, _, rfl⟩ := us3 hl; rfl)
    d46 := dn_mk (st := s_law_things) (ps := ["web", "kind"]) X G a46 l46 c46 k46 fun _ _ _ _ _ _ us hl => by (obtain ⟨_, _, rfl⟩ := us2 hl; rfl)
    d47 := dn_mk (st := s_law_few) (ps := ["state", "least"]) X G a47 l47 c47 k47 fun _ _ _ _ _ _ us hl => by (obtain ⟨_, _, rfl⟩ := us2 hl; rfl)
    d48 := dn_mk (st := s_law_gone) (ps := ["web", "plan", "thing"]) X G a48 l48 c48 k48 fun _ _ _ _ _ _ us hl => by (obtain ⟨_, _, _, rfl⟩ := us3 hl; rfl)
    d49 := dn_mk (st := s_law_looks) (ps := ["state", "web", "kind"]) X G a49 l49 c49 k49 fun _ _ _ _ _ _ us hl => by (obtain ⟨_, _, _, rfl⟩ := us3 hl; rfl)
    d50 := dn_mk (st := s_law_broadest) (ps := ["web"]) X G a50 l50 c50 k50 fun _ _ _ _ _ _ us hl => by (obtain ⟨_, rfl⟩ := us1 hl; rfl)
    d51 := dn_mk (st := s_law) (ps := ["script"]) X G a51 l51 c51 k51 fun _ _ _ _ _ _ us hl => by (obtain ⟨_, rfl⟩ := us1 hl; rfl)
    d35000 := ⟨fun_mk (st := s_Asking_init) l35000 c35000 k35000, ⟨a35000, i35000, k35000⟩, (fun_mk (st := s_Asking_init) l35000 c35000 k35000).binds (ps := ["self", "web"]) fun _ _ _ _ _ _ us hl => by (obtain ⟨_, _, rfl⟩ := us2 hl; rfl)⟩
    d35001 := ⟨fun_mk (st := s_Asking_need) l35001 c35001 k35001, ⟨a35001, i35001, k35001⟩, (fun_mk (st := s_Asking_need) l35001 c35001 k35001).binds (ps := ["self", "things"]) fun _ _ _ _ _ _ us hl => by (obtain ⟨_, _, rfl⟩ := us2 hl; rfl)⟩
    d35002 := ⟨fun_mk (st := s_Asking_plan) l35002 c35002 k35002, ⟨a35002, i35002, k35002⟩, (fun_mk (st := s_Asking_plan) l35002 c35002 k35002).binds (ps := ["self", "things"]) fun _ _ _ _ _ _ us hl => by (obtain ⟨_, _, rfl⟩ := us2 hl; rfl)⟩
    n_enumerate := PySem.W.mg_none_of X G z_enumerate
    n_int := PySem.W.mg_none_of X G z_int
    n_isinstance := PySem.W.mg_none_of X G z_isinstance
    n_len := PySem.W.mg_none_of X G z_len
    n_list := PySem.W.mg_none_of X G z_list
    n_max := PySem.W.mg_none_of X G z_max
    n_min := PySem.W.mg_none_of X G z_min
    n_range := PySem.W.mg_none_of X G z_range
    n_sorted := PySem.W.mg_none_of X G z_sorted
    n_tuple := PySem.W.mg_none_of X G z_tuple
    n_zip := PySem.W.mg_none_of X G z_zip
    c_MOST_PLACES_asks := ⟨_, PySem.W.mg_of X G kc_MOST_PLACES_asks⟩
    c_MOST_PLACES_webs := ⟨_, PySem.W.mg_of X G kc_MOST_PLACES_webs⟩
    c_MOST_THINGS := ⟨_, PySem.W.mg_of X G kc_MOST_THINGS⟩
    cl_Asking := ⟨op_Asking, oh_Asking, oo_Asking, os_Asking⟩
    nm_Asking := ns_Asking
    mg_Asking := PySem.W.mg_of X G ns_Asking
    mk_Asking := ⟨om_Asking, a35000, i35000, ok_Asking⟩
    na_Asking_fars := of_Asking_fars
    na_Asking_least := of_Asking_least
    na_Asking_best := of_Asking_best
    x_TooMany := ⟨ns_TooMany, PySem.W.mg_of X G ns_TooMany, xc_TooMany, kp_TooMany, b_TooMany, t_TooMany, ⟨hg_TooMany, hk_TooMany, b_TooMany, hd_TooMany, ha_TooMany, hn_, ht_, hm_TooMany⟩⟩
    x_NoPlace := ⟨ns_NoPlace, PySem.W.mg_of X G ns_NoPlace, xc_NoPlace, kp_NoPlace, b_NoPlace, t_NoPlace, ⟨hg_NoPlace, hk_NoPlace, b_NoPlace, hd_NoPlace, ha_NoPlace, hn_, ht_, hm_NoPlace⟩⟩ }
  exact ⟨(PySem.W.fnOf "law" "law" (defArgs s_law) (defBody s_law) (defScope s_law) .none kV51 dc51 pm51 an51 cd51 ct51), fun s v => .of_eq rfl, fun base _ _ => ok_law (A := A) (FD := FD) T⟩
theorem walk {l : PySem.W.OpenLaw} {q : Program} {loose : List Str} {XP : (Str → Option Value) → Heap → Prop} {YP : World → Heap → Prop} {d : DefRec} {K : Params → PySem.W.Frag} (hn : l.most = some 63) (hdf : d.params.defaults = [])
    (hY : ∀ (w : World) (h : Heap), YP w h → (K w.params).In h)
    (F : ∀ (w : World) (mg : Str → Option Value) (fa : Addr) (h : Heap), (K w.params).In h → h.Ns mainGlobals mg → mg d.name = some (.ref fa) →
      ∃ fd : FuncData, (∀ (s : Shared) (u : Value), BindsTo s fd ⟨[u], []⟩ [("script", u)]) ∧ ∀ base : Heap, (K w.params).In base → base.Ns mainGlobals mg → FnOk l.prog w (K w.params) mg base CX0 45 fa fd ["script"] (sp_law (K w.params))) :
    PySem.W.WalkO q loose XP YP l.row.toRowW d [] (fun f vs => PySem.call f vs) :=
  L2.walk_of (n := 63) (k := 45) (x := "script") (CX := fun _ => CX0) (sp := fun w => sp_law (K w.params)) hn (by decide) hdf ⟨rfl, by decide, by decide⟩ hY F
    (fun _ H a ns hl _ hS => ⟨H, [], .ref a, ⟨ns⟩, rfl, ⟨Same.refl _, (fun _ z => nomatch z), List.Pairwise.nil, (fun _ z => nomatch z)⟩, ⟨a, rfl, hS⟩, by rw [law_true ns hl]; exact fun v F2 H2 w s r => r⟩) fun _ _ _ _ _ z => z
end G
open PySem PySem.W PyProof.Rows
set_option maxRecDepth 100000 in
set_option maxHeartbeats 0 in
theorem PySem.Challenge.cw_farhail_k56_whole_plans_played_holds : PySem.Challenge.rw_farhail_k56_whole_plans_played.Holds := by
  refine HD.whole ?_
  k_fill
  refine G.walk (l := PySem.Challenge.rw_farhail_k56_whole_plans_played) rfl rfl (fun w h Y => PySem.W.kIn_of Y) ?F
  case F =>
    intro w mg fa h KX Gn hmg
    refine' G.all_mk KX Gn hmg ?a10 ?l10 ?c10 ?k10 ?a11 ?l11 ?c11 ?k11 ?a12 ?l12 ?c12 ?k12 ?a13 ?l13 ?c13 ?k13 ?a14 ?l14 ?c14 ?k14 ?a15 ?l15 ?c15 ?k15 ?a16 ?l16 ?c16 ?k16 ?a18 ?l18 ?c18 ?k18 ?a19 ?l19 ?c19 ?k19 ?a20 ?l20 ?c20 ?k20 ?a21 ?l21 ?c21 ?k21 ?a22 ?l22 ?c22 ?k22 ?a23 ?l23 ?c23 ?k23 ?a24 ?l24 ?c24 ?k24 ?a25 ?l25 ?c25 ?k25 ?a26 ?l26 ?c26 ?k26 ?a30 ?l30 ?c30 ?k30 ?a31 ?l31 ?c31 ?k31 ?a32 ?l32 ?c32 ?k32 ?a33 ?l33 ?c33 ?k33 ?a35 ?l35 ?c35 ?k35 ?a36 ?l36 ?c36 ?k36 ?a37 ?l37 ?c37 ?k37 ?a38 ?l38 ?c38 ?k38 ?a39 ?l39 ?c39 ?k39 ?a41 ?l41 ?c41 ?k41 ?a42 ?l42 ?c42 ?k42 ?a43 ?l43 ?c43 ?k43 ?a44 ?l44 ?c44 ?k44 ?a45 ?l45 ?c45 ?k45 ?a46 ?l46 ?c46 ?k46 ?a47 ?l47 ?c47 ?k47 ?a48 ?l48 ?c48 ?k48 ?a49 ?l49 ?c49 ?k49 ?a50 ?l50 ?c50 ?k50 ?a51 ?l51 ?c51 ?k51 ?a35000 ?i35000 ?l35000 ?c35000 ?k35000 ?a35001 ?i35001 ?l35001 ?c35001 ?k35001 ?a35002 ?i35002 ?l35002 ?c35002 ?k35002 ?ns_NoPlace ?ns_TooMany ?ns_Asking ?xc_TooMany ?kp_TooMany ?b_TooMany ?t_TooMany ?hg_TooMany ?hk_TooMany ?hd_TooMany ?ha_TooMany ?hm_TooMany ?xc_NoPlace ?kp_NoPlace ?b_NoPlace ?t_NoPlace ?hg_NoPlace ?hk_NoPlace ?hd_NoPlace ?ha_NoPlace ?hm_NoPlace ?op_Asking ?oh_Asking ?oo_Asking ?os_Asking ?om_Asking ?ok_Asking ?of_Asking_fars ?of_Asking_least ?of_Asking_best ?hn_ ?ht_ ?kc_MOST_PLACES_asks ?kc_MOST_PLACES_webs ?kc_MOST_THINGS ?z_enumerate ?z_int ?z_isinstance ?z_len ?z_list ?z_max ?z_min ?z_range ?z_sorted ?z_tuple ?z_zip
    (case a10 => k_is); (case l10 => k_is); (case c10 => k_is); (case k10 => k_is)
    (case a11 => k_is); (case l11 => k_is); (case c11 => k_is); (case k11 => k_is)
    (case a12 => k_is); (case l12 => k_is); (case c12 => k_is); (case k12 => k_is)
    (case a13 => k_is); (case l13 => k_is); (case c13 => k_is); (case k13 => k_is)
    (case a14 => k_is); (case l14 => k_is); (case c14 => k_is); (case k14 => k_is)
    (case a15 => k_is); (case l15 => k_is); (case c15 => k_is); (case k15 => k_is)
    (case a16 => k_is); (case l16 => k_is); (case c16 => k_is); (case k16 => k_is)
    (case a18 => k_is); (case l18 => k_is); (case c18 => k_is); (case k18 => k_is)
    (case a19 => k_is); (case l19 => k_is); (case c19 => k_is); (case k19 => k_is)
    (case a20 => k_is); (case l20 => k_is); (case c20 => k_is); (case k20 => k_is)
    (case a21 => k_is); (case l21 => k_is); (case c21 => k_is); (case k21 => k_is)
    (case a22 => k_is); (case l22 => k_is); (case c22 => k_is); (case k22 => k_is)
    (case a23 => k_is); (case l23 => k_is); (case c23 => k_is); (case k23 => k_is)
    (case a24 => k_is); (case l24 => k_is); (case c24 => k_is); (case k24 => k_is)
    (case a25 => k_is); (case l25 => k_is); (case c25 => k_is); (case k25 => k_is)
    (case a26 => k_is); (case l26 => k_is); (case c26 => k_is); (case k26 => k_is)
    (case a30 => k_is); (case l30 => k_is); (case c30 => k_is); (case k30 => k_is)
    (case a31 => k_is); (case l31 => k_is); (case c31 => k_is); (case k31 => k_is)
    (case a32 => k_is); (case l32 => k_is); (case c32 => k_is); (case k32 => k_is)
    (case a33 => k_is); (case l33 => k_is); (case c33 => k_is); (case k33 => k_is)
    (case a35 => k_is); (case l35 => k_is); (case c35 => k_is); (case k35 => k_is)
    (case a36 => k_is); (case l36 => k_is); (case c36 => k_is); (case k36 => k_is)
    (case a37 => k_is); (case l37 => k_is); (case c37 => k_is); (case k37 => k_is)
    (case a38 => k_is); (case l38 => k_is); (case c38 => k_is); (case k38 => k_is)
    (case a39 => k_is); (case l39 => k_is); (case c39 => k_is); (case k39 => k_is)
    (case a41 => k_is); (case l41 => k_is); (case c41 => k_is); (case k41 => k_is)
    (case a42 => k_is); (case l42 => k_is); (case c42 => k_is); (case k42 => k_is)
    (case a43 => k_is); (case l43 => k_is); (case c43 => k_is); (case k43 => k_is)
    (case a44 => k_is); (case l44 => k_is); (case c44 => k_is); (case k44 => k_is)
    (case a45 => k_is); (case l45 => k_is); (case c45 => k_is); (case k45 => k_is)
    (case a46 => k_is); (case l46 => k_is); (case c46 => k_is); (case k46 => k_is)
    (case a47 => k_is); (case l47 => k_is); (case c47 => k_is); (case k47 => k_is)
    (case a48 => k_is); (case l48 => k_is); (case c48 => k_is); (case k48 => k_is)
    (case a49 => k_is); (case l49 => k_is); (case c49 => k_is); (case k49 => k_is)
    (case a50 => k_is); (case l50 => k_is); (case c50 => k_is); (case k50 => k_is)
    (case a51 => k_is); (case l51 => k_is); (case c51 => k_is); (case k51 => k_is)
    (case ns_NoPlace => k_is)
    (case ns_TooMany => k_is)
    (case ns_Asking => k_is)
    (case a35000 => k_is); (case i35000 => k_is); (case l35000 => k_is); (case c35000 => k_is); (case k35000 => k_is)
    (case a35001 => k_is); (case i35001 => k_is); (case l35001 => k_is); (case c35001 => k_is); (case k35001 => k_is)
    (case a35002 => k_is); (case i35002 => k_is); (case l35002 => k_is); (case c35002 => k_is); (case k35002 => k_is)
    (case xc_TooMany => k_exc)
    (case kp_TooMany => k_is)
    (case b_TooMany => k_is)
    (case t_TooMany => k_is)
    (case hg_TooMany => k_is)
    (case hk_TooMany => k_is)
    (case hd_TooMany => k_is)
    (case ha_TooMany => k_is)
    (case hm_TooMany => k_is)
    (case xc_NoPlace => k_exc)
    (case kp_NoPlace => k_is)
    (case b_NoPlace => k_is)
    (case t_NoPlace => k_is)
    (case hg_NoPlace => k_is)
    (case hk_NoPlace => k_is)
    (case hd_NoPlace => k_is)
    (case ha_NoPlace => k_is)
    (case hm_NoPlace => k_is)
    (case op_Asking => k_is)
    (case oh_Asking => k_is)
    (case oo_Asking => k_is)
    (case os_Asking => k_is)
    (case om_Asking => k_is)
    (case ok_Asking => k_is)
    (case of_Asking_fars => k_is)
    (case of_Asking_least => k_is)
    (case of_Asking_best => k_is)
    (case hn_ => k_is)
    (case ht_ => k_is)
    (case kc_MOST_PLACES_asks => k_is)
    (case kc_MOST_PLACES_webs => k_is)
    (case kc_MOST_THINGS => k_is)
    (case z_enumerate => k_is)
    (case z_int => k_is)
    (case z_isinstance => k_is)
    (case z_len => k_is)
    (case z_list => k_is)
    (case z_max => k_is)
    (case z_min => k_is)
    (case z_range => k_is)
    (case z_sorted => k_is)
    (case z_tuple => k_is)
    (case z_zip => k_is)
#print axioms PySem.Challenge.cw_farhail_k56_whole_plans_played_holds
